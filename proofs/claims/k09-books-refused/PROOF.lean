import PyProof.Rows.All
import HandS.ForMost
import HandS.Deep
import HandS.Walk
import HandS.TupAny
import HandS.Strs
import PyProof.Rows.SortShellAny
import HandS.IsInst
import HandS.SortInts
import HandS.Flow
import HandS.Style
import HandS.Wide
import HandS.Zip
import HandS.More
import HandS.Defaults
import HandS.ExcInit
import HandS.Lambda
import HandS.EndTab
import HandS.TryOnly
import HandS.Head0
import HandS.Head1
import HandS.Head2
import HandS.HeadEnd
import HandS.HeadHook1
import HandS.HeadHook2
import HandS.HeadHook3
import HandS.HotCalls
import HandS.ExcField
import KE.KExcInit
import HandS.SetFor
import KE.GoesEnum
import HandS.HeadHook4
import HandS.HeadWalk
import HandS.NestedK
import HandS.WrittenGet
import HandS.MakeKw
import HandS.DictComp
import HandS.CallLocal
import HandS.Star
import HandS.Sort
import HandS.Conv
import HandS.FStr
import KE.KOpsOwn
import OpenK.AllK
import KE.OsGo
import PySem.Challenge.RW_threeorders_k09_books_refused
set_option Elab.async false
set_option linter.all false
set_option maxRecDepth 100000
set_option maxHeartbeats 4000000
/-! The data layer, part z: tuples whose object is known to bear no dict. -/
namespace DL
open PySem PySem.Spec PyProof.Rows L2

/-- the tuple at a, without a dict -/
def TupG (K : PySem.W.Frag) (H : Hp) (a : Addr) (xs : List V) : Prop := SqT K H a xs ∧ ((∃ o, H a = some (.frz o (.tup xs)) ∧ o.dict = none) ∨ ∃ o, K.lookup a = some o ∧ o.dict = none)
section
variable {X : Cx} {pins : List (Addr × Obj)} {σ : L2.St} {H : Hp} {s : Shared} {a : Addr} {xs : List V}
theorem TupG.is (I : Inv X pins σ H s) (h : TupG X.K H a xs) : s.TypeIs (.ref a) "tuple" ∧ ∃ o, s.heap.get? a = some o ∧ o.dict = none := by
  obtain ⟨its, r, pl, hz⟩ := I.tuple h.1
  refine ⟨pl.typeIs, ?_⟩
  rcases h.2 with ⟨o, e, hd⟩ | ⟨o, e, hd⟩
  · exact ⟨o, (I.hok a _ e).1, hd⟩
  · exact ⟨o, I.kIn _ _ e, hd⟩
abbrev tupO (its : List Value) : Obj := { cls := .type "tuple", data := .seq its.toArray }
/-- a new tuple is laid -/
theorem lay_tup {t' : Nat} {its : List Value} (I : Inv X pins σ H s) (hl : xs.length ≤ sizeLine) (r : Vals xs its) : Inv X pins σ (upd H s.heap.objs.size (.frz (tupO its) (.tup xs))) { s with heap := s.heap.push (tupO its), toks := t' } :=
  I.laid (t' := t') (fun b ob q => Heap.get?_push_of_some _ q) (Nat.le_refl _) ⟨Heap.get?_push_size _ rfl, hl, its, r, IsTup.new _ _⟩
/-- what is wanted of a new tuple -/
def NewT (H : Hp) (xs : List V) (Q : VK) : Prop := ∀ p o, H p = none → o.dict = none → Q (.ref p) (upd H p (.frz o (.tup xs)))
end
section
variable {X : Cx} {es : List Expr} {t : TA} {pos : Pos}
def tTupF (t : TA) : TE := fun σ H Q => t σ H fun xs H1 => xs.length ≤ sizeLine ∧ NewT H1 xs Q
theorem pe_tupF {k : Nat} (h : PA X es t) : PE X (.Tuple es k pos) (tTupF t) := by
  constructor
  intro pins s σ H Q I hq
  refine wpAny_Tuple_spliced (thn (h.run pos pins s σ H _ I hq) fun us s1 hh => ?_)
  obtain ⟨xs, H1, I1, r, z, q⟩ := hh
  exact ⟨by rw [← r.length]; exact z, .ref s1.heap.objs.size, _, lay_tup (t' := s1.toks) I1 z r, rfl, q _ _ (I1.hok.fresh (Nat.le_refl _)) rfl⟩
/-- t + u -/
def rCatF (K : PySem.W.Frag) : R2 := fun x y H Q => ∃ a b xs ys, x = .ref a ∧ y = .ref b ∧ SqT K H a xs ∧ SqT K H b ys ∧ xs.length + ys.length ≤ sizeLine ∧
  (xs = [] → Q (.ref b) H) ∧ (xs ≠ [] → ys = [] → Q (.ref a) H) ∧ (xs ≠ [] → ys ≠ [] → NewT H (xs ++ ys) Q)
theorem op_catF : OpR X (binaryOp .Add) (rCatF X.K) := by
  rintro pins s σ H _ _ v u Q I rx ry ⟨a, b, xs, ys, rfl, rfl, ha, hb, hz, q0, q1, q2⟩
  by_cases hx : xs = []
  · exact op_catA pins s σ H _ _ v u Q I rx ry ⟨a, b, xs, ys, rfl, rfl, ha, hb, hz, q0, q1, fun n _ => absurd hx n⟩
  · by_cases hy : ys = []
    · exact op_catA pins s σ H _ _ v u Q I rx ry ⟨a, b, xs, ys, rfl, rfl, ha, hb, hz, q0, q1, fun _ n => absurd hy n⟩
    · cases rx
      cases ry
      obtain ⟨i1, r1, p1, _⟩ := I.tuple ha
      obtain ⟨i2, r2, p2, _⟩ := I.tuple hb
      refine HT.cat_tup p1 p2 (fun z => hx (r1.nil_iff.mp z)) (fun z => absurd (r2.nil_iff.mp z) hy) (fun z => ?_) (by rw [← r1.length, ← r2.length]; exact hz)
      have J := lay_tup (t' := s.toks) (xs := xs ++ ys) (its := i1 ++ i2) I (by rw [List.length_append]; exact hz) (r1.append r2)
      exact ⟨.ref s.heap.objs.size, _, J, rfl, q2 hx hy _ _ (I.hok.fresh (Nat.le_refl _)) rfl⟩
/-- t[lo:hi] -/
def rSlF (K : PySem.W.Frag) : V → Option Int → Option Int → Hp → VK → Prop := fun x lo hi H Q => ∃ a xs, x = .ref a ∧ SqT K H a xs ∧
  (HT.sIx xs.length 0 lo = 0 ∧ HT.sIx xs.length xs.length hi = xs.length → Q (.ref a) H) ∧ (¬ (HT.sIx xs.length 0 lo = 0 ∧ HT.sIx xs.length xs.length hi = xs.length) → NewT H (cutV xs lo hi) Q)
theorem sl_tupF : SlR X (rSlF X.K) := by
  rintro pins s σ H _ v vl vu lo hi sl Q I rx hs pl pu ⟨a, xs, rfl, hx, q1, q2⟩
  by_cases hw : HT.sIx xs.length 0 lo = 0 ∧ HT.sIx xs.length xs.length hi = xs.length
  · exact sl_tupA pins s σ H _ v vl vu lo hi sl Q I rx hs pl pu ⟨a, xs, rfl, hx, q1, fun n => absurd hw n⟩
  · cases rx
    obtain ⟨its, r, ht, hz⟩ := I.tuple hx
    have hlen : its.toArray.size = xs.length := by rw [List.size_toArray]; exact r.length.symm
    refine ⟨"tuple", _, PyProof.Rows.slot_tuple_getitem.lookup, ht.typeIs, ?_⟩
    refine HT.getItem_tuple_cut ht hs pl pu (by rw [hlen]; exact hw) ?_ (by rw [hlen]; exact hz)
    rw [hlen]
    have J := lay_tup (t' := s.toks) I (Nat.le_trans (cutV_length xs lo hi) hz) ((r.drop (HT.sIx xs.length 0 lo)).take (HT.sIx xs.length xs.length hi - HT.sIx xs.length 0 lo))
    exact ⟨.ref s.heap.objs.size, _, J, rfl, q2 hw _ _ (I.hok.fresh (Nat.le_refl _)) rfl⟩
/-- tuple(xs) -/
theorem call_tupleF : CallR X (.type "tuple") (fun xs H Q => ∃ p ys, xs = [.ref p] ∧ ((SqL X.K H p ys ∧ NewT H ys Q) ∨ (SqT X.K H p ys ∧ Q (.ref p) H))) := by
  rintro pins s σ H xs us Q I r ⟨p, ys, rfl, h⟩
  rcases h with ⟨hq, q⟩ | ⟨hq, q⟩
  · obtain ⟨u, rfl, rx⟩ := vals1 r
    cases rx
    obtain ⟨its, r', pl, hz⟩ := I.list hq
    have hlen := r'.length
    refine call_tuple_list pl.isList (fun h' kp => ?_) (by simp only [List.size_toArray] <;> omega)
    have I1 : Inv X pins σ H { s with heap := h' } := I.kept (t' := s.toks) kp
    exact ⟨.ref h'.objs.size, _, lay_tup (t' := s.toks) I1 hz r', rfl, q _ _ (I1.hok.fresh (Nat.le_refl _)) rfl⟩
  · exact call_tuple_of pins s σ H _ us Q I r ⟨p, ys, rfl, .inr ⟨hq, q⟩⟩
end
/-! ### sorted(t), texts -/
section
variable {prog : Program} {w : World} {A : Around} {E : Value → Shared → Prop} {s : Shared}
abbrev glean (h : Heap) (us : List Value) : Heap := (h.push (seqObj "list" #[] 0)).update h.objs.size (Obj.mapSeq (· ++ us.toArray))
theorem collect_tup {t : Addr} {us : List Value} {Q : List Value → Shared → Prop} (ht : IsTup s.heap t us.toArray) (hz : us.length ≤ sizeLine) (q : Q us { s with heap := glean s.heap us }) : wpAny (model prog w) A (collect (.ref t)) Q E s := by
  obtain ⟨ob, hob, hcl, m, hdt⟩ := ht
  have hob2 : (s.heap.push (seqObj "list" #[] 0)).get? t = some ob := Heap.get?_push_of_some _ hob
  have hme : (s.heap.push (seqObj "list" #[] 0)).get? s.heap.objs.size = some (seqObj "list" #[] 0) := Heap.get?_push_size _ rfl
  have hsum : (#[] ++ us.toArray : Array Value).size ≤ sizeLine + 1 := by
    rw [Array.empty_append, List.size_toArray]
    omega
  unfold collect
  refine wpAny_bind (wpAny_runValue (codeAny_builtin PyProof.Rows.entry_proto_collect' ?_))
  show wpAny _ _ (do again (.builtin "list.__iadd__" ⟨[← newList [], .ref t], []⟩)) _ _ s
  refine wpAny_bind (wpAny_newList (wpAny_pure ⟨Code.quiet_builtin _ (by decide +kernel), codeAny_builtin PyProof.Rows.entry_list_iadd' ?_⟩))
  show wpAny _ _ (Builtin.List.listExtendWith (.ref s.heap.objs.size) (.ref t) (.ref s.heap.objs.size)) _ _ { s with heap := s.heap.push (seqObj "list" #[] 0) }
  unfold Builtin.List.listExtendWith
  refine wpAny_bind (wpAny_typeOf (T := "tuple") ⟨ob, hob2, hcl⟩ ?_)
  rw [if_pos (by rw [show (Value.type "tuple" == Value.type "tuple") = true from rfl, Bool.or_true])]
  refine wpAny_bind (PyProof.Rows.listItems_at hob2 hdt (wpAny_bind (PyProof.Rows.listItems_at (xs := #[]) (n := 0) hme rfl ?_)))
  rw [if_neg (by simp)]
  refine wpAny_bind (PyProof.Rows.listUpdate_at (xs := #[]) (n := 0) hme rfl (wpAny_pure ?_) (Nat.zero_le _) hsum)
  show wpAny (model prog w) A (do
      let z ← load s.heap.objs.size
      match z.data with
      | .seq zs _ => pure zs.toList
      | _ => unsupported "internal:collect") Q E { s with heap := glean s.heap us }
  refine wpAny_bind (wpAny_load (get?_update_seq hme _) ?_)
  show wpAny _ _ (pure ((#[] : Array Value) ++ us.toArray).toList) Q E _
  rw [Array.empty_append]
  exact wpAny_pure q
theorem sorted_tupS {t : Addr} {us : List Value} {zs : List Str} {Q : Value → Shared → Prop} (ht : IsTup s.heap t us.toArray) (hS : StrsAre us zs) (hz : us.length ≤ sizeLine)
    (q : ∀ (out : Array Value) (ys : List Str), StrsAre out.toList ys → ys.Perm zs → sortedS ys = true → Q (.ref (s.heap.objs.size + 1)) { s with heap := PyProof.Rows.sortedAll s.heap us out }) : wpAny (model prog w) A (call (.builtin "sorted") [.ref t]) Q E s := by
  have e1 : (glean s.heap us).objs.size = s.heap.objs.size + 1 := (Heap.size_update ..).trans (PyProof.Rows.size_push' ..)
  have e2 : ((glean s.heap us).push (seqObj "list" us.toArray 0)).get? (s.heap.objs.size + 1) = some (seqObj "list" us.toArray 0) := e1 ▸ Heap.get?_push_size _ rfl
  refine Calls.call_function_entry PyProof.Rows.kind_sorted PyProof.Rows.plain_sorted PyProof.Rows.entry_sorted (PyProof.Rows.args_sorted1 _) ?_
  unfold Builtin.«sorted»
  refine wpAny_bind (m := checkCount "sorted" 1 1 _) (wpAny_pure (wpAny_bind (collect_tup ht hz (wpAny_bind (wpAny_newList ?_ hz)))))
  show wpAny _ _ _ _ _ { s with heap := (glean s.heap us).push (seqObj "list" us.toArray 0) }
  rw [e1]
  refine wpAny_bind (wpAny_holding (wpAny_call_entry PyProof.Rows.slot_list_sort ⟨_, e2, rfl⟩ PyProof.Rows.entry_list_sort (PyProof.Rows.list_sort_treeKAny PyProof.Rows.strKind_oneLt e2 hS.keysOf (fun _ _ _ e => PyProof.Rows.keyKind_strs (by rw [← e]; exact hS)) hz fun so hp hs => ⟨_, rfl, ?_⟩) (PyProof.Rows.args_list_sort _)))
  obtain ⟨ys, h1, h2, h3⟩ := PyProof.Rows.sorted_out_str hS hp hs
  exact wpAny_pure ⟨_, rfl, q _ ys h1 h2 h3⟩
end
/-- sorted(t), texts -/
theorem cr_sortedTup {X : Cx} : CallR X (.builtin "sorted") (fun vs H Q => ∃ (a : Addr) (xs : List Str), vs = [V.ref a] ∧ SqT X.K H a (xs.map V.str) ∧ ∀ (ys : List Str) (p : Addr), ys.Perm xs → sortedS ys = true → H p = none → Q (.ref p) (upd H p (.lst (ys.map V.str)))) := by
  rintro pins s σ H vs us Q I r ⟨a, xs, rfl, hs, q⟩
  obtain ⟨its, rv, ht, hz⟩ := I.tuple hs
  rw [Vals.ref1 r]
  have hl := rv.length
  rw [List.length_map] at hl hz
  refine sorted_tupS ht rv.strs (by rw [← hl]; exact hz) fun out ys h1 h2 h3 => ?_
  obtain ⟨m, hm⟩ := PyProof.Rows.sortedAll_at s.heap its out
  have hy : (ys.map V.str).length ≤ sizeLine := by rw [List.length_map, h2.length_eq]; exact hz
  exact ⟨.ref (s.heap.objs.size + 1), upd H (s.heap.objs.size + 1) (.lst (ys.map V.str)), I.laid (t' := s.toks) (fun _ _ z => PyProof.Rows.sortedAll_old z) (Nat.le_succ _) ⟨hy, out.toList, m, vals_of_strs h1, hm⟩, rfl, q ys _ h2 h3 (I.hok.fresh (Nat.le_succ _))⟩
end DL
set_option maxHeartbeats 4000000
/-! The data layer, part a: data as trees, their representation in a heap, the judgements. -/
namespace DL
open PySem PySem.Spec PyProof.Rows L2

/-- data (pr: a pair that is only taken apart): flat things, lists and tuples as trees, ref: a mutable object of the store, ty: a built-in class, cls: a class of the program, scr: the law's script -/
inductive D where
  | non | bl (b : Bool) | int (i : Int) | str (x : Str) | lst (ds : List D) | tup (ds : List D) | pr (a b : D) | ref (i : Nat) | ty (n : String) | cls (c : Nat) | scr (ns : List Int) | dic (ks : List Key) (ds : List D) | ob (c : Nat) (ns : List Str) (ds : List D)

/-- an exception of an own class: the class's number, its attributes -/
structure Exn where
  c : Nat
  fs : List (Str × D)
/-- a mutable object -/
inductive MO where
  | lst (ds : List D) | ins (c : Nat) (fs : List (Str × D)) | dct (ks : List Key) (ds : List D)
/-- no list -/
def MO.nl : MO → Bool
  | .lst _ => false
  | _ => true
/-- a slot of a frame: unknown, a datum, a list that this frame alone holds, the exception that is handled, an object (no list) that this frame alone holds -/
inductive Sl where
  | no | sh (d : D) | own (ds : List D) | exn (x : Exn) | hd (o : MO)
abbrev S := List MO
abbrev Ev := List Sl
/-- the classes' places, the tables of the lambdas, the exception that is handled: its place, its dict, its class; the object that is being made; does the frame return a list of its own -/
structure Cl where
  c : Nat → Addr
  T : List (Addr × Str)
  x : Option (Addr × Addr × Nat)
  s : Option Addr
  f : Bool
instance : CoeFun Cl fun _ => Nat → Addr := ⟨Cl.c⟩
inductive R (α : Type) where
  | stuck | ok (a : α) (s : S) | ex (x : Exn) (s : S)
def R.bind {α β : Type} (r : R α) (k : α → S → R β) : R β := match r with
  | .stuck => .stuck
  | .ok a s => k a s
  | .ex x s => .ex x s
@[simp] theorem R.bind_stuck {α β : Type} (k : α → S → R β) : (R.stuck : R α).bind k = .stuck := rfl
@[simp] theorem R.bind_ok {α β : Type} (a : α) (s : S) (k : α → S → R β) : (R.ok a s).bind k = k a s := rfl
@[simp] theorem R.bind_ex {α β : Type} (x : Exn) (s : S) (k : α → S → R β) : (R.ex x s : R α).bind k = .ex x s := rfl

/-- a part of the heap that stays, the addresses of the store's objects -/
structure Wd where
  F : Hp
  A : List Addr

mutual
inductive Rp (K : PySem.W.Frag) (cl : Cl) (W : Wd) : V → D → Prop
  | non : Rp K cl W .non .non
  | bl (b : Bool) : Rp K cl W (.bl b) (.bl b)
  | int (i : Int) : Rp K cl W (.int i) (.int i)
  | str (x : Str) : Rp K cl W (.str x) (.str x)
  | lst {a : Addr} {vs : List V} {ds : List D} : W.F a = some (.lst vs) → RpAll K cl W vs ds → Rp K cl W (.ref a) (.lst ds)
  | tup {a : Addr} {vs : List V} {ds : List D} : TupG K W.F a vs → RpAll K cl W vs ds → Rp K cl W (.ref a) (.tup ds)
  | pr {a : Addr} {v w : V} {x y : D} : SqT K W.F a [v, w] → Rp K cl W v x → Rp K cl W w y → Rp K cl W (.ref a) (.pr x y)
  | ref {a : Addr} {i : Nat} : W.A[i]? = some a → Rp K cl W (.ref a) (.ref i)
  | ty (n : String) : Rp K cl W (.ty n) (.ty n)
  | cls (c : Nat) : Rp K cl W (.ref (cl c)) (.cls c)
  | scr {a : Addr} {ns : List Int} : SqL K W.F a (ns.map V.int) → Rp K cl W (.ref a) (.scr ns)
  | dic {a : Addr} {ks : List Key} {vs : List V} {ds : List D} : W.F a = some (.dK (ks.zip vs)) → ks.length = vs.length → RpAll K cl W vs ds → Rp K cl W (.ref a) (.dic ks ds)
  | ob {a dx : Addr} {c : Nat} {ns : List Str} {vs : List V} {ds : List D} : W.F a = some (.ins (cl c) dx (ns.zip vs)) → ns.length = vs.length → RpAll K cl W vs ds → Rp K cl W (.ref a) (.ob c ns ds)
inductive RpAll (K : PySem.W.Frag) (cl : Cl) (W : Wd) : List V → List D → Prop
  | nil : RpAll K cl W [] []
  | cons {v : V} {vs : List V} {d : D} {ds : List D} : Rp K cl W v d → RpAll K cl W vs ds → RpAll K cl W (v :: vs) (d :: ds)
end

/-- no table of code objects -/
def NT (o : HO) : Prop := ∀ ps, o ≠ .tbl ps
theorem NT.lst {vs : List V} : NT (.lst vs) := fun _ z => nomatch z
theorem NT.tup {vs : List V} : NT (.tup vs) := fun _ z => nomatch z
theorem NT.ins {a dx : Addr} {vs : List (Str × V)} : NT (.ins a dx vs) := fun _ z => nomatch z
theorem NT.dK {vs : List (Key × V)} : NT (.dK vs) := fun _ z => nomatch z
theorem NT.xd {vs : List (Str × V)} : NT (.xd vs) := fun _ z => nomatch z
/-- nothing but a table may stand there -/
def Gone (H : Hp) (a : Addr) : Prop := ∀ o, H a = some o → ∃ ps, o = .tbl ps
theorem Gone.of {H : Hp} {a : Addr} (h : H a = none) : Gone H a := fun o e => by rw [h] at e; cases e
theorem Gone.no {H : Hp} {a : Addr} {o : HO} (g : Gone H a) (e : H a = some o) (n : NT o) : False := by
  obtain ⟨ps, z⟩ := g o e
  exact n ps z
theorem Gone.ne {H : Hp} {a b : Addr} {o : HO} (g : Gone H b) (e : H a = some o) (n : NT o) : a ≠ b := fun z => g.no (z ▸ e) n
def Keep (A : List Addr) (H H' : Hp) : Prop := ∀ a o, H a = some o → NT o → a ∉ A → H' a = some o
/-- the world grows by new things alone -/
structure Grow (W : Wd) (H : Hp) (W' : Wd) : Prop where
  f : Same W.F W'.F
  a : W.A <+: W'.A
  nf : ∀ a o, W'.F a = some o → W.F a = none → Gone H a
  na : ∀ a ∈ W'.A, a ∈ W.A ∨ Gone H a

theorem same_sqt {K : PySem.W.Frag} {H H' : Hp} {a : Addr} {xs : List V} (e : Same H H') (h : SqT K H a xs) : SqT K H' a xs := by
  rcases h with (h | ⟨o, h⟩) | h
  · exact .inl (.inl (e a _ h))
  · exact .inl (.inr ⟨o, e a _ h⟩)
  · exact .inr h
theorem same_tupG {K : PySem.W.Frag} {H H' : Hp} {a : Addr} {xs : List V} (e : Same H H') (h : TupG K H a xs) : TupG K H' a xs :=
  ⟨same_sqt e h.1, h.2.imp (fun ⟨o, h1, h2⟩ => ⟨o, e _ _ h1, h2⟩) id⟩
theorem same_sql {K : PySem.W.Frag} {H H' : Hp} {a : Addr} {xs : List V} (e : Same H H') (h : SqL K H a xs) : SqL K H' a xs := by
  rcases h with (h | ⟨o, h⟩) | h
  · exact .inl (.inl (e a _ h))
  · exact .inl (.inr ⟨o, e a _ h⟩)
  · exact .inr h
theorem pre_get {A B : List Addr} (h : A <+: B) {i : Nat} {a : Addr} (e : A[i]? = some a) : B[i]? = some a := by
  obtain ⟨t, rfl⟩ := h
  rw [List.getElem?_append_left]
  · exact e
  · exact (List.getElem?_eq_some_iff.mp e).1

mutual
theorem Rp.mono {K : PySem.W.Frag} {cl : Cl} {W W' : Wd} (hf : Same W.F W'.F) (ha : W.A <+: W'.A) : ∀ {v : V} {d : D}, Rp K cl W v d → Rp K cl W' v d
  | _, _, .non => .non
  | _, _, .bl b => .bl b
  | _, _, .int i => .int i
  | _, _, .str x => .str x
  | _, _, .lst h r => .lst (hf _ _ h) (RpAll.mono hf ha r)
  | _, _, .tup h r => .tup (same_tupG hf h) (RpAll.mono hf ha r)
  | _, _, .pr h r q => .pr (same_sqt hf h) (Rp.mono hf ha r) (Rp.mono hf ha q)
  | _, _, .ref h => .ref (pre_get ha h)
  | _, _, .ty n => .ty n
  | _, _, .cls c => .cls c
  | _, _, .scr h => .scr (same_sql hf h)
  | _, _, .dic h e r => .dic (hf _ _ h) e (RpAll.mono hf ha r)
  | _, _, .ob h e r => .ob (hf _ _ h) e (RpAll.mono hf ha r)
theorem RpAll.mono {K : PySem.W.Frag} {cl : Cl} {W W' : Wd} (hf : Same W.F W'.F) (ha : W.A <+: W'.A) : ∀ {vs : List V} {ds : List D}, RpAll K cl W vs ds → RpAll K cl W' vs ds
  | _, _, .nil => .nil
  | _, _, .cons h r => .cons (Rp.mono hf ha h) (RpAll.mono hf ha r)
end
theorem Rp.grow {K : PySem.W.Frag} {cl : Cl} {W W' : Wd} {H : Hp} {v : V} {d : D} (r : Rp K cl W v d) (g : Grow W H W') : Rp K cl W' v d := r.mono g.f g.a
theorem RpAll.grow {K : PySem.W.Frag} {cl : Cl} {W W' : Wd} {H : Hp} {vs : List V} {ds : List D} (r : RpAll K cl W vs ds) (g : Grow W H W') : RpAll K cl W' vs ds := r.mono g.f g.a
theorem RpAll.length {K : PySem.W.Frag} {cl : Cl} {W : Wd} : ∀ {vs : List V} {ds : List D}, RpAll K cl W vs ds → vs.length = ds.length
  | _, _, .nil => rfl
  | _, _, .cons _ r => congrArg Nat.succ r.length
theorem RpAll.get {K : PySem.W.Frag} {cl : Cl} {W : Wd} : ∀ {vs : List V} {ds : List D} {i : Nat} {d : D}, RpAll K cl W vs ds → ds[i]? = some d → ∃ v, vs[i]? = some v ∧ Rp K cl W v d
  | _, _, _, _, .nil, e => by simp at e
  | _, _, 0, _, .cons h _, e => by
    simp at e
    subst e
    exact ⟨_, rfl, h⟩
  | _, _, i + 1, d, .cons _ r, e => by
    obtain ⟨v, h1, h2⟩ := RpAll.get (i := i) r (by simpa using e)
    exact ⟨v, by simpa using h1, h2⟩
theorem RpAll.append {K : PySem.W.Frag} {cl : Cl} {W : Wd} : ∀ {vs us : List V} {ds es : List D}, RpAll K cl W vs ds → RpAll K cl W us es → RpAll K cl W (vs ++ us) (ds ++ es)
  | _, _, _, _, .nil, s => s
  | _, _, _, _, .cons h r, s => .cons h (r.append s)
theorem RpAll.take {K : PySem.W.Frag} {cl : Cl} {W : Wd} : ∀ {vs : List V} {ds : List D} (n : Nat), RpAll K cl W vs ds → RpAll K cl W (vs.take n) (ds.take n)
  | _, _, 0, _ => by simp; exact .nil
  | _, _, _ + 1, .nil => by simp; exact .nil
  | _, _, n + 1, .cons h r => .cons h (r.take n)
theorem RpAll.drop {K : PySem.W.Frag} {cl : Cl} {W : Wd} : ∀ {vs : List V} {ds : List D} (n : Nat), RpAll K cl W vs ds → RpAll K cl W (vs.drop n) (ds.drop n)
  | _, _, 0, r => r
  | _, _, _ + 1, .nil => by simp; exact .nil
  | _, _, n + 1, .cons _ r => r.drop n
theorem RpAll.reverse {K : PySem.W.Frag} {cl : Cl} {W : Wd} : ∀ {vs : List V} {ds : List D}, RpAll K cl W vs ds → RpAll K cl W vs.reverse ds.reverse
  | _, _, .nil => .nil
  | _, _, .cons h r => by
    rw [List.reverse_cons, List.reverse_cons]
    exact r.reverse.append (.cons h .nil)
theorem RpAll.set {K : PySem.W.Frag} {cl : Cl} {W : Wd} {v : V} {d : D} (h : Rp K cl W v d) : ∀ {vs : List V} {ds : List D} (i : Nat), RpAll K cl W vs ds → RpAll K cl W (vs.set i v) (ds.set i d)
  | _, _, _, .nil => .nil
  | _, _, 0, .cons _ r => .cons h r
  | _, _, i + 1, .cons q r => .cons q (RpAll.set h i r)
theorem RpAll.strs {K : PySem.W.Frag} {cl : Cl} {W : Wd} : ∀ {vs : List V} {xs : List Str}, RpAll K cl W vs (xs.map .str) → vs = xs.map .str
  | vs, [], r => by
    cases r
    rfl
  | vs, x :: xs, r => by
    cases r with
    | cons h r =>
      cases h
      rw [RpAll.strs r]
      rfl
theorem RpAll.ofStrs {K : PySem.W.Frag} {cl : Cl} {W : Wd} : ∀ (xs : List Str), RpAll K cl W (xs.map .str) (xs.map .str)
  | [] => .nil
  | x :: xs => .cons (.str x) (RpAll.ofStrs xs)
theorem RpAll.bls {K : PySem.W.Frag} {cl : Cl} {W : Wd} : ∀ {vs : List V} {xs : List Bool}, RpAll K cl W vs (xs.map .bl) → vs = xs.map .bl
  | vs, [], r => by
    cases r
    rfl
  | vs, x :: xs, r => by
    cases r with
    | cons h r =>
      cases h
      rw [RpAll.bls r]
      rfl
theorem RpAll.ints {K : PySem.W.Frag} {cl : Cl} {W : Wd} : ∀ {vs : List V} {xs : List Int}, RpAll K cl W vs (xs.map .int) → vs = xs.map .int
  | vs, [], r => by
    cases r
    rfl
  | vs, x :: xs, r => by
    cases r with
    | cons h r =>
      cases h
      rw [RpAll.ints r]
      rfl
theorem RpAll.ofInts {K : PySem.W.Frag} {cl : Cl} {W : Wd} : ∀ (xs : List Int), RpAll K cl W (xs.map .int) (xs.map .int)
  | [] => .nil
  | x :: xs => .cons (.int x) (RpAll.ofInts xs)

/-- attributes -/
inductive RpF (K : PySem.W.Frag) (cl : Cl) (W : Wd) : List (Str × V) → List (Str × D) → Prop
  | nil : RpF K cl W [] []
  | cons {x : Str} {v : V} {vs : List (Str × V)} {d : D} {ds : List (Str × D)} : Rp K cl W v d → RpF K cl W vs ds → RpF K cl W ((x, v) :: vs) ((x, d) :: ds)
theorem RpF.mono {K : PySem.W.Frag} {cl : Cl} {W W' : Wd} (hf : Same W.F W'.F) (ha : W.A <+: W'.A) : ∀ {vs : List (Str × V)} {ds : List (Str × D)}, RpF K cl W vs ds → RpF K cl W' vs ds
  | _, _, .nil => .nil
  | _, _, .cons h r => .cons (h.mono hf ha) (r.mono hf ha)

def MoRp (K : PySem.W.Frag) (cl : Cl) (W : Wd) (H : Hp) (a : Addr) : MO → Prop
  | .lst ds => ∃ vs, H a = some (.lst vs) ∧ RpAll K cl W vs ds
  | .ins c fs => ∃ dx vs, H a = some (.ins (cl c) dx vs) ∧ RpF K cl W vs fs
  | .dct ks ds => ∃ vs, H a = some (.dK (ks.zip vs)) ∧ ks.length = vs.length ∧ RpAll K cl W vs ds
/-- the store is held -/
structure SatS (K : PySem.W.Frag) (cl : Cl) (W : Wd) (st : S) (H : Hp) : Prop where
  ex : Same W.F H
  len : W.A.length = st.length
  nod : W.A.Nodup
  off : ∀ a ∈ W.A, W.F a = none
  mo : ∀ (i : Nat) (o : MO), st[i]? = some o → ∃ a, W.A[i]? = some a ∧ MoRp K cl W H a o
  nt : ∀ a o, W.F a = some o → NT o
  tab : LamX.Tabs cl.T H
/-- the slots are held -/
structure SatL (K : PySem.W.Frag) (cl : Cl) (W : Wd) (ρ : Ev) (σ : L2.St) (H : Hp) : Prop where
  len : ρ.length = σ.length
  sh : ∀ (i : Nat) (d : D), ρ[i]? = some (.sh d) → ∃ v, σ[i]? = some (some v) ∧ Rp K cl W v d
  own : ∀ (i : Nat) (ds : List D), ρ[i]? = some (.own ds) → ∃ p vs, σ[i]? = some (some (.ref p)) ∧ H p = some (.lst vs) ∧ W.F p = none ∧ p ∉ W.A ∧ RpAll K cl W vs ds
  ne : ∀ (i j : Nat) (ds es : List D) (p : Addr), i ≠ j → ρ[i]? = some (.own ds) → ρ[j]? = some (.own es) → σ[i]? = some (some (.ref p)) → σ[j]? ≠ some (some (.ref p))
  xn : ∀ (i : Nat) (x : Exn), ρ[i]? = some (.exn x) → ∃ a dx vs, cl.x = some (a, dx, x.c) ∧ σ[i]? = some (some (.ref a)) ∧ W.F dx = some (.xd vs) ∧ RpF K cl W vs x.fs
  hd : ∀ (i : Nat) (o : MO), ρ[i]? = some (.hd o) → o.nl = true ∧ ∃ p, σ[i]? = some (some (.ref p)) ∧ MoRp K cl W H p o ∧ W.F p = none ∧ p ∉ W.A
  hn : ∀ (i j : Nat) (o u : MO) (p : Addr), i ≠ j → ρ[i]? = some (.hd o) → ρ[j]? = some (.hd u) → σ[i]? = some (some (.ref p)) → σ[j]? ≠ some (some (.ref p))
theorem MoRp.there {K : PySem.W.Frag} {cl : Cl} {W : Wd} {H : Hp} {a : Addr} {o : MO} (m : MoRp K cl W H a o) : ∃ u, H a = some u ∧ NT u ∧ (o.nl = true → ∀ vs, u ≠ .lst vs) := by
  cases o with
  | lst ds => obtain ⟨vs, q, _⟩ := m; exact ⟨_, q, .lst, fun z => by cases z⟩
  | ins c fs => obtain ⟨dx, vs, q, _⟩ := m; exact ⟨_, q, .ins, fun _ _ z => by cases z⟩
  | dct ks ds => obtain ⟨vs, q, _⟩ := m; exact ⟨_, q, .dK, fun _ _ z => by cases z⟩
theorem MoRp.mono {K : PySem.W.Frag} {cl : Cl} {W W' : Wd} {H H' : Hp} {a : Addr} {o : MO} (m : MoRp K cl W H a o) (hf : Same W.F W'.F) (ha : W.A <+: W'.A) (hH : ∀ u, H a = some u → H' a = some u) : MoRp K cl W' H' a o := by
  cases o with
  | lst ds => obtain ⟨vs, h1, h2⟩ := m; exact ⟨vs, hH _ h1, h2.mono hf ha⟩
  | ins c fs => obtain ⟨dx, vs, h1, h2⟩ := m; exact ⟨dx, vs, hH _ h1, h2.mono hf ha⟩
  | dct ks ds => obtain ⟨vs, h1, h2, h3⟩ := m; exact ⟨vs, hH _ h1, h2, h3.mono hf ha⟩
theorem SatS.there {K : PySem.W.Frag} {cl : Cl} {W : Wd} {st : S} {H : Hp} (s : SatS K cl W st H) {a : Addr} (h : a ∈ W.A) : ∃ o, H a = some o ∧ NT o := by
  obtain ⟨i, hi, e⟩ := List.getElem_of_mem h
  have h2 : i < st.length := by rw [← s.len]; exact hi
  obtain ⟨b, hb, m⟩ := s.mo i _ (List.getElem?_eq_getElem h2)
  rw [List.getElem?_eq_getElem hi, e] at hb
  cases hb
  generalize st[i] = o at m
  obtain ⟨u, h1, h2, _⟩ := m.there
  exact ⟨u, h1, h2⟩
theorem SatS.ne {K : PySem.W.Frag} {cl : Cl} {W : Wd} {st : S} {H : Hp} (s : SatS K cl W st H) {a p : Addr} (h : a ∈ W.A) (g : Gone H p) : a ≠ p := by
  obtain ⟨o, e, n⟩ := s.there h
  exact g.ne e n
theorem Keep.refl {A : List Addr} {H : Hp} : Keep A H H := fun _ _ h _ _ => h
theorem Grow.refl {W : Wd} {H : Hp} : Grow W H W := ⟨fun _ _ h => h, List.prefix_refl _, fun a o h1 h2 => (by rw [h1] at h2; cases h2), fun a h => .inl h⟩
theorem Keep.trans {W W1 : Wd} {H H1 H2 : Hp} (k : Keep W.A H H1) (g : Grow W H W1) (k1 : Keep W1.A H1 H2) : Keep W.A H H2 := fun a o h t n => by
  refine k1 a o (k a o h t n) t fun m => ?_
  rcases g.na a m with z | z
  · exact n z
  · exact z.no h t
theorem Grow.trans {K : PySem.W.Frag} {cl : Cl} {st : S} {W W1 W2 : Wd} {H H1 : Hp} (g : Grow W H W1) (k : Keep W.A H H1) (s : SatS K cl W1 st H1) (g1 : Grow W1 H1 W2) : Grow W H W2 := by
  have back : ∀ a, Gone H1 a → Gone H a := fun a h o e => by
    by_cases t : NT o
    · by_cases m : a ∈ W.A
      · obtain ⟨u, e1, e2⟩ := s.there (g.a.subset m)
        exact (h.no e1 e2).elim
      · exact (h.no (k a o e t m) t).elim
    · by_cases z : ∃ ps, o = .tbl ps
      · exact z
      · exact absurd (fun ps q => z ⟨ps, q⟩) t
  refine ⟨fun a o h => g1.f a o (g.f a o h), List.IsPrefix.trans g.a g1.a, fun a o h n => ?_, fun a m => ?_⟩
  · cases e : W1.F a with
    | some o1 => exact g.nf a o1 e n
    | none => exact back a (g1.nf a o h e)
  · rcases g1.na a m with z | z
    · exact g.na a z
    · exact .inr (back a z)
/-- the slots stay over a step -/
theorem SatL.keep {K : PySem.W.Frag} {cl : Cl} {W W' : Wd} {ρ : Ev} {σ : L2.St} {H H' : Hp} (l : SatL K cl W ρ σ H) (g : Grow W H W') (k : Keep W.A H H') : SatL K cl W' ρ σ H' := by
  refine ⟨l.len, fun i d e => ?_, fun i ds e => ?_, l.ne, fun i x e => ?_, fun i o e => ?_, l.hn⟩
  · obtain ⟨v, h1, h2⟩ := l.sh i d e
    exact ⟨v, h1, h2.grow g⟩
  · obtain ⟨p, vs, h1, h2, h3, h4, h5⟩ := l.own i ds e
    refine ⟨p, vs, h1, k p _ h2 .lst h4, ?_, fun m => ?_, h5.grow g⟩
    · cases e : W'.F p with
      | none => rfl
      | some o => exact ((g.nf p o e h3).no h2 .lst).elim
    · rcases g.na p m with z | z
      · exact h4 z
      · exact z.no h2 .lst
  · obtain ⟨a, dx, vs, h1, h2, h3, h4⟩ := l.xn i x e
    exact ⟨a, dx, vs, h1, h2, g.f _ _ h3, h4.mono g.f g.a⟩
  · obtain ⟨h0, p, h1, h2, h3, h4⟩ := l.hd i o e
    obtain ⟨u, e1, e2, _⟩ := h2.there
    refine ⟨h0, p, h1, h2.mono g.f g.a fun u' e' => k p u' e' (by rw [e1] at e'; cases e'; exact e2) h4, ?_, fun m => ?_⟩
    · cases e : W'.F p with
      | none => rfl
      | some o => exact ((g.nf p o e h3).no e1 e2).elim
    · rcases g.na p m with z | z
      · exact h4 z
      · exact z.no e1 e2

/-- what an exception's dict holds -/
def XRp (K : PySem.W.Frag) (cl : Cl) (W : Wd) (H : Hp) (x : Exn) (dx : Addr) : Prop := ∃ vs, W.F dx = some (.xd vs) ∧ RpF K cl W vs x.fs

section
variable (K : PySem.W.Frag) (cl : Cl) (E : XK)
/-- what is wanted behind: a result of the machine stands for a result of the plain function -/
def Aft {α β : Type} (RP : Wd → β → α → Prop) (W : Wd) (H : Hp) (r : R α) (Q : β → Hp → Prop) : Prop := match r with
  | .stuck => False
  | .ok a st => ∀ b H' W', Grow W H W' → Keep W.A H H' → SatS K cl W' st H' → RP W' b a → Q b H'
  | .ex x st => ∀ dx H' W', Grow W H W' → Keep W.A H H' → SatS K cl W' st H' → XRp K cl W' H' x dx → E (.ref (cl x.c)) (some dx) H'
/-- an operand: a datum, or a list of a slot of one's own as it is now -/
def ORp (ρ : Ev) (σ : L2.St) (W : Wd) (v : V) (d : D) : Prop := Rp K cl W v d ∨ ∃ (i : Nat) (ds : List D), d = .lst ds ∧ ρ[i]? = some (.own ds) ∧ σ[i]? = some (some v)
def liftG {α β : Type} (RP : Ev → L2.St → Wd → β → α → Prop) (f : Ev → S → R α) : L2.St → Hp → (β → Hp → Prop) → Prop := fun σ H Q =>
  ∃ W ρ st, SatS K cl W st H ∧ SatL K cl W ρ σ H ∧ Aft K cl E (RP ρ σ) W H (f ρ st) Q
abbrev liftV (f : Ev → S → R D) : TE := liftG K cl E (fun _ _ => Rp K cl) f
abbrev liftO (f : Ev → S → R D) : TE := liftG K cl E (ORp K cl) f
abbrev liftT (f : Ev → S → R Bool) : TT := liftG K cl E (fun _ _ _ (b c : Bool) => b = c) f
abbrev liftA (f : Ev → S → R (List D)) : TA := liftG K cl E (fun _ _ => RpAll K cl) f
end
abbrev DV (X : Cx) (cl : Cl) (E : XK) (e : Expr) (f : Ev → S → R D) : Prop := PE X e (liftV X.K cl E f)
abbrev DO (X : Cx) (cl : Cl) (E : XK) (e : Expr) (f : Ev → S → R D) : Prop := PE X e (liftO X.K cl E f)
abbrev DT (X : Cx) (cl : Cl) (E : XK) (e : Expr) (f : Ev → S → R Bool) : Prop := PT X e (liftT X.K cl E f)
abbrev DW (X : Cx) (cl : Cl) (E : XK) (e : Expr) (f : Ev → S → R Bool) : Prop := PW X e (liftT X.K cl E f)
abbrev DA (X : Cx) (cl : Cl) (E : XK) (es : List Expr) (f : Ev → S → R (List D)) : Prop := PA X es (liftA X.K cl E f)

section
variable {K : PySem.W.Frag} {cl : Cl} {E : XK} {α β γ δ : Type}
theorem Aft.mono {RP : Wd → β → α → Prop} {W W1 : Wd} {H H1 : Hp} {st : S} {r : R α} {Q : β → Hp → Prop} (h : Aft K cl E RP W H r Q) (g : Grow W H W1) (k : Keep W.A H H1) (s : SatS K cl W1 st H1) : Aft K cl E RP W1 H1 r Q := by
  cases r with
  | stuck => exact h
  | ok a st2 => exact fun b H' W' g' k' s' rp => h b H' W' (g.trans k s g') (k.trans g k') s' rp
  | ex x st2 => exact fun dx H' W' g' k' s' rp => h dx H' W' (g.trans k s g') (k.trans g k') s' rp
/-- peel the first part off -/
theorem Aft.peel {RP : Wd → β → α → Prop} {RP' : Wd → δ → γ → Prop} {W : Wd} {H : Hp} {r : R γ} {k : γ → S → R α} {Q : β → Hp → Prop} (h : Aft K cl E RP W H (r.bind k) Q) :
    Aft K cl E RP' W H r fun b H' => ∃ c st W', Grow W H W' ∧ Keep W.A H H' ∧ SatS K cl W' st H' ∧ RP' W' b c ∧ Aft K cl E RP W' H' (k c st) Q := by
  cases r with
  | stuck => exact h
  | ok c st => exact fun b H' W' g kk s rp => ⟨c, st, W', g, kk, s, rp, Aft.mono (show Aft K cl E RP W H (k c st) Q from h) g kk s⟩
  | ex x st => exact h
theorem Aft.imp {RP RP' : Wd → β → α → Prop} {W : Wd} {H : Hp} {r : R α} {Q Q' : β → Hp → Prop} (h : Aft K cl E RP W H r Q) (hR : ∀ W b a, RP' W b a → RP W b a) (hQ : ∀ b H, Q b H → Q' b H) : Aft K cl E RP' W H r Q' := by
  cases r with
  | stuck => exact h
  | ok a st => exact fun b H' W' g k s rp => hQ _ _ (h b H' W' g k s (hR _ _ _ rp))
  | ex x st => exact h
/-- the result is there at once -/
theorem Aft.now {RP : Wd → β → α → Prop} {W : Wd} {H : Hp} {a : α} {st : S} {b : β} {Q : β → Hp → Prop} (h : Aft K cl E RP W H (.ok a st) Q) (s : SatS K cl W st H) (rp : RP W b a) : Q b H := h b H W .refl .refl s rp
/-- a new list, a new tuple, frozen -/
theorem grow_new {W : Wd} {H : Hp} {p : Addr} {o : HO} (hf : Same W.F H) (hn : H p = none) : Grow W H ⟨upd W.F p o, W.A⟩ := by
  refine ⟨fun a u h => ?_, List.prefix_refl _, fun a u h n => ?_, fun a m => .inl m⟩
  · have : a ≠ p := fun e => by
      rw [e] at h
      have := hf p _ h
      rw [hn] at this; cases this
    show upd W.F p o a = some u
    rw [upd_ne this]
    exact h
  · by_cases e : a = p
    · rw [e]; exact .of hn
    · have h' : upd W.F p o a = some u := h
      rw [upd_ne e, n] at h'
      cases h'
theorem keep_new {A : List Addr} {H : Hp} {p : Addr} {o : HO} (hn : H p = none) : Keep A H (upd H p o) := fun a u h _ _ => by
  rw [upd_ne (ne_of_none h hn)]
  exact h
theorem tabs_upd {H : Hp} {p : Addr} {o : HO} {T : List (Addr × Str)} (t : LamX.Tabs T H) (h : ∀ u, H p = some u → (∀ ps, u ≠ .tbl ps) ∧ ∀ c q, u ≠ LamX.CodeO c q) : LamX.Tabs T (upd H p o) := fun z hz => by
  obtain ⟨ps, h1, h2, h3⟩ := t z hz
  refine ⟨ps, ?_, h2, fun pos cv e => ?_⟩
  · have n : z.1 ≠ p := fun e => (h (.tbl ps) (by rw [← e]; exact h1)).1 ps rfl
    rw [upd_ne n]
    exact h1
  · obtain ⟨c, e1, e2⟩ := h3 pos cv e
    refine ⟨c, e1, ?_⟩
    have n : c ≠ p := fun e => (h (LamX.CodeO c z.2) (by rw [← e]; exact e2)).2 c _ rfl
    rw [upd_ne n]
    exact e2
theorem tabs_new {H : Hp} {p : Addr} {o : HO} {T : List (Addr × Str)} (t : LamX.Tabs T H) (h : H p = none) : LamX.Tabs T (upd H p o) := tabs_upd t fun u e => by rw [h] at e; cases e
theorem tabs_lst {H : Hp} {p : Addr} {o : HO} {vs : List V} {T : List (Addr × Str)} (t : LamX.Tabs T H) (h : H p = some (.lst vs)) : LamX.Tabs T (upd H p o) := tabs_upd t fun u e => by
  rw [h] at e; cases e
  exact ⟨fun ps z => (by cases z), fun c q z => (by unfold LamX.CodeO at z; cases z)⟩
theorem SatS.new {W : Wd} {st : S} {H : Hp} {p : Addr} {o : HO} (s : SatS K cl W st H) (hn : H p = none) (ho : NT o := by intro _ z; cases z) : SatS K cl ⟨upd W.F p o, W.A⟩ st (upd H p o) := by
  have g : Grow W H ⟨upd W.F p o, W.A⟩ := grow_new s.ex hn
  refine ⟨fun a u h => ?_, s.len, s.nod, fun a m => ?_, fun i ob e => ?_, fun a u h => ?_, tabs_new s.tab hn⟩
  · by_cases e : a = p
    · have h' : upd W.F p o a = some u := h
      rw [e, upd_same] at h' ⊢
      exact h'
    · have h' : upd W.F p o a = some u := h
      rw [upd_ne e] at h' ⊢
      exact s.ex a u h'
  · have : a ≠ p := s.ne m (.of hn)
    show upd W.F p o a = none
    rw [upd_ne this]
    exact s.off a m
  · obtain ⟨a, h1, h2⟩ := s.mo i ob e
    have ha : a ≠ p := s.ne (List.mem_of_getElem? h1) (.of hn)
    exact ⟨a, h1, h2.mono g.f g.a fun u h => by rw [upd_ne ha]; exact h⟩
  · have h' : upd W.F p o a = some u := h
    by_cases e : a = p
    · rw [e, upd_same] at h'
      cases h'
      exact ho
    · rw [upd_ne e] at h'
      exact s.nt a u h'
/-- a new list of the store -/
theorem grow_alloc {W : Wd} {H : Hp} {p : Addr} (hn : H p = none) : Grow W H ⟨W.F, W.A ++ [p]⟩ := by
  refine ⟨fun a u h => h, List.prefix_append _ _, fun a u h n => ?_, fun a m => ?_⟩
  · have h' : W.F a = some u := h
    rw [n] at h'; cases h'
  · rcases List.mem_append.mp m with z | z
    · exact .inl z
    · rw [List.mem_singleton.mp z]; exact .inr (.of hn)
theorem SatS.alloc {W : Wd} {st : S} {H : Hp} {p : Addr} {vs : List V} {ds : List D} (s : SatS K cl W st H) (hn : H p = none) (r : RpAll K cl W vs ds) : SatS K cl ⟨W.F, W.A ++ [p]⟩ (st ++ [.lst ds]) (upd H p (.lst vs)) := by
  have g : Grow W H ⟨W.F, W.A ++ [p]⟩ := grow_alloc hn
  have nF : ∀ a u, W.F a = some u → a ≠ p := fun a u h e => by
    have := s.ex a u h
    rw [e, hn] at this; cases this
  have nA : p ∉ W.A := fun m => s.ne m (.of hn) rfl
  refine ⟨fun a u h => ?_, by rw [List.length_append, List.length_append, s.len]; rfl, ?_, fun a m => ?_, fun i o e => ?_, s.nt, tabs_new s.tab hn⟩
  · rw [upd_ne (nF a u h)]
    exact s.ex a u h
  · rw [List.nodup_append]
    refine ⟨s.nod, List.pairwise_singleton _ p, fun a ha b hb e => ?_⟩
    rw [List.mem_singleton.mp hb] at e
    exact nA (e ▸ ha)
  · rcases List.mem_append.mp m with z | z
    · exact s.off a z
    · rw [List.mem_singleton.mp z]
      cases e : W.F p with
      | none => rfl
      | some u => exact absurd rfl (nF p u e)
  · by_cases hi : i < st.length
    · rw [List.getElem?_append_left hi] at e
      obtain ⟨a, h1, h2⟩ := s.mo i o e
      have ha : a ≠ p := fun z => nA (z ▸ List.mem_of_getElem? h1)
      exact ⟨a, pre_get g.a h1, h2.mono g.f g.a fun u h => by rw [upd_ne ha]; exact h⟩
    · have hl : i < (st ++ [MO.lst ds]).length := (List.getElem?_eq_some_iff.mp e).1
      have hi2 : i = st.length := by
        rw [List.length_append] at hl
        simp only [List.length_cons, List.length_nil] at hl
        omega
      subst hi2
      have eo : o = .lst ds := by
        rw [List.getElem?_append_right (Nat.le_refl _), Nat.sub_self] at e
        exact (Option.some.inj e).symm
      subst eo
      refine ⟨p, ?_, vs, upd_same, r.grow g⟩
      show (W.A ++ [p])[st.length]? = some p
      rw [← s.len, List.getElem?_append_right (Nat.le_refl _), Nat.sub_self]
      rfl
theorem Aft.newL {W : Wd} {H : Hp} {ds : List D} {st : S} {vs : List V} {p : Addr} {Q : V → Hp → Prop} (h : Aft K cl E (Rp K cl) W H (.ok (.lst ds) st) Q) (s : SatS K cl W st H) (r : RpAll K cl W vs ds) (hn : H p = none) : Q (.ref p) (upd H p (.lst vs)) :=
  h (.ref p) _ _ (grow_new s.ex hn) (keep_new hn) (s.new hn) (.lst upd_same (r.grow (grow_new (o := .lst vs) s.ex hn)))
theorem Aft.newT {W : Wd} {H : Hp} {ds : List D} {st : S} {vs : List V} {Q : V → Hp → Prop} (h : Aft K cl E (Rp K cl) W H (.ok (.tup ds) st) Q) (s : SatS K cl W st H) (r : RpAll K cl W vs ds) : NewT H vs Q := fun p o hn ho =>
  h (.ref p) _ _ (grow_new s.ex hn) (keep_new hn) (s.new hn) (.tup ⟨.inl (.inr ⟨o, upd_same⟩), .inl ⟨o, upd_same, ho⟩⟩ (r.grow (grow_new (o := .frz o (.tup vs)) s.ex hn)))
end
end DL
set_option maxHeartbeats 4000000
/-! The data layer, part b: expressions. -/
namespace DL
open PySem PySem.Spec PyProof.Rows L2

theorem PEimp {X : Cx} {e : Expr} {t t' : TE} (h : PE X e t) (hi : ∀ σ H Q, t' σ H Q → t σ H Q) : PE X e t' := ⟨fun pins s σ H Q I q => h.run pins s σ H Q I (hi _ _ _ q)⟩
theorem PTimp {X : Cx} {e : Expr} {t t' : TT} (h : PT X e t) (hi : ∀ σ H Q, t' σ H Q → t σ H Q) : PT X e t' := ⟨fun pins s σ H Q I q => h.run pins s σ H Q I (hi _ _ _ q)⟩
theorem PWimp {X : Cx} {e : Expr} {t t' : TT} (h : PW X e t) (hi : ∀ σ H Q, t' σ H Q → t σ H Q) : PW X e t' := ⟨fun wh pins s σ H Q I q => h.run wh pins s σ H Q I (hi _ _ _ q)⟩
theorem PAimp {X : Cx} {es : List Expr} {t t' : TA} (h : PA X es t) (hi : ∀ σ H Q, t' σ H Q → t σ H Q) : PA X es t' := ⟨fun pos pins s σ H Q I q => h.run pos pins s σ H Q I (hi _ _ _ q)⟩
theorem POimp {X : Cx} {e : Option Expr} {t t' : TO} (h : PO X e t) (hi : ∀ σ H Q, t' σ H Q → t σ H Q) : PO X e t' := ⟨fun pins s σ H Q I q => h.run pins s σ H Q I (hi _ _ _ q)⟩

/-! ### views -/
/-- a list of the store as its items -/
def view (d : D) (st : S) : D := match d with
  | .ref i => (match st[i]? with
    | some (.lst ds) => .lst ds
    | _ => .ref i)
  | d => d
@[simp] theorem view_non (st : S) : view .non st = .non := rfl
@[simp] theorem view_bl (b : Bool) (st : S) : view (.bl b) st = .bl b := rfl
@[simp] theorem view_int (i : Int) (st : S) : view (.int i) st = .int i := rfl
@[simp] theorem view_str (x : Str) (st : S) : view (.str x) st = .str x := rfl
@[simp] theorem view_lst (ds : List D) (st : S) : view (.lst ds) st = .lst ds := rfl
@[simp] theorem view_tup (ds : List D) (st : S) : view (.tup ds) st = .tup ds := rfl
@[simp] theorem view_pr (a b : D) (st : S) : view (.pr a b) st = .pr a b := rfl
@[simp] theorem view_ty (n : String) (st : S) : view (.ty n) st = .ty n := rfl
@[simp] theorem view_scr (ns : List Int) (st : S) : view (.scr ns) st = .scr ns := rfl
@[simp] theorem view_cls (c : Nat) (st : S) : view (.cls c) st = .cls c := rfl
@[simp] theorem view_dic (ks : List Key) (ds : List D) (st : S) : view (.dic ks ds) st = .dic ks ds := rfl
@[simp] theorem view_ob (c : Nat) (ns : List Str) (ds : List D) (st : S) : view (.ob c ns ds) st = .ob c ns ds := rfl
section
variable {K : PySem.W.Frag} {cl : Cl} {E : XK} {W W' : Wd} {ρ : Ev} {σ : L2.St} {st : S} {H H' : Hp} {v : V} {d : D} {ds : List D}
theorem view_cases (d : D) (st : S) : (view d st = d) ∨ ∃ (i : Nat) (ds : List D), d = .ref i ∧ st[i]? = some (.lst ds) ∧ view d st = .lst ds := by
  cases d with
  | ref i =>
    unfold view
    dsimp only
    split
    · rename_i e; exact .inr ⟨i, _, rfl, e, rfl⟩
    · exact .inl rfl
  | _ => exact .inl rfl
theorem ORp.grow (o : ORp K cl ρ σ W v d) (g : Grow W H W') : ORp K cl ρ σ W' v d := by
  rcases o with o | o
  · exact .inl (o.grow g)
  · exact .inr o
theorem lst_of (s : SatS K cl W st H) (l : SatL K cl W ρ σ H) (o : ORp K cl ρ σ W v d) (e : view d st = .lst ds) : ∃ a vs, v = .ref a ∧ H a = some (.lst vs) ∧ RpAll K cl W vs ds := by
  rcases o with o | ⟨i, es, rfl, h1, h2⟩
  · rcases view_cases d st with h | ⟨i, es, rfl, h1, h2⟩
    · rw [h] at e
      subst e
      cases o with
      | lst hf r => exact ⟨_, _, rfl, s.ex _ _ hf, r⟩
    · rw [h2] at e
      cases e
      cases o with
      | ref ha =>
        obtain ⟨a, h3, vs, h4, h5⟩ := s.mo i _ h1
        rw [ha] at h3
        cases h3
        exact ⟨_, vs, rfl, h4, h5⟩
  · cases e
    obtain ⟨p, vs, h3, h4, _, _, h5⟩ := l.own i _ h1
    rw [h2] at h3
    cases h3
    exact ⟨p, vs, rfl, h4, h5⟩
theorem rp_of_flat (o : ORp K cl ρ σ W v d) (e : view d st = d) (n : ∀ ds, d ≠ .lst ds) : Rp K cl W v d := by
  rcases o with o | ⟨i, es, rfl, h1, h2⟩
  · exact o
  · exact absurd rfl (n es)
theorem view_ne (d' : D) (n : ∀ ds, d' ≠ .lst ds) (e : view d st = d') : d = d' := by
  rcases view_cases d st with h | ⟨i, es, rfl, h1, h2⟩
  · rw [h] at e; exact e
  · rw [h2] at e; exact absurd e.symm (n es)
theorem tup_of (s : SatS K cl W st H) (o : ORp K cl ρ σ W v d) (e : view d st = .tup ds) : ∃ a vs, v = .ref a ∧ SqT K H a vs ∧ RpAll K cl W vs ds ∧ Rp K cl W v (.tup ds) := by
  have h := view_ne (.tup ds) (fun _ z => nomatch z) e
  subst h
  have r := rp_of_flat o e (fun _ z => nomatch z)
  cases r with
  | tup hf r' => exact ⟨_, _, rfl, same_sqt s.ex hf.1, r', .tup hf r'⟩
theorem scr_of {ns : List Int} (s : SatS K cl W st H) (o : ORp K cl ρ σ W v d) (e : view d st = .scr ns) : ∃ a, v = .ref a ∧ SqL K H a (ns.map V.int) := by
  have h := view_ne (.scr ns) (fun _ z => nomatch z) e
  subst h
  have r := rp_of_flat o e (fun _ z => nomatch z)
  cases r with
  | scr hf => exact ⟨_, rfl, same_sql s.ex hf⟩
theorem int_of {i : Int} (o : ORp K cl ρ σ W v d) (e : view d st = .int i) : v = .int i := by
  have h := view_ne (.int i) (fun _ z => nomatch z) e
  subst h
  have r := rp_of_flat o e (fun _ z => nomatch z)
  cases r
  rfl
theorem str_of {i : Str} (o : ORp K cl ρ σ W v d) (e : view d st = .str i) : v = .str i := by
  have h := view_ne (.str i) (fun _ z => nomatch z) e
  subst h
  have r := rp_of_flat o e (fun _ z => nomatch z)
  cases r
  rfl
theorem bl_of {i : Bool} (o : ORp K cl ρ σ W v d) (e : view d st = .bl i) : v = .bl i := by
  have h := view_ne (.bl i) (fun _ z => nomatch z) e
  subst h
  have r := rp_of_flat o e (fun _ z => nomatch z)
  cases r
  rfl
theorem non_of (o : ORp K cl ρ σ W v d) (e : view d st = .non) : v = .non := by
  have h := view_ne .non (fun _ z => nomatch z) e
  subst h
  have r := rp_of_flat o e (fun _ z => nomatch z)
  cases r
  rfl
theorem ty_of {n : String} (o : ORp K cl ρ σ W v d) (e : view d st = .ty n) : v = .ty n := by
  have h := view_ne (.ty n) (fun _ z => nomatch z) e
  subst h
  have r := rp_of_flat o e (fun _ z => nomatch z)
  cases r
  rfl
end

/-! ### names, constants, coercions -/
def dVar (i : Nat) : Ev → S → R D := fun ρ st => match ρ[i]? with
  | some (.sh d) => .ok d st
  | _ => .stuck
def dOwn (i : Nat) : Ev → S → R D := fun ρ st => match ρ[i]? with
  | some (.own ds) => .ok (.lst ds) st
  | _ => .stuck
def dC (d : D) : Ev → S → R D := fun _ st => .ok d st
section
variable {X : Cx} {cl : Cl} {E : XK}
theorem dv_var (i : Nat) {x : Str} {pos : Pos} (h : PE X (.Name x pos) (tVar i)) : DV X cl E (.Name x pos) (dVar i) := by
  refine PEimp h fun σ H Q h => ?_
  obtain ⟨W, ρ, st, s, l, h⟩ := h
  unfold dVar at h
  split at h
  · rename_i d e
    obtain ⟨v, h1, h2⟩ := l.sh i d e
    exact ⟨v, h1, h.now s h2⟩
  · exact h.elim
theorem do_own (i : Nat) {x : Str} {pos : Pos} (h : PE X (.Name x pos) (tVar i)) : DO X cl E (.Name x pos) (dOwn i) := by
  refine PEimp h fun σ H Q h => ?_
  obtain ⟨W, ρ, st, s, l, h⟩ := h
  unfold dOwn at h
  split at h
  · rename_i ds e
    obtain ⟨p, vs, h1, h2, h3, h4, h5⟩ := l.own i ds e
    exact ⟨.ref p, h1, h.now s (.inr ⟨i, ds, rfl, e, h1⟩)⟩
  · exact h.elim
theorem dv_c {e : Expr} {v : V} {d : D} (h : PE X e (tC v)) (r : ∀ W, Rp X.K cl W v d) : DV X cl E e (dC d) := by
  refine PEimp h fun σ H Q h => ?_
  obtain ⟨W, ρ, st, s, l, h⟩ := h
  exact h.now s (r W)
theorem dv_int {i : Int} {j : Nat} {pos : Pos} : DV X cl E (.Constant (.int i) j pos) (dC (.int i)) := dv_c pe_int fun _ => .int i
theorem dv_str {x : Str} {j : Nat} {pos : Pos} : DV X cl E (.Constant (.str x) j pos) (dC (.str x)) := dv_c pe_str fun _ => .str x
theorem dv_bl {b : Bool} {j : Nat} {pos : Pos} : DV X cl E (.Constant (.bool b) j pos) (dC (.bl b)) := dv_c pe_bl fun _ => .bl b
theorem dv_non {j : Nat} {pos : Pos} : DV X cl E (.Constant .none j pos) (dC .non) := dv_c pe_non fun _ => .non
/-- a datum as an operand -/
theorem DVo {e : Expr} {f : Ev → S → R D} (h : DV X cl E e f) : DO X cl E e f := by
  refine PEimp h fun σ H Q h => ?_
  obtain ⟨W, ρ, st, s, l, h⟩ := h
  exact ⟨W, ρ, st, s, l, h.imp (fun _ _ _ r => .inl r) fun _ _ q => q⟩
end

/-! ### operators -/
def rD (K : PySem.W.Frag) (cl : Cl) (E : XK) (o : D → D → S → R D) : R2 := fun x y H Q => ∃ W ρ σ st dx dy, SatS K cl W st H ∧ SatL K cl W ρ σ H ∧ ORp K cl ρ σ W x dx ∧ ORp K cl ρ σ W y dy ∧ Aft K cl E (Rp K cl) W H (o dx dy st) Q
def dBin (o : D → D → S → R D) (fa fb : Ev → S → R D) : Ev → S → R D := fun ρ st => (fa ρ st).bind fun x st1 => (fb ρ st1).bind fun y st2 => o x y st2
section
variable {X : Cx} {cl : Cl} {E : XK} {fa fb fc : Ev → S → R D} {o o' : D → D → S → R D} {a b c : Expr} {pos : Pos}
theorem rd_op {K : PySem.W.Frag} {σ : L2.St} {H : Hp} {Q : VK} (h : liftV K cl E (dBin o fa fb) σ H Q) : tOp (rD K cl E o) (liftO K cl E fa) (liftO K cl E fb) σ H Q := by
  obtain ⟨W, ρ, st, s, l, h⟩ := h
  refine ⟨W, ρ, st, s, l, (Aft.peel h).imp (fun _ _ _ r => r) ?_⟩
  rintro x H1 ⟨dx, st1, W1, g1, k1, s1, r1, h1⟩
  refine ⟨W1, ρ, st1, s1, l.keep g1 k1, (Aft.peel h1).imp (fun _ _ _ r => r) ?_⟩
  rintro y H2 ⟨dy, st2, W2, g2, k2, s2, r2, h2⟩
  exact ⟨W2, ρ, σ, st2, dx, dy, s2, (l.keep g1 k1).keep g2 k2, r1.grow g2, r2, h2⟩
theorem dv_op {op : Operator} (ho : OpR X (binaryOp op) (rD X.K cl E o)) (ha : DO X cl E a fa) (hb : DO X cl E b fb) : DV X cl E (.BinOp a op b pos) (dBin o fa fb) := PEimp (pe_op ho ha hb) fun _ _ _ h => rd_op h
theorem dv_cmp {op : CmpOp} (ho : OpR X (compareOp op) (rD X.K cl E o)) (ha : DO X cl E a fa) (hb : DO X cl E b fb) (hm : behindInMarks op b = false) : DV X cl E (.Compare a [op] [b] pos) (dBin o fa fb) := PEimp (pe_cmpR ho ha hb hm) fun _ _ _ h => rd_op h

def addD (dx dy : D) (st : S) : R D := match view dx st, view dy st with
  | .int i, .int j => .ok (.int (i + j)) st
  | .str x, .str y => if x.length + y.length ≤ sizeLine then .ok (.str (x ++ y)) st else .stuck
  | .lst x, .lst y => if x.length + y.length ≤ sizeLine then .ok (.lst (x ++ y)) st else .stuck
  | .tup x, .tup y => if x.length + y.length ≤ sizeLine then .ok (.tup (x ++ y)) st else .stuck
  | _, _ => .stuck
theorem op_addD : OpR X (binaryOp .Add) (rD X.K cl E addD) := by
  rintro pins s σ H x y v u Q I rx ry ⟨W, ρ, σ', st, dx, dy, s0, l0, ox, oy, h⟩
  unfold addD at h
  split at h
  · rename_i i j e1 e2
    exact op_add pins s σ H x y v u Q I rx ry ⟨i, j, int_of ox e1, int_of oy e2, h.now s0 (.int _)⟩
  · rename_i i j e1 e2
    split at h
    · rename_i hl
      exact op_add_str pins s σ H x y v u Q I rx ry ⟨i, j, str_of ox e1, str_of oy e2, hl, h.now s0 (.str _)⟩
    · exact h.elim
  · rename_i i j e1 e2
    split at h
    · rename_i hl
      obtain ⟨p, vs, rfl, h1, h2⟩ := lst_of s0 l0 ox e1
      obtain ⟨q, us, rfl, h3, h4⟩ := lst_of s0 l0 oy e2
      exact op_cat pins s σ H _ _ v u Q I rx ry ⟨p, q, vs, us, rfl, rfl, h1, h3, by rw [h2.length, h4.length]; exact hl, fun r hn => h.newL s0 (h2.append h4) hn⟩
    · exact h.elim
  · rename_i i j e1 e2
    split at h
    · rename_i hl
      obtain ⟨p, vs, rfl, h1, h2, h2'⟩ := tup_of s0 ox e1
      obtain ⟨q, us, rfl, h3, h4, h4'⟩ := tup_of s0 oy e2
      refine op_catF pins s σ H _ _ v u Q I rx ry ⟨p, q, vs, us, rfl, rfl, h1, h3, by rw [h2.length, h4.length]; exact hl, fun z => ?_, fun _ z => ?_, fun _ _ => h.newT s0 (h2.append h4)⟩
      · have e : i = [] := by
          have := h2.length
          rw [z] at this
          exact List.length_eq_zero_iff.mp this.symm
        subst e
        exact h.now s0 h4'
      · have e : j = [] := by
          have := h4.length
          rw [z] at this
          exact List.length_eq_zero_iff.mp this.symm
        subst e
        rw [List.append_nil] at h
        exact h.now s0 h2'
    · exact h.elim
  · exact h.elim
/-- two ints -/
def intD (c : Int → Int → Bool) (g : Int → Int → D) (dx dy : D) (st : S) : R D := match view dx st, view dy st with
  | .int i, .int j => if c i j then .ok (g i j) st else .stuck
  | _, _ => .stuck
theorem op_intD {f : Value → Value → Sem Value} {C : Int → Int → Prop} {gV : Int → Int → V} {c : Int → Int → Bool} {g : Int → Int → D} (ho : OpR X f (rI C gV)) (hc : ∀ i j, c i j = true → C i j) (hg : ∀ W i j, Rp X.K cl W (gV i j) (g i j)) : OpR X f (rD X.K cl E (intD c g)) := by
  rintro pins s σ H x y v u Q I rx ry ⟨W, ρ, σ', st, dx, dy, s0, l0, ox, oy, h⟩
  unfold intD at h
  split at h
  · rename_i i j e1 e2
    split at h
    · rename_i hl
      exact ho pins s σ H x y v u Q I rx ry ⟨i, j, int_of ox e1, int_of oy e2, hc i j hl, h.now s0 (hg W i j)⟩
    · exact h.elim
  · exact h.elim
theorem op_I0 {f : Value → Value → Sem Value} {gV : Int → Int → V} (ho : OpR X f (rI0 gV)) : OpR X f (rI (fun _ _ => True) gV) := by
  rintro pins s σ H x y v u Q I rx ry ⟨i, j, e1, e2, _, q⟩
  exact ho pins s σ H x y v u Q I rx ry ⟨i, j, e1, e2, q⟩
def subD : D → D → S → R D := intD (fun _ _ => true) fun i j => .int (i - j)
theorem op_subD : OpR X (binaryOp .Sub) (rD X.K cl E subD) := op_intD (op_I0 op_sub) (fun _ _ _ => trivial) fun _ _ _ => .int _
def mulC (i j : Int) : Bool := (decide (-2 ^ 64 < i) && decide (i < 2 ^ 64)) || (decide (-2 ^ 64 < j) && decide (j < 2 ^ 64))
theorem mulC_ok {i j : Int} (h : mulC i j = true) : CMul i j := by
  unfold mulC at h
  simp only [Bool.or_eq_true, Bool.and_eq_true, decide_eq_true_eq] at h
  exact h
/-- ints; a list so many times -/
def mulD (dx dy : D) (st : S) : R D := match view dx st, view dy st with
  | .int i, .int j => if mulC i j then .ok (.int (i * j)) st else .stuck
  | .lst x, .int k => if decide (0 ≤ k) && (decide (k < 2 ^ 63) && decide (x.length * k.toNat ≤ sizeLine)) then .ok (.lst (List.replicate k.toNat x).flatten) st else .stuck
  | _, _ => .stuck
theorem RpAll.rep {K : PySem.W.Frag} {cl : Cl} {W : Wd} {vs : List V} {ds : List D} (r : RpAll K cl W vs ds) : ∀ n : Nat, RpAll K cl W (List.replicate n vs).flatten (List.replicate n ds).flatten
  | 0 => .nil
  | n + 1 => by
    rw [List.replicate_succ, List.replicate_succ, List.flatten_cons, List.flatten_cons]
    exact r.append (RpAll.rep r n)
theorem op_mulD : OpR X (binaryOp .Mult) (rD X.K cl E mulD) := by
  rintro pins s σ H x y v u Q I rx ry ⟨W, ρ, σ', st, dx, dy, s0, l0, ox, oy, h⟩
  unfold mulD at h
  split at h
  · rename_i i j e1 e2
    split at h
    · rename_i hl
      exact op_mul pins s σ H x y v u Q I rx ry ⟨i, j, int_of ox e1, int_of oy e2, mulC_ok hl, h.now s0 (.int _)⟩
    · exact h.elim
  · rename_i i j e1 e2
    split at h
    · rename_i hl
      simp only [Bool.and_eq_true, decide_eq_true_eq] at hl
      obtain ⟨p, vs, rfl, h1, h2⟩ := lst_of s0 l0 ox e1
      exact op_rep pins s σ H _ _ v u Q I rx ry ⟨p, j, vs, rfl, int_of oy e2, h1, by omega, hl.2.1, by rw [h2.length]; exact hl.2.2, fun r hn => h.newL s0 (h2.rep _) hn⟩
    · exact h.elim
  · exact h.elim
def fdivD : D → D → S → R D := intD (fun _ j => decide (0 < j) && decide (j < 1073741824)) fun i j => .int (i / j)
theorem op_fdivD : OpR X (binaryOp .FloorDiv) (rD X.K cl E fdivD) := by
  rintro pins s σ H x y v u Q I rx ry ⟨W, ρ, σ', st, dx, dy, s0, l0, ox, oy, h⟩
  unfold fdivD intD at h
  split at h
  · rename_i i j e1 e2
    split at h
    · rename_i hl
      simp only [Bool.and_eq_true, decide_eq_true_eq] at hl
      refine op_fdivN pins s σ H x y v u Q I rx ry ⟨i, j, int_of ox e1, int_of oy e2, ⟨by omega, by omega⟩, ?_⟩
      show Q (.int (i.fdiv j)) H
      rw [Int.fdiv_eq_ediv_of_nonneg i (by omega)]
      exact h.now s0 (.int _)
    · exact h.elim
  · exact h.elim
def modD : D → D → S → R D := intD (fun _ j => decide (0 < j)) fun i j => .int (i % j)
theorem op_modD : OpR X (binaryOp .Mod) (rD X.K cl E modD) := by
  rintro pins s σ H x y v u Q I rx ry ⟨W, ρ, σ', st, dx, dy, s0, l0, ox, oy, h⟩
  unfold modD intD at h
  split at h
  · rename_i i j e1 e2
    split at h
    · rename_i hl
      simp only [decide_eq_true_eq] at hl
      refine op_modN pins s σ H x y v u Q I rx ry ⟨i, j, int_of ox e1, int_of oy e2, by omega, ?_⟩
      show Q (.int (i.fmod j)) H
      rw [Int.fmod_eq_emod_of_nonneg i (by omega)]
      exact h.now s0 (.int _)
    · exact h.elim
  · exact h.elim
def powD : D → D → S → R D := intD (fun i j => decide (0 ≤ j) && (decide (j ≤ 1000000) && decide (i.natAbs < 2 ^ 64))) fun i j => .int (i ^ j.toNat)
theorem op_powD : OpR X (binaryOp .Pow) (rD X.K cl E powD) := op_intD op_pow (fun i j h => by
  simp only [Bool.and_eq_true, decide_eq_true_eq] at h
  exact h) fun _ _ _ => .int _

/-! ### order -/
def ltS (a b : Str) : Bool := decide (a.cps.toList < b.cps.toList)
def ltD (dx dy : D) (st : S) : R D := match view dx st, view dy st with
  | .int i, .int j => .ok (.bl (decide (i < j))) st
  | .str i, .str j => .ok (.bl (ltS i j)) st
  | _, _ => .stuck
theorem op_ltD : OpR X (compareOp .Lt) (rD X.K cl E ltD) := by
  rintro pins s σ H x y v u Q I rx ry ⟨W, ρ, σ', st, dx, dy, s0, l0, ox, oy, h⟩
  unfold ltD at h
  split at h
  · rename_i i j e1 e2
    exact op_lt pins s σ H x y v u Q I rx ry ⟨i, j, int_of ox e1, int_of oy e2, h.now s0 (.bl _)⟩
  · rename_i i j e1 e2
    exact op_lt_str pins s σ H x y v u Q I rx ry ⟨i, j, str_of ox e1, str_of oy e2, h.now s0 (.bl _)⟩
  · exact h.elim
def leD (dx dy : D) (st : S) : R D := match view dx st, view dy st with
  | .int i, .int j => .ok (.bl (decide (i ≤ j))) st
  | .str i, .str j => .ok (.bl (!ltS j i)) st
  | _, _ => .stuck
theorem op_leD : OpR X (compareOp .LtE) (rD X.K cl E leD) := by
  rintro pins s σ H x y v u Q I rx ry ⟨W, ρ, σ', st, dx, dy, s0, l0, ox, oy, h⟩
  unfold leD at h
  split at h
  · rename_i i j e1 e2
    exact op_le pins s σ H x y v u Q I rx ry ⟨i, j, int_of ox e1, int_of oy e2, h.now s0 (.bl _)⟩
  · rename_i i j e1 e2
    exact op_le_str pins s σ H x y v u Q I rx ry ⟨i, j, str_of ox e1, str_of oy e2, h.now s0 (.bl _)⟩
  · exact h.elim
def gtD : D → D → S → R D := intD (fun _ _ => true) fun i j => .bl (decide (j < i))
theorem op_gtD : OpR X (compareOp .Gt) (rD X.K cl E gtD) := op_intD (op_I0 op_gt) (fun _ _ _ => trivial) fun _ _ _ => .bl _
def geD : D → D → S → R D := intD (fun _ _ => true) fun i j => .bl (decide (j ≤ i))
theorem op_geD : OpR X (compareOp .GtE) (rD X.K cl E geD) := op_intD (op_I0 op_ge) (fun _ _ _ => trivial) fun _ _ _ => .bl _
/-- is None -/
def isND (dx dy : D) (st : S) : R D := match dx, dy with
  | .non, .non => .ok (.bl true) st
  | _, .non => .ok (.bl false) st
  | _, _ => .stuck
theorem ORp.non_iff {K : PySem.W.Frag} {W : Wd} {ρ : Ev} {σ : L2.St} {v : V} {d : D} {H : Hp} (l : SatL K cl W ρ σ H) (o : ORp K cl ρ σ W v d) : (decide (v = .non)) = (match d with | .non => true | _ => false) := by
  rcases o with o | ⟨i, es, rfl, h1, h2⟩
  · cases o <;> simp
  · obtain ⟨p, vs, h3, _⟩ := l.own i _ h1
    rw [h2] at h3
    cases h3
    simp
theorem op_isND : OpR X (compareOp .Is) (rD X.K cl E isND) := by
  rintro pins s σ H x y v u Q I rx ry ⟨W, ρ, σ', st, dx, dy, s0, l0, ox, oy, h⟩
  unfold isND at h
  have e := ox.non_iff l0
  split at h
  · exact op_isN pins s σ H x y v u Q I rx ry ⟨non_of (st := st) oy rfl, by rw [e]; exact h.now s0 (.bl _)⟩
  · refine op_isN pins s σ H x y v u Q I rx ry ⟨non_of (st := st) oy rfl, ?_⟩
    rw [e]
    cases dx <;> first | (rename_i z; exact (z rfl).elim) | exact h.now s0 (.bl _)
  · exact h.elim
def isNND (dx dy : D) (st : S) : R D := (isND dx dy st).bind fun z st => match z with
  | .bl b => .ok (.bl (!b)) st
  | _ => .stuck
end
end DL
set_option maxHeartbeats 4000000
/-! The data layer, part c: equality, membership, tests, displays, subscripts, built-ins. -/
namespace DL
open PySem PySem.Spec PyProof.Rows L2

/-! ### data of the library -/
mutual
def py : D → PyData
  | .non => .none
  | .bl b => .bool b
  | .int i => .int i
  | .str x => .str x
  | .lst ds => .list (pys ds)
  | .tup ds => .tuple (pys ds)
  | .pr _ _ => .none
  | .ref _ => .none
  | .ty _ => .none
  | .cls _ => .none
  | .scr _ => .none
  | .dic _ _ => .none
  | .ob _ _ _ => .none
def pys : List D → List PyData
  | [] => []
  | d :: ds => py d :: pys ds
end
mutual
def pur : D → Bool
  | .non => true
  | .bl _ => true
  | .int _ => true
  | .str _ => true
  | .lst ds => purs ds
  | .tup ds => purs ds
  | .pr _ _ => false
  | .ref _ => false
  | .ty _ => false
  | .cls _ => false
  | .scr _ => false
  | .dic _ _ => false
  | .ob _ _ _ => false
def purs : List D → Bool
  | [] => true
  | d :: ds => pur d && purs ds
end
/-- Python's == on data -/
def eqd (a b : D) : Bool := PyData.eqv (py a) (py b)
def flatD : D → Bool
  | .non => true
  | .bl _ => true
  | .int _ => true
  | .str _ => true
  | _ => false
theorem pys_eq : ∀ ds : List D, pys ds = ds.map py
  | [] => rfl
  | d :: ds => by unfold pys; rw [pys_eq ds]; rfl
/-- data that == may look at -/
def okd (d : D) : Bool := pur d && SeqAt.shaped (py d)
mutual
theorem Rp.dp {K : PySem.W.Frag} {cl : Cl} {W : Wd} {H : Hp} (hf : Same W.F H) : ∀ {v : V} {d : D}, Rp K cl W v d → pur d = true → Dp K H v (py d)
  | _, _, .non, _ => .non
  | _, _, .bl b, _ => .bl b
  | _, _, .int i, _ => .int i
  | _, _, .str x, _ => .str x
  | _, _, .lst h r, p => .lst (.inl (.inl (hf _ _ h))) (RpAll.dp hf r (by unfold pur at p; exact p))
  | _, _, .tup h r, p => .tup (same_sqt hf h.1) (RpAll.dp hf r (by unfold pur at p; exact p))
  | _, _, .pr _ _ _, p => by unfold pur at p; cases p
  | _, _, .ref _, p => by unfold pur at p; cases p
  | _, _, .ty _, p => by unfold pur at p; cases p
  | _, _, .cls _, p => by unfold pur at p; cases p
  | _, _, .scr _, p => by unfold pur at p; cases p
  | _, _, .dic _ _ _, p => by unfold pur at p; cases p
  | _, _, .ob _ _ _, p => by unfold pur at p; cases p
theorem RpAll.dp {K : PySem.W.Frag} {cl : Cl} {W : Wd} {H : Hp} (hf : Same W.F H) : ∀ {vs : List V} {ds : List D}, RpAll K cl W vs ds → purs ds = true → DpAll K H vs (pys ds)
  | _, _, .nil, _ => .nil
  | _, _, .cons h r, p => by
    unfold purs at p
    rw [Bool.and_eq_true] at p
    exact .cons (Rp.dp hf h p.1) (RpAll.dp hf r p.2)
end
section
variable {K : PySem.W.Frag} {cl : Cl} {E : XK} {W W' : Wd} {ρ : Ev} {σ : L2.St} {st : S} {H H' : Hp} {v : V} {d : D} {ds : List D}
theorem view_self (n : ∀ ds, view d st ≠ .lst ds) : view d st = d := by
  rcases view_cases d st with h | ⟨i, es, rfl, h1, h2⟩
  · exact h
  · exact absurd h2 (n es)
theorem dp_view (s : SatS K cl W st H) (l : SatL K cl W ρ σ H) (o : ORp K cl ρ σ W v d) (p : pur (view d st) = true) : Dp K H v (py (view d st)) := by
  by_cases h : ∃ ds, view d st = .lst ds
  · obtain ⟨ds, e⟩ := h
    obtain ⟨a, vs, rfl, h1, h2⟩ := lst_of s l o e
    rw [e] at p ⊢
    exact .lst (.inl (.inl h1)) (h2.dp s.ex (by unfold pur at p; exact p))
  · have e := view_self fun ds z => h ⟨ds, z⟩
    rw [e] at p ⊢
    exact Rp.dp s.ex (rp_of_flat o e fun ds z => h ⟨ds, by rw [e]; exact z⟩) p
theorem rp_flatV {W : Wd} {v : V} {d : D} (r : Rp K cl W v d) (f : flatD d = true) : flatV v = true := by
  cases r <;> first | rfl | (simp [flatD] at f)
theorem eqV_eqd {W : Wd} {v u : V} {d e : D} (r : Rp K cl W v d) (q : Rp K cl W u e) (f : flatD d = true) (g : flatD e = true) : eqV v u = eqd d e := by
  cases d <;> first
    | (simp [flatD] at f; done)
    | (cases r; cases e <;> first
      | (simp [flatD] at g; done)
      | (cases q; simp only [eqd, eqV, py, PyData.eqv]))
theorem inV_eqd {W : Wd} {u : V} {e : D} (q : Rp K cl W u e) (g : flatD e = true) : ∀ {vs : List V} {ds : List D}, RpAll K cl W vs ds → ds.all flatD = true → inV u vs = ds.any fun z => eqd z e
  | _, _, .nil, _ => rfl
  | _, _, .cons h r, f => by
    rw [List.all_cons, Bool.and_eq_true] at f
    have ih := inV_eqd q g r f.2
    unfold inV at ih ⊢
    rw [List.any_cons, List.any_cons, ih, eqV_eqd h q f.1 g]
theorem all_flatV : ∀ {vs : List V} {ds : List D}, RpAll K cl W vs ds → ds.all flatD = true → vs.all flatV = true
  | _, _, .nil, _ => rfl
  | _, _, .cons h r, f => by
    rw [List.all_cons, Bool.and_eq_true] at f ⊢
    exact ⟨rp_flatV h f.1, all_flatV r f.2⟩
end

/-! ### == and in -/
def eqD (dx dy : D) (st : S) : R D := match view dx st, view dy st with
  | .str a, .str b => .ok (.bl (decide (a = b))) st
  | .int a, .int b => .ok (.bl (decide (a = b))) st
  | a, b => if okd a && okd b then .ok (.bl (eqd a b)) st else .stuck
def neD (dx dy : D) (st : S) : R D := match view dx st, view dy st with
  | .str a, .str b => .ok (.bl (!decide (a = b))) st
  | .int a, .int b => .ok (.bl (!decide (a = b))) st
  | a, b => if okd a && okd b then .ok (.bl (!eqd a b)) st else .stuck
/-- a text in a text -/
def inS (x z : Str) : Bool := match x.cps.toList with
  | [c] => decide (c ∈ z.cps.toList)
  | _ => !(Builtin.Str.occurrences z x 0 z.length 1).isEmpty
def inD (dx dy : D) (st : S) : R D := match view dy st with
  | .lst ds => if (flatD dx && ds.all flatD) || (okd (view dx st) && okd (.lst ds)) then .ok (.bl (ds.any fun z => eqd z (view dx st))) st else .stuck
  | .tup ds => if flatD dx && ds.all flatD then .ok (.bl (ds.any fun z => eqd z dx)) st else .stuck
  | .str z => (match view dx st with
    | .str x => .ok (.bl (inS x z)) st
    | _ => .stuck)
  | _ => .stuck
def notR (r : R D) : R D := match r with
  | .ok (.bl b) st => .ok (.bl (!b)) st
  | .ok _ _ => .stuck
  | .stuck => .stuck
  | .ex x st => .ex x st
def nInD (dx dy : D) (st : S) : R D := notR (inD dx dy st)
section
variable {X : Cx} {cl : Cl} {E : XK}
theorem op_eqDD (hu : X.A.units + 64 < cLine) : OpR X (compareOp .Eq) (rD X.K cl E eqD) := by
  rintro pins s σ H x y v u Q I rx ry ⟨W, ρ, σ', st, dx, dy, s0, l0, ox, oy, h⟩
  unfold eqD at h
  split at h
  · rename_i i j e1 e2
    have ex := str_of ox e1
    have ey := str_of oy e2
    subst ex ey
    refine op_eq pins s σ H _ _ v u Q I rx ry ⟨rfl, ?_⟩
    have e : decide (V.str i = V.str j) = decide (i = j) := decide_eq_decide.mpr ⟨fun z => V.str.inj z, fun z => congrArg V.str z⟩
    rw [e]
    exact h.now s0 (.bl _)
  · rename_i i j e1 e2
    have ex := int_of ox e1
    have ey := int_of oy e2
    subst ex ey
    refine op_eq pins s σ H _ _ v u Q I rx ry ⟨rfl, ?_⟩
    have e : decide (V.int i = V.int j) = decide (i = j) := decide_eq_decide.mpr ⟨fun z => V.int.inj z, fun z => congrArg V.int z⟩
    rw [e]
    exact h.now s0 (.bl _)
  · split at h
    · rename_i hk
      unfold okd at hk
      simp only [Bool.and_eq_true] at hk
      exact op_eqD hu pins s σ H x y v u Q I rx ry ⟨_, _, dp_view s0 l0 ox hk.1.1, dp_view s0 l0 oy hk.2.1, hk.1.2, hk.2.2, h.now s0 (.bl _)⟩
    · exact h.elim
theorem op_neDD (hu : X.A.units + 64 < cLine) : OpR X (compareOp .NotEq) (rD X.K cl E neD) := by
  rintro pins s σ H x y v u Q I rx ry ⟨W, ρ, σ', st, dx, dy, s0, l0, ox, oy, h⟩
  unfold neD at h
  split at h
  · rename_i i j e1 e2
    have ex := str_of ox e1
    have ey := str_of oy e2
    subst ex ey
    refine op_ne pins s σ H _ _ v u Q I rx ry ⟨rfl, ?_⟩
    have e : decide (V.str i = V.str j) = decide (i = j) := decide_eq_decide.mpr ⟨fun z => V.str.inj z, fun z => congrArg V.str z⟩
    rw [e]
    exact h.now s0 (.bl _)
  · rename_i i j e1 e2
    have ex := int_of ox e1
    have ey := int_of oy e2
    subst ex ey
    refine op_ne pins s σ H _ _ v u Q I rx ry ⟨rfl, ?_⟩
    have e : decide (V.int i = V.int j) = decide (i = j) := decide_eq_decide.mpr ⟨fun z => V.int.inj z, fun z => congrArg V.int z⟩
    rw [e]
    exact h.now s0 (.bl _)
  · split at h
    · rename_i hk
      unfold okd at hk
      simp only [Bool.and_eq_true] at hk
      exact op_neD hu pins s σ H x y v u Q I rx ry ⟨_, _, dp_view s0 l0 ox hk.1.1, dp_view s0 l0 oy hk.2.1, hk.1.2, hk.2.2, h.now s0 (.bl _)⟩
    · exact h.elim
theorem flat_view {dx : D} {st : S} (f : flatD dx = true) : view dx st = dx := by cases dx <;> first | rfl | cases f
theorem any_py (ds : List D) (d : D) : ((pys ds).any fun z => PyData.eqv z (py d)) = ds.any fun z => eqd z d := by
  rw [pys_eq, List.any_map]; rfl
/-- the core of in and not in: the rule for either, by the answer b ↦ g b -/
theorem in_core {op : CmpOp} {g : Bool → Bool} (o1 : OpR X (compareOp op) fun x y H Q => ∃ p xs, y = V.ref p ∧ (SqL X.K H p xs ∨ SqT X.K H p xs) ∧ flatV x = true ∧ xs.all flatV = true ∧ Q (.bl (g (inV x xs))) H)
    (o2 : OpR X (compareOp op) fun x y H Q => ∃ d ds, Dp X.K H x d ∧ Dp X.K H y (.list ds) ∧ SeqAt.shaped d = true ∧ SeqAt.shaped (.list ds) = true ∧ Q (.bl (g (ds.any fun z => PyData.eqv z d))) H)
    (o3 : OpR X (compareOp op) fun x y H Q => ∃ i j, x = V.str i ∧ y = V.str j ∧ Q (.bl (g (!(Builtin.Str.occurrences j i 0 j.length 1).isEmpty))) H)
    (o4 : OpR X (compareOp op) fun x y H Q => ∃ c z, x = V.str { cps := #[c] } ∧ y = V.str z ∧ Q (.bl (g (decide (c ∈ z.cps.toList)))) H) :
    OpR X (compareOp op) (rD X.K cl E fun dx dy st => (inD dx dy st).bind fun z st => match z with | .bl b => .ok (.bl (g b)) st | _ => .stuck) := by
  rintro pins s σ H x y v u Q I rx ry ⟨W, ρ, σ', st, dx, dy, s0, l0, ox, oy, h⟩
  unfold inD at h
  dsimp only at h
  split at h
  · rename_i ds e1
    obtain ⟨a, vs, rfl, h1, h2⟩ := lst_of s0 l0 oy e1
    split at h
    · rename_i hk
      rw [Bool.or_eq_true] at hk
      by_cases hf : (flatD dx && ds.all flatD) = true
      · rw [Bool.and_eq_true] at hf
        have ev : view dx st = dx := flat_view hf.1
        have r := rp_of_flat ox ev (fun es z => by rw [z] at hf; cases hf.1)
        refine o1 pins s σ H _ _ v u Q I rx ry ⟨a, vs, rfl, .inl (.inl (.inl h1)), rp_flatV r hf.1, all_flatV h2 hf.2, ?_⟩
        rw [inV_eqd r hf.1 h2 hf.2]
        rw [ev] at h
        exact Aft.now (a := D.bl _) h s0 (.bl _)
      · have hk := hk.resolve_left hf
        unfold okd at hk
        simp only [Bool.and_eq_true] at hk
        refine o2 pins s σ H _ _ v u Q I rx ry ⟨_, _, dp_view s0 l0 ox hk.1.1, .lst (.inl (.inl h1)) (h2.dp s0.ex (by have := hk.2.1; unfold pur at this; exact this)), hk.1.2, by have := hk.2.2; unfold py at this; exact this, ?_⟩
        rw [any_py]
        exact Aft.now (a := D.bl _) h s0 (.bl _)
    · exact h.elim
  · rename_i ds e1
    obtain ⟨a, vs, rfl, h1, h2, _⟩ := tup_of s0 oy e1
    split at h
    · rename_i hf
      rw [Bool.and_eq_true] at hf
      have ev : view dx st = dx := flat_view hf.1
      have r := rp_of_flat ox ev (fun es z => by rw [z] at hf; cases hf.1)
      refine o1 pins s σ H _ _ v u Q I rx ry ⟨a, vs, rfl, .inr h1, rp_flatV r hf.1, all_flatV h2 hf.2, ?_⟩
      rw [inV_eqd r hf.1 h2 hf.2]
      exact Aft.now (a := D.bl _) h s0 (.bl _)
    · exact h.elim
  · rename_i z e1
    have ey := str_of oy e1
    subst ey
    split at h
    · rename_i x' e2
      have ex := str_of ox e2
      subst ex
      unfold inS at h
      split at h
      · rename_i c ec
        have e3 : x' = ⟨#[c]⟩ := by
          cases x' with
          | mk cps =>
            have : cps = #[c] := by
              apply Array.ext'
              simpa using ec
            rw [this]
        subst e3
        exact o4 pins s σ H _ _ v u Q I rx ry ⟨c, z, rfl, rfl, Aft.now (a := D.bl _) h s0 (.bl _)⟩
      · exact o3 pins s σ H _ _ v u Q I rx ry ⟨x', z, rfl, rfl, Aft.now (a := D.bl _) h s0 (.bl _)⟩
    · exact h.elim
  · exact h.elim
theorem op_inDD (hu : X.A.units + 65 < cLine) : OpR X (compareOp .In) (rD X.K cl E inD) := by
  have h := in_core (X := X) (cl := cl) (E := E) (op := .In) (g := fun b => b) op_in_seq (op_inD hu) op_in_str op_in_sign
  rintro pins s σ H x y v u Q I rx ry ⟨W, ρ, σ', st, dx, dy, s0, l0, ox, oy, q⟩
  refine h pins s σ H x y v u Q I rx ry ⟨W, ρ, σ', st, dx, dy, s0, l0, ox, oy, ?_⟩
  cases e : inD dx dy st with
  | stuck => rw [e] at q; dsimp only; rw [e]; exact q
  | ex x st => rw [e] at q; dsimp only; rw [e]; exact q
  | ok z st2 =>
    have hz : ∃ b, z = .bl b := by
      unfold inD at e
      split at e
      · split at e <;> cases e; exact ⟨_, rfl⟩
      · split at e <;> cases e; exact ⟨_, rfl⟩
      · split at e <;> cases e; exact ⟨_, rfl⟩
      · cases e
    obtain ⟨b, rfl⟩ := hz
    rw [e] at q
    dsimp only
    rw [e]
    exact q
theorem op_nInDD (hu : X.A.units + 65 < cLine) : OpR X (compareOp .NotIn) (rD X.K cl E nInD) := by
  have h := in_core (X := X) (cl := cl) (E := E) (op := .NotIn) (g := fun b => !b) op_notIn_seq (op_notInD hu) op_notin_str op_notIn_sign
  rintro pins s σ H x y v u Q I rx ry ⟨W, ρ, σ', st, dx, dy, s0, l0, ox, oy, q⟩
  refine h pins s σ H x y v u Q I rx ry ⟨W, ρ, σ', st, dx, dy, s0, l0, ox, oy, ?_⟩
  unfold nInD at q
  cases e : inD dx dy st with
  | stuck => rw [e] at q; dsimp only; rw [e]; exact q
  | ex x st => rw [e] at q; dsimp only; rw [e]; exact q
  | ok z st2 =>
    have hz : ∃ b, z = .bl b := by
      unfold inD at e
      split at e
      · split at e <;> cases e; exact ⟨_, rfl⟩
      · split at e <;> cases e; exact ⟨_, rfl⟩
      · split at e <;> cases e; exact ⟨_, rfl⟩
      · cases e
    obtain ⟨b, rfl⟩ := hz
    rw [e] at q
    dsimp only
    rw [e]
    exact q
end

/-! ### tests -/
def tstD (d : D) (st : S) : R Bool := match view d st with
  | .non => .ok false st
  | .bl b => .ok b st
  | .int i => .ok (i != 0) st
  | .str x => if x.length ≤ sizeLine then .ok ((x.length : Int) != 0) st else .stuck
  | .lst ds => .ok (!ds.isEmpty) st
  | .tup ds => .ok (!ds.isEmpty) st
  | _ => .stuck
theorem isEmpty_of {K : PySem.W.Frag} {cl : Cl} {W : Wd} {vs : List V} {ds : List D} (r : RpAll K cl W vs ds) : vs.isEmpty = ds.isEmpty := by cases r <;> rfl
theorem tst_ok {K : PySem.W.Frag} {cl : Cl} {W : Wd} {ρ : Ev} {σ : L2.St} {st st' : S} {H : Hp} {v : V} {d : D} {b : Bool} (s : SatS K cl W st H) (l : SatL K cl W ρ σ H) (o : ORp K cl ρ σ W v d) (e : tstD d st = .ok b st') : TruV K v H b ∧ st' = st := by
  unfold tstD at e
  split at e
  · rename_i h
    rw [non_of o h]
    cases e
    exact ⟨rfl, rfl⟩
  · rename_i h
    rw [bl_of o h]
    cases e
    exact ⟨rfl, rfl⟩
  · rename_i h
    rw [int_of o h]
    cases e
    exact ⟨rfl, rfl⟩
  · rename_i h
    rw [str_of o h]
    split at e
    · rename_i hl
      cases e
      exact ⟨⟨hl, rfl⟩, rfl⟩
    · cases e
  · rename_i h
    obtain ⟨a, vs, rfl, h1, h2⟩ := lst_of s l o h
    cases e
    exact ⟨.inl ⟨vs, .inl (.inl h1), by rw [isEmpty_of h2]⟩, rfl⟩
  · rename_i h
    obtain ⟨a, vs, rfl, h1, h2, _⟩ := tup_of s o h
    cases e
    exact ⟨.inr (.inl ⟨vs, h1, by rw [isEmpty_of h2]⟩), rfl⟩
  · cases e
theorem tst_nex {d : D} {st st' : S} {x : Exn} (e : tstD d st = .ex x st') : False := by
  unfold tstD at e
  split at e <;> first | cases e | (split at e <;> cases e)
def dTst (f : Ev → S → R D) : Ev → S → R Bool := fun ρ st => (f ρ st).bind tstD
def dTB (f : Ev → S → R D) : Ev → S → R Bool := fun ρ st => (f ρ st).bind fun x st => match x with
  | .bl b => .ok b st
  | _ => .stuck
def tAndD (f g : Ev → S → R Bool) : Ev → S → R Bool := fun ρ st => (f ρ st).bind fun b st => if b then g ρ st else .ok false st
def tOrD (f g : Ev → S → R Bool) : Ev → S → R Bool := fun ρ st => (f ρ st).bind fun b st => if b then .ok true st else g ρ st
def tNotD (f : Ev → S → R Bool) : Ev → S → R Bool := fun ρ st => (f ρ st).bind fun b st => .ok (!b) st
def dAnd (f g : Ev → S → R D) : Ev → S → R D := fun ρ st => (f ρ st).bind fun x st => (tstD x st).bind fun b st => if b then g ρ st else .ok x st
def dOr (f g : Ev → S → R D) : Ev → S → R D := fun ρ st => (f ρ st).bind fun x st => (tstD x st).bind fun b st => if b then .ok x st else g ρ st
def dNot (f : Ev → S → R D) : Ev → S → R D := fun ρ st => (f ρ st).bind fun x st => (tstD x st).bind fun b st => .ok (.bl (!b)) st
def dIf (t : Ev → S → R Bool) (f g : Ev → S → R D) : Ev → S → R D := fun ρ st => (t ρ st).bind fun b st => if b then f ρ st else g ρ st
section
variable {X : Cx} {cl : Cl} {E : XK} {f fa fb fc : Ev → S → R D} {g t u : Ev → S → R Bool} {o o' : D → D → S → R D} {a b c e : Expr} {rest : List Expr} {pos : Pos}
theorem dt_val (h : DO X cl E e f) (he : ∀ whole, PySem.isTrue e X.env whole = (do let v ← whole; standAt e.pos; holding [v] (truthy v)) := by intro _; rfl) : DT X cl E e (dTst f) := by
  refine PTimp (pt_truth h he) fun σ H Q h => ?_
  obtain ⟨W, ρ, st, s, l, h⟩ := h
  refine ⟨W, ρ, st, s, l, (Aft.peel h).imp (fun _ _ _ r => r) ?_⟩
  rintro x H1 ⟨dx, st1, W1, g1, k1, s1, r1, h1⟩
  cases q : tstD dx st1 with
  | stuck => rw [q] at h1; exact h1.elim
  | ex x st => exact (tst_nex q).elim
  | ok b st2 =>
    obtain ⟨t1, rfl⟩ := tst_ok s1 (l.keep g1 k1) r1 q
    rw [q] at h1
    exact ⟨b, t1, h1.now s1 rfl⟩
theorem dt_cmp {op : CmpOp} (ho : OpR X (compareOp op) (rD X.K cl E o)) (ha : DO X cl E a fa) (hb : DO X cl E b fb) (hm : behindInMarks op b = false) : DT X cl E (.Compare a [op] [b] pos) (dTB (dBin o fa fb)) := by
  refine PTimp (pt_cmpR ho ha hb hm) fun σ H Q h => ?_
  show tOp (rD X.K cl E o) (liftO X.K cl E fa) (liftO X.K cl E fb) σ H fun x H' => ∃ k, x = V.bl k ∧ Q k H'
  refine rd_op ?_
  obtain ⟨W, ρ, st, s, l, h⟩ := h
  refine ⟨W, ρ, st, s, l, (Aft.peel h).imp (fun _ _ _ r => r) ?_⟩
  rintro x H1 ⟨dx, st1, W1, g1, k1, s1, r1, h1⟩
  cases dx with
  | bl b =>
    cases r1
    exact ⟨b, rfl, Aft.now (a := b) h1 s1 rfl⟩
  | _ => exact False.elim h1
theorem dw_and1 (ha : DT X cl E a t) : DW X cl E (.BoolOp .And [a] pos) t := pw_and1 ha
theorem dw_or1 (ha : DT X cl E a t) : DW X cl E (.BoolOp .Or [a] pos) t := pw_or1 ha
theorem dw_and (ha : DT X cl E a t) (hb : DW X cl E (.BoolOp .And (b :: rest) pos) u) : DW X cl E (.BoolOp .And (a :: b :: rest) pos) (tAndD t u) := by
  refine PWimp (pw_and ha hb) fun σ H Q h => ?_
  obtain ⟨W, ρ, st, s, l, h⟩ := h
  refine ⟨W, ρ, st, s, l, (Aft.peel h).imp (fun _ _ _ r => r) ?_⟩
  rintro x H1 ⟨dx, st1, W1, g1, k1, s1, rfl, h1⟩
  cases x with
  | true => exact ⟨W1, ρ, st1, s1, l.keep g1 k1, h1⟩
  | false => exact Aft.now (a := false) h1 s1 rfl
theorem dw_or (ha : DT X cl E a t) (hb : DW X cl E (.BoolOp .Or (b :: rest) pos) u) : DW X cl E (.BoolOp .Or (a :: b :: rest) pos) (tOrD t u) := by
  refine PWimp (pw_or ha hb) fun σ H Q h => ?_
  obtain ⟨W, ρ, st, s, l, h⟩ := h
  refine ⟨W, ρ, st, s, l, (Aft.peel h).imp (fun _ _ _ r => r) ?_⟩
  rintro x H1 ⟨dx, st1, W1, g1, k1, s1, rfl, h1⟩
  cases x with
  | false => exact ⟨W1, ρ, st1, s1, l.keep g1 k1, h1⟩
  | true => exact Aft.now (a := true) h1 s1 rfl
theorem DWt (h : DW X cl E e t) : DT X cl E e t := h.pt
theorem dt_not (ha : DT X cl E a t) : DT X cl E (.UnaryOp .Not a pos) (tNotD t) := by
  refine PTimp (pt_not ha) fun σ H Q h => ?_
  obtain ⟨W, ρ, st, s, l, h⟩ := h
  refine ⟨W, ρ, st, s, l, (Aft.peel h).imp (fun _ _ _ r => r) ?_⟩
  rintro x H1 ⟨dx, st1, W1, g1, k1, s1, rfl, h1⟩
  exact Aft.now (a := !x) h1 s1 rfl
/-- values -/
theorem dv_one {op : BoolOp} (h : DV X cl E a f) : DV X cl E (.BoolOp op [a] pos) f := pe_one h
theorem dv_and (ha : DV X cl E a fa) (hb : DV X cl E (.BoolOp .And (b :: rest) pos) fb) : DV X cl E (.BoolOp .And (a :: b :: rest) pos) (dAnd fa fb) := by
  refine PEimp (pe_andT ha hb) fun σ H Q h => ?_
  obtain ⟨W, ρ, st, s, l, h⟩ := h
  refine ⟨W, ρ, st, s, l, (Aft.peel h).imp (fun _ _ _ r => r) ?_⟩
  rintro x H1 ⟨dx, st1, W1, g1, k1, s1, r1, h1⟩
  cases q : tstD dx st1 with
  | stuck => rw [q] at h1; exact False.elim h1
  | ex x st => exact (tst_nex q).elim
  | ok b st2 =>
    obtain ⟨t1, rfl⟩ := tst_ok s1 (l.keep g1 k1) (.inl r1) q
    rw [q] at h1
    refine ⟨b, t1, ?_⟩
    cases b with
    | true => exact iteT ⟨W1, ρ, st2, s1, l.keep g1 k1, h1⟩
    | false => exact iteF (Aft.now (a := dx) h1 s1 r1)
theorem dv_if (hc : DT X cl E c t) (ha : DV X cl E a fa) (hb : DV X cl E b fb) : DV X cl E (.IfExp c a b pos) (dIf t fa fb) := by
  refine PEimp (pe_ifExp hc ha hb) fun σ H Q h => ?_
  obtain ⟨W, ρ, st, s, l, h⟩ := h
  refine ⟨W, ρ, st, s, l, (Aft.peel h).imp (fun _ _ _ r => r) ?_⟩
  rintro x H1 ⟨dx, st1, W1, g1, k1, s1, rfl, h1⟩
  cases x with
  | true => exact iteT ⟨W1, ρ, st1, s1, l.keep g1 k1, h1⟩
  | false => exact iteF ⟨W1, ρ, st1, s1, l.keep g1 k1, h1⟩
/-- a < b < c -/
def dChain (o o' : D → D → S → R D) (fa fb fc : Ev → S → R D) : Ev → S → R D := fun ρ st => (fa ρ st).bind fun x st => (fb ρ st).bind fun y st => (o x y st).bind fun z st => match z with
  | .bl true => (fc ρ st).bind fun w st => o' y w st
  | .bl false => .ok (.bl false) st
  | _ => .stuck
theorem rd_chain {K : PySem.W.Frag} {σ : L2.St} {H : Hp} {Q : VK} (h : liftV K cl E (dChain o o' fa fb fc) σ H Q) : tChain (rD K cl E o) (rD K cl E o') (liftO K cl E fa) (liftO K cl E fb) (liftO K cl E fc) σ H Q := by
  obtain ⟨W, ρ, st, s, l, h⟩ := h
  refine ⟨W, ρ, st, s, l, (Aft.peel h).imp (fun _ _ _ r => r) ?_⟩
  rintro x H1 ⟨dx, st1, W1, g1, k1, s1, r1, h1⟩
  refine ⟨W1, ρ, st1, s1, l.keep g1 k1, (Aft.peel h1).imp (fun _ _ _ r => r) ?_⟩
  rintro y H2 ⟨dy, st2, W2, g2, k2, s2, r2, h2⟩
  have l2 := (l.keep g1 k1).keep g2 k2
  refine ⟨W2, ρ, σ, st2, dx, dy, s2, l2, r1.grow g2, r2, (Aft.peel h2).imp (fun _ _ _ r => r) ?_⟩
  rintro z H3 ⟨dz, st3, W3, g3, k3, s3, r3, h3⟩
  have l3 := l2.keep g3 k3
  cases dz with
  | bl k =>
    cases r3
    refine ⟨k, rfl, ?_⟩
    cases k with
    | true =>
      refine iteT ⟨W3, ρ, st3, s3, l3, (Aft.peel h3).imp (fun _ _ _ r => r) ?_⟩
      rintro w H4 ⟨dw, st4, W4, g4, k4, s4, r4, h4⟩
      exact ⟨W4, ρ, σ, st4, dy, dw, s4, l3.keep g4 k4, (r2.grow g3).grow g4, r4, h4⟩
    | false => exact iteF (Aft.now (a := D.bl false) h3 s3 (.bl _))
  | _ => exact False.elim h3
theorem dt_chain {op op' : CmpOp} (ho : OpR X (compareOp op) (rD X.K cl E o)) (ho' : OpR X (compareOp op') (rD X.K cl E o')) (ha : DO X cl E a fa) (hb : DO X cl E b fb) (hc : DO X cl E c fc) (hm : lastMarks [op, op'] [b, c] = false := by rfl) : DT X cl E (.Compare a [op, op'] [b, c] pos) (dTB (dChain o o' fa fb fc)) := by
  refine PTimp (pt_chain ho ho' ha hb hc hm) fun σ H Q h => ?_
  show tChain (rD X.K cl E o) (rD X.K cl E o') (liftO X.K cl E fa) (liftO X.K cl E fb) (liftO X.K cl E fc) σ H fun x H' => ∃ k, x = V.bl k ∧ Q k H'
  refine rd_chain ?_
  obtain ⟨W, ρ, st, s, l, h⟩ := h
  refine ⟨W, ρ, st, s, l, (Aft.peel h).imp (fun _ _ _ r => r) ?_⟩
  rintro x H1 ⟨dx, st1, W1, g1, k1, s1, r1, h1⟩
  cases dx with
  | bl b =>
    cases r1
    exact ⟨b, rfl, Aft.now (a := b) h1 s1 rfl⟩
  | _ => exact False.elim h1
end
end DL
set_option maxHeartbeats 4000000
/-! The data layer, part d: arguments, displays, subscripts, slices, built-in functions. -/
namespace DL
open PySem PySem.Spec PyProof.Rows L2

/-! ### t[::-1] -/
section
variable {prog : Program} {w : World} {A : Around} {E : Value → Shared → Prop} {s : Shared}
theorem back_applied {sl : Addr} {vl vu vs : Value} {n : Nat} {Q : Int × Int × Nat → Shared → Prop} (hs : s.heap.IsSliceOf sl vl vu vs) (pl : IsPart vl none) (pu : IsPart vu none) (ps : IsPart vs (some (-1)))
    (h : Q ((n : Int) - 1, -1, n) s) : wpAny (model prog w) A (Builtin.Slice.sliceApplied (.ref sl) (pure (n : Int))) Q E s := by
  obtain ⟨so, h1, _, h3⟩ := id hs
  unfold Builtin.Slice.sliceApplied Builtin.Slice.sliceFields
  refine wpAny_bind (wpAny_bind (wpAny_field h1 h3 (x := vl) rfl (wpAny_bind (wpAny_field h1 h3 (x := vu) rfl (wpAny_bind (wpAny_field h1 h3 (x := vs) rfl (wpAny_pure ?_)))))))
  refine wpAny_bind (HT.slicePart_ ps ?_)
  show wpAny _ _ (if ((-1 : Int) == 0) = true then _ else _) _ _ s
  rw [if_neg (by decide)]
  refine wpAny_bind (HT.slicePart_ pl (wpAny_bind (HT.slicePart_ pu (wpAny_bind (wpAny_pure ?_)))))
  have e : Builtin.Slice.slicePlaces ((n : Int) - 1) (-1) (-1) = n := by
    unfold Builtin.Slice.slicePlaces
    rw [if_neg (by decide)]
    by_cases hn : n = 0
    · subst hn; rfl
    · rw [if_pos (by omega)]
      have : ((n : Int) - 1 - -1 - 1) / (- -1) = (n : Int) - 1 := by
        rw [show (- -1 : Int) = 1 by decide, Int.ediv_one]
        omega
      rw [this]
      omega
  show wpAny _ _ (pure ((n : Int) - 1, (-1 : Int), Builtin.Slice.slicePlaces ((n : Int) - 1) (-1) (-1))) _ _ s
  rw [e]
  exact wpAny_pure h
theorem back_pick (items : Array Value) : ((List.range items.size).filterMap fun (k : Nat) => items[((items.size : Int) - 1 + (k : Int) * -1).toNat]?).toArray = items.toList.reverse.toArray := by
  have e : ((List.range items.size).filterMap fun (k : Nat) => items[((items.size : Int) - 1 + (k : Int) * -1).toNat]?) = ((List.range items.size).map fun k => items.size - 1 - k).filterMap (items[·]?) := by
    rw [List.filterMap_map]
    congr 1
    funext k
    have e2 : ((items.size : Int) - 1 + (k : Int) * -1).toNat = items.size - 1 - k := by omega
    rw [e2]
    rfl
  rw [e, PySem.W.krv_range, List.filterMap_reverse, PySem.W.krv_all]
theorem back_tuple {u sl : Addr} {items : Array Value} {vl vu vs : Value} {Q : Value → Shared → Prop} (hu : IsTup s.heap u items) (hs : s.heap.IsSliceOf sl vl vu vs) (pl : IsPart vl none) (pu : IsPart vu none) (ps : IsPart vs (some (-1)))
    (h : Q (.ref s.heap.objs.size) { s with heap := s.heap.push { cls := .type "tuple", data := .seq items.toList.reverse.toArray } })
    (hsz : items.size ≤ sizeLine) : wpAny (model prog w) A (getItem (.ref u) (.ref sl)) Q E s := by
  have hok : sizeOk (.seq items.toList.reverse.toArray) := by
    show items.toList.reverse.toArray.size ≤ sizeLine
    rw [List.size_toArray, List.length_reverse, Array.length_toList]
    exact hsz
  obtain ⟨so, h1, h2, h3⟩ := id hs
  have hT : s.TypeIs (.ref sl) "slice" := ⟨so, h1, h2⟩
  unfold getItem
  try with_reducible refine wpAny_holding ?_
  first | refine wpAny_bind (wpAny_pure ?_) | skip
  refine wpAny_bind (wpAny_sequenceKey hu.typeIs (by decide) ?_)
  refine wpAny_bind (wpAny_callSpecial?_slot (name := Str.ofString "__getitem__") hu.typeIs slot_tuple_getitem (wpAny_call_entry slot_tuple_getitem hu.typeIs entry_tuple_getitem ?_ (args_tuple_getitem _ _)))
  show wpAny _ _ (Builtin.Tuple.tupleItemsOf (.ref u) >>= _) _ _ s
  refine wpAny_bind (tupleItemsOf_ hu ?_)
  refine wpAny_bind (wpAny_typeOf hT ?_)
  rw [if_pos (by decide)]
  refine wpAny_bind (back_applied hs pl pu ps ?_)
  show wpAny _ _ (if (((items.size : Int) - 1) == 0 && (-1 : Int) == 1 && items.size == items.size) = true then _ else _) _ _ s
  rw [if_neg (by rw [show ((-1 : Int) == 1) = false from rfl, Bool.and_false, Bool.false_and]; exact Bool.false_ne_true), back_pick]
  first
    | exact wpAny_bind (m := Builtin.Tuple.tupleExact _) (wpAny_newObj_type (wpAny_pure ⟨_, rfl, wpAny_pure h⟩) hok)
    | exact wpAny_bind (m := Builtin.Tuple.tupleExact _) (wpAny_newObj_type (wpAny_bind (wpAny_pure (wpAny_pure ⟨_, rfl, wpAny_pure h⟩))) hok)
    | exact wpAny_bind (wpAny_bind (m := Builtin.Tuple.tupleExact _) (wpAny_newObj_type (wpAny_pure (wpAny_pure ⟨_, rfl, wpAny_pure h⟩)) hok))
    | exact wpAny_bind (wpAny_bind (m := Builtin.Tuple.tupleExact _) (wpAny_newObj_type (wpAny_pure ⟨_, rfl, wpAny_pure h⟩) hok))
end
/-- back to front: a list or a tuple -/
def tBack (K : PySem.W.Frag) (te : TE) : TE := fun σ H Q => te σ H fun x H1 => (∃ a xs, x = .ref a ∧ SqL K H1 a xs ∧ ∀ p, H1 p = none → Q (.ref p) (upd H1 p (.lst xs.reverse))) ∨ (∃ a xs, x = .ref a ∧ SqT K H1 a xs ∧ NewT H1 xs.reverse Q)
theorem pe_back {X : Cx} {e : Expr} {te : TE} {k : Nat} {p1 p2 p3 pos : Pos} (he : PE X e te) : PE X (.Subscript e (.Slice none none (some (.UnaryOp .USub (.Constant (.int 1) k p1) p2)) p3) pos) (tBack X.K te) := by
  refine ⟨fun pn s σ H Q I h => ?_⟩
  refine Subscript_ (thn (he.run pn s σ H _ I h) fun v s1 ⟨x, H1, I1, r1, q1⟩ => ?_)
  have hm : PO X (some (.UnaryOp .USub (.Constant (.int 1) k p1) p2)) (tPart (tUn (rU fun i => .int (-i)) (tC (.int 1)))) := po_some (pe_un un_neg pe_int)
  have ⟨a, ex⟩ : ∃ a, x = .ref a := by rcases q1 with ⟨a, _, e, _⟩ | ⟨a, _, e, _⟩ <;> exact ⟨a, e⟩
  subst ex
  cases r1
  refine wpAny_Slice (thn (po_none.run pn s1 σ H1 (fun o H2 => o = none ∧ H2 = H1) I1 ⟨rfl, rfl⟩) fun vl s2 ⟨o2, H2, I2, pl, el, e2⟩ => ?_)
  subst el e2
  refine thn (po_none.run pn s2 σ H2 (fun o H3 => o = none ∧ H3 = H2) I2 ⟨rfl, rfl⟩) fun vu s3 ⟨o3, H3, I3, pu, eu, e3⟩ => ?_
  subst eu e3
  refine thn (hm.run pn s3 σ H3 (fun o H4 => o = some (-1) ∧ H4 = H3) I3 ⟨1, rfl, -1, rfl, rfl, rfl⟩) fun vs s4 ⟨o4, H4, I4, ps, eo, e4⟩ => ?_
  subst eo e4
  have J : Inv X pn σ H4 { s4 with heap := s4.heap.push { cls := .type "slice", data := .fields #[vl, vu, vs] } } := I4.kept (t' := s4.toks) fun b ob q => Heap.get?_push_of_some _ q
  show wpAny (model X.prog X.w) X.A (subscriptTail e (.Slice none none (some (.UnaryOp .USub (.Constant (.int 1) k p1) p2)) p3) (.ref a) (.ref s4.heap.objs.size)) (EP X pn σ Q) X.xe { s4 with heap := s4.heap.push { cls := .type "slice", data := .fields #[vl, vu, vs] } }
  rcases q1 with ⟨b, xs, eb, hx, q⟩ | ⟨b, xs, eb, hx, q⟩
  · cases eb
    obtain ⟨its, r, ht, hsz⟩ := J.list hx
    have hn := r.length
    refine tail_any (ops := [.ref a, .ref s4.heap.objs.size]) ht.isList.typeIs (PySem.slot_list_getitem.lookup) ?_ (by with_unfolding_all rfl)
    refine wpAny_getItem_list_slice ht.isList (Heap.IsSliceOf.new _ vl vu vs) pl pu ps (by decide) ?_ (by rw [List.size_toArray]; omega)
    rw [PySem.W.krv_pick]
    refine ⟨.ref _, _, J.laid (t' := s4.toks) (o := .lst xs.reverse) (fun b ob q => Heap.get?_push_of_some _ q) (Nat.le_refl _) ?_, rfl, q _ (J.hok.fresh (Nat.le_refl _))⟩
    exact ⟨by rw [List.length_reverse]; exact hsz, _, 0, r.reverse, Heap.get?_push_size _ rfl⟩
  · cases eb
    obtain ⟨its, r, ht, hsz⟩ := J.tuple hx
    have hn := r.length
    refine tail_any (ops := [.ref a, .ref s4.heap.objs.size]) ht.typeIs (slot_tuple_getitem.lookup) ?_ (by with_unfolding_all rfl)
    refine back_tuple ht (Heap.IsSliceOf.new _ vl vu vs) pl pu ps ?_ (by rw [List.size_toArray]; omega)
    have J2 := lay_tup (t' := s4.toks) J (by rw [List.length_reverse]; exact hsz) r.reverse
    exact ⟨.ref _, _, J2, rfl, q _ _ (J.hok.fresh (Nat.le_refl _)) rfl⟩
/-! ### argument lists -/
abbrev ORpAll (K : PySem.W.Frag) (cl : Cl) (ρ : Ev) (σ : L2.St) (W : Wd) : List V → List D → Prop := Paired (ORp K cl ρ σ W)
abbrev DAo (X : Cx) (cl : Cl) (E : XK) (es : List Expr) (f : Ev → S → R (List D)) : Prop := PA X es (liftG X.K cl E (ORpAll X.K cl) f)
def dNil : Ev → S → R (List D) := fun _ st => .ok [] st
def dCons (f : Ev → S → R D) (g : Ev → S → R (List D)) : Ev → S → R (List D) := fun ρ st => (f ρ st).bind fun x st => (g ρ st).bind fun xs st => .ok (x :: xs) st
theorem ORpAll.grow {K : PySem.W.Frag} {cl : Cl} {ρ : Ev} {σ : L2.St} {W W' : Wd} {H : Hp} (g : Grow W H W') : ∀ {vs : List V} {ds : List D}, ORpAll K cl ρ σ W vs ds → ORpAll K cl ρ σ W' vs ds
  | _, _, .nil => .nil
  | _, _, .cons h r => .cons (ORp.grow h g) (ORpAll.grow g r)
section
variable {X : Cx} {cl : Cl} {E : XK} {f : Ev → S → R D} {g : Ev → S → R (List D)} {e : Expr} {es : List Expr} {pos p : Pos}
theorem da_nil : DA X cl E [] dNil := PAimp pa_nil fun σ H Q ⟨W, ρ, st, s, l, h⟩ => Aft.now h s .nil
theorem dao_nil : DAo X cl E [] dNil := PAimp pa_nil fun σ H Q ⟨W, ρ, st, s, l, h⟩ => Aft.now h s .nil
theorem da_cons (ha : DV X cl E e f) (hr : DA X cl E es g) (hs : starEach (e :: es) X.env = (false, eval e X.env) :: starEach es X.env := by rfl) : DA X cl E (e :: es) (dCons f g) := by
  refine PAimp (pa_cons ha hr hs) fun σ H Q h => ?_
  obtain ⟨W, ρ, st, s, l, h⟩ := h
  refine ⟨W, ρ, st, s, l, (Aft.peel h).imp (fun _ _ _ r => r) ?_⟩
  rintro x H1 ⟨dx, st1, W1, g1, k1, s1, r1, h1⟩
  refine ⟨W1, ρ, st1, s1, l.keep g1 k1, (Aft.peel h1).imp (fun _ _ _ r => r) ?_⟩
  rintro xs H2 ⟨dxs, st2, W2, g2, k2, s2, r2, h2⟩
  exact Aft.now h2 s2 (.cons (r1.grow g2) r2)
theorem dao_cons (ha : DO X cl E e f) (hr : DAo X cl E es g) (hs : starEach (e :: es) X.env = (false, eval e X.env) :: starEach es X.env := by rfl) : DAo X cl E (e :: es) (dCons f g) := by
  refine PAimp (pa_cons ha hr hs) fun σ H Q h => ?_
  obtain ⟨W, ρ, st, s, l, h⟩ := h
  refine ⟨W, ρ, st, s, l, (Aft.peel h).imp (fun _ _ _ r => r) ?_⟩
  rintro x H1 ⟨dx, st1, W1, g1, k1, s1, r1, h1⟩
  refine ⟨W1, ρ, st1, s1, l.keep g1 k1, (Aft.peel h1).imp (fun _ _ _ r => r) ?_⟩
  rintro xs H2 ⟨dxs, st2, W2, g2, k2, s2, r2, h2⟩
  exact Aft.now h2 s2 (.cons (ORp.grow r1 g2) r2)
/-! ### displays -/
def dTup (f : Ev → S → R (List D)) : Ev → S → R D := fun ρ st => (f ρ st).bind fun ds st => if ds.length ≤ sizeLine then .ok (.tup ds) st else .stuck
def dLst (f : Ev → S → R (List D)) : Ev → S → R D := fun ρ st => (f ρ st).bind fun ds st => if ds.length ≤ sizeLine then .ok (.lst ds) st else .stuck
theorem dv_tup {k : Nat} (h : DA X cl E es g) : DV X cl E (.Tuple es k pos) (dTup g) := by
  refine PEimp (pe_tupF h) fun σ H Q h => ?_
  obtain ⟨W, ρ, st, s, l, h⟩ := h
  refine ⟨W, ρ, st, s, l, (Aft.peel h).imp (fun _ _ _ r => r) ?_⟩
  rintro xs H1 ⟨ds, st1, W1, g1, k1, s1, r1, h1⟩
  dsimp only at h1
  split at h1
  · rename_i hl
    exact ⟨by rw [r1.length]; exact hl, h1.newT s1 r1⟩
  · exact h1.elim
theorem dv_lst (h : DA X cl E es g) : DV X cl E (.List es pos) (dLst g) := by
  refine PEimp (pe_lst h) fun σ H Q h => ?_
  obtain ⟨W, ρ, st, s, l, h⟩ := h
  refine ⟨W, ρ, st, s, l, (Aft.peel h).imp (fun _ _ _ r => r) ?_⟩
  rintro xs H1 ⟨ds, st1, W1, g1, k1, s1, r1, h1⟩
  dsimp only at h1
  split at h1
  · rename_i hl
    exact ⟨by rw [r1.length]; exact hl, fun p hn => h1.newL s1 r1 hn⟩
  · exact h1.elim
end

/-- a new list of the store -/
def dLstRef (f : Ev → S → R (List D)) : Ev → S → R D := fun ρ st => (f ρ st).bind fun ds st => if ds.length ≤ sizeLine then .ok (.ref st.length) (st ++ [.lst ds]) else .stuck
theorem dv_lstRef {X : Cx} {cl : Cl} {E : XK} {g : Ev → S → R (List D)} {es : List Expr} {pos : Pos} (h : DA X cl E es g) : DV X cl E (.List es pos) (dLstRef g) := by
  refine PEimp (pe_lst h) fun σ H Q h => ?_
  obtain ⟨W, ρ, st, s, l, h⟩ := h
  refine ⟨W, ρ, st, s, l, (Aft.peel h).imp (fun _ _ _ r => r) ?_⟩
  rintro xs H1 ⟨ds, st1, W1, g1, k1, s1, r1, h1⟩
  dsimp only at h1
  split at h1
  · rename_i hl
    refine ⟨by rw [r1.length]; exact hl, fun p hn => ?_⟩
    refine h1 (.ref p) _ ⟨W1.F, W1.A ++ [p]⟩ (grow_alloc hn) (keep_new hn) (s1.alloc hn r1) (.ref ?_)
    show (W1.A ++ [p])[st1.length]? = some p
    rw [← s1.len, List.getElem?_append_right (Nat.le_refl _), Nat.sub_self]
    rfl
  · exact h1.elim

/-! ### subscripts -/
def ixD (dx dy : D) (st : S) : R D := match view dx st, view dy st with
  | .lst ds, .int i => (match atI ds i with
    | some d => .ok d st
    | none => .stuck)
  | .tup ds, .int i => (match atI ds i with
    | some d => .ok d st
    | none => .stuck)
  | .str x, .int i => if x.length ≤ sizeLine then (match atI x.cps.toList i with
    | some c => .ok (.str ⟨#[c]⟩) st
    | none => .stuck) else .stuck
  | _, _ => .stuck
theorem RpAll.atI {K : PySem.W.Frag} {cl : Cl} {W : Wd} {vs : List V} {ds : List D} {i : Int} {d : D} (r : RpAll K cl W vs ds) (e : L2.atI ds i = some d) : ∃ v, L2.atI vs i = some v ∧ Rp K cl W v d := by
  unfold L2.atI at e ⊢
  rw [r.length]
  cases q : ixN ds.length i with
  | none => rw [q] at e; cases e
  | some j =>
    rw [q] at e
    obtain ⟨v, h1, h2⟩ := r.get (i := j) e
    exact ⟨v, h1, h2⟩
/-- slices -/
def cutL {α : Type} (xs : List α) (lo hi : Option Int) : List α := (xs.drop (HT.sIx xs.length 0 lo)).take (HT.sIx xs.length xs.length hi - HT.sIx xs.length 0 lo)
theorem RpAll.cut {K : PySem.W.Frag} {cl : Cl} {W : Wd} {vs : List V} {ds : List D} (r : RpAll K cl W vs ds) (lo hi : Option Int) : RpAll K cl W (cutV vs lo hi) (cutL ds lo hi) := by
  unfold cutV cutL
  rw [r.length]
  exact (r.drop _).take _
def slD (d : D) (lo hi : Option Int) (st : S) : R D := match view d st with
  | .lst ds => .ok (.lst (cutL ds lo hi)) st
  | .tup ds => .ok (.tup (cutL ds lo hi)) st
  | .str x => if x.length ≤ sizeLine then .ok (.str (cutS x lo hi)) st else .stuck
  | .scr ns => .ok (.lst (cutL (ns.map .int) lo hi)) st
  | _ => .stuck
/-- [::-1] of a list -/
def revD (d : D) (st : S) : R D := match view d st with
  | .lst ds => .ok (.lst ds.reverse) st
  | .tup ds => .ok (.tup ds.reverse) st
  | _ => .stuck
def dSl (f : Ev → S → R D) (lo hi : Ev → S → R (Option Int)) : Ev → S → R D := fun ρ st => (f ρ st).bind fun d st => (lo ρ st).bind fun i st => (hi ρ st).bind fun j st => slD d i j st
def dNoP : Ev → S → R (Option Int) := fun _ st => .ok none st
def dPart (f : Ev → S → R D) : Ev → S → R (Option Int) := fun ρ st => (f ρ st).bind fun d st => match d with
  | .int i => .ok (some i) st
  | _ => .stuck
def dUn (o : D → S → R D) (f : Ev → S → R D) : Ev → S → R D := fun ρ st => (f ρ st).bind o
abbrev DP (X : Cx) (cl : Cl) (E : XK) (e : Option Expr) (f : Ev → S → R (Option Int)) : Prop := PO X e (liftG X.K cl E (fun _ _ _ (a b : Option Int) => a = b) f)
section
variable {X : Cx} {cl : Cl} {E : XK} {f fa fb : Ev → S → R D} {lo hi : Ev → S → R (Option Int)} {a b e : Expr} {el eh : Option Expr} {pos p2 : Pos}
theorem ix_D : IxR X (rD X.K cl E ixD) := by
  rintro ve se pins s σ H x y v u Q I rx ry ⟨W, ρ, σ', st, dx, dy, s0, l0, ox, oy, h⟩ hp
  unfold ixD at h
  split at h
  · rename_i ds i e1 e2
    split at h
    · rename_i d ed
      obtain ⟨q, vs, rfl, h1, h2⟩ := lst_of s0 l0 ox e1
      obtain ⟨z, h3, h4⟩ := h2.atI ed
      exact ix_seq ve se pins s σ H _ y v u Q I rx ry (.inl ⟨q, vs, i, z, rfl, int_of oy e2, .inl (.inl h1), h3, h.now s0 h4⟩) hp
    · exact h.elim
  · rename_i ds i e1 e2
    split at h
    · rename_i d ed
      obtain ⟨q, vs, rfl, h1, h2, _⟩ := tup_of s0 ox e1
      obtain ⟨z, h3, h4⟩ := h2.atI ed
      exact ix_seq ve se pins s σ H _ y v u Q I rx ry (.inr (.inl ⟨q, vs, i, z, rfl, int_of oy e2, h1, h3, h.now s0 h4⟩)) hp
    · exact h.elim
  · rename_i ds i e1 e2
    split at h
    · rename_i hl
      split at h
      · rename_i c ec
        exact ix_seq ve se pins s σ H x y v u Q I rx ry (.inr (.inr ⟨ds, i, c, str_of ox e1, int_of oy e2, hl, ec, h.now s0 (.str _)⟩)) hp
      · exact h.elim
    · exact h.elim
  · exact h.elim
theorem dv_ix (ha : DO X cl E a fa) (hb : DO X cl E b fb) (hp : PlainIx b := by exact fun _ _ => rfl) : DV X cl E (.Subscript a b pos) (dBin ixD fa fb) := PEimp (pe_ix ix_D ha hb hp) fun _ _ _ h => rd_op h
theorem dp_none : DP X cl E none dNoP := POimp po_none fun σ H Q ⟨W, ρ, st, s, l, h⟩ => Aft.now h s rfl
theorem dp_some (h : DV X cl E e f) : DP X cl E (some e) (dPart f) := by
  refine POimp (po_some h) fun σ H Q h => ?_
  obtain ⟨W, ρ, st, s, l, h⟩ := h
  refine ⟨W, ρ, st, s, l, (Aft.peel h).imp (fun _ _ _ r => r) ?_⟩
  rintro x H1 ⟨dx, st1, W1, g1, k1, s1, r1, h1⟩
  cases dx with
  | int i =>
    cases r1
    exact ⟨i, rfl, Aft.now (a := some i) h1 s1 rfl⟩
  | _ => exact False.elim h1
def rSlD (K : PySem.W.Frag) (cl : Cl) (E : XK) : V → Option Int → Option Int → Hp → VK → Prop := fun x lo hi H Q => ∃ W ρ σ st d, SatS K cl W st H ∧ SatL K cl W ρ σ H ∧ ORp K cl ρ σ W x d ∧ Aft K cl E (Rp K cl) W H (slD d lo hi st) Q
theorem sl_D : SlR X (rSlD X.K cl E) := by
  rintro pins s σ H x v vl vu lo hi sl Q I rx hs hl hu ⟨W, ρ, σ', st, d, s0, l0, ox, h⟩
  unfold slD at h
  split at h
  · rename_i ds e1
    obtain ⟨q, vs, rfl, h1, h2⟩ := lst_of s0 l0 ox e1
    exact sl_list pins s σ H _ v vl vu lo hi sl Q I rx hs hl hu ⟨q, vs, rfl, .inl (.inl h1), fun r hn => h.newL s0 (h2.cut lo hi) hn⟩
  · rename_i ds e1
    obtain ⟨q, vs, rfl, h1, h2, h3⟩ := tup_of s0 ox e1
    refine sl_tupF pins s σ H _ v vl vu lo hi sl Q I rx hs hl hu ⟨q, vs, rfl, h1, fun z => ?_, fun _ => h.newT s0 (h2.cut lo hi)⟩
    have e : cutL ds lo hi = ds := by
      unfold cutL
      rw [← h2.length, z.1, z.2]
      show List.take (vs.length - 0) ds = ds
      rw [h2.length, Nat.sub_zero, List.take_length]
    rw [e] at h
    exact h.now s0 h3
  · rename_i z e1
    split at h
    · rename_i hz
      exact sl_str pins s σ H _ v vl vu lo hi sl Q I rx hs hl hu ⟨z, str_of ox e1, hz, h.now s0 (.str _)⟩
    · exact h.elim
  · rename_i ns e1
    obtain ⟨q, rfl, h1⟩ := scr_of s0 ox e1
    exact sl_list pins s σ H _ v vl vu lo hi sl Q I rx hs hl hu ⟨q, _, rfl, h1, fun r hn => h.newL s0 ((RpAll.ofInts ns).cut lo hi) hn⟩
  · exact h.elim
theorem dv_sl (ha : DO X cl E a fa) (hl : DP X cl E el lo) (hh : DP X cl E eh hi) : DV X cl E (.Subscript a (.Slice el eh none p2) pos) (dSl fa lo hi) := by
  refine PEimp (pe_slice (sl_D (cl := cl) (E := E)) ha hl hh) fun σ H Q h => ?_
  obtain ⟨W, ρ, st, s, l, h⟩ := h
  refine ⟨W, ρ, st, s, l, (Aft.peel h).imp (fun _ _ _ r => r) ?_⟩
  rintro x H1 ⟨dx, st1, W1, g1, k1, s1, r1, h1⟩
  refine ⟨W1, ρ, st1, s1, l.keep g1 k1, (Aft.peel h1).imp (fun _ _ _ r => r) ?_⟩
  rintro i H2 ⟨_, st2, W2, g2, k2, s2, rfl, h2⟩
  refine ⟨W2, ρ, st2, s2, (l.keep g1 k1).keep g2 k2, (Aft.peel h2).imp (fun _ _ _ r => r) ?_⟩
  rintro j H3 ⟨_, st3, W3, g3, k3, s3, rfl, h3⟩
  exact ⟨W3, ρ, σ, st3, dx, s3, ((l.keep g1 k1).keep g2 k2).keep g3 k3, (ORp.grow r1 g2).grow g3, h3⟩
theorem dv_revL {k : Nat} {q1 q2 q3 : Pos} (ha : DO X cl E a fa) : DV X cl E (.Subscript a (.Slice none none (some (.UnaryOp .USub (.Constant (.int 1) k q1) q2)) q3) pos) (dUn revD fa) := by
  refine PEimp (pe_back ha) fun σ H Q h => ?_
  obtain ⟨W, ρ, st, s, l, h⟩ := h
  refine ⟨W, ρ, st, s, l, (Aft.peel h).imp (fun _ _ _ r => r) ?_⟩
  rintro x H1 ⟨dx, st1, W1, g1, k1, s1, r1, h1⟩
  unfold revD at h1
  split at h1
  · rename_i ds e1
    obtain ⟨q, vs, rfl, h3, h4⟩ := lst_of s1 (l.keep g1 k1) r1 e1
    exact .inl ⟨q, vs, rfl, .inl (.inl h3), fun p hn => h1.newL s1 h4.reverse hn⟩
  · rename_i ds e1
    obtain ⟨q, vs, rfl, h3, h4, _⟩ := tup_of s1 r1 e1
    exact .inr ⟨q, vs, rfl, h3, h1.newT s1 h4.reverse⟩
  · exact h1.elim
/-- -x -/
def negD (d : D) (st : S) : R D := match view d st with
  | .int i => .ok (.int (-i)) st
  | _ => .stuck
theorem dv_neg (ha : DO X cl E a fa) : DV X cl E (.UnaryOp .USub a pos) (dUn negD fa) := by
  refine PEimp (pe_un un_neg ha) fun σ H Q h => ?_
  obtain ⟨W, ρ, st, s, l, h⟩ := h
  refine ⟨W, ρ, st, s, l, (Aft.peel h).imp (fun _ _ _ r => r) ?_⟩
  rintro x H1 ⟨dx, st1, W1, g1, k1, s1, r1, h1⟩
  unfold negD at h1
  split at h1
  · rename_i i e1
    exact ⟨i, int_of r1 e1, h1.now s1 (.int _)⟩
  · exact h1.elim
end

/-! ### built-in functions -/
def rL (K : PySem.W.Frag) (cl : Cl) (E : XK) (o : List D → S → R D) : List V → Hp → VK → Prop := fun vs H Q => ∃ W ρ σ st ds, SatS K cl W st H ∧ SatL K cl W ρ σ H ∧ ORpAll K cl ρ σ W vs ds ∧ Aft K cl E (Rp K cl) W H (o ds st) Q
def dCall (o : List D → S → R D) (f : Ev → S → R (List D)) : Ev → S → R D := fun ρ st => (f ρ st).bind o
section
variable {X : Cx} {cl : Cl} {E : XK} {g : Ev → S → R (List D)} {o : List D → S → R D} {e : Expr} {es : List Expr} {pos p : Pos} {x : Str} {id T : String}
theorem rd_call {K : PySem.W.Frag} {σ : L2.St} {H : Hp} {Q : VK} (h : liftV K cl E (dCall o g) σ H Q) : tCB (rL K cl E o) (liftG K cl E (ORpAll K cl) g) σ H Q := by
  obtain ⟨W, ρ, st, s, l, h⟩ := h
  refine ⟨W, ρ, st, s, l, (Aft.peel h).imp (fun _ _ _ r => r) ?_⟩
  rintro xs H1 ⟨ds, st1, W1, g1, k1, s1, r1, h1⟩
  exact ⟨W1, ρ, σ, st1, ds, s1, l.keep g1 k1, r1, h1⟩
theorem dv_callB (hc : CallR X (.builtin id) (rL X.K cl E o)) (hg : Gl X x) (hm : X.mg x = none) (hv : bootBuiltins x = some (.builtin id)) (ha : DAo X cl E (e :: es) g) (hn : x ≠ "__name__" := by decide) (hdb : (x == ("__debug__" : Str)) = false := by decide)
    (he : starEach (e :: es) X.env = (false, eval e X.env) :: starEach es X.env := by rfl) (hpl : (backTo pos (starEach es X.env)).any (·.1) = false := by rfl) : DV X cl E (.Call (.Name x p) (e :: es) [] pos) (dCall o g) := PEimp (pe_callB hc hg hm hv ha hn hdb he hpl) fun _ _ _ h => rd_call h
theorem dv_callTy (hc : CallR X (.type T) (rL X.K cl E o)) (hg : Gl X x) (hm : X.mg x = none) (hv : bootBuiltins x = some (.type T)) (ha : DAo X cl E (e :: es) g) (hn : x ≠ "__name__" := by decide) (hdb : (x == ("__debug__" : Str)) = false := by decide)
    (he : starEach (e :: es) X.env = (false, eval e X.env) :: starEach es X.env := by rfl) (hpl : (backTo pos (starEach es X.env)).any (·.1) = false := by rfl) : DV X cl E (.Call (.Name x p) (e :: es) [] pos) (dCall o g) := PEimp (pe_callTy hc hg hm hv ha hn hdb he hpl) fun _ _ _ h => rd_call h
theorem dv_ty {n : String} (hg : Gl X x) (hm : X.mg x = none) (hv : bootBuiltins x = some (.type n)) (hn : x ≠ "__name__" := by decide) (hd : (x == ("__debug__" : Str)) = false := by decide) : DV X cl E (.Name x pos) (dC (.ty n)) := dv_c (v := .ty n) (pe_bltn hg hm hv rfl hn hd) fun _ => .ty n
/-- a constant of the module -/
theorem dv_globI {i : Int} {t : Tok} (hg : Gl X x) (hm : X.mg x = some (.int i t)) (hd : (x == ("__debug__" : Str)) = false := by decide) : DV X cl E (.Name x pos) (dC (.int i)) := dv_c (v := .int i) (pe_glob hg hm ⟨t, rfl⟩ hd) fun _ => .int i
theorem dv_globS {z : Str} {t : Tok} (hg : Gl X x) (hm : X.mg x = some (.str z t)) (hd : (x == ("__debug__" : Str)) = false := by decide) : DV X cl E (.Name x pos) (dC (.str z)) := dv_c (v := .str z) (pe_glob hg hm ⟨t, rfl⟩ hd) fun _ => .str z
end
def blsOf : List D → Option (List Bool)
  | [] => some []
  | .bl b :: r => (blsOf r).map (b :: ·)
  | _ => none
def strsOf : List D → Option (List Str)
  | [] => some []
  | .str b :: r => (strsOf r).map (b :: ·)
  | _ => none
def intsOf : List D → Option (List Int)
  | [] => some []
  | .int b :: r => (intsOf r).map (b :: ·)
  | _ => none
theorem blsOf_eq : ∀ {ds : List D} {bs : List Bool}, blsOf ds = some bs → ds = bs.map .bl
  | [], bs, h => by cases h; rfl
  | d :: r, bs, h => by
    cases d with
    | bl b =>
      simp only [blsOf, Option.map_eq_some_iff] at h
      obtain ⟨as, h1, rfl⟩ := h
      rw [blsOf_eq h1]; rfl
    | _ => simp [blsOf] at h
theorem strsOf_eq : ∀ {ds : List D} {bs : List Str}, strsOf ds = some bs → ds = bs.map .str
  | [], bs, h => by cases h; rfl
  | d :: r, bs, h => by
    cases d with
    | str b =>
      simp only [strsOf, Option.map_eq_some_iff] at h
      obtain ⟨as, h1, rfl⟩ := h
      rw [strsOf_eq h1]; rfl
    | _ => simp [strsOf] at h
theorem intsOf_eq : ∀ {ds : List D} {bs : List Int}, intsOf ds = some bs → ds = bs.map .int
  | [], bs, h => by cases h; rfl
  | d :: r, bs, h => by
    cases d with
    | int b =>
      simp only [intsOf, Option.map_eq_some_iff] at h
      obtain ⟨as, h1, rfl⟩ := h
      rw [intsOf_eq h1]; rfl
    | _ => simp [intsOf] at h
@[simp] theorem blsOf_map : ∀ (bs : List Bool), blsOf (bs.map .bl) = some bs
  | [] => rfl
  | b :: r => by simp [blsOf, blsOf_map r]
@[simp] theorem strsOf_map : ∀ (bs : List Str), strsOf (bs.map .str) = some bs
  | [] => rfl
  | b :: r => by simp [strsOf, strsOf_map r]
@[simp] theorem intsOf_map : ∀ (bs : List Int), intsOf (bs.map .int) = some bs
  | [] => rfl
  | b :: r => by simp [intsOf, intsOf_map r]
/-- sep.join(xs) -/
def joinD (a : Str) (dy : D) (st : S) : R D := match view dy st with
  | .lst ds => (match strsOf ds with
    | some xs => if (xs.map (·.length)).sum + xs.length * a.length ≤ 16777216 then .ok (.str (Txt.join a xs)) st else .stuck
    | none => .stuck)
  | .tup ds => (match strsOf ds with
    | some xs => if (xs.map (·.length)).sum + xs.length * a.length ≤ 16777216 then .ok (.str (Txt.join a xs)) st else .stuck
    | none => .stuck)
  | _ => .stuck
def dJoin (fa fb : Ev → S → R D) : Ev → S → R D := fun ρ st => (fa ρ st).bind fun x st => match x with
  | .str a => (fb ρ st).bind fun y st => joinD a y st
  | _ => .stuck
theorem dv_join {X : Cx} {cl : Cl} {E : XK} {fa fb : Ev → S → R D} {o e : Expr} {apos pos : Pos} (ha : DV X cl E o fa) (hb : DO X cl E e fb) (h1 : starEach [e] X.env = [(false, eval e X.env)] := by rfl) (h2 : attributeBase o "join" X.env (eval o X.env) = eval o X.env := by rfl) (h3 : (apos.endLine == pos.line) = true := by rfl) :
    DV X cl E (.Call (.Attribute o "join" apos) [e] [] pos) (dJoin fa fb) := by
  refine PEimp (pe_join ha hb h1 h2 h3) fun σ H Q h => ?_
  obtain ⟨W, ρ, st, s, l, h⟩ := h
  refine ⟨W, ρ, st, s, l, (Aft.peel h).imp (fun _ _ _ r => r) ?_⟩
  rintro x H1 ⟨dx, st1, W1, g1, k1, s1, r1, hh⟩
  have l1 := l.keep g1 k1
  cases dx with
  | str a =>
    cases r1
    refine ⟨⟨a, rfl⟩, W1, ρ, st1, s1, l1, (Aft.peel hh).imp (fun _ _ _ r => r) ?_⟩
    rintro y H2 ⟨dy, st2, W2, g2, k2, s2, r2, h2⟩
    have l2 := l1.keep g2 k2
    unfold joinD at h2
    split at h2
    · rename_i ds e2
      split at h2
      · rename_i xs ex
        split at h2
        · rename_i hl
          obtain ⟨p, vs, rfl, h4, h5⟩ := lst_of s2 l2 r2 e2
          rw [strsOf_eq ex] at h5
          exact ⟨a, p, xs, rfl, rfl, .inl (by rw [← h5.strs]; exact .inl (.inl h4)), hl, h2.now s2 (.str _)⟩
        · exact h2.elim
      · exact h2.elim
    · rename_i ds e2
      split at h2
      · rename_i xs ex
        split at h2
        · rename_i hl
          obtain ⟨p, vs, rfl, h4, h5, _⟩ := tup_of s2 r2 e2
          rw [strsOf_eq ex] at h5
          exact ⟨a, p, xs, rfl, rfl, .inr (by rw [← h5.strs]; exact h4), hl, h2.now s2 (.str _)⟩
        · exact h2.elim
      · exact h2.elim
    · exact h2.elim
  | _ => exact (show False from hh).elim
/-- the one argument -/
def one (o : D → S → R D) : List D → S → R D
  | [d], st => o d st
  | _, _ => .stuck
def lenD (d : D) (st : S) : R D := match view d st with
  | .str x => if x.length ≤ sizeLine then .ok (.int x.length) st else .stuck
  | .lst ds => .ok (.int ds.length) st
  | .tup ds => .ok (.int ds.length) st
  | _ => .stuck
def allD (d : D) (st : S) : R D := match view d st with
  | .lst ds => (match blsOf ds with
    | some bs => .ok (.bl (bs.all id)) st
    | none => .stuck)
  | _ => .stuck
def absD (d : D) (st : S) : R D := match view d st with
  | .int i => .ok (.int (if i < 0 then -i else i)) st
  | _ => .stuck
def intF (d : D) (st : S) : R D := match view d st with
  | .int i => .ok (.int i) st
  | _ => .stuck
def tupleF (d : D) (st : S) : R D := match view d st with
  | .lst ds => .ok (.tup ds) st
  | .tup ds => .ok (.tup ds) st
  | _ => .stuck
def listF (d : D) (st : S) : R D := match view d st with
  | .lst ds => .ok (.lst ds) st
  | .tup ds => .ok (.lst ds) st
  | _ => .stuck
/-- the sorted list of texts -/
def sortS (xs : List Str) : List Str := xs.mergeSort fun a b => !ltS b a
theorem ltS_total (a b : Str) : ((!ltS b a) || (!ltS a b)) = true := by
  cases h1 : ltS b a with
  | false => rfl
  | true =>
    cases h2 : ltS a b with
    | false => rfl
    | true =>
      have h3 := of_decide_eq_true h1
      have h4 := of_decide_eq_true h2
      exact absurd (List.lt_trans h3 h4) (List.lt_irrefl _)
theorem ltS_antisymm {a b : Str} (h1 : ltS b a = false) (h2 : ltS a b = false) : a = b := by
  have h3 := of_decide_eq_false h1
  have h4 := of_decide_eq_false h2
  have e : a.cps.toList = b.cps.toList := List.le_antisymm h3 h4
  cases a with
  | mk x =>
    cases b with
    | mk y =>
      have : x = y := Array.ext' e
      rw [this]
theorem leS_trans {a b c : Str} (h1 : (!ltS b a) = true) (h2 : (!ltS c b) = true) : (!ltS c a) = true := by
  rw [Bool.not_eq_true'] at h1 h2 ⊢
  have h3 : a.cps.toList ≤ b.cps.toList := of_decide_eq_false h1
  have h4 : b.cps.toList ≤ c.cps.toList := of_decide_eq_false h2
  exact decide_eq_false (show ¬ c.cps.toList < a.cps.toList from List.le_trans h3 h4)
theorem risingS_pw : ∀ (p : Str) (l : List Str), risingS p l = true → (p :: l).Pairwise fun a b => (!ltS b a) = true
  | p, [], _ => List.pairwise_singleton _ _
  | p, x :: r, h => by
    have h' : (!ltCps x.cps.toList p.cps.toList && risingS x r) = true := h
    rw [Bool.and_eq_true, ltCps_eq] at h'
    have ih := risingS_pw x r h'.2
    refine List.pairwise_cons.mpr ⟨fun y hy => ?_, ih⟩
    rcases List.mem_cons.mp hy with rfl | hy
    · exact h'.1
    · exact leS_trans (show (!ltS x p) = true from h'.1) (List.rel_of_pairwise_cons ih hy)
theorem sortS_eq {xs ys : List Str} (hp : ys.Perm xs) (hs : sortedS ys = true) : ys = sortS xs := by
  have h1 : ys.Pairwise fun a b => (!ltS b a) = true := by
    cases ys with
    | nil => exact List.Pairwise.nil
    | cons y r => exact risingS_pw y r hs
  have h2 : (sortS xs).Pairwise fun a b => (!ltS b a) = true := List.pairwise_mergeSort (le := fun a b => !ltS b a) (fun a b c h1 h2 => leS_trans (a := a) (b := b) (c := c) h1 h2) (fun a b => ltS_total a b) xs
  refine List.Perm.eq_of_pairwise (fun a b _ _ h3 h4 => ?_) h1 h2 (hp.trans (List.mergeSort_perm xs _).symm)
  rw [Bool.not_eq_true'] at h3 h4
  exact ltS_antisymm h3 h4
def sortI (xs : List Int) : List Int := xs.mergeSort fun a b => decide (a ≤ b)
theorem sortI_eq {xs ys : List Int} (hp : ys.Perm xs) (hs : ys.Pairwise (· ≤ ·)) : ys = sortI xs := by
  have h2 : (sortI xs).Pairwise fun a b => decide (a ≤ b) = true := List.pairwise_mergeSort (fun a b c h1 h2 => by
    simp only [decide_eq_true_eq] at *
    omega) (fun a b => by
    simp only [Bool.or_eq_true, decide_eq_true_eq]
    omega) xs
  exact List.Perm.eq_of_pairwise (fun a b _ _ h3 h4 => by omega) hs (h2.imp fun h => of_decide_eq_true h) (hp.trans (List.mergeSort_perm xs _).symm)
def sortedD (d : D) (st : S) : R D := match view d st with
  | .lst ds => (match strsOf ds with
    | some xs => if xs.length < 64 then .ok (.lst ((sortS xs).map .str)) st else .stuck
    | none => (match intsOf ds with
      | some ns => .ok (.lst ((sortI ns).map .int)) st
      | none => .stuck))
  | .tup ds => (match strsOf ds with
    | some xs => .ok (.lst ((sortS xs).map .str)) st
    | none => .stuck)
  | _ => .stuck
/-- isinstance by built-in classes -/
def isI (d : D) (n : String) : Bool := match d with
  | .str _ => n == "str"
  | .int _ => n == "int"
  | .bl _ => n == "bool" || n == "int"
  | .lst _ => n == "list"
  | .tup _ => n == "tuple"
  | _ => false
def tyNames : List String := ["str", "int", "bool", "list", "tuple", "dict"]
def tyOk (d : D) : Bool := match d with
  | .str _ => true
  | .int _ => true
  | .bl _ => true
  | .lst _ => true
  | .tup _ => true
  | .non => true
  | _ => false
def isiD : List D → S → R D
  | [d, .ty n], st => if tyOk (view d st) && tyNames.contains n then .ok (.bl (isI (view d st) n)) st else .stuck
  | _, _ => .stuck
def tyS (d : D) : String := match d with
  | .str _ => "str"
  | .int _ => "int"
  | .bl _ => "bool"
  | .lst _ => "list"
  | .tup _ => "tuple"
  | _ => "NoneType"
theorem kit_isI {d : D} {n : String} (h : tyOk d = true) (hn : tyNames.contains n = true) : kitB (tyS d) n = some (isI d n) := by
  simp only [tyNames, List.contains_cons, List.contains_nil, Bool.or_false, Bool.or_eq_true, beq_iff_eq] at hn
  rcases hn with rfl | rfl | rfl | rfl | rfl | rfl <;> cases d <;> first | rfl | (simp [tyOk] at h; done)
section
variable {X : Cx} {cl : Cl} {E : XK}
theorem one_of {K : PySem.W.Frag} {o : D → S → R D} {vs : List V} {H : Hp} {Q : VK} (h : rL K cl E (one o) vs H Q) : ∃ v W ρ σ st d, vs = [v] ∧ SatS K cl W st H ∧ SatL K cl W ρ σ H ∧ ORp K cl ρ σ W v d ∧ Aft K cl E (Rp K cl) W H (o d st) Q := by
  obtain ⟨W, ρ, σ, st, ds, s, l, r, h⟩ := h
  cases r with
  | nil => exact h.elim
  | cons r1 r2 =>
    cases r2 with
    | nil => exact ⟨_, W, ρ, σ, st, _, rfl, s, l, r1, h⟩
    | cons _ _ => exact h.elim
theorem cr_len : CallR X (.builtin "len") (rL X.K cl E (one lenD)) := by
  intro pins s σ H xs us Q I rv h0
  obtain ⟨v, W, ρ, σ', st, d, rfl, s0, l0, o, h⟩ := one_of h0
  clear h0
  unfold lenD at h
  split at h
  · rename_i z e
    have ev := str_of o e
    subst ev
    split at h
    · rename_i hl
      exact call_len pins s σ H _ us Q I rv ⟨_, _, rfl, ⟨hl, rfl⟩, h.now s0 (.int _)⟩
    · exact h.elim
  · rename_i ds e
    obtain ⟨q, vs, rfl, h1, h2⟩ := lst_of s0 l0 o e
    exact call_len pins s σ H _ us Q I rv ⟨_, _, rfl, .inl ⟨vs, .inl (.inl h1), rfl⟩, by rw [h2.length]; exact h.now s0 (.int _)⟩
  · rename_i ds e
    obtain ⟨q, vs, rfl, h1, h2, _⟩ := tup_of s0 o e
    exact call_len pins s σ H _ us Q I rv ⟨_, _, rfl, .inr ⟨vs, h1, rfl⟩, by rw [h2.length]; exact h.now s0 (.int _)⟩
  · exact h.elim
theorem cr_allD (hc : X.calm = true) : CallR X (.builtin "all") (rL X.K cl E (one allD)) := by
  intro pins s σ H xs us Q I rv h0
  obtain ⟨v, W, ρ, σ', st, d, rfl, s0, l0, o, h⟩ := one_of h0
  clear h0
  unfold allD at h
  split at h
  · rename_i ds e
    obtain ⟨q, vs, rfl, h1, h2⟩ := lst_of s0 l0 o e
    split at h
    · rename_i bs eb
      rw [blsOf_eq eb] at h2
      exact cr_all hc pins s σ H _ us Q I rv ⟨q, bs, rfl, by rw [← h2.bls]; exact .inl (.inl h1), h.now s0 (.bl _)⟩
    · exact h.elim
  · exact h.elim
theorem cr_absD : CallR X (.builtin "abs") (rL X.K cl E (one absD)) := by
  intro pins s σ H xs us Q I rv h0
  obtain ⟨v, W, ρ, σ', st, d, rfl, s0, l0, o, h⟩ := one_of h0
  clear h0
  unfold absD at h
  split at h
  · rename_i i e
    exact call_abs pins s σ H _ us Q I rv ⟨i, by rw [int_of o e], h.now s0 (.int _)⟩
  · exact h.elim
theorem cr_intF : CallR X (.type "int") (rL X.K cl E (one intF)) := by
  intro pins s σ H xs us Q I rv h0
  obtain ⟨v, W, ρ, σ', st, d, rfl, s0, l0, o, h⟩ := one_of h0
  clear h0
  unfold intF at h
  split at h
  · rename_i i e
    exact call_int1 pins s σ H _ us Q I rv (.inl ⟨i, by rw [int_of o e], h.now s0 (.int _)⟩)
  · exact h.elim
theorem cr_tupleF : CallR X (.type "tuple") (rL X.K cl E (one tupleF)) := by
  intro pins s σ H xs us Q I rv h0
  obtain ⟨v, W, ρ, σ', st, d, rfl, s0, l0, o, h⟩ := one_of h0
  clear h0
  unfold tupleF at h
  split at h
  · rename_i ds e
    obtain ⟨q, vs, rfl, h1, h2⟩ := lst_of s0 l0 o e
    exact call_tupleF pins s σ H _ us Q I rv ⟨q, vs, rfl, .inl ⟨.inl (.inl h1), h.newT s0 h2⟩⟩
  · rename_i ds e
    obtain ⟨q, vs, rfl, h1, h2, h3⟩ := tup_of s0 o e
    exact call_tupleF pins s σ H _ us Q I rv ⟨q, vs, rfl, .inr ⟨h1, h.now s0 h3⟩⟩
  · exact h.elim
theorem cr_listF : CallR X (.type "list") (rL X.K cl E (one listF)) := by
  intro pins s σ H xs us Q I rv h0
  obtain ⟨v, W, ρ, σ', st, d, rfl, s0, l0, o, h⟩ := one_of h0
  clear h0
  unfold listF at h
  split at h
  · rename_i ds e
    obtain ⟨q, vs, rfl, h1, h2⟩ := lst_of s0 l0 o e
    exact call_list_of pins s σ H _ us Q I rv ⟨q, vs, rfl, .inl (.inl (.inl h1)), fun r hn => h.newL s0 h2 hn⟩
  · rename_i ds e
    obtain ⟨q, vs, rfl, h1, h2, h3⟩ := tup_of s0 o e
    exact call_list_of pins s σ H _ us Q I rv ⟨q, vs, rfl, .inr h1, fun r hn => h.newL s0 h2 hn⟩
  · exact h.elim
theorem cr_sortedD : CallR X (.builtin "sorted") (rL X.K cl E (one sortedD)) := by
  intro pins s σ H xs us Q I rv h0
  obtain ⟨v, W, ρ, σ', st, d, rfl, s0, l0, o, h⟩ := one_of h0
  clear h0
  unfold sortedD at h
  split at h
  · rename_i ds e
    obtain ⟨q, vs, rfl, h1, h2⟩ := lst_of s0 l0 o e
    split at h
    · rename_i bs eb
      rw [strsOf_eq eb] at h2
      split at h
      · rename_i hl
        refine cr_sortedS pins s σ H _ us Q I rv ⟨q, bs, rfl, by rw [← h2.strs]; exact .inl (.inl h1), hl, fun ys p hp hs hn => ?_⟩
        rw [sortS_eq hp hs]
        exact h.newL s0 (RpAll.ofStrs _) hn
      · exact h.elim
    · split at h
      · rename_i ns en
        rw [intsOf_eq en] at h2
        refine cr_sortedI pins s σ H _ us Q I rv ⟨q, ns, rfl, by rw [← h2.ints]; exact .inl (.inl h1), fun ys p hp hs hn => ?_⟩
        rw [sortI_eq hp hs]
        exact h.newL s0 (RpAll.ofInts _) hn
      · exact h.elim
  · rename_i ds e
    obtain ⟨q, vs, rfl, h1, h2, _⟩ := tup_of s0 o e
    split at h
    · rename_i bs eb
      rw [strsOf_eq eb] at h2
      refine cr_sortedTup pins s σ H _ us Q I rv ⟨q, bs, rfl, by rw [← h2.strs]; exact h1, fun ys p hp hs hn => ?_⟩
      rw [sortS_eq hp hs]
      exact h.newL s0 (RpAll.ofStrs _) hn
    · exact h.elim
  · exact h.elim
theorem tyX_of {K : PySem.W.Frag} {W : Wd} {ρ : Ev} {σ : L2.St} {st : S} {H : Hp} {v : V} {d : D} (s : SatS K cl W st H) (l : SatL K cl W ρ σ H) (o : ORp K cl ρ σ W v d) (h : tyOk (view d st) = true) : TyX K H v (.type (tyS (view d st))) := by
  cases e : view d st with
  | non => rw [non_of o e]; exact .base .non
  | bl b => rw [bl_of o e]; exact .base (.bl b)
  | int i => rw [int_of o e]; exact .base (.int i)
  | str x => rw [str_of o e]; exact .base (.str x)
  | lst ds =>
    obtain ⟨q, vs, rfl, h1, h2⟩ := lst_of s l o e
    exact .base (.lst h1)
  | tup ds =>
    obtain ⟨q, vs, rfl, h1, h2, h3⟩ := tup_of s o e
    rcases h1 with (h1 | ⟨ob, h1⟩) | ⟨ob, its, n, hk, hc, _⟩
    · exact .base (.tup h1)
    · exact .fTuple h1
    · exact .kTuple hk hc
  | _ => rw [e] at h; simp [tyOk] at h
theorem kitAny_of {K : PySem.W.Frag} {d : D} (h : tyOk d = true) : ∀ {ts : List String}, ts.all tyNames.contains = true → PySem.W.kitAny K (.type (tyS d)) (ts.map .type) = some (ts.any fun n => isI d n)
  | [], _ => rfl
  | t :: ts, ht => by
    rw [List.all_cons, Bool.and_eq_true] at ht
    have h1 := kit_ty (K := K) (kit_isI h ht.1)
    have ih := kitAny_of (K := K) h ht.2
    rw [List.map_cons, List.any_cons]
    unfold PySem.W.kitAny
    rw [h1]
    cases e : isI d t with
    | true => rfl
    | false =>
      rw [Bool.false_or]
      exact ih
theorem cr_isi : CallR X (.builtin "isinstance") (rL X.K cl E isiD) := by
  intro pins s σ H xs us Q I rv h
  obtain ⟨W, ρ, σ', st, ds, s0, l0, r, h⟩ := h
  unfold isiD at h
  split at h
  · rename_i d n
    cases r with
    | cons r1 r2 =>
      cases r2 with
      | cons r2 r3 =>
        cases r3
        have e2 := ty_of (st := st) r2 rfl
        subst e2
        split at h
        · rename_i hk
          rw [Bool.and_eq_true] at hk
          exact call_isi pins s σ H _ us Q I rv ⟨_, _, _, _, _, rfl, .ty n, tyX_of s0 l0 r1 hk.1, kit_ty (kit_isI hk.1 hk.2), h.now s0 (.bl _)⟩
        · exact h.elim
  · exact h.elim
/-- isinstance(a, (T, ..)) -/
def tTys : List String → TA
  | [] => tNil
  | n :: r => tCons (tC (.ty n)) (tTys r)
def isiT (ts : List String) (d : D) (st : S) : R D := if tyOk (view d st) && (ts.all tyNames.contains && decide (ts.length ≤ sizeLine)) then .ok (.bl (ts.any fun n => isI (view d st) n)) st else .stuck
theorem tTys_run {ts : List String} {σ : L2.St} {H : Hp} : ∀ {Q : List V → Hp → Prop}, Q (ts.map V.ty) H → tTys ts σ H Q := by
  induction ts with
  | nil => intro Q h; exact h
  | cons t ts ih =>
    intro Q h
    show tTys ts σ H fun xs H2 => Q (V.ty t :: xs) H2
    exact ih h
theorem paired_ty : ∀ ts : List String, Paired ClsV (ts.map V.ty) (ts.map Value.type)
  | [] => .nil
  | t :: ts => .cons (.ty t) (paired_ty ts)
theorem dv_isiT {fa : Ev → S → R D} {a : Expr} {ns : List Expr} {ts : List String} {k : Nat} {p p2 pos : Pos} (ha : DO X cl E a fa) (hns : PA X ns (tTys ts)) (hg : Gl X "isinstance") (hm : X.mg "isinstance" = none)
    (he : starEach [a, .Tuple ns k p2] X.env = (false, eval a X.env) :: starEach [.Tuple ns k p2] X.env := by rfl) (he2 : starEach [.Tuple ns k p2] X.env = (false, eval (.Tuple ns k p2) X.env) :: starEach [] X.env := by rfl) (hpl : (backTo pos (starEach [.Tuple ns k p2] X.env)).any (·.1) = false := by rfl) :
    DV X cl E (.Call (.Name "isinstance" p) [a, .Tuple ns k p2] [] pos) (dUn (isiT ts) fa) := by
  refine PEimp (pe_callB call_isiT hg hm (by decide +kernel) (pa_cons ha (pa_cons (pe_tup hns) pa_nil he2) he) (by decide) (by decide) he hpl) fun σ H Q h => ?_
  obtain ⟨W, ρ, st, s, l, h⟩ := h
  refine ⟨W, ρ, st, s, l, (Aft.peel h).imp (fun _ _ _ r => r) ?_⟩
  rintro x H1 ⟨dx, st1, W1, g1, k1, s1, r1, h1⟩
  unfold isiT at h1
  split at h1
  · rename_i hk
    simp only [Bool.and_eq_true, decide_eq_true_eq] at hk
    have l1 := l.keep g1 k1
    refine tTys_run ⟨by rw [List.length_map]; exact hk.2.2, fun q hn => ?_⟩
    refine ⟨x, q, ts.map V.ty, .type (tyS (view dx st1)), ts.map Value.type, _, rfl, upd_same, paired_ty ts, ?_, kitAny_of hk.1 hk.2.1, ?_⟩
    · have g2 : Grow W1 H1 ⟨upd W1.F q (.tup (ts.map V.ty)), W1.A⟩ := grow_new s1.ex hn
      exact tyX_of (s1.new hn) (l1.keep g2 (keep_new hn)) (ORp.grow r1 g2) hk.1
    · have g2 : Grow W1 H1 ⟨upd W1.F q (.tup (ts.map V.ty)), W1.A⟩ := grow_new s1.ex hn
      exact h1 _ _ _ g2 (keep_new hn) (s1.new hn) (.bl _)
  · exact h1.elim
theorem pa_ty {n : String} {ts : List String} {x : Str} {p : Pos} {es : List Expr} (hg : Gl X x) (hm : X.mg x = none) (hv : bootBuiltins x = some (.type n)) (hr : PA X es (tTys ts)) (hs : starEach (.Name x p :: es) X.env = (false, eval (.Name x p) X.env) :: starEach es X.env := by rfl) (hn : x ≠ "__name__" := by decide) (hd : (x == ("__debug__" : Str)) = false := by decide) :
    PA X (.Name x p :: es) (tTys (n :: ts)) := pa_cons (pe_bltn (v := .ty n) hg hm hv rfl hn hd) hr hs
end
end DL
set_option maxHeartbeats 4000000
/-! The data layer, part e: calls of the program's defs, iteration, comprehensions. -/
namespace DL
open PySem PySem.Spec PyProof.Rows L2

/-! ### promises -/
/-- a def's promise by a plain function -/
def spG (K : PySem.W.Frag) (cl : Cl) (F : List D → S → R D) : Sp := fun vs H Q E => ∃ W st ds, SatS K cl W st H ∧ RpAll K cl W vs ds ∧ Aft K cl E (Rp K cl) W H (F ds st) Q
theorem passA {X : Cx} {E : XK} : Passes CX0 X E := fun _ _ _ _ _ _ _ h => h.elim
def gath {α : Type} (l : List α) (pm : List Nat) : List α := pm.filterMap (l[·]?)
section
variable {X : Cx} {cl : Cl} {E : XK} {CX : CXT} {k n : Nat} {f : Addr} {fd : FuncData} {ps ks : List Str} {F : List D → S → R D} {g gk : Ev → S → R (List D)} {e : Expr} {es : List Expr} {kws : List Keyword} {pos p : Pos} {x : Str}
/-- f(e, ..) -/
theorem dv_call (G : FnOk X.prog X.w X.K X.mg X.base CX k f fd ps (spG X.K cl F)) (hr : Room k X.A) (hg : Gl X x) (hm : X.mg x = some (.ref f)) (hk : PySem.W.keepIn X.K (.ref f) = true) (hb : Binds X.K fd ps []) (hx : Passes CX X E)
    (ha : DA X cl E (e :: es) g) (hdb : (x == ("__debug__" : Str)) = false := by decide) (he : starEach (e :: es) X.env = (false, eval e X.env) :: starEach es X.env := by rfl) (hpl : (backTo pos (starEach es X.env)).any (·.1) = false := by rfl) :
    DV X cl E (.Call (.Name x p) (e :: es) [] pos) (dCall F g) := by
  refine PEimp (pe_call (dvs := []) (E := E) G hr hg hm hk hb .nil hx ha hdb he hpl) fun σ H Q h => ?_
  obtain ⟨W, ρ, st, s, l, h⟩ := h
  refine ⟨W, ρ, st, s, l, (Aft.peel h).imp (fun _ _ _ r => r) ?_⟩
  rintro xs H1 ⟨ds, st1, W1, g1, k1, s1, r1, h1⟩
  rw [List.append_nil]
  exact ⟨W1, st1, ds, s1, r1, h1⟩
theorem dv_call0 (G : FnOk X.prog X.w X.K X.mg X.base CX k f fd ps (spG X.K cl F)) (hr : Room k X.A) (hg : Gl X x) (hm : X.mg x = some (.ref f)) (hk : PySem.W.keepIn X.K (.ref f) = true) (hb : Binds X.K fd ps []) (hx : Passes CX X E)
    (hdb : (x == ("__debug__" : Str)) = false := by decide) : DV X cl E (.Call (.Name x p) [] [] pos) (dCall F dNil) := by
  refine PEimp (pe_call0 (dvs := []) (E := E) G hr hg hm hk hb .nil hx hdb) fun σ H Q h => ?_
  obtain ⟨W, ρ, st, s, l, h⟩ := h
  exact ⟨W, st, [], s, .nil, h⟩
/-! keywords -/
abbrev DK (X : Cx) (cl : Cl) (E : XK) (kws : List Keyword) (f : Ev → S → R (List D)) : Prop := PK X kws (liftA X.K cl E f)
theorem PKimp {kws : List Keyword} {t t' : TA} (h : PK X kws t) (hi : ∀ σ H Q, t' σ H Q → t σ H Q) : PK X kws t' := ⟨fun pos pins s σ H Q I q => h.run pos pins s σ H Q I (hi _ _ _ q)⟩
theorem dk_nil : DK X cl E [] dNil := PKimp pk_nil fun σ H Q ⟨W, ρ, st, s, l, h⟩ => Aft.now h s .nil
theorem dk_cons {fv : Ev → S → R D} {nm : Option Str} {kpos : Pos} (ha : DV X cl E e fv) (hr : DK X cl E kws g) : DK X cl E (⟨nm, e, kpos⟩ :: kws) (dCons fv g) := by
  refine PKimp (pk_cons ha hr) fun σ H Q h => ?_
  obtain ⟨W, ρ, st, s, l, h⟩ := h
  refine ⟨W, ρ, st, s, l, (Aft.peel h).imp (fun _ _ _ r => r) ?_⟩
  rintro x H1 ⟨dx, st1, W1, g1, k1, s1, r1, h1⟩
  refine ⟨W1, ρ, st1, s1, l.keep g1 k1, (Aft.peel h1).imp (fun _ _ _ r => r) ?_⟩
  rintro xs H2 ⟨dxs, st2, W2, g2, k2, s2, r2, h2⟩
  exact Aft.now h2 s2 (.cons (r1.grow g2) r2)
theorem Vals.gath {vs : List V} {us : List Value} (r : Vals vs us) : ∀ pm : List Nat, Vals (gath vs pm) (gath us pm)
  | [] => .nil
  | i :: pm => by
    unfold DL.gath
    rw [List.filterMap_cons, List.filterMap_cons]
    cases e : vs[i]? with
    | none =>
      rw [r.none_of e]
      exact Vals.gath r pm
    | some v =>
      obtain ⟨u, h1, h2⟩ := r.get e
      rw [h1]
      exact .cons h2 (Vals.gath r pm)
theorem RpAll.gath {K : PySem.W.Frag} {W : Wd} {vs : List V} {ds : List D} (r : RpAll K cl W vs ds) : ∀ pm : List Nat, RpAll K cl W (gath vs pm) (gath ds pm)
  | [] => .nil
  | i :: pm => by
    unfold DL.gath
    rw [List.filterMap_cons, List.filterMap_cons]
    cases e : ds[i]? with
    | none =>
      have : vs[i]? = none := by
        rw [List.getElem?_eq_none_iff] at e ⊢
        rw [r.length]; exact e
      rw [this]
      exact RpAll.gath r pm
    | some d =>
      obtain ⟨v, h1, h2⟩ := r.get e
      rw [h1]
      exact .cons h2 (RpAll.gath r pm)
/-- how a call with n positional values and keywords ks binds: the values by the places pm -/
def KB (K : PySem.W.Frag) (fd : FuncData) (ps : List Str) (n : Nat) (ks : List Str) (pm : List Nat) : Prop := KBn K fd ps n ks (fun us ws => gath (us ++ ws) pm) (fun vs zs => gath (vs ++ zs) pm)
theorem kb_of {K : PySem.W.Frag} {qual : Str} {params : Arguments} {body : List Stmt} {scope : Scope} {kwd : List (Str × V)} {pm : List Nat} (Fn : FunD K x qual params body scope [] kwd f fd)
    (h : ∀ (kV doc pmv : Value) (an : Option Addr) (cdv ct : Value) (us ws : List Value), us.length = n → ws.length = ks.length → bindArgs (PySem.W.fnOf x qual params body scope .none kV doc pmv an cdv ct) ⟨us, ks.zip ws⟩ = pure (ps.zip (gath (us ++ ws) pm))) : KB K fd ps n ks pm := by
  obtain ⟨oc, od, dV, kV, doc, pmv, an, cdv, ct, osl, rfl, lk, hcd, hD, hK⟩ := Fn.ex
  rcases hD with ⟨_, rfl⟩ | ⟨e, _⟩
  · exact ⟨fun s us ws _ h1 h2 => .of_eq (h kV doc pmv an cdv ct us ws h1 h2), fun r1 r2 => Vals.gath (r1.append r2) pm⟩
  · exact absurd rfl e
def dCallK (F : List D → S → R D) (n m : Nat) (pm : List Nat) (g gk : Ev → S → R (List D)) : Ev → S → R D := fun ρ st => (g ρ st).bind fun ds st => (gk ρ st).bind fun es st => if ds.length = n ∧ es.length = m then F (gath (ds ++ es) pm) st else .stuck
end

/-! ### targets -/
inductive Tg where
  | nm (i : Nat) | tp (is : List Nat)
def setAll : List Nat → List D → Ev → Ev
  | i :: is, d :: ds, ρ => setAll is ds (ρ.set i (.sh d))
  | _, _, ρ => ρ
def bindT (t : Tg) (d : D) (ρ : Ev) : Option Ev := match t, d with
  | .nm i, d => some (ρ.set i (.sh d))
  | .tp is, .tup ds => if ds.length = is.length then some (setAll is ds ρ) else none
  | .tp is, .lst ds => if ds.length = is.length then some (setAll is ds ρ) else none
  | .tp is, .pr a b => if 2 = is.length then some (setAll is [a, b] ρ) else none
  | _, _ => none
def gNames : List Nat → TGs
  | [] => gNil
  | i :: r => gCons (gName i) (gNames r)
def tgT (K : PySem.W.Frag) : Tg → TG
  | .nm i => gName i
  | .tp is => fun v σ H Q => gTup K is.length (gNames is) v σ H Q ∨ gLst K is.length (gNames is) v σ H Q
def Tg.ix : Tg → List Nat
  | .nm i => [i]
  | .tp is => is
section
variable {K : PySem.W.Frag} {cl : Cl} {E : XK} {W W' : Wd} {ρ ρ' : Ev} {σ : L2.St} {st : S} {H H' : Hp} {v : V} {d : D} {ds : List D}
theorem SatL.setSh (l : SatL K cl W ρ σ H) (r : Rp K cl W v d) (i : Nat) : SatL K cl W (ρ.set i (.sh d)) (σ.set i (some v)) H := by
  refine ⟨by rw [List.length_set, List.length_set]; exact l.len, fun j e h => ?_, fun j es h => ?_, fun j m es fs p n h1 h2 h3 h4 => ?_, fun j x h => ?_, fun j o h => ?_, fun j m o u p n h1 h2 h3 h4 => ?_⟩
  · by_cases q : i = j
    · subst q
      by_cases hi : i < ρ.length
      · rw [List.getElem?_set_self hi] at h
        cases h
        exact ⟨v, List.getElem?_set_self (by rw [← l.len]; exact hi), r⟩
      · rw [List.getElem?_eq_none (by rw [List.length_set]; omega)] at h
        cases h
    · rw [List.getElem?_set_ne q] at h
      obtain ⟨u, h1, h2⟩ := l.sh j e h
      exact ⟨u, by rw [List.getElem?_set_ne q]; exact h1, h2⟩
  · have q : i ≠ j := fun q => by
      subst q
      by_cases hi : i < ρ.length
      · rw [List.getElem?_set_self hi] at h
        cases h
      · rw [List.getElem?_eq_none (by rw [List.length_set]; omega)] at h
        cases h
    rw [List.getElem?_set_ne q] at h ⊢
    exact l.own j es h
  · have own_ne : ∀ (j : Nat) (es : List D), (ρ.set i (.sh d))[j]? = some (.own es) → i ≠ j := fun j es h q => by
      subst q
      by_cases hi : i < ρ.length
      · rw [List.getElem?_set_self hi] at h
        cases h
      · rw [List.getElem?_eq_none (by rw [List.length_set]; omega)] at h
        cases h
    have q1 := own_ne j es h1
    have q2 := own_ne m fs h2
    rw [List.getElem?_set_ne q1] at h1 h3
    rw [List.getElem?_set_ne q2] at h2 h4
    exact l.ne j m es fs p n h1 h2 h3 h4
  · have q : i ≠ j := fun q => by
      subst q
      by_cases hi : i < ρ.length
      · rw [List.getElem?_set_self hi] at h
        cases h
      · rw [List.getElem?_eq_none (by rw [List.length_set]; omega)] at h
        cases h
    rw [List.getElem?_set_ne q] at h ⊢
    exact l.xn j x h
  · have q : i ≠ j := fun q => by
      subst q
      by_cases hi : i < ρ.length
      · rw [List.getElem?_set_self hi] at h
        cases h
      · rw [List.getElem?_eq_none (by rw [List.length_set]; omega)] at h
        cases h
    rw [List.getElem?_set_ne q] at h ⊢
    exact l.hd j o h
  · have hd_ne : ∀ (j : Nat) (o : MO), (ρ.set i (.sh d))[j]? = some (.hd o) → i ≠ j := fun j o h q => by
      subst q
      by_cases hi : i < ρ.length
      · rw [List.getElem?_set_self hi] at h
        cases h
      · rw [List.getElem?_eq_none (by rw [List.length_set]; omega)] at h
        cases h
    have q1 := hd_ne j o h1
    have q2 := hd_ne m u h2
    rw [List.getElem?_set_ne q1] at h1 h3
    rw [List.getElem?_set_ne q2] at h2 h4
    exact l.hn j m o u p n h1 h2 h3 h4
/-- only the named places change, and none of them becomes a list of one's own -/
structure Off (is : List Nat) (ρ ρ' : Ev) (σ σ' : L2.St) : Prop where
  len : σ'.length = σ.length
  oth : ∀ j, j ∉ is → σ'[j]? = σ[j]?
  own : ∀ (j : Nat) (es : List D), ρ'[j]? = some (.own es) → ρ[j]? = some (.own es) ∧ σ'[j]? = σ[j]?
  hd : ∀ (j : Nat) (o : MO), ρ'[j]? = some (.hd o) → ρ[j]? = some (.hd o) ∧ σ'[j]? = σ[j]?
theorem Off.set {ρ : Ev} {σ : L2.St} {v : V} {d : D} (i : Nat) (is : List Nat) (hi : i ∈ is) : Off is ρ (ρ.set i (.sh d)) σ (σ.set i (some v)) := by
  have ne : ∀ (j : Nat) (s : Sl), (ρ.set i (.sh d))[j]? = some s → s ≠ .sh d → i ≠ j := fun j s h hs q => by
    subst q
    by_cases hi : i < ρ.length
    · rw [List.getElem?_set_self hi] at h
      exact hs (Option.some.inj h).symm
    · rw [List.getElem?_eq_none (by rw [List.length_set]; omega)] at h
      cases h
  refine ⟨by rw [List.length_set], fun j hj => List.getElem?_set_ne (fun (e : i = j) => hj (e ▸ hi)), fun j es h => ?_, fun j o h => ?_⟩
  · have q := ne j _ h (fun z => nomatch z)
    rw [List.getElem?_set_ne q] at h
    exact ⟨h, List.getElem?_set_ne q⟩
  · have q := ne j _ h (fun z => nomatch z)
    rw [List.getElem?_set_ne q] at h
    exact ⟨h, List.getElem?_set_ne q⟩
theorem Off.refl {is : List Nat} {ρ : Ev} {σ : L2.St} : Off is ρ ρ σ σ := ⟨rfl, fun _ _ => rfl, fun _ _ h => ⟨h, rfl⟩, fun _ _ h => ⟨h, rfl⟩⟩
theorem Off.trans {is : List Nat} {ρ ρ1 ρ2 : Ev} {σ σ1 σ2 : L2.St} (a : Off is ρ ρ1 σ σ1) (b : Off is ρ1 ρ2 σ1 σ2) : Off is ρ ρ2 σ σ2 :=
  ⟨b.len.trans a.len, fun j h => (b.oth j h).trans (a.oth j h), fun j es h => by
    obtain ⟨h1, h2⟩ := b.own j es h
    obtain ⟨h3, h4⟩ := a.own j es h1
    exact ⟨h3, h2.trans h4⟩, fun j o h => by
    obtain ⟨h1, h2⟩ := b.hd j o h
    obtain ⟨h3, h4⟩ := a.hd j o h1
    exact ⟨h3, h2.trans h4⟩⟩
theorem Off.mono {is js : List Nat} {ρ ρ1 : Ev} {σ σ1 : L2.St} (a : Off is ρ ρ1 σ σ1) (h : ∀ i ∈ is, i ∈ js) : Off js ρ ρ1 σ σ1 := ⟨a.len, fun j hj => a.oth j fun q => hj (h j q), a.own, a.hd⟩
theorem names_ok : ∀ {is : List Nat} {ds : List D} {vs : List V} {ρ : Ev} {σ : L2.St}, SatL K cl W ρ σ H → RpAll K cl W vs ds → ds.length = is.length →
    ∃ σ', SatL K cl W (setAll is ds ρ) σ' H ∧ Off is ρ (setAll is ds ρ) σ σ' ∧ ∀ Q : L2.St → Hp → Prop, Q σ' H → gNames is vs σ H Q
  | [], ds, vs, ρ, σ, l, r, e => by
    have : ds = [] := List.length_eq_zero_iff.mp e
    subst this
    cases r
    exact ⟨σ, l, Off.refl, fun Q q => ⟨rfl, q⟩⟩
  | i :: is, [], vs, ρ, σ, l, r, e => by cases e
  | i :: is, d :: ds, vs, ρ, σ, l, r, e => by
    cases r with
    | cons h r =>
      rename_i v vs
      obtain ⟨σ', h1, h2, h3⟩ := names_ok (is := is) (l.setSh h i) r (Nat.succ.inj e)
      refine ⟨σ', h1, (Off.set i (i :: is) List.mem_cons_self).trans (h2.mono fun j hj => List.mem_cons_of_mem _ hj), fun Q q => ⟨v, vs, rfl, ?_⟩⟩
      exact h3 Q q
theorem bind_ok {t : Tg} (s : SatS K cl W st H) (l : SatL K cl W ρ σ H) (r : Rp K cl W v d) (e : bindT t d ρ = some ρ') :
    ∃ σ', SatL K cl W ρ' σ' H ∧ Off t.ix ρ ρ' σ σ' ∧ ∀ Q : L2.St → Hp → Prop, Q σ' H → tgT K t v σ H Q := by
  cases t with
  | nm i =>
    have e' : ρ' = ρ.set i (.sh d) := by
      unfold bindT at e
      exact (Option.some.inj e).symm
    subst e'
    exact ⟨_, l.setSh r i, Off.set i [i] (List.mem_singleton.mpr rfl), fun Q q => q⟩
  | tp is =>
    cases d with
    | tup ds =>
      unfold bindT at e
      dsimp only at e
      split at e
      · rename_i hl
        cases e
        cases r with
        | tup hf r' =>
          rename_i a vs
          obtain ⟨σ', h1, h2, h3⟩ := names_ok (is := is) l r' hl
          exact ⟨σ', h1, h2, fun Q q => .inl ⟨a, vs, rfl, same_sqt s.ex hf.1, by rw [r'.length]; exact hl, h3 Q q⟩⟩
      · cases e
    | lst ds =>
      unfold bindT at e
      dsimp only at e
      split at e
      · rename_i hl
        cases e
        cases r with
        | lst hf r' =>
          rename_i a vs
          obtain ⟨σ', h1, h2, h3⟩ := names_ok (is := is) l r' hl
          exact ⟨σ', h1, h2, fun Q q => .inr ⟨a, vs, rfl, .inl (.inl (s.ex _ _ hf)), by rw [r'.length]; exact hl, h3 Q q⟩⟩
      · cases e
    | pr x y =>
      unfold bindT at e
      dsimp only at e
      split at e
      · rename_i hl
        cases e
        cases r with
        | pr hf ra rb =>
          rename_i a v1 v2
          obtain ⟨σ', h1, h2, h3⟩ := names_ok (is := is) (ds := [x, y]) l (.cons ra (.cons rb .nil)) hl
          exact ⟨σ', h1, h2, fun Q q => .inl ⟨a, [v1, v2], rfl, same_sqt s.ex hf, hl, h3 Q q⟩⟩
      · cases e
    | _ => cases e
end

/-! ### what is walked -/
/-- J walks the data ds while the world stays -/
structure Wlk (K : PySem.W.Frag) (cl : Cl) (W : Wd) (J : It) (ds : List D) : Prop where
  ex : ∃ (G : Hp → Prop) (Y : Nat → Hp → V → Hp → Prop), Walk J ds.length G Y ∧ (∀ H, Same W.F H → G H) ∧
    ∀ (i : Nat) (d : D) (H : Hp) (x : V) (H' : Hp) (W1 : Wd) (st : S), ds[i]? = some d → Same W.F W1.F → W.A <+: W1.A → SatS K cl W1 st H → Y i H x H' → ∃ W2, Grow W1 H W2 ∧ Keep W1.A H H' ∧ SatS K cl W2 st H' ∧ Rp K cl W2 x d
abbrev DI (X : Cx) (cl : Cl) (E : XK) (tg iter : Expr) (f : Ev → S → R (List D)) : Prop := PI X tg iter (liftG X.K cl E (fun _ _ => Wlk X.K cl) f)
theorem PIimp {X : Cx} {tg iter : Expr} {t t' : TI} (h : PI X tg iter t) (hi : ∀ σ H Q, t' σ H Q → t σ H Q) : PI X tg iter t' := ⟨fun pins s σ H Q I q => h.run pins s σ H Q I (hi _ _ _ q)⟩
theorem PIor {X : Cx} {tg iter : Expr} {t t' : TI} (h : PI X tg iter t) (h' : PI X tg iter t') : PI X tg iter fun σ H R => t σ H R ∨ t' σ H R := ⟨fun pins s σ H Q I q => q.elim (h.run pins s σ H Q I) (h'.run pins s σ H Q I)⟩
/-- the items of a datum -/
def itemsD (d : D) (st : S) : R (List D) := match d with
  | .lst ds => .ok ds st
  | .tup ds => .ok ds st
  | .str x => .ok (x.cps.toList.map fun c => .str ⟨#[c]⟩) st
  | _ => .stuck
def dItems (f : Ev → S → R D) : Ev → S → R (List D) := fun ρ st => (f ρ st).bind itemsD
/-- range -/
def range1D (ds : List D) (st : S) : R (List D) := match ds with
  | [.int n] => if decide (-(2 ^ 62) ≤ n) && decide (n < 2 ^ 62) then .ok ((List.range n.toNat).map fun (i : Nat) => .int i) st else .stuck
  | _ => .stuck
def range2D (ds : List D) (st : S) : R (List D) := match ds with
  | [.int a, .int b] => if (decide (-(2 ^ 62) ≤ a) && decide (a < 2 ^ 62)) && (decide (-(2 ^ 62) ≤ b) && decide (b < 2 ^ 62)) then .ok ((List.range (b - a).toNat).map fun (i : Nat) => .int (a + i)) st else .stuck
  | _ => .stuck
def dRange (f : Ev → S → R (List D)) : Ev → S → R (List D) := fun ρ st => (f ρ st).bind range1D
def dRange2 (f : Ev → S → R (List D)) : Ev → S → R (List D) := fun ρ st => (f ρ st).bind range2D
/-- zip of two -/
def zipD (ds : List D) (st : S) : R (List D) := match ds with
  | [.lst a, .lst b] => .ok ((a.zip b).map fun p => .pr p.1 p.2) st
  | [.tup a, .tup b] => .ok ((a.zip b).map fun p => .pr p.1 p.2) st
  | _ => .stuck
def dZip (f : Ev → S → R (List D)) : Ev → S → R (List D) := fun ρ st => (f ρ st).bind zipD
/-- enumerate of a list, a tuple -/
def enumD (ds : List D) (st : S) : R (List D) := match ds with
  | [.lst a] => .ok (a.zipIdx.map fun p => .pr (.int p.2) p.1) st
  | [.tup a] => .ok (a.zipIdx.map fun p => .pr (.int p.2) p.1) st
  | _ => .stuck
def dEnum (f : Ev → S → R (List D)) : Ev → S → R (List D) := fun ρ st => (f ρ st).bind enumD
section
variable {X : Cx} {cl : Cl} {E : XK} {f : Ev → S → R D} {g : Ev → S → R (List D)} {tg e e2 : Expr} {pos p tpos : Pos} {kk : Nat} {elts : List Expr}
theorem stay {K : PySem.W.Frag} {W1 : Wd} {H : Hp} {st : S} {x : V} {d : D} (s : SatS K cl W1 st H) (r : Rp K cl W1 x d) : ∃ W2, Grow W1 H W2 ∧ Keep W1.A H H ∧ SatS K cl W2 st H ∧ Rp K cl W2 x d := ⟨W1, .refl, .refl, s, r⟩
theorem wlk_list {K : PySem.W.Frag} {W : Wd} {a : Addr} {vs : List V} {ds : List D} (h : W.F a = some (.lst vs)) (r : RpAll K cl W vs ds) : Wlk K cl W (Itl K a) ds := by
  refine ⟨⟨_, _, by rw [← r.length]; exact walk_list (K := K) (a := a) (xs := vs), fun H hs => Or.inl (Or.inl (hs _ _ h)), fun i d H x H' W1 st e hf ha s y => ?_⟩⟩
  obtain ⟨rfl, y⟩ := y
  obtain ⟨v, h1, h2⟩ := r.get e
  rw [y] at h1
  cases h1
  exact stay s (h2.mono hf ha)
theorem wlk_tup {K : PySem.W.Frag} {W : Wd} {a : Addr} {vs : List V} {ds : List D} (h : SqT K W.F a vs) (r : RpAll K cl W vs ds) : Wlk K cl W (Itt K a) ds := by
  refine ⟨⟨_, _, by rw [← r.length]; exact walk_tup (K := K) (a := a) (xs := vs), fun H hs => same_sqt hs h, fun i d H x H' W1 st e hf ha s y => ?_⟩⟩
  obtain ⟨rfl, y⟩ := y
  obtain ⟨v, h1, h2⟩ := r.get e
  rw [y] at h1
  cases h1
  exact stay s (h2.mono hf ha)
theorem wlk_str {K : PySem.W.Frag} {W : Wd} {z : Str} : Wlk K cl W (Its z) (z.cps.toList.map fun c => .str ⟨#[c]⟩) := by
  refine ⟨⟨_, _, by rw [List.length_map, Array.length_toList]; exact walk_str (z := z), fun _ _ => trivial, fun i d H x H' W1 st e hf ha s y => ?_⟩⟩
  obtain ⟨rfl, c, h1, rfl⟩ := y
  rw [List.getElem?_map, Array.getElem?_toList, h1] at e
  cases e
  exact stay s (.str _)
theorem wlk_range {K : PySem.W.Frag} {W : Wd} {lo : Int} {n : Nat} : Wlk K cl W (Itr lo n) ((List.range n).map fun (i : Nat) => .int (lo + i)) := by
  refine ⟨⟨_, _, by rw [List.length_map, List.length_range]; exact walk_range (lo := lo) (n := n), fun _ _ => trivial, fun i d H x H' W1 st e hf ha s y => ?_⟩⟩
  obtain ⟨rfl, rfl⟩ := y
  rw [List.getElem?_map] at e
  by_cases hi : i < n
  · rw [List.getElem?_range hi] at e
    cases e
    exact stay s (.int _)
  · rw [List.getElem?_eq_none (by rw [List.length_range]; omega)] at e
    cases e
/-- a new pair each turn -/
theorem pair_step {K : PySem.W.Frag} {W1 : Wd} {H : Hp} {st : S} {T : Addr} {x y : V} {dx dy : D} (s : SatS K cl W1 st H) (hn : H T = none) (rx : Rp K cl W1 x dx) (ry : Rp K cl W1 y dy) :
    ∃ W2, Grow W1 H W2 ∧ Keep W1.A H (upd H T (.tup [x, y])) ∧ SatS K cl W2 st (upd H T (.tup [x, y])) ∧ Rp K cl W2 (.ref T) (.pr dx dy) := by
  have g : Grow W1 H ⟨upd W1.F T (.tup [x, y]), W1.A⟩ := grow_new s.ex hn
  refine ⟨⟨upd W1.F T (.tup [x, y]), W1.A⟩, g, keep_new hn, s.new hn, .pr (.inl (.inl upd_same)) (rx.grow g) (ry.grow g)⟩
theorem zip_get {a b : List D} {i : Nat} {d : D} (e : ((a.zip b).map fun p => D.pr p.1 p.2)[i]? = some d) : ∃ x y, a[i]? = some x ∧ b[i]? = some y ∧ d = .pr x y := by
  rw [List.getElem?_map, Option.map_eq_some_iff] at e
  obtain ⟨⟨x, y⟩, h1, rfl⟩ := e
  rw [List.getElem?_zip_eq_some] at h1
  exact ⟨x, y, h1.1, h1.2, rfl⟩
theorem di_val (h : DV X cl E e f) : DI X cl E tg e (dItems f) := by
  refine PIimp (PIor (pi_list h) (PIor (pi_tup h) (pi_str h))) fun σ H R h => ?_
  obtain ⟨W, ρ, st, s, l, h⟩ := h
  have go : ∀ d st1, f ρ st = .ok d st1 → ((∃ ds, d = .lst ds) ∨ (∃ ds, d = .tup ds) ∨ ∃ x, d = .str x) := fun d st1 e => by
    unfold dItems at h
    rw [e] at h
    cases d with
    | lst ds => exact .inl ⟨_, rfl⟩
    | tup ds => exact .inr (.inl ⟨_, rfl⟩)
    | str x => exact .inr (.inr ⟨_, rfl⟩)
    | _ => exact (show False from h).elim
  cases e : f ρ st with
  | stuck => unfold dItems at h; rw [e] at h; exact (show False from h).elim
  | ex x st1 =>
    refine .inl ⟨W, ρ, st, s, l, ?_⟩
    unfold dItems at h
    rw [e] at h ⊢
    exact h
  | ok d st1 =>
    have hp := Aft.peel (RP' := Rp X.K cl) h
    rcases go d st1 e with ⟨ds, rfl⟩ | ⟨ds, rfl⟩ | ⟨z, rfl⟩
    · refine .inl ⟨W, ρ, st, s, l, ?_⟩
      rw [e] at hp ⊢
      intro v H1 W1 g1 k1 s1 r1
      unfold dItems at h
      rw [e] at h
      cases r1 with
      | lst hf r => exact ⟨_, rfl, ⟨_, .inl (.inl (s1.ex _ _ hf))⟩, h _ H1 W1 g1 k1 s1 (wlk_list hf r)⟩
    · refine .inr (.inl ⟨W, ρ, st, s, l, ?_⟩)
      rw [e] at hp ⊢
      intro v H1 W1 g1 k1 s1 r1
      unfold dItems at h
      rw [e] at h
      cases r1 with
      | tup hf r => exact ⟨_, rfl, ⟨_, same_sqt s1.ex hf.1⟩, h _ H1 W1 g1 k1 s1 (wlk_tup hf.1 r)⟩
    · refine .inr (.inr ⟨W, ρ, st, s, l, ?_⟩)
      rw [e] at hp ⊢
      intro v H1 W1 g1 k1 s1 r1
      unfold dItems at h
      rw [e] at h
      cases r1 with
      | str => exact ⟨_, rfl, h _ H1 W1 g1 k1 s1 wlk_str⟩
theorem di_range (hg : Gl X "range") (hm : X.mg "range" = none) {a : Expr} (ha : DA X cl E [a] g) (hs : starEach [a] X.env = [(false, eval a X.env)] := by rfl) : DI X cl E tg (.Call (.Name "range" p) [a] [] pos) (dRange g) := by
  refine PIimp (pi_range1 hg hm ha hs) fun σ H R h => ?_
  obtain ⟨W, ρ, st, s, l, h⟩ := h
  refine ⟨W, ρ, st, s, l, (Aft.peel h).imp (fun _ _ _ r => r) ?_⟩
  rintro xs H1 ⟨ds, st1, W1, g1, k1, s1, r1, h1⟩
  unfold range1D at h1
  split at h1
  · rename_i n
    cases r1 with
    | cons r r2 =>
      cases r
      cases r2
      split at h1
      · rename_i hk
        simp only [Bool.and_eq_true, decide_eq_true_eq] at hk
        refine ⟨n, rfl, hk.1, hk.2, ?_⟩
        refine Aft.now h1 s1 ?_
        have := wlk_range (K := X.K) (cl := cl) (W := W1) (lo := 0) (n := n.toNat)
        simp only [Int.zero_add] at this
        exact this
      · exact h1.elim
  · exact h1.elim
theorem di_zip (hg : Gl X "zip") (hm : X.mg "zip" = none) (ha : DA X cl E [e, e2] g) (hs : starEach [e, e2] X.env = (false, eval e X.env) :: starEach [e2] X.env := by rfl) (hpl : (backTo pos (starEach [e2] X.env)).any (·.1) = false := by rfl) :
    DI X cl E (.Tuple elts kk tpos) (.Call (.Name "zip" p) [e, e2] [] pos) (dZip g) := by
  refine PIimp (RZ.pi_zipA hg hm ha hs hpl) fun σ H R h => ?_
  obtain ⟨W, ρ, st, s, l, h⟩ := h
  refine ⟨W, ρ, st, s, l, (Aft.peel h).imp (fun _ _ _ r => r) ?_⟩
  rintro xs H1 ⟨ds, st1, W1, g1, k1, s1, r1, h1⟩
  unfold zipD at h1
  split at h1
  · rename_i a b
    cases r1 with
    | cons r r2 =>
      cases r2 with
      | cons r2 r3 =>
        cases r3
        cases r with
        | lst hf rf =>
          cases r2 with
          | lst hf2 rf2 =>
            rename_i p vs q us
            refine ⟨p, q, vs, us, rfl, .inl ⟨.inl (.inl (s1.ex _ _ hf)), .inl (.inl (s1.ex _ _ hf2)), ?_⟩⟩
            refine Aft.now h1 s1 ⟨⟨_, _, walk_zip (K := X.K) (a := p) (b := q) (xs := vs) (ys := us) (by rw [List.length_map, List.length_zip, rf.length, rf2.length]), fun H hs => ⟨.inl (.inl (hs _ _ hf)), .inl (.inl (hs _ _ hf2))⟩, fun i d H x H' W2 st e hw hA s y => ?_⟩⟩
            obtain ⟨T, x1, y1, rfl, hn, rfl, h3, h4⟩ := y
            obtain ⟨dx, dy, e1, e2, rfl⟩ := zip_get e
            obtain ⟨v1, q1, t1⟩ := rf.get e1
            obtain ⟨v2, q2, t2⟩ := rf2.get e2
            rw [show vs[i]? = some x1 from h3] at q1
            rw [show us[i]? = some y1 from h4] at q2
            cases q1
            cases q2
            exact pair_step s hn (t1.mono hw hA) (t2.mono hw hA)
  · rename_i a b
    cases r1 with
    | cons r r2 =>
      cases r2 with
      | cons r2 r3 =>
        cases r3
        cases r with
        | tup hf rf =>
          cases r2 with
          | tup hf2 rf2 =>
            rename_i p vs q us
            refine ⟨p, q, vs, us, rfl, .inr ⟨same_sqt s1.ex hf.1, same_sqt s1.ex hf2.1, ?_⟩⟩
            have hn : ((a.zip b).map fun p => D.pr p.1 p.2).length = min vs.length us.length := by rw [List.length_map, List.length_zip, rf.length, rf2.length]
            refine Aft.now h1 s1 ⟨⟨fun H => SqT X.K H p vs ∧ SqT X.K H q us, YPair (fun i => vs[i]?) (fun i => us[i]?), ?_, fun H hs => ⟨same_sqt hs hf.1, same_sqt hs hf2.1⟩, fun i d H x H' W2 st e hw hA s y => ?_⟩⟩
            · rw [hn]
              refine ⟨fun i _ hi q => ?_, fun _ q => ⟨vs, us, q.1, q.2, by omega⟩, fun i H v H' _ q y => ?_⟩
              · have h1 : i < vs.length := by omega
                have h2 : i < us.length := by omega
                exact ⟨vs, us, vs[i], us[i], q.1, q.2, by simp [h1], by simp [h2]⟩
              · obtain ⟨T, x, z, h1, h2, h3, h4, h5⟩ := y
                exact ⟨T, x, z, h1, h2, h3, h4 vs q.1, h5 us q.2⟩
            · obtain ⟨T, x1, y1, rfl, hn, rfl, h3, h4⟩ := y
              obtain ⟨dx, dy, e1, e2, rfl⟩ := zip_get e
              obtain ⟨v1, q1, t1⟩ := rf.get e1
              obtain ⟨v2, q2, t2⟩ := rf2.get e2
              rw [show vs[i]? = some x1 from h3] at q1
              rw [show us[i]? = some y1 from h4] at q2
              cases q1
              cases q2
              exact pair_step s hn (t1.mono hw hA) (t2.mono hw hA)
  · exact h1.elim
end
end DL
set_option maxHeartbeats 4000000
/-! The data layer, part f: comprehensions, statements, loops, defs. -/
namespace DL
open PySem PySem.Spec PyProof.Rows L2

def noX {α : Type} (r : R α) : R α := match r with
  | .ex _ _ => .stuck
  | r => r
@[simp] theorem noX_ok {α : Type} (a : α) (s : S) : noX (R.ok a s) = .ok a s := rfl
def wipeE (ρ : Ev) : List Nat → Ev
  | [] => ρ
  | v :: vs => (wipeE ρ vs).set v .no
/-- the items that a comprehension makes -/
def compD (t : Tg) (tt : Ev → S → R Bool) (te : Ev → S → R D) (ρ : Ev) : List D → S → R (List D)
  | [], st => .ok [] st
  | d :: ds, st => match bindT t d ρ with
    | none => .stuck
    | some ρ' => (noX (tt ρ' st)).bind fun b st => if b then (noX (te ρ' st)).bind fun y st => (compD t tt te ρ ds st).bind fun ys st => .ok (y :: ys) st else compD t tt te ρ ds st
def dLc (t : Tg) (vs : List Nat) (fi : Ev → S → R (List D)) (tt : Ev → S → R Bool) (te : Ev → S → R D) : Ev → S → R D := fun ρ st => (fi ρ st).bind fun ds st => if ds.length ≤ sizeLine then (compD t tt te (wipeE ρ vs) ds st).bind fun ys st => .ok (.lst ys) st else .stuck
def tTrue : Ev → S → R Bool := fun _ st => .ok true st
section
variable {K : PySem.W.Frag} {cl : Cl} {E : XK} {W W0 W1 W' : Wd} {ρ ρ' : Ev} {σ : L2.St} {st : S} {H H0 H' : Hp} {v : V} {d : D} {ds : List D} {p : Addr} {o : HO} {vs : List V}
theorem getE_set {α : Type} {l : List α} {i j : Nat} {a b : α} (h : (l.set i a)[j]? = some b) : (i = j ∧ b = a) ∨ (i ≠ j ∧ l[j]? = some b) := by
  by_cases q : i = j
  · subst q
    by_cases hi : i < l.length
    · rw [List.getElem?_set_self hi] at h
      cases h
      exact .inl ⟨rfl, rfl⟩
    · rw [List.getElem?_eq_none (by rw [List.length_set]; omega)] at h
      cases h
  · rw [List.getElem?_set_ne q] at h
    exact .inr ⟨q, h⟩
theorem SatL.setNo (l : SatL K cl W ρ σ H) (i : Nat) (x : Option V) : SatL K cl W (ρ.set i .no) (σ.set i x) H := by
  have ne : ∀ {j : Nat} {s : Sl}, (ρ.set i .no)[j]? = some s → s ≠ .no → i ≠ j ∧ ρ[j]? = some s := fun h hs => by
    rcases getE_set h with ⟨_, e⟩ | h
    · exact absurd e hs
    · exact h
  refine ⟨by rw [List.length_set, List.length_set]; exact l.len, fun j e h => ?_, fun j es h => ?_, fun j m es fs p n h1 h2 h3 h4 => ?_, fun j e h => ?_, fun j o h => ?_, fun j m o u p n h1 h2 h3 h4 => ?_⟩
  · obtain ⟨q, h⟩ := ne h (fun z => nomatch z)
    rw [List.getElem?_set_ne q]
    exact l.sh j e h
  · obtain ⟨q, h⟩ := ne h (fun z => nomatch z)
    rw [List.getElem?_set_ne q]
    exact l.own j es h
  · obtain ⟨q1, h1⟩ := ne h1 (fun z => nomatch z)
    obtain ⟨q2, h2⟩ := ne h2 (fun z => nomatch z)
    rw [List.getElem?_set_ne q1] at h3
    rw [List.getElem?_set_ne q2] at h4
    exact l.ne j m es fs p n h1 h2 h3 h4
  · obtain ⟨q, h⟩ := ne h (fun z => nomatch z)
    rw [List.getElem?_set_ne q]
    exact l.xn j e h
  · obtain ⟨q, h⟩ := ne h (fun z => nomatch z)
    rw [List.getElem?_set_ne q]
    exact l.hd j o h
  · obtain ⟨q1, h1⟩ := ne h1 (fun z => nomatch z)
    obtain ⟨q2, h2⟩ := ne h2 (fun z => nomatch z)
    rw [List.getElem?_set_ne q1] at h3
    rw [List.getElem?_set_ne q2] at h4
    exact l.hn j m o u p n h1 h2 h3 h4
theorem SatL.wipe (l : SatL K cl W ρ σ H) : ∀ is : List Nat, SatL K cl W (wipeE ρ is) (L2.wipe σ is) H
  | [] => l
  | i :: is => (SatL.wipe l is).setNo i none
theorem wipe_get {σ : L2.St} {j : Nat} : ∀ {is : List Nat}, j ∉ is → (L2.wipe σ is)[j]? = σ[j]?
  | [], _ => rfl
  | i :: is, h => by
    unfold L2.wipe
    rw [List.getElem?_set_ne fun e => h (by rw [e]; exact List.mem_cons_self)]
    exact wipe_get fun z => h (List.mem_cons_of_mem _ z)
theorem wipe_in {σ : L2.St} {j : Nat} (hj : j < σ.length) : ∀ {is : List Nat}, j ∈ is → (L2.wipe σ is)[j]? = some none
  | i :: is, h => by
    unfold L2.wipe
    by_cases q : i = j
    · subst q
      rw [List.getElem?_set_self (by rw [wipe_length]; exact hj)]
    · rw [List.getElem?_set_ne q]
      rcases List.mem_cons.mp h with e | e
      · exact absurd e.symm q
      · exact wipe_in hj e
theorem wipe_eq {σ τ : L2.St} {is : List Nat} (hl : τ.length = σ.length) (h : ∀ j, j ∉ is → τ[j]? = σ[j]?) : L2.wipe τ is = L2.wipe σ is := by
  apply List.ext_getElem?
  intro j
  by_cases hm : j ∈ is
  · by_cases hj : j < σ.length
    · rw [wipe_in hj hm, wipe_in (by rw [hl]; exact hj) hm]
    · rw [List.getElem?_eq_none (by rw [wipe_length]; omega), List.getElem?_eq_none (by rw [wipe_length]; omega)]
  · rw [wipe_get hm, wipe_get hm, h j hm]
/-- an object beyond the world changes -/
theorem tabs_rp {K : PySem.W.Frag} {cl : Cl} {W : Wd} {H : Hp} {p : Addr} {o : HO} {u : MO} {T : List (Addr × Str)} (t : LamX.Tabs T H) (h : MoRp K cl W H p u) : LamX.Tabs T (upd H p o) := by
  refine tabs_upd t fun v e => ?_
  cases u with
  | lst ds => obtain ⟨vs, q, _⟩ := h; rw [q] at e; cases e; exact ⟨fun ps z => (by cases z), fun c q z => (by unfold LamX.CodeO at z; cases z)⟩
  | ins c fs => obtain ⟨dx, vs, q, _⟩ := h; rw [q] at e; cases e; exact ⟨fun ps z => (by cases z), fun c q z => (by unfold LamX.CodeO at z; cases z)⟩
  | dct ks ds => obtain ⟨vs, q, _⟩ := h; rw [q] at e; cases e; exact ⟨fun ps z => (by cases z), fun c q z => (by unfold LamX.CodeO at z; cases z)⟩
theorem SatS.mut (s : SatS K cl W st H) (h1 : p ∉ W.A) (h2 : W.F p = none) (h3 : H p = none ∨ ∃ vs, H p = some (.lst vs)) : SatS K cl W st (upd H p o) := by
  have ht : LamX.Tabs cl.T (upd H p o) := by
    rcases h3 with h3 | ⟨vs, h3⟩
    · exact tabs_new s.tab h3
    · exact tabs_lst s.tab h3
  refine ⟨fun a u h => ?_, s.len, s.nod, s.off, fun i ob e => ?_, s.nt, ht⟩
  · have : a ≠ p := fun e => by
      rw [e, h2] at h; cases h
    rw [upd_ne this]
    exact s.ex a u h
  · obtain ⟨a, h3, h4⟩ := s.mo i ob e
    have : a ≠ p := fun e => h1 (e ▸ List.mem_of_getElem? h3)
    exact ⟨a, h3, h4.mono (fun _ _ q => q) (List.prefix_refl _) fun u h => by rw [upd_ne this]; exact h⟩
theorem Keep.mut {A : List Addr} (k : Keep A H0 H) (h : Gone H0 p) : Keep A H0 (upd H p o) := fun a u e t n => by
  rw [upd_ne (h.ne e t)]
  exact k a u e t n
/-- an object beyond the world comes to be frozen -/
theorem SatS.frz (s : SatS K cl W st H) (h1 : p ∉ W.A) (h2 : H p = some o) (h3 : W.F p = none) (ho : NT o := by intro _ z; cases z) : SatS K cl ⟨upd W.F p o, W.A⟩ st H := by
  have hf : Same W.F (upd W.F p o) := fun a u h => by
    rw [upd_ne fun e => by rw [e, h3] at h; cases h]
    exact h
  refine ⟨fun a u h => ?_, s.len, s.nod, fun a m => ?_, fun i ob e => ?_, fun a u h => ?_, s.tab⟩
  · by_cases q : a = p
    · have h' : upd W.F p o a = some u := h
      rw [q, upd_same] at h'
      rw [q, h2]
      exact h'
    · have h' : upd W.F p o a = some u := h
      rw [upd_ne q] at h'
      exact s.ex a u h'
  · have : a ≠ p := fun e => h1 (e ▸ m)
    show upd W.F p o a = none
    rw [upd_ne this]
    exact s.off a m
  · obtain ⟨a, h4, h5⟩ := s.mo i ob e
    exact ⟨a, h4, h5.mono hf (List.prefix_refl _) fun u h => h⟩
  · have h' : upd W.F p o a = some u := h
    by_cases q : a = p
    · rw [q, upd_same] at h'
      cases h'
      exact ho
    · rw [upd_ne q] at h'
      exact s.nt a u h'
theorem Grow.frz (g : Grow W0 H0 W) (h : Gone H0 p) (h3 : W.F p = none) : Grow W0 H0 ⟨upd W.F p o, W.A⟩ := by
  refine ⟨fun a u q => ?_, g.a, fun a u q n => ?_, g.na⟩
  · have := g.f a u q
    show upd W.F p o a = some u
    rw [upd_ne fun e => by rw [e, h3] at this; cases this]
    exact this
  · by_cases e : a = p
    · rw [e]; exact h
    · have q' : upd W.F p o a = some u := q
      rw [upd_ne e] at q'
      exact g.nf a u q' n
theorem Grow.off (g : Grow W H W') (h : H p = some (.lst vs)) (h1 : W.F p = none) : W'.F p = none := by
  cases e : W'.F p with
  | none => rfl
  | some u => exact ((g.nf p u e h1).no h .lst).elim
theorem Grow.offA (g : Grow W H W') (h : H p = some (.lst vs)) (h1 : p ∉ W.A) : p ∉ W'.A := fun m => by
  rcases g.na p m with z | z
  · exact h1 z
  · exact z.no h .lst
theorem compD_nex {t : Tg} {tt : Ev → S → R Bool} {te : Ev → S → R D} {ρ : Ev} : ∀ {ds : List D} {st : S} {x : Exn} {st' : S}, compD t tt te ρ ds st = .ex x st' → False
  | [], st, x, st', h => by cases h
  | d :: ds, st, x, st', h => by
    unfold compD at h
    split at h
    · cases h
    · rename_i ρ' e
      cases q : noX (tt ρ' st) with
      | stuck => rw [q] at h; cases h
      | ex y s =>
        revert q
        cases tt ρ' st <;> intro q <;> cases q
      | ok b s =>
        rw [q] at h
        dsimp only [R.bind] at h
        cases b with
        | false => exact compD_nex (ds := ds) h
        | true =>
          rw [if_pos rfl] at h
          cases q2 : noX (te ρ' s) with
          | stuck => rw [q2] at h; cases h
          | ex y s9 =>
            revert q2
            cases te ρ' s <;> intro q2 <;> cases q2
          | ok b2 s2 =>
            rw [q2] at h
            dsimp only [R.bind] at h
            cases q3 : compD t tt te ρ ds s2 with
            | stuck => rw [q3] at h; cases h
            | ex y s => exact compD_nex q3
            | ok ys s3 => rw [q3] at h; cases h
theorem noX_eq {α : Type} {r : R α} {a : α} {s : S} (h : noX r = .ok a s) : r = .ok a s := by
  cases r <;> first | exact h | cases h
/-- a list that lies there already becomes one of the store -/
theorem SatS.take (s : SatS K cl W st H) (h1 : p ∉ W.A) (h2 : H p = some (.lst vs)) (h3 : W.F p = none) (r : RpAll K cl W vs ds) : SatS K cl ⟨W.F, W.A ++ [p]⟩ (st ++ [.lst ds]) H := by
  have pa : W.A <+: W.A ++ [p] := List.prefix_append _ _
  refine ⟨s.ex, by rw [List.length_append, List.length_append, s.len]; rfl, ?_, fun a m => ?_, fun i o e => ?_, s.nt, s.tab⟩
  · rw [List.nodup_append]
    refine ⟨s.nod, List.pairwise_singleton _ p, fun a ha b hb e => ?_⟩
    rw [List.mem_singleton.mp hb] at e
    exact h1 (e ▸ ha)
  · rcases List.mem_append.mp m with z | z
    · exact s.off a z
    · rw [List.mem_singleton.mp z]
      exact h3
  · by_cases hi : i < st.length
    · rw [List.getElem?_append_left hi] at e
      obtain ⟨a, q1, q2⟩ := s.mo i o e
      exact ⟨a, pre_get pa q1, q2.mono (fun _ _ z => z) pa fun _ z => z⟩
    · have hl : i < (st ++ [MO.lst ds]).length := (List.getElem?_eq_some_iff.mp e).1
      have hi2 : i = st.length := by
        rw [List.length_append] at hl
        simp only [List.length_cons, List.length_nil] at hl
        omega
      subst hi2
      have eo : o = .lst ds := by
        rw [List.getElem?_append_right (Nat.le_refl _), Nat.sub_self] at e
        exact (Option.some.inj e).symm
      subst eo
      refine ⟨p, ?_, vs, h2, RpAll.mono (W := W) (W' := ⟨W.F, W.A ++ [p]⟩) (fun _ _ z => z) pa r⟩
      show (W.A ++ [p])[st.length]? = some p
      rw [← s.len, List.getElem?_append_right (Nat.le_refl _), Nat.sub_self]
      rfl
theorem Grow.take {W W' : Wd} {H : Hp} {p : Addr} (g : Grow W H W') (hn : Gone H p) : Grow W H ⟨W'.F, W'.A ++ [p]⟩ :=
  ⟨g.f, g.a.trans (List.prefix_append _ _), g.3, fun a m => (List.mem_append.mp m).elim (g.4 a) fun z => .inr (by rw [List.mem_singleton.mp z]; exact hn)⟩
/-- a comprehension, with what is made of the list at the end -/
def dLcG (t : Tg) (vs : List Nat) (fi : Ev → S → R (List D)) (tt : Ev → S → R Bool) (te : Ev → S → R D) (k : List D → S → R D) : Ev → S → R D := fun ρ st => (fi ρ st).bind fun ds st => if ds.length ≤ sizeLine then (compD t tt te (wipeE ρ vs) ds st).bind k else .stuck
def dLcRef (t : Tg) (vs : List Nat) (fi : Ev → S → R (List D)) (tt : Ev → S → R Bool) (te : Ev → S → R D) : Ev → S → R D := dLcG t vs fi tt te fun ys st => .ok (.ref st.length) (st ++ [.lst ys])
theorem rd_lcG {t : Tg} {is : List Nat} {fi : Ev → S → R (List D)} {tt : Ev → S → R Bool} {te : Ev → S → R D} {k : List D → S → R D} {Q : VK} (hv : ∀ i ∈ t.ix, i ∈ is) (h : liftV K cl E (dLcG t is fi tt te k) σ H Q)
    (fin : ∀ {W1 W' : Wd} {H1 H2 : Hp} {p : Addr} {va : List V} {ys : List D} {st' : S}, Grow W1 H1 W' → Keep W1.A H1 H2 → SatS K cl W' st' H2 → H1 p = none → H2 p = some (.lst va) → RpAll K cl W' va ys → W'.F p = none → p ∉ W'.A → Aft K cl E (Rp K cl) W1 H1 (k ys st') Q → Q (.ref p) H2) :
    tLc (liftG K cl E (fun _ _ => Wlk K cl) fi) (tgT K t) (liftT K cl E0 tt) (liftV K cl E0 te) is σ H Q := by
  obtain ⟨W, ρ, st, s, l, h⟩ := h
  refine ⟨W, ρ, st, s, l, (Aft.peel h).imp (fun _ _ _ r => r) ?_⟩
  rintro J H1 ⟨ds, st1, W1, g1, k1, s1, wk, h1⟩ Dd hD
  dsimp only at h1
  split at h1
  case isFalse => exact h1.elim
  rename_i hlen
  have l1 := (l.keep g1 k1).wipe is
  cases q : compD t tt te (wipeE ρ is) ds st1 with
  | stuck => rw [q] at h1; exact (show False from h1).elim
  | ex x st => exact (compD_nex q).elim
  | ok ys st2 =>
    rw [q] at h1
    obtain ⟨G, Y, wlk, hG, hY⟩ := wk.ex
    let Pv : Nat → Hp → Prop := fun i H => ∃ (W' : Wd) (st' : S) (acc : List D) (va : List V) (ys' : List D), Grow W1 H1 W' ∧ Keep W1.A H1 H ∧ SatS K cl W' st' H ∧ H Dd = some (.lst va) ∧ RpAll K cl W' va acc ∧ W'.F Dd = none ∧ Dd ∉ W'.A ∧ acc.length ≤ i ∧
      compD t tt te (wipeE ρ is) (ds.drop i) st' = .ok ys' st2 ∧ acc ++ ys' = ys
    have hF1 : W1.F Dd = none := by
      cases e : W1.F Dd with
      | none => rfl
      | some u =>
        have := s1.ex Dd u e
        rw [hD] at this; cases this
    have hA1 : Dd ∉ W1.A := fun m => s1.ne m (.of hD) rfl
    refine lc_it wlk Pv ?_ ?_ ?_ ?_
    · exact ⟨W1, st1, [], [], ys, .refl, Keep.mut .refl (.of hD), s1.mut hA1 hF1 (.inl hD), upd_same, .nil, hF1, hA1, Nat.zero_le _, q, rfl⟩
    · rintro i H2 hi ⟨W', st', acc, va, ys', g', k', s', hd, r', hF, hA, hl, e1, e2⟩
      exact hG H2 fun a u e => s'.ex a u (g'.f a u e)
    · rintro i x H2 H3 hi ⟨W', st', acc, va, ys', g', k', s', hd, r', hF, hA, hl, e1, e2⟩ hy
      obtain ⟨d, hdi⟩ : ∃ d, ds[i]? = some d := ⟨ds[i], List.getElem?_eq_getElem hi⟩
      obtain ⟨W2, g2, k2, s2, rx⟩ := hY i d H2 x H3 W' st' hdi g'.f g'.a s' hy
      have hd3 : H3 Dd = some (.lst va) := k2 Dd _ hd .lst hA
      have hF2 := g2.off hd hF
      have hA2 := g2.offA hd hA
      have g3 : Grow W1 H1 W2 := g'.trans k' s' g2
      have k3 : Keep W1.A H1 H3 := k'.trans g' k2
      have l3 := l1.keep g3 k3
      have ed : ds.drop i = d :: ds.drop (i + 1) := by
        have h5 : i < ds.length := hi
        rw [List.drop_eq_getElem_cons h5]
        rw [List.getElem?_eq_getElem h5] at hdi
        rw [Option.some.inj hdi]
      rw [ed] at e1
      unfold compD at e1
      split at e1
      · cases e1
      · rename_i ρ' eb
        obtain ⟨σ', l4, off, ht⟩ := bind_ok (t := t) s2 l3 rx eb
        refine ht _ ⟨?_, ?_⟩
        · have e5 : L2.wipe σ' is = L2.wipe (L2.wipe σ is) is := wipe_eq off.len fun j hj => off.oth j fun z => hj (hv j z)
          rw [e5]
          exact wipe_eq (wipe_length _ _) fun j hj => wipe_get hj
        · cases qt : noX (tt ρ' st') with
          | stuck => rw [qt] at e1; cases e1
          | ex y s => rw [qt] at e1; cases e1
          | ok b st3 =>
            rw [qt] at e1
            dsimp only [R.bind] at e1
            refine ⟨W2, ρ', st', s2, l4, ?_⟩
            rw [noX_eq qt]
            rintro b' H4 W4 g4 k4 s4 rfl
            have hd4 : H4 Dd = some (.lst va) := k4 Dd _ hd3 .lst hA2
            have hF4 := g4.off hd3 hF2
            have hA4 := g4.offA hd3 hA2
            have g5 : Grow W1 H1 W4 := g3.trans k3 s2 g4
            have k5 : Keep W1.A H1 H4 := k3.trans g3 k4
            have r4 : RpAll K cl W4 va acc := (r'.grow g2).grow g4
            cases b' with
            | false =>
              refine iteF ⟨W4, st3, acc, va, ys', g5, k5, s4, hd4, r4, hF4, hA4, by omega, ?_, e2⟩
              exact e1
            | true =>
              refine iteT ?_
              rw [if_pos rfl] at e1
              cases qe : noX (te ρ' st3) with
              | stuck => rw [qe] at e1; cases e1
              | ex y s => rw [qe] at e1; cases e1
              | ok y st4 =>
                rw [qe] at e1
                dsimp only [R.bind] at e1
                refine ⟨W4, ρ', st3, s4, l4.keep g4 k4, ?_⟩
                rw [noX_eq qe]
                intro vy H5 W5 g6 k6 s5 ry
                have hd5 : H5 Dd = some (.lst va) := k6 Dd _ hd4 .lst hA4
                have hF5 := g6.off hd4 hF4
                have hA5 := g6.offA hd4 hA4
                have g7 : Grow W1 H1 W5 := g5.trans k5 s4 g6
                have k7 : Keep W1.A H1 H5 := k5.trans g5 k6
                cases qc : compD t tt te (wipeE ρ is) (ds.drop (i + 1)) st4 with
                | stuck => rw [qc] at e1; cases e1
                | ex y s => rw [qc] at e1; cases e1
                | ok ys2 st5 =>
                  rw [qc] at e1
                  cases e1
                  refine ⟨va, hd5, ?_, W5, st4, acc ++ [y], va ++ [vy], ys2, g7, k7.mut (.of hD), s5.mut hA5 hF5 (.inr ⟨va, hd5⟩), upd_same, (r4.grow g6).append (.cons ry .nil), hF5, hA5, ?_, ?_, ?_⟩
                  · rw [r4.length]; exact Nat.lt_of_le_of_lt hl (Nat.lt_of_lt_of_le hi hlen)
                  · rw [List.length_append]; simp only [List.length_cons, List.length_nil]; omega
                  · exact qc
                  · rw [List.append_assoc]; exact e2
    · rintro H2 ⟨W', st', acc, va, ys', g', k', s', hd, r', hF, hA, hl, e1, e2⟩
      rw [List.drop_length] at e1
      cases e1
      rw [List.append_nil] at e2
      subst e2
      exact fin g' k' s' hD hd r' hF hA h1
theorem rd_lc {t : Tg} {is : List Nat} {fi : Ev → S → R (List D)} {tt : Ev → S → R Bool} {te : Ev → S → R D} {Q : VK} (hv : ∀ i ∈ t.ix, i ∈ is) (h : liftV K cl E (dLc t is fi tt te) σ H Q) :
    tLc (liftG K cl E (fun _ _ => Wlk K cl) fi) (tgT K t) (liftT K cl E0 tt) (liftV K cl E0 te) is σ H Q := by
  refine rd_lcG (k := fun ys st => .ok (.lst ys) st) hv h ?_
  intro W1 W' H1 H2 Dd va ys st' g' k' s' hD hd r' hF hA h1
  have g3 : Grow W1 H1 ⟨upd W'.F Dd (.lst va), W'.A⟩ := g'.frz (.of hD) hF
  have hf : Same W'.F (upd W'.F Dd (.lst va)) := fun a u h => by
    rw [upd_ne fun e => by rw [e, hF] at h; cases h]
    exact h
  exact h1 (.ref Dd) H2 _ g3 k' (s'.frz hA hd hF) (.lst upd_same (RpAll.mono (W' := ⟨upd W'.F Dd (.lst va), W'.A⟩) hf (List.prefix_refl _) r'))
end
section
variable {X : Cx} {cl : Cl} {E : XK} {t : Tg} {is : List Nat} {fi : Ev → S → R (List D)} {tt : Ev → S → R Bool} {te : Ev → S → R D} {elt tg iter : Expr} {ifs : List Expr} {scope : Scope} {own : List (Str × Nat)} {pos spos py : Pos}
abbrev DTs (X : Cx) (cl : Cl) (E : XK) (ifs : List Expr) (f : Ev → S → R Bool) : Prop := PTs X ifs (liftT X.K cl E f)
theorem dts_nil : DTs X cl E [] tTrue := ⟨fun pins s σ H Q I ⟨W, ρ, st, s0, l, h⟩ => pts_nil.run pins s σ H Q I (Aft.now h s0 rfl)⟩
theorem dts_one {c : Expr} (h : DT X cl E c tt) : DTs X cl E [c] tt := pts_one h
theorem dv_lc (hc : X.calm = true) (hN : X.N.Nodup) (hi : DI X cl E tg iter fi) (ok : BlkOk X.N X.env.scope scope own)
    (hg : ∀ (s : Shared) (H : Hp) (C : Addr) (cx : List (Str × Addr)) (fp : List Addr), PG (X.blk s H scope (compEnvC scope cx C X.env) fp) tg (tgT X.K t)) (ht : ∀ (s : Shared) (H : Hp) (C : Addr) (cx : List (Str × Addr)) (fp : List Addr), DTs (X.blk s H scope (compEnvC scope cx C X.env) fp) cl E0 ifs tt)
    (he : ∀ (s : Shared) (H : Hp) (C : Addr) (cx : List (Str × Addr)) (fp : List Addr), DV (X.blk s H scope (compEnvC scope cx C X.env) fp) cl E0 elt te) (hv : ∀ i ∈ t.ix, i ∈ own.map (·.2)) (hs : ∀ x, foldedSetIterable iter X.env x = pure x := by intro _; rfl) :
    DV X cl E (.ListComp elt [⟨tg, iter, ifs, 0⟩] scope pos) (dLc t (own.map (·.2)) fi tt te) := PEimp (pe_lc hc hN hi ok hg ht he hs) fun σ H Q h => rd_lc hv h
end
end DL
set_option maxHeartbeats 4000000
/-! The data layer, part g: statements, loops, defs. -/
namespace DL
open PySem PySem.Spec PyProof.Rows L2

inductive RS where
  | stuck | nx (ρ : Ev) (s : S) | ret (d : D) (s : S) | brk (ρ : Ev) (s : S) | ct (ρ : Ev) (s : S) | ex (x : Exn) (s : S)
def R.toS {α : Type} (r : R α) (k : α → S → RS) : RS := match r with
  | .stuck => .stuck
  | .ok a s => k a s
  | .ex x s => .ex x s
@[simp] theorem R.toS_stuck {α : Type} (k : α → S → RS) : (R.stuck : R α).toS k = .stuck := rfl
@[simp] theorem R.toS_ok {α : Type} (a : α) (s : S) (k : α → S → RS) : (R.ok a s).toS k = k a s := rfl
@[simp] theorem R.toS_ex {α : Type} (x : Exn) (s : S) (k : α → S → RS) : (R.ex x s : R α).toS k = .ex x s := rfl
/-- a world goes on -/
structure Le (W W' : Wd) : Prop where
  f : Same W.F W'.F
  a : W.A <+: W'.A
theorem Le.refl {W : Wd} : Le W W := ⟨fun _ _ h => h, List.prefix_refl _⟩
theorem Le.trans {W W1 W2 : Wd} (a : Le W W1) (b : Le W1 W2) : Le W W2 := ⟨fun x o h => b.f x o (a.f x o h), List.IsPrefix.trans a.a b.a⟩
theorem Grow.le {W W' : Wd} {H : Hp} (g : Grow W H W') : Le W W' := ⟨g.f, g.a⟩
/-- a def's body stands so, entered at W0, H0 -/
structure Full (K : PySem.W.Frag) (cl : Cl) (W0 : Wd) (H0 : Hp) (W : Wd) (ρ : Ev) (st : S) (σ : L2.St) (H : Hp) : Prop where
  g : Grow W0 H0 W
  k : Keep W0.A H0 H
  s : SatS K cl W st H
  l : SatL K cl W ρ σ H
  o : ∀ (i : Nat) (ds : List D) (p : Addr), ρ[i]? = some (.own ds) → σ[i]? = some (some (.ref p)) → Gone H0 p
  oh : ∀ (i : Nat) (o : MO) (p : Addr), ρ[i]? = some (.hd o) → σ[i]? = some (some (.ref p)) → Gone H0 p ∧ (i = 0 → ∀ a, cl.s = some a → p = a)
/-- a list that nothing else knows, beyond the world -/
def Fr (K : PySem.W.Frag) (cl : Cl) (H0 H : Hp) (W : Wd) (v : V) (d : D) : Prop := ∃ p vs ds, v = .ref p ∧ d = .lst ds ∧ H p = some (.lst vs) ∧ W.F p = none ∧ p ∉ W.A ∧ RpAll K cl W vs ds ∧ Gone H0 p
/-- what a frame returns -/
def RetP (K : PySem.W.Frag) (cl : Cl) (H0 H : Hp) (W : Wd) (v : V) (d : D) : Prop := (cl.f = false → Rp K cl W v d) ∧ (cl.f = true → Fr K cl H0 H W v d)
theorem RetP.of {K : PySem.W.Frag} {cl : Cl} {H0 H : Hp} {W : Wd} {v : V} {d : D} (h0 : cl.f = false) (r : Rp K cl W v d) : RetP K cl H0 H W v d := ⟨fun _ => r, fun h => by rw [h0] at h; cases h⟩
section
variable (K : PySem.W.Frag) (cl : Cl) (E : XK) (W0 : Wd) (H0 : Hp)
def Out (W1 : Wd) (r : RS) (Dn : Ends) : Prop := match r with
  | .stuck => False
  | .nx ρ st => ∀ σ H W, Le W1 W → Full K cl W0 H0 W ρ st σ H → Dn.nx σ H
  | .brk ρ st => ∀ σ H W, Le W1 W → Full K cl W0 H0 W ρ st σ H → Dn.bk σ H
  | .ct ρ st => ∀ σ H W, Le W1 W → Full K cl W0 H0 W ρ st σ H → Dn.ct σ H
  | .ret d st => (cl.f = true → ∃ ds, d = .lst ds) ∧ ∀ v H W, Grow W0 H0 W → Keep W0.A H0 H → SatS K cl W st H → RetP K cl H0 H W v d → Dn.rt v H
  | .ex x st => ∀ dx H W, Grow W0 H0 W → Keep W0.A H0 H → SatS K cl W st H → XRp K cl W H x dx → E (.ref (cl x.c)) (some dx) H
def liftS (f : Ev → S → RS) : TS := fun Dn σ H => ∃ W ρ st, Full K cl W0 H0 W ρ st σ H ∧ Out K cl E W0 H0 W (f ρ st) Dn
end
abbrev DS (X : Cx) (cl : Cl) (E : XK) (W0 : Wd) (H0 : Hp) (st : Stmt) (f : Ev → S → RS) : Prop := PS X st (liftS X.K cl E W0 H0 f)
abbrev DSs (X : Cx) (cl : Cl) (E : XK) (W0 : Wd) (H0 : Hp) (st : List Stmt) (f : Ev → S → RS) : Prop := PSs X st (liftS X.K cl E W0 H0 f)
theorem PSimp {X : Cx} {s : Stmt} {t t' : TS} (h : PS X s t) (hi : ∀ D σ H, t' D σ H → t D σ H) : PS X s t' := ⟨fun pins s σ H Q I q => h.run pins s σ H Q I (hi _ _ _ q)⟩
theorem PSsimp {X : Cx} {s : List Stmt} {t t' : TS} (h : PSs X s t) (hi : ∀ D σ H, t' D σ H → t D σ H) : PSs X s t' := ⟨fun pins s σ H Q I q => h.run pins s σ H Q I (hi _ _ _ q)⟩
section
variable {K : PySem.W.Frag} {cl : Cl} {E : XK} {W0 W W' : Wd} {H0 H H' : Hp} {ρ ρ' : Ev} {σ σ' : L2.St} {st st' : S} {p : Addr} {o : HO} {vs : List V} {ds : List D} {v : V} {d : D} {i : Nat}
theorem Full.step (F : Full K cl W0 H0 W ρ st σ H) (g : Grow W H W') (k : Keep W.A H H') (s : SatS K cl W' st' H') : Full K cl W0 H0 W' ρ st' σ H' :=
  ⟨F.g.trans F.k F.s g, F.k.trans F.g k, s, F.l.keep g k, F.o, F.oh⟩
theorem Out.mono {r : RS} {Dn : Ends} (h : Out K cl E W0 H0 W r Dn) (le : Le W W') : Out K cl E W0 H0 W' r Dn := by
  cases r with
  | stuck => exact h
  | nx ρ st => exact fun σ H W2 l F => h σ H W2 (le.trans l) F
  | brk ρ st => exact fun σ H W2 l F => h σ H W2 (le.trans l) F
  | ct ρ st => exact fun σ H W2 l F => h σ H W2 (le.trans l) F
  | ret d st => exact h
  | ex x st => exact h
/-- an expression first -/
theorem Out.peel {α β : Type} {RP : Wd → β → α → Prop} {r : R α} {k : α → S → RS} {Dn : Ends} (F : Full K cl W0 H0 W ρ st σ H) (h : Out K cl E W0 H0 W (r.toS k) Dn) :
    Aft K cl E RP W H r fun b H' => ∃ a st' W', Full K cl W0 H0 W' ρ st' σ H' ∧ Grow W H W' ∧ RP W' b a ∧ Out K cl E W0 H0 W' (k a st') Dn := by
  cases r with
  | stuck => exact h
  | ok a st' => exact fun b H' W' g kk s rp => ⟨a, st', W', F.step g kk s, g, rp, Out.mono (show Out K cl E W0 H0 W (k a st') Dn from h) g.le⟩
  | ex x st' => exact fun dx H' W' g kk s rp => h dx H' W' (F.g.trans F.k F.s g) (F.k.trans F.g kk) s rp
theorem Full.setSh (F : Full K cl W0 H0 W ρ st σ H) (r : Rp K cl W v d) (i : Nat) : Full K cl W0 H0 W (ρ.set i (.sh d)) st (σ.set i (some v)) H := by
  refine ⟨F.g, F.k, F.s, F.l.setSh r i, fun j es p h1 h2 => ?_, fun j es p h1 h2 => ?_⟩
  · rcases getE_set h1 with ⟨_, e⟩ | ⟨q, h1⟩
    · cases e
    · rw [List.getElem?_set_ne q] at h2
      exact F.o j es p h1 h2
  · rcases getE_set h1 with ⟨_, e⟩ | ⟨q, h1⟩
    · cases e
    · rw [List.getElem?_set_ne q] at h2
      exact F.oh j es p h1 h2
theorem Full.off {is : List Nat} (F : Full K cl W0 H0 W ρ st σ H) (l : SatL K cl W ρ' σ' H) (off : Off is ρ ρ' σ σ') : Full K cl W0 H0 W ρ' st σ' H :=
  ⟨F.g, F.k, F.s, l, fun j es p h1 h2 => by
    obtain ⟨h3, h4⟩ := off.own j es h1
    rw [h4] at h2
    exact F.o j es p h3 h2, fun j es p h1 h2 => by
    obtain ⟨h3, h4⟩ := off.hd j es h1
    rw [h4] at h2
    exact F.oh j es p h3 h2⟩
/-- a list of one's own changes -/
theorem Full.mutOwn {es : List D} (F : Full K cl W0 H0 W ρ st σ H) (h : ρ[i]? = some (.own ds)) (hp : σ[i]? = some (some (.ref p))) (r : RpAll K cl W vs es) : Full K cl W0 H0 W (ρ.set i (.own es)) st σ (upd H p (.lst vs)) := by
  obtain ⟨p', us, h1, h2, h3, h4, h5⟩ := F.l.own i ds h
  rw [hp] at h1
  cases h1
  have hi : i < ρ.length := (List.getElem?_eq_some_iff.mp h).1
  refine ⟨F.g, F.k.mut (F.o i ds p h hp), F.s.mut h4 h3 (.inr ⟨us, h2⟩), ⟨by rw [List.length_set]; exact F.l.len, fun j e q => ?_, fun j fs q => ?_, fun j m fs gs a n q1 q2 q3 q4 => ?_, fun j x q => ?_, fun j o q => ?_, fun j m o u a n q1 q2 q3 q4 => ?_⟩, fun j fs a q1 q2 => ?_, fun j o a q1 q2 => ?_⟩
  · rcases getE_set q with ⟨_, z⟩ | ⟨n, q⟩
    · cases z
    · exact F.l.sh j e q
  · rcases getE_set q with ⟨rfl, z⟩ | ⟨n, q⟩
    · cases z
      exact ⟨p, vs, hp, upd_same, h3, h4, r⟩
    · obtain ⟨a, us', k1, k2, k3, k4, k5⟩ := F.l.own j fs q
      have : a ≠ p := fun z => F.l.ne i j ds fs p n h q hp (z ▸ k1)
      exact ⟨a, us', k1, by rw [upd_ne this]; exact k2, k3, k4, k5⟩
  · have back : ∀ {j : Nat} {fs : List D}, (ρ.set i (.own es))[j]? = some (.own fs) → ∃ gs, ρ[j]? = some (.own gs) := fun q => by
      rcases getE_set q with ⟨rfl, z⟩ | ⟨_, q⟩
      · exact ⟨ds, h⟩
      · exact ⟨_, q⟩
    obtain ⟨fs', q1⟩ := back q1
    obtain ⟨gs', q2⟩ := back q2
    exact F.l.ne j m fs' gs' a n q1 q2 q3 q4
  · rcases getE_set q with ⟨_, z⟩ | ⟨n, q⟩
    · cases z
    · exact F.l.xn j x q
  · rcases getE_set q with ⟨_, z⟩ | ⟨n, q⟩
    · cases z
    · obtain ⟨h0, a, k1, k2, k3, k4⟩ := F.l.hd j o q
      obtain ⟨u, e1, _, e3⟩ := k2.there
      have : a ≠ p := fun z => e3 h0 us (by rw [z, h2] at e1; exact (Option.some.inj e1).symm)
      exact ⟨h0, a, k1, k2.mono (fun _ _ z => z) (List.prefix_refl _) fun u' e' => by rw [upd_ne this]; exact e', k3, k4⟩
  · rcases getE_set q1 with ⟨_, z⟩ | ⟨_, q1⟩
    · cases z
    · rcases getE_set q2 with ⟨_, z⟩ | ⟨_, q2⟩
      · cases z
      · exact F.l.hn j m o u a n q1 q2 q3 q4
  · rcases getE_set q1 with ⟨rfl, z⟩ | ⟨_, q1⟩
    · exact F.o _ ds a h q2
    · exact F.o j fs a q1 q2
  · rcases getE_set q1 with ⟨_, z⟩ | ⟨_, q1⟩
    · cases z
    · exact F.oh j o a q1 q2
/-- a new list of one's own -/
theorem Full.setOwn (F : Full K cl W0 H0 W ρ st σ H) (hp : H p = some (.lst vs)) (h0 : Gone H0 p) (h1 : W.F p = none) (h2 : p ∉ W.A) (r : RpAll K cl W vs ds) (hn : ∀ (j : Nat) (es : List D), ρ[j]? = some (.own es) → σ[j]? ≠ some (some (.ref p))) (i : Nat) :
    Full K cl W0 H0 W (ρ.set i (.own ds)) st (σ.set i (some (.ref p))) H := by
  refine ⟨F.g, F.k, F.s, ⟨by rw [List.length_set, List.length_set]; exact F.l.len, fun j e q => ?_, fun j fs q => ?_, fun j m fs gs a n q1 q2 q3 q4 => ?_, fun j x q => ?_, fun j o q => ?_, fun j m o u a n q1 q2 q3 q4 => ?_⟩, fun j fs a q1 q2 => ?_, fun j o a q1 q2 => ?_⟩
  · rcases getE_set q with ⟨_, z⟩ | ⟨n, q⟩
    · cases z
    · rw [List.getElem?_set_ne n]
      exact F.l.sh j e q
  · have hj : j < ρ.length := by
      have := (List.getElem?_eq_some_iff.mp q).1
      rw [List.length_set] at this
      exact this
    rcases getE_set q with ⟨rfl, z⟩ | ⟨n, q⟩
    · cases z
      exact ⟨p, vs, List.getElem?_set_self (by rw [← F.l.len]; exact hj), hp, h1, h2, r⟩
    · rw [List.getElem?_set_ne n]
      exact F.l.own j fs q
  · rcases getE_set q1 with ⟨e1, _⟩ | ⟨n1, q1⟩
    · rcases getE_set q2 with ⟨e2, _⟩ | ⟨n2, q2⟩
      · exact n (e1.symm.trans e2)
      · rw [List.getElem?_set_ne n2] at q4
        subst e1
        rcases getE_set q3 with ⟨_, z⟩ | ⟨z, _⟩
        · have z' : a = p := by
            have := Option.some.inj z
            exact V.ref.inj this
          exact hn m gs q2 (z' ▸ q4)
        · exact z rfl
    · rcases getE_set q2 with ⟨e2, _⟩ | ⟨n2, q2⟩
      · rw [List.getElem?_set_ne n1] at q3
        subst e2
        rcases getE_set q4 with ⟨_, z⟩ | ⟨z, _⟩
        · have z' : a = p := V.ref.inj (Option.some.inj z)
          exact hn j fs q1 (z' ▸ q3)
        · exact z rfl
      · rw [List.getElem?_set_ne n1] at q3
        rw [List.getElem?_set_ne n2] at q4
        exact F.l.ne j m fs gs a n q1 q2 q3 q4
  · rcases getE_set q with ⟨_, z⟩ | ⟨n, q⟩
    · cases z
    · rw [List.getElem?_set_ne n]
      exact F.l.xn j x q
  · rcases getE_set q with ⟨_, z⟩ | ⟨n, q⟩
    · cases z
    · rw [List.getElem?_set_ne n]
      exact F.l.hd j o q
  · rcases getE_set q1 with ⟨_, z⟩ | ⟨n1, q1⟩
    · cases z
    · rcases getE_set q2 with ⟨_, z⟩ | ⟨n2, q2⟩
      · cases z
      · rw [List.getElem?_set_ne n1] at q3
        rw [List.getElem?_set_ne n2] at q4
        exact F.l.hn j m o u a n q1 q2 q3 q4
  · rcases getE_set q1 with ⟨e1, _⟩ | ⟨n1, q1⟩
    · subst e1
      rcases getE_set q2 with ⟨_, z⟩ | ⟨z, _⟩
      · have z' : a = p := V.ref.inj (Option.some.inj z)
        rw [z']
        exact h0
      · exact absurd rfl z
    · rw [List.getElem?_set_ne n1] at q2
      exact F.o j fs a q1 q2
  · rcases getE_set q1 with ⟨_, z⟩ | ⟨n1, q1⟩
    · cases z
    · rw [List.getElem?_set_ne n1] at q2
      exact F.oh j o a q1 q2
/-- a list of the store changes -/
theorem Full.mutSt {k : Nat} {a : Addr} {es : List D} (F : Full K cl W0 H0 W ρ st σ H) (ha : W.A[k]? = some a) (h : st[k]? = some (.lst ds)) (r : RpAll K cl W vs es) : Full K cl W0 H0 W ρ (st.set k (.lst es)) σ (upd H a (.lst vs)) := by
  have hm : a ∈ W.A := List.mem_of_getElem? ha
  have hFa := F.s.off a hm
  have hHa : ∃ us, H a = some (.lst us) := by
    obtain ⟨b, h1, us, h2, _⟩ := F.s.mo k _ h
    rw [ha] at h1
    cases h1
    exact ⟨us, h2⟩
  obtain ⟨us0, hHa⟩ := hHa
  refine ⟨F.g, fun b u q t n => ?_, ⟨fun b u q => ?_, by rw [List.length_set]; exact F.s.len, F.s.nod, F.s.off, fun j ob q => ?_, F.s.nt, tabs_lst F.s.tab hHa⟩, ⟨F.l.len, F.l.sh, fun j fs q => ?_, F.l.ne, F.l.xn, fun j o q => ?_, F.l.hn⟩, F.o, F.oh⟩
  · have : b ≠ a := fun e => by
      subst e
      rcases F.g.na b hm with z | z
      · exact n z
      · exact z.no q t
    rw [upd_ne this]
    exact F.k b u q t n
  · rw [upd_ne fun e => by rw [e, hFa] at q; cases q]
    exact F.s.ex b u q
  · rcases getE_set q with ⟨rfl, rfl⟩ | ⟨n, q⟩
    · exact ⟨a, ha, vs, upd_same, r⟩
    · obtain ⟨b, h1, h2⟩ := F.s.mo j ob q
      have : b ≠ a := fun e => by
        subst e
        have hk : k < W.A.length := (List.getElem?_eq_some_iff.mp ha).1
        have hj : j < W.A.length := (List.getElem?_eq_some_iff.mp h1).1
        have e1 := (List.getElem?_eq_some_iff.mp ha).2
        have e2 := (List.getElem?_eq_some_iff.mp h1).2
        exact n ((List.getElem_inj F.s.nod).mp (e1.trans e2.symm))
      exact ⟨b, h1, h2.mono (fun _ _ z => z) (List.prefix_refl _) fun u z => by rw [upd_ne this]; exact z⟩
  · obtain ⟨b, us', k1, k2, k3, k4, k5⟩ := F.l.own j fs q
    exact ⟨b, us', k1, by rw [upd_ne (fun (e : b = a) => k4 (by rw [e]; exact hm))]; exact k2, k3, k4, k5⟩
  · obtain ⟨h0, b, k1, k2, k3, k4⟩ := F.l.hd j o q
    exact ⟨h0, b, k1, k2.mono (fun _ _ z => z) (List.prefix_refl _) fun u' e' => by rw [upd_ne (fun (e : b = a) => k4 (by rw [e]; exact hm))]; exact e', k3, k4⟩
end

/-! ### blocks, small statements -/
def sNext : Ev → S → RS := fun ρ st => .nx ρ st
def sSeq (f g : Ev → S → RS) : Ev → S → RS := fun ρ st => match f ρ st with
  | .nx ρ' st' => g ρ' st'
  | r => r
def sSet (i : Nat) (f : Ev → S → R D) : Ev → S → RS := fun ρ st => (f ρ st).toS fun d st => .nx (ρ.set i (.sh d)) st
def sRet (f : Ev → S → R D) : Ev → S → RS := fun ρ st => (f ρ st).toS fun d st => .ret d st
def sRetOwn (i : Nat) : Ev → S → RS := fun ρ st => match ρ[i]? with
  | some (.own ds) => .ret (.lst ds) st
  | _ => .stuck
def sDrop (f : Ev → S → R D) : Ev → S → RS := fun ρ st => (f ρ st).toS fun _ st => .nx ρ st
def sIf (t : Ev → S → R Bool) (f g : Ev → S → RS) : Ev → S → RS := fun ρ st => (t ρ st).toS fun b st => if b then f ρ st else g ρ st
/-- x = [..], the list this frame's own -/
def sOwn (i : Nat) (f : Ev → S → R (List D)) : Ev → S → RS := fun ρ st => (f ρ st).toS fun ds st => if ds.length ≤ sizeLine then .nx (ρ.set i (.own ds)) st else .stuck
def sApp (i : Nat) (f : Ev → S → R D) : Ev → S → RS := fun ρ st => match ρ[i]? with
  | some (.own ds) => (f ρ st).toS fun d st => if ds.length < sizeLine then .nx (ρ.set i (.own (ds ++ [d]))) st else .stuck
  | _ => .stuck
def insL (ds : List D) (k : Nat) (d : D) : List D := ds.take k ++ [d] ++ ds.drop k
def sIns (i : Nat) (f : Ev → S → R (List D)) : Ev → S → RS := fun ρ st => match ρ[i]? with
  | some (.own ds) => (f ρ st).toS fun as st => (match as with
    | [.int k, d] => if decide (ds.length < sizeLine) && (decide (0 ≤ k) && decide (k < 2 ^ 63)) then .nx (ρ.set i (.own (insL ds k.toNat d))) st else .stuck
    | _ => .stuck)
  | _ => .stuck
/-- o[i] = e, o a list of the store -/
def sPut (fo fi fe : Ev → S → R D) : Ev → S → RS := fun ρ st => (fe ρ st).toS fun d st => (fo ρ st).toS fun o st => (fi ρ st).toS fun i st => match o, i with
  | .ref k, .int j => (match st[k]? with
    | some (.lst ds) => (match ixN ds.length j with
      | some m => .nx ρ (st.set k (.lst (ds.set m d)))
      | none => .stuck)
    | _ => .stuck)
  | _, _ => .stuck
def sAsg (t : Tg) (f : Ev → S → R D) : Ev → S → RS := fun ρ st => (f ρ st).toS fun d st => match bindT t d ρ with
  | some ρ' => .nx ρ' st
  | none => .stuck
/-- a, b = x, y -/
def sPar (is : List Nat) (f : Ev → S → R (List D)) : Ev → S → RS := fun ρ st => (f ρ st).toS fun ds st => if ds.length = is.length then .nx (setAll is ds ρ) st else .stuck
def forD (t : Tg) (body : Ev → S → RS) : List D → Ev → S → RS
  | [], ρ, st => .nx ρ st
  | d :: ds, ρ, st => match bindT t d ρ with
    | none => .stuck
    | some ρ' => (match body ρ' st with
      | .nx ρ'' st' => forD t body ds ρ'' st'
      | .ct ρ'' st' => forD t body ds ρ'' st'
      | .brk ρ'' st' => .nx ρ'' st'
      | r => r)
def sFor (t : Tg) (fi : Ev → S → R (List D)) (body : Ev → S → RS) : Ev → S → RS := fun ρ st => (fi ρ st).toS fun ds st => forD t body ds ρ st
section
variable {X : Cx} {cl : Cl} {E : XK} {W0 : Wd} {H0 : Hp} {f g : Ev → S → RS} {fe fo fi : Ev → S → R D} {fs : Ev → S → R (List D)} {tc : Ev → S → R Bool} {s : Stmt} {rest a b : List Stmt} {e c : Expr} {es : List Expr} {pos : Pos} {i : Nat} {x : Str}
theorem dss_nil : DSs X cl E W0 H0 [] sNext := PSsimp pss_nil fun D σ H ⟨W, ρ, st, F, h⟩ => h σ H W .refl F
theorem dss_cons (h1 : DS X cl E W0 H0 s f) (h2 : DSs X cl E W0 H0 rest g) : DSs X cl E W0 H0 (s :: rest) (sSeq f g) := by
  refine PSsimp (pss_cons h1 h2) fun D σ H h => ?_
  obtain ⟨W, ρ, st, F, h⟩ := h
  refine ⟨W, ρ, st, F, ?_⟩
  unfold sSeq at h
  cases q : f ρ st with
  | nx ρ' st' =>
    rw [q] at h
    exact fun σ' H' W' le F' => ⟨W', ρ', st', F', Out.mono h le⟩
  | stuck => rw [q] at h; exact h
  | ret d st' => rw [q] at h; exact h
  | brk ρ' st' => rw [q] at h; exact h
  | ct ρ' st' => rw [q] at h; exact h
  | ex x st' => rw [q] at h; exact h
theorem dss_one (h1 : DS X cl E W0 H0 s f) : DSs X cl E W0 H0 [s] f := pss_one h1
theorem ds_set {pos' : Pos} (i : Nat) (hN : X.N.Nodup) (he : DV X cl E e fe) (hi : X.N[i]? = some x := by rfl) (hx : Loc X.env.scope x := by first | exact Or.inl rfl | exact Or.inr rfl) (hs : swapsWith e (some (.Name x pos')) pos.line X.env = pure false := by rfl) (hf : X.fn x = true ∨ X.env.scope.names.lookup x = some .local := by first | exact .inl rfl | exact .inr rfl) :
    DS X cl E W0 H0 (.Assign [.Name x pos'] e pos) (sSet i fe) := by
  refine PSimp (ps_set hN hi hx he hs hf) fun D σ H h => ?_
  obtain ⟨W, ρ, st, F, h⟩ := h
  refine ⟨W, ρ, st, F.s, F.l, (Out.peel F h).imp (fun _ _ _ r => r) ?_⟩
  rintro v H1 ⟨d, st1, W1, F1, g1, r, h1⟩
  exact h1 _ H1 W1 .refl (F1.setSh r i)
theorem ds_setLc {t : Tg} {fl : Ev → S → R (List D)} {tt : Ev → S → R Bool} {te : Ev → S → R D} {elt tg iter : Expr} {ifs : List Expr} {scope : Scope} {own : List (Str × Nat)} {lpos spos py : Pos} (i : Nat) (hc : X.calm = true) (hN : X.N.Nodup) (hi : DI X cl E tg iter fl) (ok : BlkOk X.N X.env.scope scope own)
    (hg : ∀ (s : Shared) (H : Hp) (C : Addr) (cx : List (Str × Addr)) (fp : List Addr), PG (X.blk s H scope (compEnvC scope cx C X.env) fp) tg (tgT X.K t)) (ht : ∀ (s : Shared) (H : Hp) (C : Addr) (cx : List (Str × Addr)) (fp : List Addr), DTs (X.blk s H scope (compEnvC scope cx C X.env) fp) cl E0 ifs tt)
    (he : ∀ (s : Shared) (H : Hp) (C : Addr) (cx : List (Str × Addr)) (fp : List Addr), DV (X.blk s H scope (compEnvC scope cx C X.env) fp) cl E0 elt te) (hv : ∀ i ∈ t.ix, i ∈ own.map (·.2))
    (hsw : swapsWith (.ListComp elt [⟨tg, iter, ifs, 0⟩] scope lpos) (some (.Name x py)) spos.line X.env = pure true) (hy : X.N[i]? = some x := by rfl) (hyl : X.env.scope.names.lookup x = some .local := by rfl)
    (hs : ∀ x, foldedSetIterable iter X.env x = pure x := by intro _; rfl) :
    DS X cl E W0 H0 (.Assign [.Name x py] (.ListComp elt [⟨tg, iter, ifs, 0⟩] scope lpos) spos) (sSet i (dLc t (own.map (·.2)) fl tt te)) := by
  refine PSimp (ps_setLc (tt := liftT X.K cl E0 tt) (te := liftV X.K cl E0 te) hc hN hy hyl hsw hi ok hg ht he hs) fun D σ H h => ?_
  obtain ⟨W, ρ, st, F, h⟩ := h
  show tLc _ _ _ _ _ σ H fun x H1 => D.nx (σ.set i (some x)) H1
  refine rd_lc hv ⟨W, ρ, st, F.s, F.l, (Out.peel F h).imp (fun _ _ _ r => r) ?_⟩
  rintro v H1 ⟨d, st1, W1, F1, g1, r, h1⟩
  exact h1 _ H1 W1 .refl (F1.setSh r i)
theorem ds_ret (he : DV X cl E e fe) (h0 : cl.f = false := by first | rfl | assumption) : DS X cl E W0 H0 (.Return (some e) pos) (sRet fe) := by
  refine PSimp (ps_ret he) fun D σ H h => ?_
  obtain ⟨W, ρ, st, F, h⟩ := h
  refine ⟨W, ρ, st, F.s, F.l, (Out.peel F h).imp (fun _ _ _ r => r) ?_⟩
  rintro v H1 ⟨d, st1, W1, F1, g1, r, h1⟩
  exact h1.2 v H1 W1 F1.g F1.k F1.s (.of h0 r)
theorem ds_retOwn (i : Nat) (he : PE X e (tVar i)) (h0 : cl.f = false := by first | rfl | assumption) : DS X cl E W0 H0 (.Return (some e) pos) (sRetOwn i) := by
  refine PSimp (ps_ret he) fun D σ H h => ?_
  obtain ⟨W, ρ, st, F, h⟩ := h
  unfold sRetOwn at h
  split at h
  · rename_i ds q
    obtain ⟨p, vs, h1, h2, h3, h4, h5⟩ := F.l.own i ds q
    have hf : Same W.F (upd W.F p (.lst vs)) := fun a u z => by
      rw [upd_ne fun e => by rw [e, h3] at z; cases z]
      exact z
    exact ⟨.ref p, h1, h.2 (.ref p) H ⟨upd W.F p (.lst vs), W.A⟩ (F.g.frz (F.o i ds p q h1) h3) F.k (F.s.frz h4 h2 h3) (.of h0 (.lst upd_same (RpAll.mono (W' := ⟨upd W.F p (.lst vs), W.A⟩) hf (List.prefix_refl _) h5)))⟩
  · exact h.elim
theorem ds_drop (he : DV X cl E e fe) (hs : swapsWith e none pos.line X.env = pure false := by rfl) : DS X cl E W0 H0 (.Expr e pos) (sDrop fe) := by
  refine PSimp (ps_expr he hs) fun D σ H h => ?_
  obtain ⟨W, ρ, st, F, h⟩ := h
  refine ⟨W, ρ, st, F.s, F.l, (Out.peel F h).imp (fun _ _ _ r => r) ?_⟩
  rintro v H1 ⟨d, st1, W1, F1, g1, r, h1⟩
  exact h1 σ H1 W1 .refl F1
theorem ds_if (hc : DT X cl E c tc) (ha : DSs X cl E W0 H0 a f) (hb : DSs X cl E W0 H0 b g) : DS X cl E W0 H0 (.If c a b pos) (sIf tc f g) := by
  refine PSimp (ps_if hc ha hb) fun D σ H h => ?_
  obtain ⟨W, ρ, st, F, h⟩ := h
  refine ⟨W, ρ, st, F.s, F.l, (Out.peel F h).imp (fun _ _ _ r => r) ?_⟩
  rintro v H1 ⟨d, st1, W1, F1, g1, rfl, h1⟩
  cases v with
  | true => exact iteT ⟨W1, ρ, st1, F1, h1⟩
  | false => exact iteF ⟨W1, ρ, st1, F1, h1⟩
theorem back_none {K : PySem.W.Frag} {W W1 : Wd} {H H1 : Hp} {st : S} {p : Addr} (g : Grow W H W1) (k : Keep W.A H H1) (s : SatS K cl W1 st H1) (h : Gone H1 p) : Gone H p := fun o e => by
  by_cases t : NT o
  · by_cases m : p ∈ W.A
    · obtain ⟨u, e1, e2⟩ := s.there (g.a.subset m)
      exact (h.no e1 e2).elim
    · exact (h.no (k p o e t m) t).elim
  · by_cases z : ∃ ps, o = .tbl ps
    · exact z
    · exact absurd (fun ps q => z ⟨ps, q⟩) t
/-- x = [..] -/
theorem ds_own {pos' lpos : Pos} (i : Nat) (hN : X.N.Nodup) (he : DA X cl E es fs) (hi : X.N[i]? = some x := by rfl) (hx : Loc X.env.scope x := by first | exact Or.inl rfl | exact Or.inr rfl) (hs : swapsWith (.List es lpos) (some (.Name x pos')) pos.line X.env = pure false := by rfl) (hf : X.fn x = true ∨ X.env.scope.names.lookup x = some .local := by first | exact .inl rfl | exact .inr rfl) :
    DS X cl E W0 H0 (.Assign [.Name x pos'] (.List es lpos) pos) (sOwn i fs) := by
  refine PSimp (ps_set hN hi hx (pe_lst he) hs hf) fun D σ H h => ?_
  obtain ⟨W, ρ, st, F, h⟩ := h
  refine ⟨W, ρ, st, F.s, F.l, (Out.peel F h).imp (fun _ _ _ r => r) ?_⟩
  rintro vs H1 ⟨ds, st1, W1, F1, g1, r, h1⟩
  split at h1
  · rename_i hl
    refine ⟨by rw [r.length]; exact hl, fun p hn => ?_⟩
    have hF : W1.F p = none := by
      cases q : W1.F p with
      | none => rfl
      | some u =>
        have := F1.s.ex p u q
        rw [hn] at this; cases this
    have hA : p ∉ W1.A := fun m => F1.s.ne m (.of hn) rfl
    have h0 : Gone H0 p := back_none F1.g F1.k F1.s (.of hn)
    refine h1 _ _ W1 .refl (Full.setOwn (p := p) (vs := vs) ⟨F1.g, F1.k.mut h0, F1.s.mut hA hF (.inl hn), F1.l.keep .refl (keep_new hn), F1.o, F1.oh⟩ upd_same h0 hF hA r (fun j es q z => ?_) i)
    obtain ⟨p', us, k1, k2, _⟩ := F1.l.own j es q
    rw [z] at k1
    cases k1
    rw [hn] at k2
    cases k2
  · exact h1.elim
/-- x.append(e) -/
theorem ds_app {o : Expr} {apos cpos : Pos} (i : Nat) (ho : PE X o (tVar i)) (he : DV X cl E e fe)
    (h1 : attributeBase o "append" X.env (eval o X.env) = eval o X.env := by rfl)
    (h2 : ((((backTo cpos (starEach [e] X.env)).all fun x => !x.fst) && (backToKw cpos (keywordEach [] X.env)).all fun x => x.fst.isSome) && decide (([e].length + ([] : List Keyword).length + if ([] : List Keyword).isEmpty = true then 0 else 1) < 30)) = true := by rfl)
    (h3 : (apos.endLine == cpos.line) = true := by rfl) (h4 : starEach [e] X.env = (false, eval e X.env) :: starEach [] X.env := by rfl) (h5 : ((backTo cpos (starEach [] X.env)).any fun x => x.fst) = false := by rfl)
    (hs : swapsWith (.Call (.Attribute o "append" apos) [e] [] cpos) none pos.line X.env = pure false := by rfl) :
    DS X cl E W0 H0 (.Expr (.Call (.Attribute o "append" apos) [e] [] cpos) pos) (sApp i fe) := by
  refine PSimp (ps_expr (pe_bm PySem.F.plainAttrs_list PySem.F.slot_list_append PySem.F.type_list_append mt_append ho (pa_cons he pa_nil h4) h1 h2 h3 h4 h5) hs) fun D σ H h => ?_
  obtain ⟨W, ρ, st, F, h⟩ := h
  unfold sApp at h
  split at h
  · rename_i ds q
    obtain ⟨p, vs, k1, k2, k3, k4, k5⟩ := F.l.own i ds q
    refine ⟨.ref p, k1, .inl ⟨rfl, vs, .inl (.inl k2)⟩, W, ρ, st, F.s, F.l, (Out.peel F h).imp (fun _ _ _ r => r) ?_⟩
    rintro v H1 ⟨d, st1, W1, F1, g1, r, h1⟩
    split at h1
    · rename_i hl
      obtain ⟨p', us, j1, j2, j3, j4, j5⟩ := F1.l.own i ds q
      rw [k1] at j1
      cases j1
      exact ⟨p, us, v, rfl, rfl, j2, by rw [j5.length]; exact hl, h1 σ _ W1 .refl (F1.mutOwn q k1 (j5.append (.cons r .nil)))⟩
    · exact h1.elim
  · exact h.elim
/-- x.insert(k, e) -/
theorem ds_ins {o : Expr} {ek : Expr} {apos cpos : Pos} (i : Nat) (ho : PE X o (tVar i)) (he : DA X cl E [ek, e] fs)
    (h1 : attributeBase o "insert" X.env (eval o X.env) = eval o X.env := by rfl)
    (h2 : ((((backTo cpos (starEach [ek, e] X.env)).all fun x => !x.fst) && (backToKw cpos (keywordEach [] X.env)).all fun x => x.fst.isSome) && decide (([ek, e].length + ([] : List Keyword).length + if ([] : List Keyword).isEmpty = true then 0 else 1) < 30)) = true := by rfl)
    (h3 : (apos.endLine == cpos.line) = true := by rfl) (h4 : starEach [ek, e] X.env = (false, eval ek X.env) :: starEach [e] X.env := by rfl) (h5 : ((backTo cpos (starEach [e] X.env)).any fun x => x.fst) = false := by rfl)
    (hs : swapsWith (.Call (.Attribute o "insert" apos) [ek, e] [] cpos) none pos.line X.env = pure false := by rfl) :
    DS X cl E W0 H0 (.Expr (.Call (.Attribute o "insert" apos) [ek, e] [] cpos) pos) (sIns i fs) := by
  refine PSimp (ps_expr (pe_bm PySem.F.plainAttrs_list PySem.F.slot_list_insert PySem.F.type_list_insert mt_insert ho he h1 h2 h3 h4 h5) hs) fun D σ H h => ?_
  obtain ⟨W, ρ, st, F, h⟩ := h
  unfold sIns at h
  split at h
  · rename_i ds q
    obtain ⟨p, vs, k1, k2, k3, k4, k5⟩ := F.l.own i ds q
    refine ⟨.ref p, k1, .inl ⟨rfl, vs, .inl (.inl k2)⟩, W, ρ, st, F.s, F.l, (Out.peel F h).imp (fun _ _ _ r => r) ?_⟩
    rintro v H1 ⟨as, st1, W1, F1, g1, r, h1⟩
    split at h1
    · rename_i k d
      cases r with
      | cons r r2 =>
        cases r2 with
        | cons r2 r3 =>
          cases r3
          cases r
          split at h1
          · rename_i hl
            simp only [Bool.and_eq_true, decide_eq_true_eq] at hl
            obtain ⟨p', us, j1, j2, j3, j4, j5⟩ := F1.l.own i ds q
            rw [k1] at j1
            cases j1
            exact ⟨p, us, k, _, rfl, rfl, j2, by rw [j5.length]; exact hl.1, hl.2.1, hl.2.2, h1 σ _ W1 .refl (F1.mutOwn q k1 (((j5.take _).append (.cons r2 .nil)).append (j5.drop _)))⟩
          · exact h1.elim
    · exact h1.elim
  · exact h.elim
/-- o[i] = e, of the store -/
theorem ds_put {o ix : Expr} {tpos : Pos} (he : DV X cl E e fe) (ho : DV X cl E o fo) (hi : DV X cl E ix fi)
    (ha : ∀ v, assign (.Subscript o ix tpos) X.env v = (do
      let ov ← holding [v] (eval o X.env)
      let iv ← holding [v, ov] (eval ix X.env)
      standAt tpos
      holding [v, ov, iv] (setItem ov iv v)
      release [v, ov, iv] []) := by intro _; rfl)
    (hs : swapsWithSole [.Subscript o ix tpos] e pos.line X.env = pure false := by rfl) (hw : swappedStores [.Subscript o ix tpos] e X.env = pure none := by rfl)
    (h1 : (assignEach [.Subscript o ix tpos] X.env).map (·.2) = [assign (.Subscript o ix tpos) X.env] := by rfl) :
    DS X cl E W0 H0 (.Assign [.Subscript o ix tpos] e pos) (sPut fo fi fe) := by
  refine PSimp (ps_asg he (pg_sub ho hi set_list ha) hs hw h1) fun D σ H h => ?_
  obtain ⟨W, ρ, st, F, h⟩ := h
  refine ⟨W, ρ, st, F.s, F.l, (Out.peel F h).imp (fun _ _ _ r => r) ?_⟩
  rintro v H1 ⟨d, st1, W1, F1, g1, r, h1⟩
  refine ⟨W1, ρ, st1, F1.s, F1.l, (Out.peel F1 h1).imp (fun _ _ _ r => r) ?_⟩
  rintro vo H2 ⟨dd, st2, W2, F2, g2, r2, h2⟩
  refine ⟨W2, ρ, st2, F2.s, F2.l, (Out.peel F2 h2).imp (fun _ _ _ r => r) ?_⟩
  rintro vi H3 ⟨di, st3, W3, F3, g3, r3, h3⟩
  split at h3
  · rename_i k j
    cases r3
    have r2' := r2.grow g3
    cases r2' with
    | ref hA =>
      split at h3
      · rename_i ds q
        split at h3
        · rename_i m em
          obtain ⟨b, k1, vs, k2, k3⟩ := F3.s.mo k _ q
          rw [hA] at k1
          cases k1
          exact ⟨_, vs, j, m, rfl, rfl, k2, by rw [k3.length]; exact em, h3 σ _ W3 .refl (F3.mutSt hA q (RpAll.set ((r.grow g2).grow g3) m k3))⟩
        · exact h3.elim
      · exact h3.elim
  · exact h3.elim
/-- target = e -/
theorem ds_asg {t : Tg} {tg : Expr} (he : DV X cl E e fe) (hg : PG X tg (tgT X.K t)) (hs : swapsWithSole [tg] e pos.line X.env = pure false := by rfl) (hw : swappedStores [tg] e X.env = pure none := by rfl)
    (h1 : (assignEach [tg] X.env).map (·.2) = [assign tg X.env] := by rfl) : DS X cl E W0 H0 (.Assign [tg] e pos) (sAsg t fe) := by
  refine PSimp (ps_asg he hg hs hw h1) fun D σ H h => ?_
  obtain ⟨W, ρ, st, F, h⟩ := h
  refine ⟨W, ρ, st, F.s, F.l, (Out.peel F h).imp (fun _ _ _ r => r) ?_⟩
  rintro v H1 ⟨d, st1, W1, F1, g1, r, h1⟩
  split at h1
  · rename_i ρ' eb
    obtain ⟨σ', l', off, ht⟩ := bind_ok (t := t) F1.s F1.l r eb
    exact ht _ (h1 σ' H1 W1 .refl (F1.off l' off))
  · exact h1.elim
theorem RpAll.two {K : PySem.W.Frag} {W : Wd} {vs : List V} {ds : List D} (r : RpAll K cl W vs ds) (h : ds.length = 2) : ∃ v w d e, vs = [v, w] ∧ ds = [d, e] ∧ Rp K cl W v d ∧ Rp K cl W w e := by
  match ds, h, r with
  | [d, e], _, .cons a (.cons b .nil) => exact ⟨_, _, _, _, rfl, rfl, a, b⟩
theorem RpAll.three {K : PySem.W.Frag} {W : Wd} {vs : List V} {ds : List D} (r : RpAll K cl W vs ds) (h : ds.length = 3) : ∃ v w z d e f, vs = [v, w, z] ∧ ds = [d, e, f] ∧ Rp K cl W v d ∧ Rp K cl W w e ∧ Rp K cl W z f := by
  match ds, h, r with
  | [d, e, f], _, .cons a (.cons b (.cons c .nil)) => exact ⟨_, _, _, _, _, _, rfl, rfl, a, b, c⟩
theorem ds_par {i j : Nat} {x y : Str} {a b : Expr} {px py pt pt2 : Pos} {kt k2 : Nat} (hc : X.calm = true) (hN : X.N.Nodup) (ha : DA X cl E [a, b] fs)
    (hi : X.N[i]? = some x := by rfl) (hj : X.N[j]? = some y := by rfl) (hij : i ≠ j := by decide)
    (hx : X.env.scope.names.lookup x = some .local := by rfl) (hy : X.env.scope.names.lookup y = some .local := by rfl)
    (hw : swappedStores [.Tuple [.Name x px, .Name y py] kt pt] (.Tuple [a, b] k2 pt2) X.env = pure (some [x, y]) := by rfl)
    (hs : swapsWithSole [.Tuple [.Name x px, .Name y py] kt pt] (.Tuple [a, b] k2 pt2) pos.line X.env = pure false := by rfl) :
    DS X cl E W0 H0 (.Assign [.Tuple [.Name x px, .Name y py] kt pt] (.Tuple [a, b] k2 pt2) pos) (sPar [i, j] fs) := by
  refine PSimp (ps_par hc hN hi hj hij hx hy ha hw hs) fun D σ H h => ?_
  obtain ⟨W, ρ, st, F, h⟩ := h
  refine ⟨W, ρ, st, F.s, F.l, (Out.peel F h).imp (fun _ _ _ r => r) ?_⟩
  rintro vs H1 ⟨ds, st1, W1, F1, g1, r, h1⟩
  split at h1
  · rename_i hl
    obtain ⟨v, w, d, e, rfl, rfl, r1, r2⟩ := RpAll.two r hl
    exact ⟨v, w, rfl, h1 _ H1 W1 .refl ((F1.setSh r1 i).setSh r2 j)⟩
  · exact h1.elim
theorem ds_par3 {i j l : Nat} {x y z : Str} {a b c : Expr} {px py pz pt pt2 : Pos} {kt k2 : Nat} (hc : X.calm = true) (hN : X.N.Nodup) (ha : DA X cl E [a, b, c] fs)
    (hi : X.N[i]? = some x := by rfl) (hj : X.N[j]? = some y := by rfl) (hl : X.N[l]? = some z := by rfl) (hij : i ≠ j := by decide) (hil : i ≠ l := by decide) (hjl : j ≠ l := by decide)
    (hx : X.env.scope.names.lookup x = some .local := by rfl) (hy : X.env.scope.names.lookup y = some .local := by rfl) (hz : X.env.scope.names.lookup z = some .local := by rfl)
    (hw : swappedStores [.Tuple [.Name x px, .Name y py, .Name z pz] kt pt] (.Tuple [a, b, c] k2 pt2) X.env = pure (some [x, y, z]) := by rfl)
    (hs : swapsWithSole [.Tuple [.Name x px, .Name y py, .Name z pz] kt pt] (.Tuple [a, b, c] k2 pt2) pos.line X.env = pure false := by rfl) :
    DS X cl E W0 H0 (.Assign [.Tuple [.Name x px, .Name y py, .Name z pz] kt pt] (.Tuple [a, b, c] k2 pt2) pos) (sPar [i, j, l] fs) := by
  refine PSimp (ps_par3 hc hN hi hj hl hij hil hjl hx hy hz ha hw hs) fun D σ H h => ?_
  obtain ⟨W, ρ, st, F, h⟩ := h
  refine ⟨W, ρ, st, F.s, F.l, (Out.peel F h).imp (fun _ _ _ r => r) ?_⟩
  rintro vs H1 ⟨ds, st1, W1, F1, g1, r, h1⟩
  split at h1
  · rename_i hl
    obtain ⟨v, w, u, d, e, f, rfl, rfl, r1, r2, r3⟩ := RpAll.three r hl
    exact ⟨v, w, u, rfl, h1 _ H1 W1 .refl (((F1.setSh r1 i).setSh r2 j).setSh r3 l)⟩
  · exact h1.elim
/-- targets -/
theorem dg_nm {i : Nat} {x : Str} {p : Pos} (hN : X.N.Nodup) (hi : X.N[i]? = some x := by rfl) (hx : Loc X.env.scope x := by first | exact Or.inl rfl | exact Or.inr rfl) (hf : X.fn x = true ∨ X.env.scope.names.lookup x = some .local := by first | exact .inl rfl | exact .inr rfl) : PG X (.Name x p) (tgT X.K (.nm i)) := pg_name hN hi hx hf
theorem dg_tp {is : List Nat} {es : List Expr} {k : Nat} {p : Pos} (hc : X.calm = true) (h : PGs X es (gNames is)) (hn : (assignEach es X.env).length = is.length := by rfl) (hst : (assignEach es X.env).findIdx? (·.1) = none := by rfl) : PG X (.Tuple es k p) (tgT X.K (.tp is)) := ⟨fun pins s σ H v u Q I r hw => hw.elim (fun h1 => (pg_tup hc h hn hst).run pins s σ H v u Q I r h1) fun h1 => (pg_lst hc h hn hst).run pins s σ H v u Q I r h1⟩
theorem dgs_nil : PGs X [] (gNames []) := pgs_nil
theorem dgs_cons {i : Nat} {is : List Nat} {x : Str} {p : Pos} {es : List Expr} (hN : X.N.Nodup) (h2 : PGs X es (gNames is)) (hi : X.N[i]? = some x := by rfl) (hx : Loc X.env.scope x := by first | exact Or.inl rfl | exact Or.inr rfl) (hf : X.fn x = true ∨ X.env.scope.names.lookup x = some .local := by first | exact .inl rfl | exact .inr rfl)
    (hs : (assignEach (.Name x p :: es) X.env).map (·.2) = assign (.Name x p) X.env :: (assignEach es X.env).map (·.2) := by rfl) : PGs X (.Name x p :: es) (gNames (i :: is)) := pgs_cons (pg_name hN hi hx hf) h2 hs
/-- for -/
theorem ds_for {t : Tg} {tg iter : Expr} {body : List Stmt} (hp : PassesOwn (model X.prog X.w) X.A X.env X.xe) (hc : X.calm = true) (hi : DI X cl E tg iter fs) (hg : PG X tg (tgT X.K t)) (hb : DSs X cl E W0 H0 body f) (hs : ∀ x, foldedSetIterable iter X.env x = pure x := by intro _; rfl) :
    DS X cl E W0 H0 (.For tg iter body [] pos) (sFor t fs f) := by
  refine PSimp (ps_for hp hc hi hg hb hs) fun D σ H h => ?_
  obtain ⟨W, ρ, st, F, h⟩ := h
  refine ⟨W, ρ, st, F.s, F.l, (Out.peel F h).imp (fun _ _ _ r => r) ?_⟩
  rintro J H1 ⟨ds, st1, W1, F1, g1, wk, h1⟩
  obtain ⟨G, Y, wlk, hG, hY⟩ := wk.ex
  let Pv : Nat → L2.St → Hp → Prop := fun n σ' H' => ∃ W' ρ' st', Full X.K cl W0 H0 W' ρ' st' σ' H' ∧ Same W1.F W'.F ∧ W1.A <+: W'.A ∧ Out X.K cl E W0 H0 W' (forD t f (ds.drop n) ρ' st') D
  refine for_it wlk Pv ⟨W1, ρ, st1, F1, fun _ _ z => z, List.prefix_refl _, h1⟩ ?_ ?_ ?_
  · rintro n σ' H' hn ⟨W', ρ', st', F', hw, hA, h'⟩
    exact hG H' fun a u z => F'.s.ex a u (hw a u z)
  · rintro n x σ' H2 H3 hn ⟨W', ρ', st', F', hw, hA, h'⟩ hy
    obtain ⟨d, hd⟩ : ∃ d, ds[n]? = some d := ⟨ds[n], List.getElem?_eq_getElem hn⟩
    obtain ⟨W2, g2, k2, s2, rx⟩ := hY n d H2 x H3 W' st' hd hw hA F'.s hy
    have F2 := F'.step g2 k2 s2
    have ed : ds.drop n = d :: ds.drop (n + 1) := by
      rw [List.drop_eq_getElem_cons hn]
      rw [List.getElem?_eq_getElem hn] at hd
      rw [Option.some.inj hd]
    rw [ed] at h'
    unfold forD at h'
    split at h'
    · exact h'.elim
    · rename_i ρ2 eb
      obtain ⟨σ2, l2, off, ht⟩ := bind_ok (t := t) F2.s F2.l rx eb
      refine ht _ ⟨W2, ρ2, st', F2.off l2 off, ?_⟩
      have hw2 : Same W1.F W2.F := fun a u z => g2.f a u (hw a u z)
      have hA2 : W1.A <+: W2.A := List.IsPrefix.trans hA g2.a
      cases q : f ρ2 st' with
      | stuck => rw [q] at h'; exact (show False from h').elim
      | nx ρ3 st3 =>
        rw [q] at h'
        exact fun σ3 H4 W3 le F3 => ⟨W3, ρ3, st3, F3, fun a u z => le.f a u (hw2 a u z), List.IsPrefix.trans hA2 le.a, Out.mono h' (g2.le.trans le)⟩
      | ct ρ3 st3 =>
        rw [q] at h'
        exact fun σ3 H4 W3 le F3 => ⟨W3, ρ3, st3, F3, fun a u z => le.f a u (hw2 a u z), List.IsPrefix.trans hA2 le.a, Out.mono h' (g2.le.trans le)⟩
      | brk ρ3 st3 =>
        rw [q] at h'
        exact fun σ3 H4 W3 le F3 => h' σ3 H4 W3 (g2.le.trans le) F3
      | ret d st3 => rw [q] at h'; exact h'
      | ex x st3 => rw [q] at h'; exact h'
  · rintro σ' H' ⟨W', ρ', st', F', hw, hA, h'⟩
    rw [List.drop_length] at h'
    exact h' σ' H' W' .refl F'
end
end DL
set_option maxHeartbeats 4000000
/-! The data layer, part h: defs by their bodies; the law's end. -/
namespace DL
open PySem PySem.Spec PyProof.Rows L2

def startE (N : List Str) (ds : List D) : Ev := ds.map Sl.sh ++ List.replicate (N.length - ds.length) .no
def retOf (r : RS) : R D := match r with
  | .ret d s => .ok d s
  | .nx _ s => .ok .non s
  | .ex x s => .ex x s
  | _ => .stuck
section
variable {K : PySem.W.Frag} {cl : Cl} {W : Wd} {H : Hp} {vs : List V} {ds : List D} {N : List Str}
theorem RpAll.sh : ∀ {vs : List V} {ds : List D}, RpAll K cl W vs ds → ∀ (i : Nat) (d : D), (ds.map Sl.sh)[i]? = some (.sh d) → ∃ v, (vs.map some)[i]? = some (some v) ∧ Rp K cl W v d
  | vs, ds, r, i, d, h => by
    rw [List.getElem?_map, Option.map_eq_some_iff] at h
    obtain ⟨d', h1, h2⟩ := h
    cases h2
    obtain ⟨v, h3, h4⟩ := r.get h1
    exact ⟨v, by rw [List.getElem?_map, h3]; rfl, h4⟩
theorem satL_start (r : RpAll K cl W vs ds) : SatL K cl W (startE N ds) (L2.start N vs) H := by
  have hl := r.length
  have noX : ∀ (i : Nat) (x : Exn), (startE N ds)[i]? ≠ some (.exn x) := fun i x h => by
    unfold startE at h
    by_cases hi : i < (ds.map Sl.sh).length
    · rw [List.getElem?_append_left hi, List.getElem?_map] at h
      cases q : ds[i]? with
      | none => rw [q] at h; cases h
      | some d => rw [q] at h; cases h
    · rw [List.getElem?_append_right (by omega), List.getElem?_replicate] at h
      split at h <;> cases h
  have noOwn : ∀ (i : Nat) (es : List D), (startE N ds)[i]? ≠ some (.own es) := fun i es h => by
    unfold startE at h
    by_cases hi : i < (ds.map Sl.sh).length
    · rw [List.getElem?_append_left hi, List.getElem?_map] at h
      cases q : ds[i]? with
      | none => rw [q] at h; cases h
      | some d => rw [q] at h; cases h
    · rw [List.getElem?_append_right (by omega), List.getElem?_replicate] at h
      split at h <;> cases h
  have noHd : ∀ (i : Nat) (o : MO), (startE N ds)[i]? ≠ some (.hd o) := fun i o h => by
    unfold startE at h
    by_cases hi : i < (ds.map Sl.sh).length
    · rw [List.getElem?_append_left hi, List.getElem?_map] at h
      cases q : ds[i]? with
      | none => rw [q] at h; cases h
      | some d => rw [q] at h; cases h
    · rw [List.getElem?_append_right (by omega), List.getElem?_replicate] at h
      split at h <;> cases h
  refine ⟨?_, fun i d h => ?_, fun i es h => absurd h (noOwn i es), fun i j es fs p _ h => absurd h (noOwn i es), fun i x h => absurd h (noX i x), fun i o h => absurd h (noHd i o), fun i j o u p _ h => absurd h (noHd i o)⟩
  · unfold startE L2.start
    rw [List.length_append, List.length_append, List.length_map, List.length_map, List.length_replicate, List.length_replicate, hl]
  · unfold startE at h
    by_cases hi : i < (ds.map Sl.sh).length
    · rw [List.getElem?_append_left hi] at h
      obtain ⟨v, h1, h2⟩ := r.sh i d h
      refine ⟨v, ?_, h2⟩
      unfold L2.start
      rw [List.getElem?_append_left (by rw [List.length_map] at hi ⊢; omega)]
      exact h1
    · rw [List.getElem?_append_right (by omega), List.getElem?_replicate] at h
      split at h <;> cases h
end
section
variable {P : Program} {w : World} {K : PySem.W.Frag} {mg : Str → Option Value} {base : Heap} {cl : Cl} {CX : CXT} {x qual : Str} {params : Arguments} {body : List Stmt} {scope : Scope} {dvs : List V} {kws : List (Str × V)} {f : Addr} {fd : FuncData} {N ps : List Str} {k : Nat}
/-- a def keeps its promise: fb is what its body denotes, sem the plain function -/
theorem fn_D (sem : List D → S → R D) (fb : Ev → S → RS) (F : FunD K x qual params body scope dvs kws f fd) (Sc : FnScope N ps scope) (har : ∀ ds st, sem ds st ≠ .stuck → ds.length = ps.length)
    (hb : ∀ (cdv : Value) (A : Around) (outer : List Env) (s : Shared) (H : Hp) (E : XK) (W0 : Wd), Room k (A.deeper (envOfC qual scope s.heap.objs.size f cdv)) → DSs (cxOf CX P w K mg base N qual scope f cdv A outer s H E) cl E W0 H body fb)
    (hm : ∀ ds st, sem ds st ≠ .stuck → retOf (fb (startE N ds) st) = sem ds st) (h0 : cl.f = false) : FnOk P w K mg base CX (k + 1) f fd ps (spG K cl sem) := by
  refine F.ok Sc (fun vs H Q E h => ?_) (fun cdv A outer s H vs Q E hr h => ?_)
  · obtain ⟨W, st, ds, s, r, h⟩ := h
    rw [r.length]
    refine har ds st fun e => ?_
    rw [e] at h
    exact h
  · obtain ⟨W, st, ds, s0, r, h⟩ := h
    refine ⟨_, hb cdv A outer s H E W hr, W, startE N ds, st, ⟨.refl, .refl, s0, satL_start r, fun i es p q => ?_, fun i o p q => ?_⟩, ?_⟩
    · exact absurd q (by
        intro q
        obtain ⟨p', us, h1, h2, h3, _⟩ := (satL_start (K := K) (cl := cl) (N := N) (H := fun _ => none) r).own i es q
        cases h2)
    · exact absurd q (by
        intro q
        obtain ⟨_, p', _, h1, _⟩ := (satL_start (K := K) (cl := cl) (N := N) (H := fun _ => none) r).hd i o q
        obtain ⟨u, e, _⟩ := h1.there
        cases e)
    · have hne : sem ds st ≠ .stuck := fun e => by rw [e] at h; exact h
      have e := hm ds st hne
      cases q : fb (startE N ds) st with
      | stuck => rw [q] at e; exact absurd e.symm hne
      | brk ρ st' => rw [q] at e; exact absurd e.symm hne
      | ct ρ st' => rw [q] at e; exact absurd e.symm hne
      | ret d st' =>
        rw [q] at e
        rw [← e] at h
        exact ⟨fun z => (by rw [h0] at z; cases z), fun v H' W' g k s r => h v H' W' g k s (r.1 h0)⟩
      | ex y st' =>
        rw [q] at e
        rw [← e] at h
        exact h
      | nx ρ st' =>
        rw [q] at e
        rw [← e] at h
        exact fun σ' H' W' _ F' => h .non H' W' F'.g F'.k F'.s .non
end
section
variable {P : Program} {w : World} {K : PySem.W.Frag} {mg : Str → Option Value} {base : Heap} {cl : Cl} {x qual : Str} {params : Arguments} {body : List Stmt} {scope : Scope} {dvs : List V} {kws : List (Str × V)} {f : Addr} {fd : FuncData} {N ps : List Str} {k : Nat}
/-- the plain function of a def: n parameters, m slots -/
def semOf (n m : Nat) (fb : Ev → S → RS) : List D → S → R D := fun ds st => if ds.length = n then retOf (fb (ds.map Sl.sh ++ List.replicate (m - ds.length) .no) st) else .stuck
/-- a def that raises nothing -/
theorem fn_0 (sem : List D → S → R D) (fb : Ev → S → RS) (F : FunD K x qual params body scope dvs kws f fd) (Sc : FnScope N ps scope)
    (hb : ∀ (cdv : Value) (A : Around) (outer : List Env) (s : Shared) (H : Hp) (E : XK) (W0 : Wd), Room k (A.deeper (envOfC qual scope s.heap.objs.size f cdv)) → DSs (cxOf CX0 P w K mg base N qual scope f cdv A outer s H E).nox cl E W0 H body fb) (hs : sem = semOf ps.length N.length fb) (h0 : cl.f = false) :
    FnOk P w K mg base CX0 (k + 1) f fd ps (spG K cl sem) := by
  subst hs
  refine fn_D (semOf ps.length N.length fb) fb F Sc (fun ds st h => ?_) (fun cdv A outer s H E W0 hr => PSs.nox (hb cdv A outer s H E W0 hr)) (fun ds st h => ?_) ?_
  · unfold semOf at h
    split at h
    · assumption
    · exact absurd rfl h
  · unfold semOf at h ⊢
    split at h
    · rename_i e
      rw [if_pos e]
      rfl
    · exact absurd rfl h
  · exact h0
/-- a def of the text with its promise -/
structure Fn (P : Program) (w : World) (K : PySem.W.Frag) (mg : Str → Option Value) (base : Heap) (cl : Cl) (k : Nat) (x : Str) (st : Stmt) (ps : List Str) (sem : List D → S → R D) (f : Addr) (fd : FuncData) : Prop where
  F : FunD K x x (defArgs st) (defBody st) (defScope st) [] [] f fd
  G : FnOk P w K mg base CX0 k f fd ps (spG K cl sem)
  m : mg x = some (.ref f)
  b : Binds K fd ps []
theorem u64 {k : Nat} {A : Around} (hr : Room k A) : A.units + 64 < cLine := hr.units
theorem u65 {k : Nat} {A : Around} (hr : Room k A) : A.units + 65 < cLine := by have := hr.un; omega
end
/-- all but the tables -/
def noT (H : Hp) : Hp := fun b => match H b with
  | some (.tbl _) => none
  | o => o
theorem noT_of {H : Hp} {a : Addr} {o : HO} (h : H a = some o) (n : NT o) : noT H a = some o := by
  unfold noT
  rw [h]
  cases o with
  | tbl ps => exact absurd rfl (n ps)
  | _ => rfl
theorem of_noT {H : Hp} {a : Addr} {o : HO} (h : noT H a = some o) : H a = some o ∧ NT o := by
  unfold noT at h
  split at h
  · cases h
  · rename_i n
    refine ⟨h, fun ps z => ?_⟩
    subst z
    exact n ps h
/-- the law's own end -/
theorem law_end {K : PySem.W.Frag} {cl : Cl} {sem : List D → S → R D} (h : ∀ ns : List Int, ns.length ≤ 63 → ∃ st, sem [.scr ns] [] = .ok (.bl true) st) (H : Hp) (a : Addr) (ns : List Int) (hl : ns.length ≤ 63) (hS : SqL K H a (ns.map V.int)) (hT : LamX.Tabs cl.T H) :
    spG K cl sem [.ref a] H (fun v _ => v = .bl true) fun _ _ _ => False := by
  obtain ⟨st, e⟩ := h ns hl
  have hS' : SqL K (noT H) a (ns.map V.int) := by
    rcases hS with (h | ⟨o, h⟩) | h
    · exact .inl (.inl (noT_of h .lst))
    · exact .inl (.inr ⟨o, noT_of h fun _ z => nomatch z⟩)
    · exact .inr h
  refine ⟨⟨noT H, []⟩, [], [.scr ns], ⟨fun _ _ h => (of_noT h).1, rfl, List.Pairwise.nil, fun a m => (by cases m), fun i o e => (by simp at e), fun a o h => (of_noT h).2, hT⟩, .cons (.scr hS') .nil, ?_⟩
  rw [e]
  intro v H' W' g k s r
  cases r
  rfl
end DL
set_option maxHeartbeats 4000000
/-! The data layer, part i: the built-ins' names. -/
namespace DL
open PySem PySem.Spec PyProof.Rows L2
theorem bt_len : bootBuiltins "len" = some (.builtin "len") := by decide +kernel
theorem bt_all : bootBuiltins "all" = some (.builtin "all") := by decide +kernel
theorem bt_min : bootBuiltins "min" = some (.builtin "min") := by decide +kernel
theorem bt_abs : bootBuiltins "abs" = some (.builtin "abs") := by decide +kernel
theorem bt_sorted : bootBuiltins "sorted" = some (.builtin "sorted") := by decide +kernel
theorem bt_isinstance : bootBuiltins "isinstance" = some (.builtin "isinstance") := by decide +kernel
theorem bt_int : bootBuiltins "int" = some (.type "int") := by decide +kernel
theorem bt_str : bootBuiltins "str" = some (.type "str") := by decide +kernel
theorem bt_bool : bootBuiltins "bool" = some (.type "bool") := by decide +kernel
theorem bt_list : bootBuiltins "list" = some (.type "list") := by decide +kernel
theorem bt_tuple : bootBuiltins "tuple" = some (.type "tuple") := by decide +kernel
end DL
set_option maxHeartbeats 4000000
/-! The data layer, part j: the head's facts with one more Bool. -/
namespace DL
open PySem PySem.Spec PyProof.Rows L2
end DL
set_option maxHeartbeats 4000000
/-! The data layer, part k: exceptions. try with several classes and a name. -/
namespace DL
open PySem PySem.Spec PyProof.Rows L2
theorem fly_kept {B h h' : Heap} {l : List Env} {a : Addr} {Z : Obj → Prop} (f : HandSPX.FlyingZ B l a Z h) (k : ∀ b o, h.get? b = some o → h'.get? b = some o) : HandSPX.FlyingZ B l a Z h' := by
  obtain ⟨f1, f2, f3, oe, vs, T, oT, ts, e1, e2, e3, e4, e5, e6, e7, e8, e9⟩ := f
  exact ⟨fun b o e => k b o (f1 b o e), f2, Heap.FunFrames.of_keeps (fun b o e _ => ⟨o, k b o e, rfl⟩) f3, oe, vs, T, oT, ts, k _ _ e1, e2, e3, e4, e5, e6, k _ _ e7, e8, e9⟩
/-- the classes of an except clause: looked up, and what the match says -/
def Tst (X : Cx) (t : Expr) (cs : List Value) : Prop := ∀ (a : Addr) (oe : Obj) (pn pins : List (Addr × Obj)) (σ : L2.St) (H : Hp) (s : Shared), Inv (X.suite a ((a, oe) :: pn)) pins σ H s →
  ∀ (cls : Value) (b : Bool), PySem.W.Looks (model X.prog X.w) s.heap (typeOf (.ref a)) cls → PySem.W.exmAny X.K cls cs = some b → ∀ {Q : Value → Shared → Prop} {E : Value → Shared → Prop},
    (∀ v o, PySem.W.Looks (model X.prog X.w) (s.heap.push o) (excMatches (.ref a) v) b → Q v { s with heap := s.heap.push o }) → wpAny (model X.prog X.w) (X.A.mark (some (.ref a))) (eval t X.env) Q E s
theorem ld_nm {X : Cx} {pins : List (Addr × Obj)} {σ : L2.St} {H : Hp} {s : Shared} {x : Str} {c : Value} {p : Pos} {Q : Value → Shared → Prop} {E : Value → Shared → Prop} (I : Inv X pins σ H s) (hc : Names X x c) (q : Q c s) : wpAny (model X.prog X.w) X.A (eval (.Name x p) X.env) Q E s := by
  obtain ⟨hg, hd, hm | ⟨hm, hv, hn⟩⟩ := hc
  · exact ld_glob I hg hm q hd
  · exact ld_blt I hg hm hv q hn hd
theorem tst2 {X : Cx} {x1 x2 : Str} {c1 c2 : Value} {p1 p2 tp : Pos} {k : Nat} (h1 : Names X x1 c1) (h2 : Names X x2 c2) : Tst X (.Tuple [.Name x1 p1, .Name x2 p2] k tp) [c1, c2] := by
  intro a oe pn pins σ H s I cls b LT hx Q E h
  refine Tuple_ (spliced_more (ld_nm (X := X.suite a ((a, oe) :: pn)) I h1 (spliced_more (ld_nm (X := X.suite a ((a, oe) :: pn)) I h2 (spliced_none ?_)))))
  refine wpAny_newObj_type (h _ _ ?_)
  have kp : ∀ b o, s.heap.get? b = some o → (s.heap.push { cls := .type "tuple", data := .seq [c1, c2].toArray }).get? b = some o := fun b o e => Heap.get?_push_of_some _ e
  exact PySem.W.exm_tup2 (I.kIn.keeps kp) (LT.keeps kp) (Heap.get?_push_size _ rfl) hx
/-- what the clause wishes of an exception of the body: slot i is the name's -/
def wAsT (K : PySem.W.Frag) (cs : List Value) (i : Nat) (ts : Addr → Value → Option Addr → TS) (Wout : WX) (Dn : Ends) : WX := fun cls d σ H =>
  ∃ b, PySem.W.exmAny K cls cs = some b ∧ (b = true → ∀ a, H a = none → ts a cls d { nx := fun τ G => Dn.nx (τ.set i none) G, rt := Dn.rt, bk := fun τ G => Dn.bk (τ.set i none) G, ct := fun τ G => Dn.ct (τ.set i none) G } (σ.set i (some (.ref a))) H) ∧ (b = false → Wout cls d σ H)
section
variable {X : Cx} {n : Str} {cs : List Value} {i : Nat} {t : Expr} {body suite : List Stmt} {b₀ : Stmt} {pos pos' : Pos} {tb : WX → TS} {ts : Addr → Value → Option Addr → TS} {Wout : WX}
theorem ps_tryT (hs : X.stack = X.env :: X.outer) (hf : X.env.frame = some X.env.locals) (hN : X.N.Nodup) (hi : X.N[i]? = some n) (hln : X.env.kindOf n = some .local) (hc : Tst X t cs) (tk : Takes X Wout)
    (hb : ∀ (W : WX) (pn : List (Addr × Obj)) (xe : Value → Shared → Prop), Takes (X.tr pn xe) W → PassesOwn (model X.prog X.w) X.A X.env xe → PSs (X.tr pn xe) body (tb W))
    (hsu : ∀ (a : Addr) (oe : Obj) (cls : Value) (d : Option Addr) (pn : List (Addr × Obj)), Zc cls d oe → (∃ vs, oe.data = .fields vs) → PSs (X.suite a ((a, oe) :: pn)) (b₀ :: suite) (ts a cls d)) :
    PS X (.Try body [.ExceptHandler (some t) (some n) (b₀ :: suite) pos'] [] [] pos) (fun Dn σ H => tb (wAsT X.K cs i ts Wout Dn) Dn σ H) := by
  refine ⟨fun pins s σ H Dn I h => ?_⟩
  have ok := I.ok
  have hfr : X.A.frames = some (X.env :: X.outer) := by rw [ok.frames, hs]
  have hloc : Loc X.env.scope n := .inl hln
  refine wpAny_Try_except ?_
  refine wpAny_mono ((hb (wAsT X.K cs i ts Wout Dn) (X.pn ++ pins) (fun e s₁ => wpAny (model X.prog X.w) X.A (noteFrame e X.env) (fun _ s₂ => wpAny (model X.prog X.w) X.A (setFlight e none) (fun _ s₃ => wpAny (model X.prog X.w) X.A (handleBy e X.env [.ExceptHandler (some t) (some n) (b₀ :: suite) pos']) (SP X pins Dn) X.xe s₃) X.xe s₂) X.xe s₁) (fun u s' xx => ?_) PassesOwn.looking).run [] s σ H Dn (I.toTry _) h) (fun f s1 hsp => ?_) (fun e s1 he => he)
  · obtain ⟨a, B, sI, pins', σ1, H1, cls, d, rfl, J', nb, up, sky, na, os, ag, b, hb1, hyes, hno⟩ := xx
    have J : Inv X pins σ1 H1 sI := J'.ofTry ok
    have sky' : Sky B (X.env :: X.outer) a (Zc cls d) X.env.locals s'.heap := by rw [← hs]; exact sky
    show wpAny (model X.prog X.w) X.A (noteFrame (.ref a) X.env) _ _ _
    refine Sky.land Zc.steady hfr hf sky' fun h3 fl3 up3 => ?_
    have J3 : Inv X pins σ1 H1 { s' with heap := h3 } := J.landed nb fl3.1 (up.trans up3) os ag
    obtain ⟨oe3, vs3, he3, hz3, hd3⟩ := fl3.there
    have nfr : a ∉ frs (X.env :: X.outer) := fun hm => by
      obtain ⟨_, o', e', hnf⟩ := fl3.2.2.1.mem hm
      rw [he3] at e'; cases e'
      exact hnf _ hd3
    have nL : a ≠ X.env.locals := fun z => nfr (List.mem_filterMap.mpr ⟨X.env, List.mem_cons_self, by rw [hf, z]⟩)
    have nF : a ∉ X.fs := fun hm => by
      obtain ⟨e, he, q⟩ := List.mem_filterMap.mp hm
      exact nfr (List.mem_filterMap.mpr ⟨e, List.mem_cons_of_mem _ he, q⟩)
    have S3 := J3.suite he3 hd3 na nL nF
    refine wpAny_handleBy_cons (codeAny_handlers_test ?_) (by intro q; cases q)
    have LT : PySem.W.Looks (model X.prog X.w) h3 (typeOf (.ref a)) cls := fun A Q E s k q => wpAny_typeOf_ref (k _ _ he3) (by rw [hz3.1]; exact q)
    refine hc a oe3 (X.pn ++ pins) [] σ1 H1 _ S3 cls b LT hb1 fun v ob LM => LM.here ?_
    have kp : ∀ b o, h3.get? b = some o → (h3.push ob).get? b = some o := fun b o e => Heap.get?_push_of_some _ e
    have fl5 := fly_kept fl3 kp
    have up5 := up3.trans (Heap.UpToSlots.of_keeps kp)
    cases b with
    | true =>
      refine codeAny_handlers_suite_as ?_
      refine HandSPX.lands_againZ fl5 fun h4 fl4 up4 => ?_
      have J4 : Inv X pins σ1 H1 { s' with heap := h4 } := J.landed nb fl4.1 ((up.trans up5).trans up4) os ag
      obtain ⟨oe4, vs4, he4, hz4, hd4⟩ := fl4.there
      have S4 := J4.suite he4 hd4 na nL nF
      refine store_ok (X := X.suite a ((a, oe4) :: (X.pn ++ pins))) (v := .ref a) S4 hN hi hloc rfl (fun s5 S5 => ?_) (.inr hln)
      refine wpAny_mono ((hsu a oe4 cls d (X.pn ++ pins) hz4 ⟨_, hd4⟩).run [] s5 _ H1 _ S5 (hyes rfl a na)) (fun f s6 hsp => ?_) (fun _ _ z => False.elim z)
      have fine : ∀ {σ6 : L2.St} {H6 : Hp} {Q : Shared → Prop}, Inv (X.suite a ((a, oe4) :: (X.pn ++ pins))) [] σ6 H6 s6 → (∀ s7, Inv X pins (σ6.set i none) H6 s7 → Q s7) → wpAny (model X.prog X.w) X.A (do bindName X.env n .none; unbindBehindTheSuite X.env n pos') (fun _ s7 => Q s7) X.xe s6 := fun {σ6 H6 Q} S6 hq => gone_ok (S6.unsuite ok) hN hi hln hq
      cases f with
      | ret u =>
        obtain ⟨v6, σ6, H6, S6, r6, q6⟩ := hsp
        exact fine S6 fun s7 J7 => ⟨_, _, _, J7, r6, q6⟩
      | _ =>
        obtain ⟨σ6, H6, S6, q6⟩ := hsp
        exact fine S6 fun s7 J7 => ⟨_, _, J7, q6⟩
    | false =>
      show wpAny _ X.A (handleBy (.ref a) X.env []) _ _ _
      refine wpAny_handleBy_nil ?_
      obtain ⟨_, _, _, oe, vs, T, oT, ts', he, hz, hd, h1, hr⟩ := id fl5
      unfold PySem.passOn
      refine wpAny_bind (wpAny_field he hd h1 ?_)
      rw [if_neg (show ¬ ((Value.ref T == Value.none) = true) from by simp)]
      have fin : wpAny (model X.prog X.w) X.A (setFlight (.ref a) X.env.frame) (fun _ s4 => wpAny (model X.prog X.w) X.A (throw (.ref a) : Sem Flow) (SP X pins Dn) X.xe s4) X.xe { s' with heap := h3.push ob } := by
        rw [hf]
        refine HandSPX.setFlight_upZ fl5 fun h4 hh4 up4 => wpAny_throw (tk _ _ ?_)
        exact ⟨a, B, sI, pins, σ1, H1, cls, d, rfl, J, nb, (up.trans up5).trans up4, .inr (.inr (by rw [hs]; exact hh4)), na, os, ag, hno rfl⟩
      first
        | exact wpAny_bind (wpAny_pure (wpAny_bind fin))
        | exact wpAny_bind fin
  · cases f with
    | next =>
      obtain ⟨τ, G, J', q⟩ := hsp
      exact wpAny_execs_nil ⟨τ, G, J'.ofTry ok, q⟩
    | ret u =>
      obtain ⟨v, τ, G, J', r, q⟩ := hsp
      exact ⟨v, τ, G, J'.ofTry ok, r, q⟩
    | _ =>
      obtain ⟨τ, G, J', q⟩ := hsp
      exact ⟨τ, G, J'.ofTry ok, q⟩
end
end DL
set_option maxHeartbeats 4000000
/-! The data layer, part x: own exception classes over any built-in base, whose __init__ is walked as a def. -/
namespace DL
open PySem PySem.Spec PyProof.Rows L2
open Builtin Builtin.ObjectAttr

/-- what the written part says of the class -/
structure OexG (K : PySem.W.Frag) (C : Addr) : Prop where
  cls : ∃ nm q N bs bm sn sub ab col dd k0 k1 k2 k3 k5 B newId initId bmB, K.lookup C = some (excClassObj nm q C N bs bm true sn sub ab col dd k0 k1 k2 k3 k5 newId) ∧ ExcBaseFacts B newId initId bmB ∧
    (∀ X : String, bm.contains (.type X) = bmB.contains (.type X)) ∧ (Value.ref C :: bm).contains (.type "object") = true ∧ ∀ self : Value, refuseLoop self "__setattr__" (.ref C :: bm) = pure ()
  sa : PySem.W.findIn K (.ref C) "__setattr__" = some (some (.builtin "object.__setattr__"))
  exC : PySem.W.subIn K (.ref C) (.type "BaseException") = some true
  tyC : PySem.W.typeIn K (.ref C) = some (.type "type")
  kC : PySem.W.keepIn K (.ref C) = true
section
variable {prog : Program} {w : World} {A : Around} {E : Value → Shared → Prop} {R : Result → Shared → Prop} {hp : Heap} {g : Array GenState} {d : Drawn} {t : Nat} {os : OsState}
/-- the first field -/
theorem osa_first {K : PySem.W.Frag} {name : Str} {tk : Tok} {v : Value} {x C : Addr} {fv : Array Value} {cd : ClassData} (X : K.In hp) (hx : hp.get? x = some { cls := .ref C, data := .fields fv }) (hcd : PySem.W.clsIn K C = some cd)
    (hob : cd.mro.contains (.type "object") = true) (hps : refuseLoop (.ref x) "__setattr__" cd.mro = pure ()) (hh : cd.hasDict = true) (ha : PySem.W.findIn K (.ref C) name = some none)
    (hq : ∀ h' tk' dx, (∀ b o, b ≠ x → hp.get? b = some o → h'.get? b = some o) → hp.objs.size ≤ dx → dx ≠ x → h'.get? x = some { cls := .ref C, dict := some dx, data := .fields fv } → h'.Ns1 dx (fun y => if y = name then some v else none) → R (.ok (.ret .none)) ⟨h', g, d, tk', os⟩) :
    codeAny (model prog w) A (.call (.builtin "object.__setattr__") ⟨[.ref x, .str name tk, v], []⟩) R ⟨hp, g, d, t, os⟩ := by
  have I0 : PySem.W.InstAt hp x { cls := .ref C, data := .fields fv } C none := ⟨hx, rfl, rfl, trivial⟩
  have so := F.store_object
  have ne : cd.mro.isEmpty = false := by
    cases e : cd.mro with
    | nil => rw [e] at hob; cases hob
    | cons _ _ => rfl
  have nx : x ≠ hp.objs.size := Nat.ne_of_lt (Heap.lt_size hx)
  have isO : PySem.W.Looks (model prog w) hp (isInstance (.ref x) (.type "object")) true := I0.type.andThen (PySem.W.looks_mroIn X (by unfold PySem.W.mroIn; rw [hcd, Option.bind_some, if_neg (by rw [ne]; decide), hob]))
  refine codeAny_call_builtin so.slot.plain so.entry (@PySem.W.check_slot (model prog w) _ _ ⟨hp, g, d, t, os⟩ "object.__setattr__" "object" "__setattr__" (.ref x) [.str name tk, v] [] _ so.kind so.split isO (so.args (.ref x) (.str name tk) v) ?_)
  have l1 : PySem.W.Looks (model prog w) hp (mroOf (.ref C)) cd.mro := (PySem.W.looks_clsIn X hcd).andThen .now
  have l2 : PySem.W.Looks (model prog w) hp (storeTaker? none) none := .now
  have l3 : PySem.W.Looks (model prog w) hp (classData C) cd := PySem.W.looks_clsIn X hcd
  rw [PySem.W.osa_eq, refuse_eq]
  refine wpAny_bind (wpAny_bind (I0.type.at (wpAny_bind (l1.at ?_))))
  rw [hps]
  refine wpAny_pure (wpAny_bind (I0.type.at (wpAny_bind ((PySem.W.looks_findIn X ha).at (wpAny_bind (l2.at ?_))))))
  show wpAny _ _ (storeInOwnDict (.ref x) (.ref C) (.str name tk) name v false) _ _ _
  obtain ⟨nm, bs, mro, ns, qn, hd, sn, sb, ab, col, del⟩ := cd
  dsimp only at hh
  subst hh
  unfold storeInOwnDict ownDictForStores
  repeat (first | with_reducible refine PySem.HandSPX.store_in_new ?_ ?_ | with_reducible refine wpAny_loadPart_at hx ?_ | with_reducible refine l3.at ?_ | wp_step)
  · exact ⟨_, #[], _, (Heap.get?_update_ne _ _ _ _ nx.symm).trans (Heap.get?_push_at rfl rfl), rfl, fun e he => absurd he (by simp), fun _ => rfl⟩
  · intro h' tk' hn sb2
    have hx1 : (hp.push { cls := .type "dict", data := .dict #[] }).get? x = some { cls := .ref C, data := .fields fv } := Heap.get?_push_of_some _ hx
    refine hq h' tk' hp.objs.size (fun b o hb ho => ?_) (Nat.le_refl _) nx.symm ?_ hn
    · exact (sb2.2 b (Nat.ne_of_lt (Heap.lt_size ho))).trans ((Heap.get?_update_ne _ _ _ _ hb).trans (Heap.get?_push_of_some _ ho))
    · exact (sb2.2 x nx).trans (Heap.get?_update_self _ hx1 rfl)
/-- a further one -/
theorem osa_next {K : PySem.W.Frag} {name : Str} {tk : Tok} {v : Value} {x C dx : Addr} {fv : Array Value} {cd : ClassData} {m0 : Str → Option Value} {nl : List Str} (X : K.In hp) (hx : hp.get? x = some { cls := .ref C, dict := some dx, data := .fields fv }) (hns : hp.Ns1 dx m0) (hw : Within m0 nl) (hz : nl.length ≤ 1000)
    (hcd : PySem.W.clsIn K C = some cd) (hob : cd.mro.contains (.type "object") = true) (hps : refuseLoop (.ref x) "__setattr__" cd.mro = pure ()) (hh : cd.hasDict = true) (ha : PySem.W.findIn K (.ref C) name = some none)
    (hq : ∀ h' tk', (∀ b o, b ≠ dx → hp.get? b = some o → h'.get? b = some o) → h'.Ns1 dx (fun y => if y = name then some v else m0 y) → R (.ok (.ret .none)) ⟨h', g, d, tk', os⟩) :
    codeAny (model prog w) A (.call (.builtin "object.__setattr__") ⟨[.ref x, .str name tk, v], []⟩) R ⟨hp, g, d, t, os⟩ := by
  obtain ⟨oD, esD, epD, hoD, hdD, _⟩ := hns.count hw
  have I0 : PySem.W.InstAt hp x { cls := .ref C, dict := some dx, data := .fields fv } C (some oD) := ⟨hx, rfl, rfl, hoD⟩
  have so := F.store_object
  have ne : cd.mro.isEmpty = false := by
    cases e : cd.mro with
    | nil => rw [e] at hob; cases hob
    | cons _ _ => rfl
  have isO : PySem.W.Looks (model prog w) hp (isInstance (.ref x) (.type "object")) true := I0.type.andThen (PySem.W.looks_mroIn X (by unfold PySem.W.mroIn; rw [hcd, Option.bind_some, if_neg (by rw [ne]; decide), hob]))
  refine codeAny_call_builtin so.slot.plain so.entry (@PySem.W.check_slot (model prog w) _ _ ⟨hp, g, d, t, os⟩ "object.__setattr__" "object" "__setattr__" (.ref x) [.str name tk, v] [] _ so.kind so.split isO (so.args (.ref x) (.str name tk) v) ?_)
  have l1 : PySem.W.Looks (model prog w) hp (mroOf (.ref C)) cd.mro := (PySem.W.looks_clsIn X hcd).andThen .now
  have l2 : PySem.W.Looks (model prog w) hp (storeTaker? none) none := .now
  have l3 : PySem.W.Looks (model prog w) hp (classData C) cd := PySem.W.looks_clsIn X hcd
  rw [PySem.W.osa_eq, refuse_eq]
  refine wpAny_bind (wpAny_bind (I0.type.at (wpAny_bind (l1.at ?_))))
  rw [hps]
  refine wpAny_pure (wpAny_bind (I0.type.at (wpAny_bind ((PySem.W.looks_findIn X ha).at (wpAny_bind (l2.at ?_))))))
  show wpAny _ _ (storeInOwnDict (.ref x) (.ref C) (.str name tk) name v false) _ _ _
  obtain ⟨nm, bs, mro, ns, qn, hd, sn, sb, ab, col, del⟩ := cd
  dsimp only at hh
  subst hh
  unfold storeInOwnDict ownDictForStores
  repeat (first | with_reducible refine PySem.OEX.store_in_old hns hw hz ?_ | with_reducible refine wpAny_loadPart_at hx ?_ | with_reducible refine l3.at ?_ | wp_step)
  intro h' tk' hn sb2
  exact hq h' tk' (fun b o hb ho => (sb2.2 b hb).trans ho) hn
end
section
variable {X : Cx} {pins : List (Addr × Obj)} {σ : L2.St} {H : Hp} {s : Shared} {a C dx : Addr} {f : Str} {y : V} {u : Value} {fs : List (Str × V)} {Q : Unit → Shared → Prop} {E : Value → Shared → Prop} {A : Around}
theorem st_first (T : OexG X.K C) (I : Inv X pins σ H s) (e : H a = some (exo a C none)) (hno : PySem.W.findIn X.K (.ref C) f = some none) (ry : RelV y u)
    (h : ∀ dx s', H dx = none → dx ≠ a → Inv X pins σ (upd (upd H dx (exd dx [(f, y)])) a (exo a C (some dx))) s' → Q () s') : wpAny (model X.prog X.w) A (setAttr (.ref a) f u) Q E s := by
  obtain ⟨nm, q, N, bs, bm, sn, sub, ab, col, dd, k0, k1, k2, k3, k5, B, nI, iI, bmB, hC, FB, hbm, hob, hps⟩ := T.cls
  have hcl : PySem.W.clsIn X.K C = some { name := nm, bases := bs, mro := .ref C :: bm, ns := N, qualname := q, hasDict := true, slotNames := sn, subclasses := sub, abstract := ab, collection := col, hasDel := false } := by
    unfold PySem.W.clsIn
    rw [hC] <;> rfl
  obtain ⟨t1, ho⟩ := exo_at I.hok e
  obtain ⟨hp, g, d, t, os⟩ := s
  refine PySem.W.set_plain I.kIn (ox := { cls := .ref C, dict := none, data := .fields #[.ref t1, .none, .none, .none, .bool false, .none] }) (od := none) ⟨ho, rfl, rfl, trivial⟩ T.sa ?_
  refine osa_first I.kIn ho hcl hob (hps _) rfl hno (fun h' tk' dx k dn dne hx hn => ?_)
  have nD : H dx = none := I.hok.fresh dn
  have n1 : ∀ {b : Addr} {o : Obj}, hp.get? b = some o → b ≠ dx := fun {b o} q => Nat.ne_of_lt (Nat.lt_of_lt_of_le (Heap.lt_size q) dn)
  have n2 : ∀ {b : Addr}, H b = none → b ≠ a := fun {b} n z => by
    rw [z, e] at n
    cases n
  have U : Un X.fs [] H (upd (upd H dx (exd dx [(f, y)])) a (exo a C (some dx))) hp h' := {
    keep := fun b o q n _ _ => k b o (n2 n) q
    slot := fun b o q n _ _ => ⟨o.slots, k b o (n2 n) q⟩
    free := fun b o q n _ => by rw [upd_ne (n2 n), upd_ne (n1 q)]; exact n
    there := fun b o q _ => by
      by_cases hb : b = a
      · exact ⟨_, by rw [hb]; exact hx⟩
      · exact ⟨o, k b o hb q⟩
    tups := fun b xs q => by rw [upd_ne (at_ne e q exo_tup), upd_ne (ne_of_none q nD)]; exact q
    frzs := fun b o v q => by rw [upd_ne (at_ne e q exo_frz), upd_ne (ne_of_none q nD)]; exact q
    tbls := fun b ps q => ⟨#[], by rw [upd_ne (at_ne e q exo_tbl), upd_ne (ne_of_none q nD), q]; simp⟩ }
  refine h dx _ nD dne (I.un (t' := tk') U fun b o q => ?_)
  by_cases hb : b = a
  · subst hb
    rw [upd_same] at q
    cases q
    exact exo_ok hx
  · rw [upd_ne hb] at q
    by_cases hd : b = dx
    · subst hd
      rw [upd_same] at q
      cases q
      exact exd_ok hn (relO_put (fs := []) ry fun g => True.intro)
    · rw [upd_ne hd] at q
      refine (I.hok b o q).stay (fun c v hc z => k c v ?_ z) (fun c hc => by rw [upd_ne (at_ne e hc exo_own), upd_ne (ne_of_none hc nD)]; exact hc) (fun c xs hc => by rw [upd_ne (at_ne e hc exo_tup), upd_ne (ne_of_none hc nD)]; exact hc)
      rcases hc with hc | hc
      · rw [hc]; exact hb
      · exact at_ne e hc exo_own
theorem st_next (T : OexG X.K C) (I : Inv X pins σ H s) (e : H a = some (exo a C (some dx))) (ed : H dx = some (exd dx fs)) (hl : fs.length ≤ 900) (hno : PySem.W.findIn X.K (.ref C) f = some none) (ry : RelV y u)
    (h : ∀ s', Inv X pins σ (upd H dx (exd dx ((f, y) :: fs))) s' → Q () s') : wpAny (model X.prog X.w) A (setAttr (.ref a) f u) Q E s := by
  obtain ⟨nm, q, N, bs, bm, sn, sub, ab, col, dd, k0, k1, k2, k3, k5, B, nI, iI, bmB, hC, FB, hbm, hob, hps⟩ := T.cls
  have hcl : PySem.W.clsIn X.K C = some { name := nm, bases := bs, mro := .ref C :: bm, ns := N, qualname := q, hasDict := true, slotNames := sn, subclasses := sub, abstract := ab, collection := col, hasDel := false } := by
    unfold PySem.W.clsIn
    rw [hC] <;> rfl
  obtain ⟨t1, ho⟩ := exo_at I.hok e
  obtain ⟨mA, hns, rel⟩ := exd_at I.hok ed
  have hw := within_of rel
  obtain ⟨hp, g, d, t, os⟩ := s
  obtain ⟨oD, _, _, hoD, _, _⟩ := hns.count hw
  refine PySem.W.set_plain I.kIn (ox := { cls := .ref C, dict := some dx, data := .fields #[.ref t1, .none, .none, .none, .bool false, .none] }) (od := some oD) ⟨ho, rfl, rfl, hoD⟩ T.sa ?_
  refine osa_next I.kIn ho hns hw (by rw [List.length_map]; omega) hcl hob (hps _) rfl hno (fun h' tk' k hn => ?_)
  have hd : ∃ o, h'.get? dx = some o := by
    obtain ⟨o, _, _, e', _⟩ := hn
    exact ⟨o, e'⟩
  exact h _ (I.write (t' := tk') (x := dx) (e := dx) (o := exd dx ((f, y) :: fs)) (by rw [ed]; exact True.intro) (.inl rfl) k hd (exd_ok hn (relO_put ry rel)))
end
/-- self.f = e -/
def tSt (K : PySem.W.Frag) (f : Str) (to te : TE) : TS := fun Dn σ H => te σ H fun y H1 => to σ H1 fun x H2 => ∃ a C : Addr, x = .ref a ∧ OexG K C ∧ PySem.W.findIn K (.ref C) f = some none ∧
  ((H2 a = some (exo a C none) ∧ ∀ dx, H2 dx = none → dx ≠ a → Dn.nx σ (upd (upd H2 dx (exd dx [(f, y)])) a (exo a C (some dx)))) ∨
    ∃ (dx : Addr) (fs : List (Str × V)), H2 a = some (exo a C (some dx)) ∧ H2 dx = some (exd dx fs) ∧ fs.length ≤ 900 ∧ Dn.nx σ (upd H2 dx (exd dx ((f, y) :: fs))))
section
variable {X : Cx} {o e : Expr} {es : List Expr} {to te : TE} {ta : TA} {f : Str} {p p' p1 p2 pos : Pos}
theorem ps_st (ho : PE X o to) (he : PE X e te) (hs : swapsWith e (some (.Attribute o f p')) pos.line X.env = pure false := by rfl) : PS X (.Assign [.Attribute o f p'] e pos) (tSt X.K f to te) := by
  constructor
  intro pins s σ H Dn I h
  refine plainObj_wpAny_Assign_Attribute (thn (he.run pins s σ H _ I h) fun v s1 hh => ?_) hs
  obtain ⟨y, H1, I1, r1, q1⟩ := hh
  refine thn (ho.run pins s1 σ H1 _ I1 q1) fun u s2 hh => ?_
  obtain ⟨x, H2, I2, r2, a, C, ex, T, hno, q⟩ := hh
  subst ex
  obtain rfl : u = Value.ref a := r2
  rcases q with ⟨ea, q⟩ | ⟨dx, fs, ea, ed, hl, q⟩
  · exact st_first T I2 ea hno r1 fun dx s' n ne J => ⟨σ, _, J, q dx n ne⟩
  · exact st_next T I2 ea ed hl hno r1 fun s' J => ⟨σ, _, J, q⟩
theorem pmk_any {CX : CXT} {x : Str} {C fI : Addr} {k : Nat} {fd : FuncData} {ps : List Str} {sp : Sp} (T : OexG X.K C) (iC : PySem.W.findIn X.K (.ref C) "__init__" = some (some (.ref fI))) (tI : PySem.W.typeIn X.K (.ref fI) = some (.type "function"))
    (F1 : FnOk X.prog X.w X.K X.mg X.base CX k fI fd ps sp) (hr : Room (k + 1) X.A) (hb : Binds X.K fd ps []) (hx : Passes CX X (fun _ _ _ => False)) (hg : Gl X x) (hm : X.mg x = some (.ref C)) (ha : PA X (e :: es) ta)
    (hdb : (x == ("__debug__" : Str)) = false := by decide) (he : starEach (e :: es) X.env = (false, eval e X.env) :: starEach es X.env := by rfl) (hpl : (backTo pos (starEach es X.env)).any (·.1) = false := by rfl) :
    PMk X (.Call (.Name x p) (e :: es) [] pos) (tMkO C sp [] ta) := by
  intro pins s σ H Q I h
  obtain ⟨nm, q, N, bs, bm, sn, sub, ab, col, dd, k0, k1, k2, k3, k5, B, nI, iI, bmB, hC, FB, hbm, hob, hps⟩ := T.cls
  refine wpAny_Call_Name_kw (ld_glob I hg hm ?_ hdb)
  refine PySem.W.callWith_K (h₀ := X.base) I.ok.mod.kin T.kC (thn (ha.run pos pins s σ H _ I h) fun us s1 hh => ?_) he hpl
  obtain ⟨vs, H1, I1, r1, hz, q1⟩ := hh
  refine ⟨I1.kIn, ?_⟩
  show wpAny _ _ (call (.ref C) us) _ _ _
  obtain ⟨hp, g, dr, tk, os⟩ := s1
  have z0 : hp.objs.size ≤ hp.objs.size + 1 := Nat.le_succ _
  have n0 : H1 (hp.objs.size + 1) = none := I1.hok.fresh z0
  have hq := q1 (hp.objs.size + 1) n0
  have kk : ∀ b o, hp.get? b = some o → ((hp.push (PySem.W.kdv_tup us)).push (PySem.HandSPX.excO C hp.objs.size)).get? b = some o := fun b o e => Heap.get?_push_of_some _ (Heap.get?_push_of_some _ e)
  have hget : ((hp.push (PySem.W.kdv_tup us)).push (PySem.HandSPX.excO C hp.objs.size)).get? (hp.objs.size + 1) = some (PySem.HandSPX.excO C hp.objs.size) := by heap_get
  have I2 : Inv X pins σ (upd H1 (hp.objs.size + 1) (exo (hp.objs.size + 1) C none)) ⟨(hp.push (PySem.W.kdv_tup us)).push (PySem.HandSPX.excO C hp.objs.size), g, dr, tk, os⟩ := I1.laid (t' := tk) (a := hp.objs.size + 1) (o := exo (hp.objs.size + 1) C none) (h' := (hp.push (PySem.W.kdv_tup us)).push (PySem.HandSPX.excO C hp.objs.size)) kk z0 (exo_ok hget)
  have r2 : Vals (V.ref (hp.objs.size + 1) :: (vs ++ [])) (Value.ref (hp.objs.size + 1) :: (us ++ [])) := .cons rfl (r1.append .nil)
  have hl : (Value.ref (hp.objs.size + 1) :: us ++ []).length = ps.length := by
    have e := r2.length
    rw [F1.len _ _ _ _ hq] at e
    exact e.symm
  have hus : us.length ≤ sizeLine := by
    rw [← Paired.length r1, sizeLine_eq]
    omega
  have bd := hb ⟨(hp.push (PySem.W.kdv_tup us)).push (PySem.HandSPX.excO C hp.objs.size), g, dr, tk, os⟩ (Value.ref (hp.objs.size + 1) :: us) I2.kIn hl
  rw [List.cons_append] at bd
  refine wpAny_call (PySem.HandSPX.call_own FB hbm (I1.kIn _ _ hC) (PySem.W.looks_findIn I1.kIn iC) (fun self => PySem.W.bind_fn I1.kIn self tI) hus (codeAny_mono (F1.run _ X.stack _ _ ⟨Value.ref (hp.objs.size + 1) :: us, []⟩ (Value.ref (hp.objs.size + 1) :: (us ++ [])) _ _ (fun _ _ _ => False) (hr.make C us []) (I2.env0.make C us []) bd r2 hq) fun r s' hq' => ?_))
  cases r with
  | error er => exact hx pins σ _ _ er s' I2 hq'
  | ok fl =>
    cases fl with
    | ret u =>
      obtain ⟨v, H2, os2, bare2, un2, hok2, rv, ev, d, fs, ea, ed, hd1, q2⟩ := hq'
      subst ev
      obtain ⟨h2, g2, d2, t2, os'⟩ := s'
      exact ⟨rv, mk_end (raises_own T.exC T.tyC) I1 z0 kk un2 hok2 os2 bare2 ea ed hd1 q2⟩
    | next => exact False.elim hq'
    | brk => exact False.elim hq'
    | cont => exact False.elim hq'
end
end DL

set_option maxHeartbeats 4000000
/-! The data layer, part l: own exceptions made and raised. -/
namespace DL
open PySem PySem.Spec PyProof.Rows L2

/-! ### another view of the classes -/
mutual
theorem Rp.cl {K : PySem.W.Frag} {cl cl' : Cl} {W : Wd} (h : cl.c = cl'.c) : ∀ {v : V} {d : D}, Rp K cl W v d → Rp K cl' W v d
  | _, _, .non => .non
  | _, _, .bl b => .bl b
  | _, _, .int i => .int i
  | _, _, .str x => .str x
  | _, _, .lst q r => .lst q (RpAll.cl h r)
  | _, _, .tup q r => .tup q (RpAll.cl h r)
  | _, _, .pr q r t => .pr q (Rp.cl h r) (Rp.cl h t)
  | _, _, .ref q => .ref q
  | _, _, .ty n => .ty n
  | _, _, .cls c => by
    show Rp K cl' W (.ref (cl.c c)) (.cls c)
    rw [h]
    exact .cls c
  | _, _, .scr q => .scr q
  | _, _, .dic q e r => .dic q e (RpAll.cl h r)
  | _, _, .ob (dx := dx) (ns := ns) (vs := vs) (c := c) (a := a) q e r => by
    refine .ob (dx := dx) (vs := vs) ?_ e (RpAll.cl h r)
    show W.F a = some (.ins (cl'.c c) dx (ns.zip vs))
    rw [← h]
    exact q
theorem RpAll.cl {K : PySem.W.Frag} {cl cl' : Cl} {W : Wd} (h : cl.c = cl'.c) : ∀ {vs : List V} {ds : List D}, RpAll K cl W vs ds → RpAll K cl' W vs ds
  | _, _, .nil => .nil
  | _, _, .cons q r => .cons (Rp.cl h q) (RpAll.cl h r)
end
theorem RpF.cl {K : PySem.W.Frag} {cl cl' : Cl} {W : Wd} (h : cl.c = cl'.c) : ∀ {vs : List (Str × V)} {ds : List (Str × D)}, RpF K cl W vs ds → RpF K cl' W vs ds
  | _, _, .nil => .nil
  | _, _, .cons q r => .cons (Rp.cl h q) (RpF.cl h r)
theorem MoRp.cl {K : PySem.W.Frag} {cl cl' : Cl} {W : Wd} {H : Hp} {a : Addr} {o : MO} (h : cl.c = cl'.c) (m : MoRp K cl W H a o) : MoRp K cl' W H a o := by
  cases o with
  | lst ds => obtain ⟨vs, h1, h2⟩ := m; exact ⟨vs, h1, h2.cl h⟩
  | ins c fs =>
    obtain ⟨dx, vs, h1, h2⟩ := m
    refine ⟨dx, vs, ?_, h2.cl h⟩
    show H a = some (.ins (cl'.c c) dx vs)
    rw [← h]
    exact h1
  | dct ks ds => obtain ⟨vs, h1, h2, h3⟩ := m; exact ⟨vs, h1, h2, h3.cl h⟩
theorem SatS.cl {K : PySem.W.Frag} {cl cl' : Cl} {W : Wd} {st : S} {H : Hp} (h : cl.c = cl'.c) (hT : cl.T = cl'.T) (s : SatS K cl W st H) : SatS K cl' W st H :=
  ⟨s.ex, s.len, s.nod, s.off, fun i o e => let ⟨a, h1, h2⟩ := s.mo i o e; ⟨a, h1, h2.cl h⟩, s.nt, hT ▸ s.tab⟩

/-! ### fields of an exception -/
/-- where a field's value comes from: a parameter behind self, a text -/
inductive Src where
  | par (i : Nat) | txt (x : Str)
def putF {α : Type} (g : Src → Option α) : List (Str × Src) → List (Str × α) → Option (List (Str × α))
  | [], acc => some acc
  | (f, s) :: r, acc => match g s with
    | some y => putF g r ((f, y) :: acc)
    | none => none
def srcV (vs : List V) : Src → Option V
  | .par i => vs[i]?
  | .txt x => some (.str x)
def srcD (ds : List D) : Src → Option D
  | .par i => ds[i]?
  | .txt x => some (.str x)
theorem putF_rp {K : PySem.W.Frag} {cl : Cl} {W : Wd} {vs : List V} {ds : List D} (r : RpAll K cl W vs ds) : ∀ {fl : List (Str × Src)} {acc fs : List (Str × D)} {av : List (Str × V)}, RpF K cl W av acc → putF (srcD ds) fl acc = some fs → ∃ fv, putF (srcV vs) fl av = some fv ∧ RpF K cl W fv fs
  | [], acc, fs, av, ra, h => by cases h; exact ⟨av, rfl, ra⟩
  | (f, s) :: t, acc, fs, av, ra, h => by
    unfold putF at h
    split at h
    · rename_i y e
      have hs : ∃ v, srcV vs s = some v ∧ Rp K cl W v y := by
        cases s with
        | par i => exact r.get e
        | txt x => cases e; exact ⟨_, rfl, .str x⟩
      obtain ⟨v, h1, h2⟩ := hs
      obtain ⟨fv, h3, h4⟩ := putF_rp r (.cons h2 ra) h
      exact ⟨fv, by unfold putF; rw [h1]; exact h3, h4⟩
    · cases h

/-! ### __init__ -/
def tSrc : Src → TE
  | .par i => tVar (i + 1)
  | .txt x => tC (.str x)
/-- self.f = .., one behind another -/
def tIni (K : PySem.W.Frag) : List (Str × Src) → TS
  | [] => fun D σ H => D.nx σ H
  | [(f, s)] => tSt K f (tVar 0) (tSrc s)
  | (f, s) :: r => tSeq (tSt K f (tVar 0) (tSrc s)) (tIni K r)
/-- what a class's __init__ promises -/
def spI (C : Addr) (fl : List (Str × Src)) (n : Nat) : Sp := fun vs H Q _ => ∃ a ws fs, vs = .ref a :: ws ∧ ws.length = n ∧ H a = some (exo a C none) ∧ putF (srcV ws) fl [] = some fs ∧ ∀ d, H d = none → d ≠ a → Q .non (upd (upd H d (exd d fs)) a (exo a C (some d)))
theorem src_run {σ : L2.St} {H : Hp} {ws : List V} {a : V} {s : Src} {y : V} {Q : VK} (h : srcV ws s = some y) (hσ : ∀ (i : Nat) (v : V), (a :: ws)[i]? = some v → σ[i]? = some (some v)) (q : Q y H) : tSrc s σ H Q := by
  cases s with
  | par i => exact ⟨y, hσ (i + 1) y h, q⟩
  | txt x => cases h; exact q
theorem ini_old {K : PySem.W.Frag} {C a d : Addr} {ws : List V} {σ : L2.St} (T : OexG K C) (hσ : ∀ (i : Nat) (v : V), (V.ref a :: ws)[i]? = some v → σ[i]? = some (some v)) (Dn : Ends) : ∀ {fl : List (Str × Src)} {acc fs : List (Str × V)} {H : Hp}, (∀ f ∈ fl.map (·.1), PySem.W.findIn K (.ref C) f = some none) → acc.length + fl.length ≤ 900 →
    H a = some (exo a C (some d)) → H d = some (exd d acc) → d ≠ a → putF (srcV ws) fl acc = some fs → (fl = [] → False) → Dn.nx σ (upd H d (exd d fs)) → tIni K fl Dn σ H
  | [], _, _, _, _, _, _, _, _, _, n, _ => (n rfl).elim
  | [(f, s)], acc, fs, H, hno, hl, h1, h2, nd, hp, _, q => by
    unfold putF at hp
    split at hp
    · rename_i y e
      cases hp
      exact src_run e hσ ⟨.ref a, hσ 0 _ rfl, a, C, rfl, T, hno f List.mem_cons_self, .inr ⟨d, acc, h1, h2, by simp at hl; omega, q⟩⟩
    · cases hp
  | (f, s) :: g :: r, acc, fs, H, hno, hl, h1, h2, nd, hp, _, q => by
    unfold putF at hp
    split at hp
    · rename_i y e
      refine src_run (Q := fun y H1 => tVar 0 σ H1 _) e hσ ⟨.ref a, hσ 0 _ rfl, a, C, rfl, T, hno f List.mem_cons_self, .inr ⟨d, acc, h1, h2, by simp at hl; omega, ?_⟩⟩
      refine ini_old T hσ Dn (fl := g :: r) (acc := (f, y) :: acc) (fs := fs) (fun z hz => hno z (List.mem_cons_of_mem _ hz)) (by simp at hl ⊢; omega) ?_ upd_same nd hp (fun z => nomatch z) ?_
      · rw [upd_ne (Ne.symm nd)]; exact h1
      · have e2 : upd (upd H d (exd d ((f, y) :: acc))) d (exd d fs) = upd H d (exd d fs) := by
          funext b
          by_cases hb : b = d
          · rw [hb, upd_same, upd_same]
          · rw [upd_ne hb, upd_ne hb, upd_ne hb]
        rw [e2]
        exact q
    · cases hp
theorem ini_run {K : PySem.W.Frag} {C a : Addr} {ws : List V} {σ : L2.St} {H : Hp} {fl : List (Str × Src)} {fs : List (Str × V)} (T : OexG K C) (hσ : ∀ (i : Nat) (v : V), (V.ref a :: ws)[i]? = some v → σ[i]? = some (some v)) (Dn : Ends) (hno : ∀ f ∈ fl.map (·.1), PySem.W.findIn K (.ref C) f = some none) (hl : fl.length ≤ 900)
    (h1 : H a = some (exo a C none)) (hp : putF (srcV ws) fl [] = some fs) (n : fl ≠ []) (q : ∀ d, H d = none → d ≠ a → Dn.nx σ (upd (upd H d (exd d fs)) a (exo a C (some d)))) : tIni K fl Dn σ H := by
  match fl, n with
  | [(f, s)], _ =>
    unfold putF at hp
    split at hp
    · rename_i y e
      cases hp
      exact src_run e hσ ⟨.ref a, hσ 0 _ rfl, a, C, rfl, T, hno f List.mem_cons_self, .inl ⟨h1, q⟩⟩
    · cases hp
  | (f, s) :: g :: r, _ =>
    unfold putF at hp
    split at hp
    · rename_i y e
      refine src_run (Q := fun y H1 => tVar 0 σ H1 _) e hσ ⟨.ref a, hσ 0 _ rfl, a, C, rfl, T, hno f List.mem_cons_self, .inl ⟨h1, fun d hd nd => ?_⟩⟩
      refine ini_old T hσ Dn (fl := g :: r) (acc := [(f, y)]) (fs := fs) (d := d) (fun z hz => hno z (List.mem_cons_of_mem _ hz)) (by simp at hl ⊢; omega) upd_same ?_ nd hp (fun z => nomatch z) ?_
      · rw [upd_ne nd, upd_same]
      · have e2 : upd (upd (upd H d (exd d [(f, y)])) a (exo a C (some d))) d (exd d fs) = upd (upd H d (exd d fs)) a (exo a C (some d)) := by
          funext b
          by_cases hb : b = d
          · rw [hb, upd_same, upd_ne nd, upd_same]
          · rw [upd_ne hb]
            by_cases hb2 : b = a
            · rw [hb2, upd_same, upd_same]
            · rw [upd_ne hb2, upd_ne hb, upd_ne hb2, upd_ne hb]
        rw [e2]
        exact q d hd nd
    · cases hp
section
variable {P : Program} {w : World} {K : PySem.W.Frag} {mg : Str → Option Value} {base : Heap} {x qual : Str} {params : Arguments} {body : List Stmt} {scope : Scope} {f : Addr} {fd : FuncData} {N ps : List Str}
theorem start_get {N : List Str} {vs : List V} {i : Nat} {v : V} (h : vs[i]? = some v) : (L2.start N vs)[i]? = some (some v) := by
  unfold L2.start
  have hi : i < vs.length := (List.getElem?_eq_some_iff.mp h).1
  rw [List.getElem?_append_left (by simpa using hi), List.getElem?_map, h]
  rfl
/-- an __init__ keeps it -/
theorem fn_init {C : Addr} {m : Nat} {fl : List (Str × Src)} (F : FunD K x qual params body scope [] [] f fd) (Sc : FnScope N ps scope) (T : OexG K C) (hno : ∀ f ∈ fl.map (·.1), PySem.W.findIn K (.ref C) f = some none) (hl : fl.length ≤ 900) (n : fl ≠ []) (hp : ps.length = m + 1)
    (hb : ∀ (cdv : Value) (A : Around) (outer : List Env) (s : Shared) (H : Hp) (E : XK), PSs (cxOf CX0 P w K mg base N qual scope f cdv A outer s H E).nox body (tIni K fl)) : FnOk P w K mg base CX0 1 f fd ps (spI C fl m) := by
  refine F.ok Sc (fun vs H Q E h => ?_) fun cdv A outer s H vs Q E hr h => ?_
  · obtain ⟨a, ws, fs, rfl, e, _⟩ := h
    rw [List.length_cons, e, hp]
  · obtain ⟨a, ws, fs, rfl, e, h1, h2, h3⟩ := h
    exact ⟨_, PSs.nox (hb cdv A outer s H E), ini_run T (fun i v z => start_get z) _ hno hl h1 h2 n h3⟩
end
/-! ### raise -/
def sRaise (c : Nat) (n : Nat) (fl : List (Str × Src)) (g : Ev → S → R (List D)) : Ev → S → RS := fun ρ st => (g ρ st).toS fun ds st => if ds.length = n then (match putF (srcD ds) fl [] with
  | some fs => .ex ⟨c, fs⟩ st
  | none => .stuck) else .stuck
section
variable {X : Cx} {cl : Cl} {E : XK} {W0 : Wd} {H0 : Hp} {e : Expr} {pos : Pos} {g : Ev → S → R (List D)} {c n : Nat} {fl : List (Str × Src)}
theorem rd_raise {W : Wd} {ρ : Ev} {st : S} {σ : L2.St} {H : Hp} {Dn : Ends} (hn : n ≤ 1000) (F : Full X.K cl W0 H0 W ρ st σ H) (h : Out X.K cl E W0 H0 W (sRaise c n fl g ρ st) Dn) :
    tMkO (cl c) (spI (cl c) fl n) [] (liftA X.K cl E g) σ H E := by
  refine ⟨W, ρ, st, F.s, F.l, (Out.peel F h).imp (fun _ _ _ r => r) ?_⟩
  rintro vs H1 ⟨ds, st1, W1, F1, g1, r, h1⟩
  split at h1
  case isFalse => exact h1.elim
  rename_i hl
  split at h1
  case h_2 => exact h1.elim
  rename_i fs hfs
  refine ⟨by rw [r.length, hl]; exact hn, fun a ha => ?_⟩
  obtain ⟨fv, h2, h3⟩ := putF_rp r .nil hfs
  refine ⟨a, vs, fv, by rw [List.append_nil], by rw [r.length, hl], upd_same, h2, fun d hd nd => ⟨rfl, d, fv, upd_same, ?_, ?_, ?_⟩⟩
  · rw [upd_ne nd, upd_same]
  · rw [upd_ne nd] at hd; exact hd
  · rw [upd_ne nd] at hd
    have e : upd (del (upd (upd (upd H1 a (exo a (cl c) none)) d (exd d fv)) a (exo a (cl c) (some d))) a) d (.xd fv) = upd H1 d (.xd fv) := by
      funext b
      by_cases hb : b = d
      · rw [hb, upd_same, upd_same]
      · rw [upd_ne hb, upd_ne hb]
        by_cases hb2 : b = a
        · rw [hb2, del_same, ha]
        · rw [del_ne hb2, upd_ne hb2, upd_ne hb, upd_ne hb2]
    rw [e]
    have g2 : Grow W1 H1 ⟨upd W1.F d (.xd fv), W1.A⟩ := grow_new F1.s.ex hd
    refine h1 d _ ⟨upd W1.F d (.xd fv), W1.A⟩ (F1.g.trans F1.k F1.s g2) (F1.k.trans F1.g (keep_new hd)) (F1.s.new hd) ⟨fv, upd_same, h3.mono g2.f g2.a⟩
theorem ds_raise (hc : X.calm = true) (tk : Takes X (fun cls d _ H => E cls d H)) (hn : n ≤ 1000) (hmk : PMk X e (tMkO (cl c) (spI (cl c) fl n) [] (liftA X.K cl E g))) : DS X cl E W0 H0 (.Raise (some e) none pos) (sRaise c n fl g) := by
  refine PSimp (ps_raise hc tk hmk) fun D σ H h => ?_
  obtain ⟨W, ρ, st, F, h⟩ := h
  exact rd_raise hn F h
end
end DL
set_option maxHeartbeats 4000000
/-! The data layer, part m: the exception that is handled: its attributes, a def that is handed it. -/
namespace DL
open PySem PySem.Spec PyProof.Rows L2 L2H

/-- the context holds the handled exception -/
def HotX (X : Cx) (cl : Cl) : Prop := ∀ a dx c, cl.x = some (a, dx, c) → ∃ oe, (a, oe) ∈ X.pn ∧ Zc (.ref (cl c)) (some dx) oe ∧ ∃ vs, oe.data = .fields vs
/-- the classes whose exceptions are caught: their attributes can be read -/
structure XAt (K : PySem.W.Frag) (cl : Cl) (ok : Nat → Bool) (fs : List Str) : Prop where
  c : ∀ c, ok c = true → XfC K (cl c)
  no : ∀ c, ok c = true → ∀ f ∈ fs, PySem.W.findIn K (.ref (cl c)) f = some none
/-- e.f -/
def dXf (ok : Nat → Bool) (i : Nat) (f : Str) : Ev → S → R D := fun ρ st => match ρ[i]? with
  | some (.exn x) => if ok x.c then (match x.fs.lookup f with
    | some d => .ok d st
    | none => .stuck) else .stuck
  | _ => .stuck
theorem RpF.lookup {K : PySem.W.Frag} {cl : Cl} {W : Wd} {f : Str} {d : D} : ∀ {vs : List (Str × V)} {fs : List (Str × D)}, RpF K cl W vs fs → fs.lookup f = some d → ∃ v, vs.lookup f = some v ∧ Rp K cl W v d
  | _, _, .nil, h => by cases h
  | _, _, .cons (x := x) q r, h => by
    rw [List.lookup_cons] at h ⊢
    split at h
    · cases h
      exact ⟨_, rfl, q⟩
    · exact RpF.lookup r h
section
variable {X : Cx} {cl : Cl} {E : XK}
theorem pe_xfP {e : Expr} {f : Str} {pos : Pos} {te : TE} (he : PE X e te) (hb : attributeBase e f X.env (eval e X.env) = eval e X.env := by rfl) :
    PE X (.Attribute e f pos) (fun σ H Q => te σ H fun x H1 => ∃ (a C dd : Addr) (oe : Obj) (fs : List (Str × V)) (v : V), x = .ref a ∧ (a, oe) ∈ X.pn ∧ Zc (.ref C) (some dd) oe ∧ (∃ vs, oe.data = .fields vs) ∧ XfC X.K C ∧ PySem.W.findIn X.K (.ref C) f = some none ∧ H1 dd = some (.xd fs) ∧ fs.lookup f = some v ∧ Q v H1) := by
  constructor
  intro pins s σ H Q I h
  apply attr_of hb
  refine thn (he.run pins s σ H _ I h) fun u s1 hh => ?_
  obtain ⟨x, H1, I1, rx, a, C, dd, oe, fs, v, ex, hp, hz, ⟨vs, hd⟩, T, hno, ea, l, q⟩ := hh
  subst ex
  obtain rfl : u = Value.ref a := rx
  have hx : ObjOk X.prog X.w H1 s1.heap dd (.xd fs) := I1.hok dd _ ea
  obtain ⟨m2, n2, r2⟩ := hx
  obtain ⟨od, ho, lk⟩ := lookIn_ns n2
  obtain ⟨u2, hu2, ru⟩ := RelO.some_of (v := v) (o := m2 f) (by rw [← l]; exact r2 f)
  have J : PySem.W.InstAt s1.heap a oe C (some od) := by
    refine ⟨(I1.pin (a, oe) (List.mem_append_left _ hp)).1, hz.1, ?_, by rw [hz.2]; exact ho⟩
    unfold PySem.W.notCls
    rw [hd] <;> rfl
  have lk2 : PySem.W.lookIn f od = some (some u2) := by rw [lk, hu2]
  exact HandSPX.exc_get I1.kIn J T.ga T.gg T.exC (PySem.W.findObj_own T.hdC hno rfl lk2) (handed_of ru) ⟨v, H1, I1.tok _, ru, q⟩
theorem dv_xf {ok : Nat → Bool} {fs : List Str} {x f : Str} {pos p : Pos} (i : Nat) (hX : HotX X cl) (ha : XAt X.K cl ok fs) (hf : f ∈ fs) (h : PE X (.Name x p) (tVar i)) (hb : attributeBase (.Name x p) f X.env (eval (.Name x p) X.env) = eval (.Name x p) X.env := by rfl) : DV X cl E (.Attribute (.Name x p) f pos) (dXf ok i f) := by
  refine PEimp (pe_xfP h hb) fun σ H Q h => ?_
  obtain ⟨W, ρ, st, s, l, h⟩ := h
  unfold dXf at h
  split at h
  · rename_i x e
    split at h
    · rename_i hok
      split at h
      · rename_i d ed
        obtain ⟨a, dx, vs, h1, h2, h3, h4⟩ := l.xn i x e
        obtain ⟨oe, k1, k2, k3⟩ := hX a dx x.c h1
        obtain ⟨v, l1, l2⟩ := h4.lookup ed
        exact ⟨.ref a, h2, a, cl x.c, dx, oe, vs, v, rfl, k1, k2, k3, ha.c _ hok, ha.no _ hok f hf, s.ex _ _ h3, l1, h.now s l2⟩
      · exact h.elim
    · exact h.elim
  · exact h.elim
end
/-! ### a def that is handed the exception -/
/-- what it promises -/
def FnX (P : Program) (w : World) (K : PySem.W.Frag) (mg : Str → Option Value) (base : Heap) (cl : Cl) (k : Nat) (f : Addr) (fd : FuncData) (a : Str) (F : Exn → S → R D) : Prop :=
  ∀ (A : Around) (outer : List Env) (s : Shared) (H : Hp) (args : Args) (p : Addr × Obj) (W : Wd) (st : S) (x : Exn) (dx : Addr) (vs : List (Str × V)) (Q : VK), RoomH k A → PinOk outer H s p → (∃ vs, p.2.data = .fields vs) → Zc (.ref (cl x.c)) (some dx) p.2 → Env0 P w K mg base A outer s H → BindsTo s fd args [(a, .ref p.1)] →
    SatS K cl W st H → W.F dx = some (.xd vs) → RpF K cl W vs x.fs → Aft K cl E0 (Rp K cl) W H (F x st) Q → codeAny (model P w) A (.call (.ref f) args) (CR CX0 outer P w H s Q E0) s
section
variable {P : Program} {w : World} {K : PySem.W.Frag} {mg : Str → Option Value} {base : Heap} {cl : Cl} {x qual : Str} {params : Arguments} {body : List Stmt} {scope : Scope} {f : Addr} {fd : FuncData} {N : List Str} {a : Str} {k : Nat}
def startX (N : List Str) (x : Exn) : Ev := .exn x :: List.replicate (N.length - 1) .no
def Cl.hot (cl : Cl) (a dx : Addr) (c : Nat) : Cl := ⟨cl.c, cl.T, some (a, dx, c), none, false⟩
theorem hot_c (cl : Cl) (a dx : Addr) (c : Nat) : cl.c = (cl.hot a dx c).c := rfl
theorem hot_T (cl : Cl) (a dx : Addr) (c : Nat) : cl.T = (cl.hot a dx c).T := rfl
theorem satL_startX {cl : Cl} {W : Wd} {H : Hp} {x : Exn} {a dx : Addr} {vs : List (Str × V)} (hx : cl.x = some (a, dx, x.c)) (h1 : W.F dx = some (.xd vs)) (h2 : RpF K cl W vs x.fs) (hN : N ≠ []) : SatL K cl W (startX N x) (L2.start N [.ref a]) H := by
  have at_ : ∀ (i : Nat) (s : Sl), (startX N x)[i]? = some s → (i = 0 ∧ s = .exn x) ∨ s = .no := fun i s e => by
    unfold startX at e
    cases i with
    | zero => exact .inl ⟨rfl, (Option.some.inj e).symm⟩
    | succ i =>
      rw [List.getElem?_cons_succ, List.getElem?_replicate] at e
      split at e
      · exact .inr (Option.some.inj e).symm
      · cases e
  refine ⟨?_, fun i d e => ?_, fun i d e => ?_, fun i j ds es p _ e => ?_, fun i y e => ?_, fun i o e => ?_, fun i j o u p _ e => ?_⟩
  · unfold startX L2.start
    have : 0 < N.length := List.length_pos_iff.mpr hN
    simp only [List.length_cons, List.length_replicate, List.length_append, List.length_map, List.length_nil]
    omega
  · rcases at_ i _ e with ⟨_, z⟩ | z <;> cases z
  · rcases at_ i _ e with ⟨_, z⟩ | z <;> cases z
  · rcases at_ i _ e with ⟨_, z⟩ | z <;> cases z
  · rcases at_ i _ e with ⟨rfl, z⟩ | z
    · cases z
      exact ⟨a, dx, vs, hx, rfl, h1, h2⟩
    · cases z
  · rcases at_ i _ e with ⟨_, z⟩ | z <;> cases z
  · rcases at_ i _ e with ⟨_, z⟩ | z <;> cases z
theorem fn_X (F : Exn → S → R D) (fb : Ev → S → RS) (Fd : FunD K x qual params body scope [] [] f fd) (Sc : FnScope N [a] scope) (hN : N ≠ [])
    (hb : ∀ (cdv : Value) (A : Around) (outer : List Env) (s : Shared) (H : Hp) (p : Addr × Obj) (cl' : Cl) (W0 : Wd), HotX (cxH CX0 P w K mg base N qual scope f cdv A outer s H E0 p) cl' → cl'.c = cl.c → cl'.f = false → RoomH k (A.deeper (envOfC qual scope s.heap.objs.size f cdv)) → DSs (cxH CX0 P w K mg base N qual scope f cdv A outer s H E0 p) cl' E0 W0 H body fb)
    (hm : ∀ y st, F y st ≠ .stuck → retOf (fb (startX N y) st) = F y st) : FnX P w K mg base cl (k + 1) f fd a F := by
  intro A outer s H args p W st y dx vs Q hr hpin hdat hz e0 hbd s0 hdx hrp h
  obtain ⟨oc, od, dV, kV, doc, pmv, an, cdv, ct, osl, rfl, lk, hcd, hD, hK⟩ := Fd.ex
  have KI : K.In s.heap := e0.mod.kin.keeps fun b o e => (e0.bs b o e).1
  have noL : s.heap.NoLimit := e0.mod.nolimit.keeps fun b o e => (e0.bs b o e).1
  have kd : ∀ z ∈ [a].zip [Value.ref p.1], scope.names.lookup z.1 = some .local ∨ (scope.names.lookup z.1 = some .cell ∧ ((cellsFrom (s.heap.objs.size + 1) scope.names []).lookup z.1).isSome = true) := fun z hz => by
    rcases Sc.par z.1 (List.of_mem_zip hz).1 with q | q
    · exact .inl q
    · exact .inr ⟨q, PySem.W.cellsFrom_some _ _ _ (.inl q)⟩
  refine codeAny_call_function hr.depth (KI _ _ lk) rfl Sc.co Sc.gen rfl (PySem.W.codeRec_of KI hcd) (hbd _ _ _ _ ?_)
  refine wpAny_newFunctionEnv_cells Sc.kind kd fun env he s1 x1 => ?_
  subst he
  refine ⟨noL.keeps x1.toInCall.keep, codeAny_func ?_⟩
  have I : Inv (cxH CX0 P w K mg base N qual scope f cdv A outer s H E0 p) [] (L2.start N [.ref p.1]) H s1 := inv_startH (ps := [a]) (us := [.ref p.1]) (vs := [.ref p.1]) Sc hpin e0 rfl (.cons rfl .nil) x1
  have hX : HotX (cxH CX0 P w K mg base N qual scope f cdv A outer s H E0 p) (cl.hot p.1 dx y.c) := fun a' d' c' e' => by
    cases e'
    exact ⟨p.2, List.mem_cons_self, hz, hdat⟩
  have hd := hb cdv A outer s H p (cl.hot p.1 dx y.c) W hX rfl rfl (hr.deeper _)
  have s0' : SatS K (cl.hot p.1 dx y.c) W st H := s0.cl (hot_c _ _ _ _) (hot_T _ _ _ _)
  have hrp' : RpF K (cl.hot p.1 dx y.c) W vs y.fs := hrp.cl (hot_c _ _ _ _)
  have L0 : SatL K (cl.hot p.1 dx y.c) W (startX N y) (L2.start N [.ref p.1]) H := satL_startX rfl hdx hrp' hN
  have hne : F y st ≠ .stuck := fun e => by rw [e] at h; exact h
  have e := hm y st hne
  have go : liftS K (cl.hot p.1 dx y.c) E0 W H fb { nx := fun _ H' => Q .non H', rt := Q } (L2.start N [.ref p.1]) H := by
    refine ⟨W, startX N y, st, ⟨.refl, .refl, s0', L0, fun i es q z => ?_, fun i o q z => ?_⟩, ?_⟩
    · obtain ⟨_, _, _, z2, _⟩ := (satL_startX (K := K) (cl := cl.hot p.1 dx y.c) (H := fun _ => none) (N := N) rfl hdx hrp' hN).own i es z
      cases z2
    · obtain ⟨_, _, _, z2, _⟩ := (satL_startX (K := K) (cl := cl.hot p.1 dx y.c) (H := fun _ => none) (N := N) rfl hdx hrp' hN).hd i o z
      obtain ⟨_, e, _⟩ := z2.there
      cases e
    · cases q : fb (startX N y) st with
      | stuck => rw [q] at e; exact absurd e.symm hne
      | brk ρ st' => rw [q] at e; exact absurd e.symm hne
      | ct ρ st' => rw [q] at e; exact absurd e.symm hne
      | ret d st' =>
        rw [q] at e
        rw [← e] at h
        exact ⟨fun z => (nomatch z), fun v H' W' g k s r => h v H' W' g k (s.cl (hot_c _ _ _ _).symm (hot_T _ _ _ _).symm) ((r.1 rfl).cl (hot_c _ _ _ _).symm)⟩
      | ex y' st' =>
        rw [q] at e
        rw [← e] at h
        intro dx' H' W' g k s r
        obtain ⟨vs', r1, r2⟩ := r
        exact h dx' H' W' g k (s.cl (hot_c _ _ _ _).symm (hot_T _ _ _ _).symm) ⟨vs', r1, r2.cl (hot_c _ _ _ _).symm⟩
      | nx ρ st' =>
        rw [q] at e
        rw [← e] at h
        exact fun σ' H' W' _ F' => h .non H' W' F'.g F'.k (F'.s.cl (hot_c _ _ _ _).symm (hot_T _ _ _ _).symm) .non
  refine wpAny_mono (hd.run [] s1 (L2.start N [.ref p.1]) H _ I go) (fun fl s2 hs => ?_) fun er s2 hs => hs
  cases fl with
  | ret u =>
    obtain ⟨v, σ2, H2, J, rv, q⟩ := hs
    exact ⟨v, H2, J.os, J.bare, J.base, J.hok, rv, q⟩
  | next =>
    obtain ⟨σ2, H2, J, q⟩ := hs
    exact ⟨V.non, H2, J.os, J.bare, J.base, J.hok, rfl, q⟩
  | brk =>
    obtain ⟨_, _, _, q⟩ := hs
    exact q.elim
  | cont =>
    obtain ⟨_, _, _, q⟩ := hs
    exact q.elim
end
/-- f(e), e the handled exception -/
def dCallX (i : Nat) (F : Exn → S → R D) : Ev → S → R D := fun ρ st => match ρ[i]? with
  | some (.exn x) => F x st
  | _ => .stuck
theorem dv_callX {X : Cx} {cl cl0 : Cl} {k i : Nat} {f : Addr} {fd : FuncData} {y x a : Str} {q pos p : Pos} {F : Exn → S → R D} (hX : HotX X cl) (G : FnX X.prog X.w X.K X.mg X.base cl0 k f fd a F) (hc : cl.c = cl0.c) (hT : cl.T = cl0.T) (hr : RoomH k X.A) (hg : Gl X x) (hm : X.mg x = some (.ref f)) (hk : PySem.W.keepIn X.K (.ref f) = true) (hb : Binds X.K fd [a] [])
    (h : PE X (.Name y q) (tVar i)) (hdb : (x == ("__debug__" : Str)) = false := by decide) (he : starEach [.Name y q] X.env = (false, eval (.Name y q) X.env) :: starEach [] X.env := by rfl) (hpl : (backTo pos (starEach [] X.env)).any (·.1) = false := by rfl) :
    DV X cl E0 (.Call (.Name x p) [.Name y q] [] pos) (dCallX i F) := by
  constructor
  intro pins s σ H Q I h0
  obtain ⟨W, ρ, st, s0, l, h0⟩ := h0
  unfold dCallX at h0
  split at h0
  case h_2 => exact h0.elim
  rename_i z ez
  obtain ⟨a', dx, vs, h1, h2, h3, h4⟩ := l.xn i z ez
  obtain ⟨oe, k1, k2, k3⟩ := hX a' dx z.c h1
  refine wpAny_Call_Name_kw (ld_glob I hg hm ?_ hdb)
  have ha : PA X [.Name y q] (tCons (tVar i) tNil) := pa_cons h pa_nil he
  refine PySem.W.callWith_K (h₀ := X.base) I.ok.mod.kin hk (thn (ha.run pos pins s σ H (fun vs H1 => vs = [.ref a'] ∧ H1 = H) I ⟨.ref a', h2, rfl, rfl⟩) fun us s1 hh => ?_) he hpl
  obtain ⟨vs1, H1, I1, r1, e1, e2⟩ := hh
  subst e1
  subst e2
  refine ⟨I1.kIn, ?_⟩
  cases r1 with
  | cons ra rb =>
    cases rb
    obtain rfl := ra
    have b := hb s1 [.ref a'] I1.kIn rfl
    rw [List.append_nil] at b
    obtain ⟨P1, P2, P3, P4, P5⟩ := I1.pin (a', oe) (List.mem_append_left _ k1)
    have hpin : PinOk X.stack H1 s1 (a', oe) := ⟨P1, P2, fun hm => (List.mem_cons.mp (I1.stkSub a' hm)).elim P3 P4, P5⟩
    have k2' : Zc (.ref (cl0 z.c)) (some dx) oe := by
      have : cl0.c z.c = cl.c z.c := by rw [hc]
      show Zc (.ref (cl0.c z.c)) (some dx) oe
      rw [this]
      exact k2
    have h0' : Aft X.K cl0 E0 (Rp X.K cl0) W H1 (F z st) Q := by
      cases e : F z st with
      | stuck => rw [e] at h0; exact h0
      | ok d st' => rw [e] at h0; exact fun v H' W' g k s r => h0 v H' W' g k (s.cl hc.symm hT.symm) (r.cl hc.symm)
      | ex y' st' =>
        rw [e] at h0
        intro dx' H' W' g k s r
        obtain ⟨vs', r1, r2⟩ := r
        exact h0 dx' H' W' g k (s.cl hc.symm hT.symm) ⟨vs', r1, r2.cl hc.symm⟩
    refine wpAny_call (codeAny_mono (G X.A X.stack s1 H1 ⟨[.ref a'], []⟩ (a', oe) W st z dx vs Q hr hpin k3 k2' I1.env0 b (s0.cl hc hT) h3 (h4.cl hc) h0') fun r s' hq => ?_)
    cases r with
    | error e => exact hq.elim
    | ok fl =>
      cases fl with
      | ret u => exact I1.after hq
      | next => exact hq.elim
      | brk => exact hq.elim
      | cont => exact hq.elim
end DL
set_option maxHeartbeats 4000000
/-! The data layer, part n: a lambda handed to a def that tries it. -/
namespace DL
open PySem PySem.Spec PyProof.Rows L2 L2H

theorem Takes.len {X : Cx} {W : WX} (t : Takes X W) : Takes X (fun cls d σ H => σ.length = X.N.length → W cls d σ H) := fun u s' ⟨a, B, sI, pins, σ, H, cls, d, e, I, nb, up, sky, na, os, ag, w⟩ =>
  t u s' ⟨a, B, sI, pins, σ, H, cls, d, e, I, nb, up, sky, na, os, ag, w I.len⟩
theorem Aft.noX {α β : Type} {K : PySem.W.Frag} {cl : Cl} {E E' : XK} {RP : Wd → β → α → Prop} {W : Wd} {H : Hp} {r : R α} {Q : β → Hp → Prop} (h : Aft K cl E RP W H (noX r) Q) : Aft K cl E' RP W H r Q := by
  cases r with
  | stuck => exact h
  | ok a st => exact h
  | ex x st => exact (show False from h).elim
/-- what try makes of the lambda's result -/
def tryD (c : Str) (ok : Nat → Bool) (hF : Exn → S → R D) (r : R D) : R D := match r with
  | .stuck => .stuck
  | .ok d st => .ok (.tup [.str c, d]) st
  | .ex x st => if ok x.c then noX (hF x st) else .stuck
/-- the frame of the def that tries, in its suite: n slots, the exception in slot i -/
def exE (n i : Nat) (x : Exn) : Ev := (List.replicate n Sl.no).set i (.exn x)
def dTry (c : Str) (ok : Nat → Bool) (hF : Exn → S → R D) (fl : Ev → S → R D) : Ev → S → R D := fun ρ st => tryD c ok hF (fl ρ st)
theorem satL_exE {K : PySem.W.Frag} {cl : Cl} {W : Wd} {H : Hp} {x : Exn} {a dx : Addr} {vs : List (Str × V)} {n i : Nat} {σ : L2.St} (hx : cl.x = some (a, dx, x.c)) (h1 : W.F dx = some (.xd vs)) (h2 : RpF K cl W vs x.fs) (hl : σ.length = n) : SatL K cl W (exE n i x) (σ.set i (some (.ref a))) H := by
  have at_ : ∀ (j : Nat) (s : Sl), (exE n i x)[j]? = some s → (i = j ∧ s = .exn x) ∨ s = .no := fun j s e => by
    unfold exE at e
    rcases getE_set e with z | ⟨_, z⟩
    · exact .inl z
    · rw [List.getElem?_replicate] at z
      split at z
      · exact .inr (Option.some.inj z).symm
      · cases z
  refine ⟨?_, fun j d e => ?_, fun j d e => ?_, fun j m ds es p _ e => ?_, fun j y e => ?_, fun j o e => ?_, fun j m o u p _ e => ?_⟩
  · unfold exE
    rw [List.length_set, List.length_set, List.length_replicate, hl]
  · rcases at_ j _ e with ⟨_, z⟩ | z <;> cases z
  · rcases at_ j _ e with ⟨_, z⟩ | z <;> cases z
  · rcases at_ j _ e with ⟨_, z⟩ | z <;> cases z
  · have hj : j < n := by
      have := (List.getElem?_eq_some_iff.mp e).1
      unfold exE at this
      rw [List.length_set, List.length_replicate] at this
      exact this
    rcases at_ j _ e with ⟨rfl, z⟩ | z
    · cases z
      exact ⟨a, dx, vs, hx, List.getElem?_set_self (by rw [hl]; exact hj), h1, h2⟩
    · cases z
  · rcases at_ j _ e with ⟨_, z⟩ | z <;> cases z
  · rcases at_ j _ e with ⟨_, z⟩ | z <;> cases z
/-- the reading of such a def -/
def TTry (K : PySem.W.Frag) (cl : Cl) (c : Str) (ok : Nat → Bool) (hF : Exn → S → R D) : (XK → Hp → VK → Prop) → Hp → VK → Prop := fun tl H Q => ∃ (W : Wd) (st : S) (r : R D), SatS K cl W st H ∧
  (∀ (E : XK) (W' : Wd) (H' : Hp) (Q' : VK), Grow W H W' → Keep W.A H H' → SatS K cl W' st H' → Aft K cl E (Rp K cl) W' H' r Q' → tl E H' Q') ∧ Aft K cl E0 (Rp K cl) W H (tryD c ok hF r) Q
/-- the context of the def that tries -/
abbrev zCx (X : Cx) (Ng : List Str) (x : Str) (sg : Scope) (g : Addr) (cdg : Value) (s : Shared) (H : Hp) : Cx := (cxOf C8.CX0 X.prog X.w X.K X.mg X.base Ng x sg g cdg X.A X.stack s H C8.E0).nox
section
variable {X : Cx} {cl : Cl}
/-- try: return (c, ask()) / except (..) as e: return E -/
theorem gives_try {Ng : List Str} {x a e q c : Str} {sg : Scope} {g : Addr} {cdg : Value} {ok : Nat → Bool} {cs : List Value} {fE : Ev → S → R D} {hF : Exn → S → R D} {t eE : Expr} {j k : Nat} {p1 p2 p3 p4 p5 p6 p7 p8 : Pos} {i : Nat}
    (hN : Ng.Nodup) (hi : Ng[i]? = some e) (hln : sg.names.lookup e = some .local) (hc : ∀ s H, Tst (zCx X Ng x sg g cdg s H) t cs) (hcat : ∀ z, ok z = true → PySem.W.exmAny X.K (.ref (cl z)) cs = some true) (h0 : ∀ f : Addr, (L2.start Ng [V.ref f])[0]? = some (some (V.ref f)))
    (hE : ∀ (s : Shared) (H : Hp) (b : Addr) (oe : Obj) (pn : List (Addr × Obj)) (cl' : Cl), HotX ((zCx X Ng x sg g cdg s H).suite b ((b, oe) :: pn)) cl' → cl'.c = cl.c → cl'.T = cl.T → DV ((zCx X Ng x sg g cdg s H).suite b ((b, oe) :: pn)) cl' E0 eE fE)
    (hm : ∀ y st, hF y st = fE (exE Ng.length i y) st) :
    LamX.GivesTo X Ng x sg g cdg [.Try [.Return (some (.Tuple [.Constant (.str c) j p1, .Call (.Name a p2) [] [] p3] k p4)) p5] [.ExceptHandler (some t) (some e) [.Return (some eE) p6] p7] [] [] p8] a q (TTry X.K cl c ok hF) := by
  intro f c' s H Q tl act hco hTT
  obtain ⟨W, st, r, s0, hl, h⟩ := hTT
  let Z := zCx X Ng x sg g cdg s H
  let tAct : XK → TE := fun E σZ HZ Q => σZ[0]? = some (some (.ref f)) ∧ HZ c' = some (LamX.CodeO c' q) ∧ tl E HZ Q
  let ts : Addr → Value → Option Addr → TS := fun b cls d Dn σ H' => ∃ dx z, cls = .ref (cl z) ∧ d = some dx ∧ liftV X.K (cl.hot b dx z) E0 fE σ H' Dn.rt
  refine ⟨_, pss_one (ps_tryT (X := Z) (cs := cs) (i := i) (ts := ts) (Wout := fun _ _ _ _ => False)
    (tb := fun W' Dn σ H' => ∃ Ech : XK, (∀ cls d σ' H', Ech cls d H' → σ'.length = Ng.length → W' cls d σ' H') ∧ tTupF (tCons (tC (.str c)) (tCons (tAct Ech) tNil)) σ H' Dn.rt)
    rfl rfl hN hi hln (hc s H) LamX.takes0 (fun W' pn xe tk _ => ?_) (fun b oe cls d pn hz hf => ?_)), ?_⟩
  · refine ⟨fun pins s' σ H' Dn I h' => ?_⟩
    obtain ⟨Ech, hW, h1⟩ := h'
    have hp := act _ pn xe Ech p2 p3 (Takes.len tk) (fun cls d σ' H' z => hW cls d σ' H' z)
    have ht := pss_one (ps_ret (pos := p5) (@pe_tupF _ _ _ p4 k (pa_cons (pe_str (x := c) (j := j) (pos := p1)) (pa_cons hp pa_nil rfl) rfl)))
    exact ht.run pins s' σ H' Dn I h1
  · refine ⟨fun pins s' σ H' Dn I h' => ?_⟩
    obtain ⟨dx, z, rfl, rfl, h1⟩ := h'
    have hx : HotX ((zCx X Ng x sg g cdg s H).suite b ((b, oe) :: pn)) (cl.hot b dx z) := fun a' d' z' e' => by
      cases e'
      exact ⟨oe, List.mem_cons_self, hz, hf⟩
    exact (pss_one (ps_ret (pos := p6) (hE s H b oe pn (cl.hot b dx z) hx rfl rfl))).run pins s' σ H' Dn I h1
  · let Ech : XK := fun cls d H' => PySem.W.exmAny X.K cls cs = some true ∧ ∀ b, H' b = none → ∀ σ' : L2.St, σ'.length = Ng.length → ∃ dx z, cls = .ref (cl z) ∧ d = some dx ∧ liftV X.K (cl.hot b dx z) E0 fE (σ'.set i (some (.ref b))) H' Q
    refine ⟨Ech, fun cls d σ' H' z hlen => ⟨true, z.1, fun _ b hb => ?_, fun z => (by cases z)⟩, ?_⟩
    · exact z.2 b hb σ' hlen
    · refine ⟨h0 f, hco, hl Ech W H _ .refl .refl s0 ?_⟩
      cases r with
      | stuck => exact h
      | ok d st1 =>
        intro v H' W' gr kp s1 rv
        refine ⟨by rw [sizeLine_eq]; show 2 ≤ _; omega, ?_⟩
        have h2 : Aft X.K cl E0 (Rp X.K cl) W' H' (.ok (.tup [.str c, d]) st1) Q := Aft.mono (show Aft X.K cl E0 (Rp X.K cl) W H (.ok (.tup [.str c, d]) st1) Q from h) gr kp s1
        exact h2.newT s1 (.cons (.str c) (.cons rv .nil))
      | ex y st1 =>
        intro dx H' W' gr kp s1 rx
        unfold tryD at h
        dsimp only at h
        split at h
        · rename_i hok
          refine ⟨hcat _ hok, fun b hb σ' hlen => ⟨dx, y.c, rfl, rfl, W', exE Ng.length i y, st1, s1.cl (hot_c _ _ _ _) (hot_T _ _ _ _), ?_, ?_⟩⟩
          · obtain ⟨vs, r1, r2⟩ := rx
            exact satL_exE rfl r1 (r2.cl (hot_c _ _ _ _)) hlen
          · rw [hm] at h
            have h2 := Aft.mono (Aft.noX (E' := E0) h) gr kp s1
            cases e : fE (exE Ng.length i y) st1 with
            | stuck => rw [e] at h2; exact h2
            | ok d st' => rw [e] at h2; exact fun v H2 W2 g2 k2 s2 r2 => h2 v H2 W2 g2 k2 (s2.cl (hot_c _ _ _ _).symm (hot_T _ _ _ _).symm) (r2.cl (hot_c _ _ _ _).symm)
            | ex y' st' => rw [e] at h; exact (show False from h).elim
        · exact h.elim
/-- x(lambda: body) -/
theorem dv_lam {E : XK} {c : Str} {ok : Nat → Bool} {hF : Exn → S → R D} {fl : Ev → S → R D} {x a : Str} {g cc P : Addr} {k : Nat} {fd : FuncData} {pg : Arguments} {bg : List Stmt} {sg : Scope} {Ng : List Str}
    {params : Arguments} {body : Expr} {scope : Scope} {p lpos pos : Pos} (F : FunD X.K x x pg bg sg [] [] g fd) (hg : Gl X x) (hm : X.mg x = some (.ref g)) (hb : L2.Binds X.K fd [a] []) (Sg : FnScope Ng [a] sg) (hNg : Ng[0]? = some a) (hva : Vis sg a)
    (hG : ∀ cdv, LamX.GivesTo X Ng x sg g cdv bg a (X.env.qual ++ "<lambda>") (TTry X.K cl c ok hF))
    (TB : LamX.TabB X.base X.mg cc P) (hcode : X.env.code = .ref cc) (hmT : (P, X.env.qual ++ "<lambda>") ∈ cl.T) (hu : ∀ p ∈ cl.T, p.1 = P → p.2 = X.env.qual ++ "<lambda>") (hr : Room (k + 2) X.A) (L : LamX.LamS X.env.scope scope) (hdef : defaultsOf params X.env = ([], []))
    (hbind : ∀ (q : Str) (cl : List (Str × Addr)) (pm cv ctv : Value), bindArgs (PySem.W.kla_fn "<lambda>" q params body scope cl pm cv ctv) ⟨[], []⟩ = pure [])
    (hbody : ∀ (A : Around) (outer : List Env) (s : Shared) (H : Hp) (E : XK) (f c' : Addr), Room k (A.deeper (LamX.lamEnv X scope s.heap.objs.size f c')) → DV (LamX.lamCx X A outer s H E scope f c') cl E body fl)
    (hdb : (x == ("__debug__" : Str)) = false := by decide) (hd : (a == ("__debug__" : Str)) = false := by decide) (hcd : (a == ("__classdict__" : Str)) = false := by decide) :
    DV X cl E (.Call (.Name x p) [.Lambda params body scope lpos] [] pos) (dTry c ok hF fl) := by
  obtain ⟨oc, od, dV, kV, doc, pmv, an, cdv, ct, osl, rfl, lk, hcd2, hD, hK⟩ := F.ex
  refine PEimp (LamX.pe_lamcall (T := cl.T) (k := k) (t := fun E => liftV X.K cl E fl) hg hm F.kp lk hcd2 hb Sg hNg hva (hG cdv) TB hcode hmT hu hr L hdef hbind (fun A outer s H E f c' hr => hbody A outer s H E f c' hr) hdb hd hcd) fun σ H Q h => ?_
  obtain ⟨W, ρ, st, s, l, h⟩ := h
  refine ⟨s.tab, fun H1 ex tb => ?_⟩
  have s1 : SatS X.K cl W st H1 := by
    refine ⟨fun b o e => ex b o (s.ex b o e) (s.nt b o e), s.len, s.nod, s.off, fun i o e => ?_, s.nt, tb⟩
    obtain ⟨b, h1, h2⟩ := s.mo i o e
    refine ⟨b, h1, ?_⟩
    cases o with
    | lst ds => obtain ⟨vs, q1, q2⟩ := h2; exact ⟨vs, ex b _ q1 NT.lst, q2⟩
    | ins cc fs => obtain ⟨dx, vs, q1, q2⟩ := h2; exact ⟨dx, vs, ex b _ q1 NT.ins, q2⟩
    | dct ks ds => obtain ⟨vs, q1, q2⟩ := h2; exact ⟨vs, ex b _ q1 NT.dK, q2⟩
  have kp : Keep W.A H H1 := fun b o e t _ => ex b o e t
  have l1 : SatL X.K cl W ρ σ H1 := l.keep .refl kp
  refine ⟨W, st, fl ρ st, s1, fun E' W' H' Q' gr kp' s' h' => ⟨W', ρ, st, s', l1.keep gr kp', h'⟩, ?_⟩
  have h2 : Aft X.K cl E (Rp X.K cl) W H1 (tryD c ok hF (fl ρ st)) Q := Aft.mono h .refl kp s1
  cases e : tryD c ok hF (fl ρ st) with
  | stuck => rw [e] at h2; exact h2
  | ok d st' => rw [e] at h2; exact h2
  | ex y st' =>
    unfold tryD at e
    split at e
    · cases e
    · cases e
    · split at e
      · unfold noX at e
        split at e
        · cases e
        · rename_i n; exact (n _ _ e).elim
      · cases e
end
end DL
set_option maxHeartbeats 4000000
/-! The data layer, part s: sets of texts, made of a list or a tuple, sorted or counted. -/
namespace DL
open PySem PySem.Spec PyProof.Rows L2

/-! ### a set of texts -/
def txtOf (p : Int × Value) : Str := match p.2 with
  | .str x _ => x
  | _ => Str.empty
def TxtE (w : World) (p : Int × Value) : Prop := ∃ x u, p.2 = Value.str x u ∧ p.1 = hashStr w x
/-- the set of texts at b: the members of l, m of them -/
def TxS (w : World) (hp : Heap) (b : Addr) (l : List Str) (m : Nat) : Prop :=
  ∃ ob rows ep tb, hp.get? b = some ob ∧ ob.ExactSet ∧ ob.data = .set rows ep tb ∧ (∀ p ∈ rows.toList, TxtE w p) ∧ (rows.toList.map txtOf).Nodup ∧ (∀ x, x ∈ l ↔ x ∈ rows.toList.map txtOf) ∧
    rows.size < scanBound ∧ tb.fits rows.size = true ∧ rows.size = m ∧ Ris tb.place.toList ∧ (w.params.followText "set-order" = true ∨ tb.led = true)
section
variable {P : Program} {w : World} {A : Around} {E : Value → Shared → Prop} {s : Shared} {b : Addr} {l : List Str} {m : Nat}
theorem TxS.stay {hp hp' : Heap} (R : TxS w hp b l m) (k : ∀ o, hp.get? b = some o → hp'.get? b = some o) : TxS w hp' b l m := by
  obtain ⟨ob, rows, ep, tb, q, r⟩ := R
  exact ⟨ob, rows, ep, tb, k ob q, r⟩
theorem TxS.same {hp : Heap} {l' : List Str} (R : TxS w hp b l m) (k : ∀ x, x ∈ l' ↔ x ∈ l) : TxS w hp b l' m := by
  obtain ⟨ob, rows, ep, tb, q1, q2, q3, q4, q5, q6, r⟩ := R
  exact ⟨ob, rows, ep, tb, q1, q2, q3, q4, q5, fun x => (k x).trans (q6 x), r⟩
theorem txt_is {x : Str} {u : Tok} : (strKind P w).is x (.str x u) = true := by
  show Value.isStrOf x (.str x u) = true
  simp [Value.isStrOf]
theorem txt_elems {q : List (Int × Value)} (g : ∀ p ∈ q, TxtE w p) : ElemsOf (strKind P w) q := fun p hm => by
  obtain ⟨x, u, e1, e2⟩ := g p hm
  exact ⟨⟨x, by rw [e1]; exact txt_is, e2⟩, by rw [e1] <;> rfl⟩
theorem txt_iff {p : Int × Value} (g : TxtE w p) (x : Str) : (strKind P w).is x p.2 = true ↔ txtOf p = x := by
  obtain ⟨y, u, e1, _⟩ := g
  unfold txtOf
  rw [e1]
  constructor
  · intro z
    exact ((strKind P w).inj (.str y u) x y z txt_is).symm
  · rintro rfl
    exact txt_is
theorem txt_mem {q : List (Int × Value)} (g : ∀ p ∈ q, TxtE w p) (x : Str) : x ∈ q.map txtOf ↔ ∃ p ∈ q, (strKind P w).is x p.2 = true := by
  rw [List.mem_map]
  exact ⟨fun ⟨p, h1, h2⟩ => ⟨p, h1, (txt_iff (g p h1) x).mpr h2⟩, fun ⟨p, h1, h2⟩ => ⟨p, h1, (txt_iff (g p h1) x).mp h2⟩⟩
theorem txt_stored {hp : Heap} {ob : Obj} {rows rows' : Array (Int × Value)} {ep : Nat} {tb tb' : SetTable} (q : hp.get? b = some ob) (d : ob.data = .set rows ep tb) :
    (hp.update b (Obj.putSet rows' tb')).get? b = some { ob with data := .set rows' (ep + 1) tb' } := by
  have z := Heap.get?_update_self (Obj.putSet rows' tb') q (by rw [putSet_of rows' tb' d]; rfl)
  rw [putSet_of rows' tb' d] at z
  exact z
theorem txt_tail {gv : Bool → Sem Unit} (hgv : ∀ (c : Bool) (s₁ : Shared) (Q' : Unit → Shared → Prop), Q' () s₁ → wpAny (model P w) A (gv c) Q' E s₁)
    {ob : Obj} {rows : Array (Int × Value)} {ep : Nat} {tb : SetTable} (q : s.heap.get? b = some ob) (x : ob.ExactSet) (d : ob.data = .set rows ep tb)
    {r1 : Array (Int × Value)} {t2 : SetTable} (g1 : ∀ p ∈ r1.toList, TxtE w p) (n1 : (r1.toList.map txtOf).Nodup) (m1 : ∀ y, y ∈ l ↔ y ∈ r1.toList.map txtOf)
    (b1 : r1.size < scanBound) (f2 : t2.fits r1.size = true) (s2 : Ris t2.place.toList) (o2 : w.params.followText "set-order" = true ∨ t2.led = true) {wd : Bool} {R : Option Bool → Shared → Prop}
    (hR : ∀ hp', Heap.SameBut b s.heap hp' → TxS w hp' b l r1.size → R (some true) { s with heap := hp' }) :
    wpAny (model P w) A (do
        storeSet b r1 t2
        if (!wd && t2.tooFull) = true then do
            gv (relayAll t2 r1 (SetTable.grown r1.size)).2.2
            storeSet b (relayAll t2 r1 (SetTable.grown r1.size)).1 (relayAll t2 r1 (SetTable.grown r1.size)).2.1
            pure (some true)
          else pure (some true)) R E s := by
  refine wpAny_bind (wpAny_storeSet_of q d ?_ (fits_of_scanBound b1))
  have q1 := txt_stored (rows' := r1) (tb' := t2) q d
  have u1 := Heap.SameBut.update s.heap b (Obj.putSet r1 t2)
  split
  · have pm := relayAll_perm t2 r1 (SetTable.grown r1.size)
    have f3 := relayAll_fits t2 r1 (SetTable.grown r1.size)
    have s3 := relayAll_ris t2 r1 (SetTable.grown r1.size)
    have o3 := relayAll_led t2 r1 (SetTable.grown r1.size)
    generalize relayAll t2 r1 (SetTable.grown r1.size) = Y at pm f3 s3 o3 ⊢
    obtain ⟨r2, t3, gave⟩ := Y
    dsimp only at pm f3 s3 o3 ⊢
    have z2 : r2.size = r1.size := by rw [← Array.length_toList, pm.length_eq, Array.length_toList]
    have b2 : r2.size < scanBound := by rw [z2]; exact b1
    refine wpAny_bind (hgv _ _ _ (wpAny_bind (wpAny_storeSet_of q1 rfl ?_ (fits_of_scanBound b2))))
    have q2 := txt_stored (rows' := r2) (tb' := t3) q1 rfl
    exact wpAny_pure (hR _ (u1.trans (Heap.SameBut.update _ b _)) ⟨_, r2, _, t3, q2, x, rfl, fun p hp => g1 p (pm.mem_iff.mp hp), (pm.map txtOf).nodup_iff.mpr n1, fun y => (m1 y).trans (pm.map txtOf).mem_iff.symm, b2, f3, z2, s3, o2.imp id fun z => by rw [o3]; exact z⟩)
  · exact wpAny_pure (hR _ u1 ⟨_, r1, _, t2, q1, x, rfl, g1, n1, m1, b1, f2, rfl, s2, o2⟩)
theorem txt_add {x : Str} {u : Tok} {Q : Bool → Shared → Prop} (R : TxS w s.heap b l m) (room : m + 1 < scanBound)
    (hQ : ∀ hp' m' c, Heap.SameBut b s.heap hp' → m' ≤ m + 1 → TxS w hp' b (l ++ [x]) m' → Q c { s with heap := hp' }) :
    wpAny (model P w) A (setAddHashed b (.str x u) (hashStr w x)) Q E s := by
  obtain ⟨ob, rows, ep, tb, q, ex, d, g, nd, hm, hb, hf, hn, hr, hl⟩ := R
  have key : (strKind P w).is x (.str x u) = true := txt_is
  have sc : (Value.str x u).scannable = true := rfl
  have el : ElemsOf (strKind P w) rows.toList := txt_elems g
  unfold setAddHashed setAddHashedIn
  refine wpAny_holding (wpAny_bind (wpAny_setState_of q d hf ?_))
  dsimp only
  rw [byScan_of sc hb el]
  simp only [↓reduceIte]
  unfold setAddByScan
  refine wpAny_bind (wpAny_bind (wpAny_rule (wpAny_bind (wpAny_setScan_of (knd := strKind P w) (k := x) key q d hf el ?_))))
  cases fi : List.findIdx? (fun e => (strKind P w).is x e.2) rows.toList with
  | some j =>
    dsimp only
    obtain ⟨lj, pj, _⟩ := List.findIdx?_eq_some_iff_getElem.mp fi
    have xm : x ∈ rows.toList.map txtOf := (txt_mem (P := P) g x).mpr ⟨rows.toList[j], List.getElem_mem lj, pj⟩
    refine wpAny_pure (wpAny_pure (hQ s.heap m _ (Heap.SameBut.refl b s.heap) (Nat.le_succ m) ⟨ob, rows, ep, tb, q, ex, d, g, nd, fun y => ?_, hb, hf, hn, hr, hl⟩))
    rw [List.mem_append, List.mem_singleton, hm y]
    exact ⟨fun z => z.elim id fun e => by rw [e]; exact xm, .inl⟩
  | none =>
    dsimp only
    have xn : x ∉ rows.toList.map txtOf := fun z => by
      obtain ⟨p, h1, h2⟩ := (txt_mem (P := P) g x).mp z
      have c := List.findIdx?_eq_none_iff.mp fi p h1
      rw [h2] at c
      cases c
    have gw : ∀ (c : Bool) {s₁ : Shared} {Q' : Unit → Shared → Prop}, Q' () s₁ → wpAny (model P w) A (match c with | true => rule "set.scan.the-table-gave-way" | false => pure ()) Q' E s₁ := fun c s₁ Q' z => by
      cases c
      · exact wpAny_pure z
      · exact wpAny_rule z
    have pm := layNew_perm tb rows (hashStr w x) (.str x u)
    have f1 := layNew_fits tb rows (hashStr w x) (.str x u)
    have s1 := layNew_ris tb rows (hashStr w x) (.str x u) hr
    have o1 := layNew_led tb rows (hashStr w x) (.str x u)
    generalize layNew tb rows (hashStr w x) (.str x u) = Y at pm f1 s1 o1 ⊢
    obtain ⟨r1, t1, wd, gave⟩ := Y
    dsimp only at pm f1 s1 o1 ⊢
    rw [Array.toList_push] at pm
    have pc : r1.toList.Perm ((hashStr w x, Value.str x u) :: rows.toList) := pm.trans (List.perm_append_singleton _ _)
    have pk : (r1.toList.map txtOf).Perm (x :: rows.toList.map txtOf) := pc.map txtOf
    have g1 : ∀ p ∈ r1.toList, TxtE w p := fun p hp => by
      rcases List.mem_cons.mp (pc.mem_iff.mp hp) with z | z
      · rw [z]; exact ⟨x, u, rfl, rfl⟩
      · exact g p z
    have n1 : (r1.toList.map txtOf).Nodup := pk.nodup_iff.mpr (List.nodup_cons.mpr ⟨xn, nd⟩)
    have m1 : ∀ y, y ∈ l ++ [x] ↔ y ∈ r1.toList.map txtOf := fun y => by
      rw [List.mem_append, List.mem_singleton, hm y, pk.mem_iff, List.mem_cons]
      exact Or.comm
    have z1 : r1.size = m + 1 := by rw [← Array.length_toList, pc.length_eq, List.length_cons, Array.length_toList, hn]
    have b1 : r1.size < scanBound := by rw [z1]; exact room
    have led : w.params.followText "set-order" = true ∨ t1.led = true := hl.imp id fun z => by rw [o1]; exact z
    have fin : ∀ hp', Heap.SameBut b s.heap hp' → TxS w hp' b (l ++ [x]) r1.size → Q true { s with heap := hp' } := fun hp' sb r => hQ hp' _ _ sb (Nat.le_of_eq z1) r
    refine wpAny_bind (gw _ ?_)
    split
    · refine wpAny_bind ?_
      rw [hashByValue_scannable 8 sc]
      refine wpAny_pure (txt_tail ?_ q ex d g1 n1 m1 b1 ?_ ?_ ?_ ?_)
      · intro c s₁ Q' z
        cases c
        · exact wpAny_pure z
        · exact wpAny_rule z
      · first
        | (split <;> first | exact f1 | exact SetTable.fits_plain_off f1)
        | exact f1
      · first
        | (split <;> exact s1)
        | exact s1
      · first
        | (split <;> exact led)
        | exact led
      · intro hp' sb r
        dsimp only
        exact wpAny_pure (fin hp' sb r)
    · refine wpAny_bind (wpAny_pure ?_)
      simp only [↓reduceIte]
      refine txt_tail ?_ q ex d g1 n1 m1 b1 f1 s1 led ?_
      · intro c s₁ Q' z
        cases c
        · exact wpAny_pure z
        · exact wpAny_rule z
      · intro hp' sb r
        dsimp only
        exact wpAny_pure (fin hp' sb r)
/-- an empty set -/
def e0 (w : World) : Obj := { cls := .type "set", dict := none, data := .set #[] 0 (.fresh 0 0 (!w.params.followText "set-order")) }
theorem txs_new {hp : Heap} (q : hp.get? b = some (e0 w)) : TxS w hp b [] 0 := by
  refine ⟨_, #[], 0, _, q, ⟨rfl, rfl, rfl⟩, rfl, (fun p hp => by simp at hp), (by simp), (fun x => by simp), (by decide), (by rfl), rfl, List.Pairwise.nil, ?_⟩
  show _ ∨ (!w.params.followText "set-order") = true
  cases w.params.followText "set-order"
  · exact .inr rfl
  · exact .inl rfl
theorem txt_loop {I : Addr} {fp wr : List Addr} {G : Array GenState → Array GenState → Prop} {n : Nat} {Pv : Nat → Value → Prop} {St : Nat → Shared → Prop} {R : Result → Shared → Prop}
    (W : WalksS P w A.in1 I fp wr G n Pv St) (S : Addr) (nS : S ∉ fp) (xs : List Str) (hn : n = xs.length) (hb : xs.length + 1 < scanBound) (hval : ∀ i v, Pv i v → ∃ x t, xs[i]? = some x ∧ v = .str x t) :
    ∀ (k i : Nat) (s : Shared), n - i = k → i ≤ n → St i s → (∃ c, c ≤ i ∧ TxS w s.heap S (xs.take i) c) →
      (∀ s' c, Moved (S :: wr) G s s' → c ≤ n → TxS w s'.heap S xs c → R (.ok (.ret .none)) s') →
      codeAny (model P w) A (.builtin "set.update.loop" ⟨[.ref S, .ref I], []⟩) R s := by
  have nSw : S ∉ wr := fun z => nS (W.sub _ z)
  have sub1 : ∀ c ∈ wr, c ∈ S :: wr := fun c z => List.mem_cons_of_mem _ z
  intro k
  induction k with
  | zero =>
    intro i s e1 e2 hst ⟨c, hc, hS⟩ hR
    obtain rfl : i = n := by omega
    refine codeAny_builtin F.entry_set_update_loop ?_
    rw [Around.under_plainId F.plain_set_update_loop _]
    show wpAny _ A.in1 (pyNext (.ref I) >>= _) _ _ s
    refine wpAny_bind (W.done s _ _ hst fun s' mv => ?_)
    show wpAny _ A.in1 (ret Value.none) _ _ s'
    have e : xs.take i = xs := List.take_of_length_le (by omega)
    rw [e] at hS
    exact wpAny_pure (hR s' c (mv.mono sub1) hc (hS.stay fun o e => mv.heap S o nSw e))
  | succ k ih =>
    intro i s e1 e2 hst ⟨c, hc, hS⟩ hR
    have lt1 : i < n := by omega
    refine codeAny_builtin F.entry_set_update_loop ?_
    rw [Around.under_plainId F.plain_set_update_loop _]
    show wpAny _ A.in1 (pyNext (.ref I) >>= _) _ _ s
    refine wpAny_bind (W.item i s _ _ lt1 hst fun v s' hP hst' mv => ?_)
    obtain ⟨z, t, hz, rfl⟩ := hval i v hP
    have hS' : TxS w s'.heap S (xs.take i) c := hS.stay fun o e => mv.heap S o nSw e
    show wpAny _ A.in1 (holding [Value.str z t] (setAdd S (.str z t)) >>= _) _ _ s'
    refine wpAny_bind (wpAny_holding ?_)
    unfold setAdd
    refine wpAny_holding (wpAny_bind ((strKind P w).pyHash (k := z) txt_is ?_))
    refine txt_add (s := { s' with toks := s'.toks + 1 }) hS' (by omega) fun h' m' cc sb le1 hS2 => ?_
    have hS3 : TxS w h' S (xs.take (i + 1)) m' := hS2.same fun j => by rw [List.take_add_one, hz]; rfl
    refine wpAny_pure ⟨plainId_quiet F.plain_set_update_loop _, ih (i + 1) _ (by omega) lt1 (W.frame _ s' _ _ hst' (Nat.le_succ _) fun d hd o e => ?_) ⟨_, by omega, hS3⟩ fun s'' c2 mv2 hc2 hS4 => ?_⟩
    · rw [sb.2 d (fun y : d = S => nS (by rw [← y]; exact hd))]
      exact e
    · refine hR s'' c2 (Moved.trans W.gtrans ((mv.mono sub1).then_heap (Nat.le_succ _) fun d o hd e => ?_) mv2) hc2 hS4
      rw [sb.2 d (fun y : d = S => hd (by rw [y]; exact List.mem_cons_self))]
      exact e
theorem str_at : ∀ {us : List Value} {xs : List Str}, StrsAre us xs → ∀ (i : Nat) (v : Value), us[i]? = some v → ∃ x t, xs[i]? = some x ∧ v = .str x t
  | _, _, .nil, i, v, h => by cases h
  | _, _, .cons x t r, 0, v, h => ⟨x, t, rfl, (Option.some.inj h).symm⟩
  | _, _, .cons x t r, i + 1, v, h => str_at r i v h
/-- set(arg), from what its __init__ does -/
theorem set_call {arg : Value} {Q : Value → Shared → Prop}
    (h : codeAny (model P w) A.in1 (.call (.builtin "set.__init__") ⟨[.ref s.heap.objs.size, arg], []⟩) (wants (fun r s₂ => r = .none ∧ Q (.ref s.heap.objs.size) s₂) E) { s with heap := s.heap.push (e0 w) }) :
    wpAny (model P w) A (call (.type "set") [arg]) Q E s := by
  obtain ⟨c, tl, hmro⟩ := F.called_set.mro
  have hmade := F.called_set.made
  have hsub := F.called_set.sub
  refine wpAny_call (codeAny_of_tree ?_)
  show wpAny _ _ (callAny (.type "set") _) _ _ _
  refine wpAny_pure ⟨Code.quiet_builtin _ (by decide +kernel), codeAny_builtin F.entry_type_call ?_⟩
  rw [Around.under_plain (weight_type_call_type "set" [arg] []) rfl]
  have h1 := F.called_set.notType
  have h2 := F.called_set.canCreate
  have hct := F.typeCall_set_1 arg
  repeat (any_goals (first | assumption | wp_step))
  refine codeAny_mono (code_set_led1 arg (E := E) (Q₁ := fun ob s₁ => ob = .ref s.heap.objs.size ∧ s₁ = { s with heap := s.heap.push (e0 w) }) ⟨rfl, rfl⟩) fun r s₁ hr => ?_
  cases r with
  | error e => exact hr
  | ok fl =>
    cases fl with
    | ret ob =>
      obtain ⟨rfl, rfl⟩ := hr
      have hS : (s.heap.push (e0 w)).get? s.heap.objs.size = some (e0 w) := Heap.get?_push_size _ rfl
      have hT : Shared.TypeIs { s with heap := s.heap.push (e0 w) } (.ref s.heap.objs.size) "set" := ⟨_, hS, rfl⟩
      have hli := F.called_set.init.lookup
      have hbi := F.called_set.init.bind (.ref s.heap.objs.size)
      repeat (any_goals (first | assumption | wp_step))
      refine codeAny_mono h fun r₂ s₂ hr₂ => ?_
      cases r₂ with
      | error e => exact hr₂
      | ok fl₂ =>
        cases fl₂ with
        | ret r =>
          obtain ⟨rfl, hq⟩ := hr₂
          repeat (any_goals (first | assumption | wp_step))
        | _ => exact hr₂.elim
    | _ => exact hr.elim
theorem set_tuple {l : Addr} {its : Array Value} (xs : List Str) {Q : Value → Shared → Prop} (hh : A.handled = none) (hl : s.heap.IsTuple l its) (hit : StrsAre its.toList xs) (hb : xs.length + 1 < scanBound)
    (h : ∀ (h' : Heap) (tk c : Nat), TxS w h' s.heap.objs.size xs c → c ≤ xs.length → (∀ b o, s.heap.get? b = some o → h'.get? b = some o) → Q (.ref s.heap.objs.size) { s with heap := h', toks := tk }) :
    wpAny (model P w) A (call (.type "set") [.ref l]) Q E s := by
  have hz0 : its.size = xs.length := by
    have y := StrsAre.length hit
    rw [Array.length_toList] at y
    exact y
  have hS : (s.heap.push (e0 w)).get? s.heap.objs.size = some (e0 w) := Heap.get?_push_size _ rfl
  have hT : Shared.TypeIs { s with heap := s.heap.push (e0 w) } (.ref s.heap.objs.size) "set" := ⟨_, hS, rfl⟩
  refine set_call (codeAny_call_builtin F.called_set.init.plain F.entry_set_init (check_set_init_1 hT ?_))
  obtain ⟨ol, hol, hcl, nl, hdl⟩ := hl
  obtain ⟨ocls, odict, odata, oslots⟩ := ol
  simp only at hcl hdl
  subst hcl; subst hdl
  have hol' : (s.heap.push (e0 w)).get? l = some { cls := .type "tuple", dict := odict, data := .seq its nl, slots := oslots } := Heap.get?_push_of_some _ hol
  have hsls := F.sub_tuple_set
  have hslf := F.sub_tuple_frozenset
  have hne : (Value.type "tuple" == Value.type "dict") = false := by decide
  have hl1 : (s.heap.push (e0 w)).IsTuple l its := ⟨_, hol', rfl, nl, rfl⟩
  unfold Builtin.«set.__init__» noKeywords Builtin.Frozenset.updateFrom
  generalize hPI : pyIter = PI
  wp_walk
  subst hPI
  refine wpAny_pyIter_tuple hl1 (wpAny_bind (wpAny_runValue ?_))
  have l1 : l < s.heap.objs.size := Heap.lt_size hol
  have hh3 : A.in1.in1.in1.handled = none := by simp [hh]
  have z1 : (s.heap.push (e0 w)).objs.size = s.heap.objs.size + 1 := Heap.size_push ..
  have ne1 : l ≠ (s.heap.push (e0 w)).objs.size := by
    rw [z1]
    exact Nat.ne_of_lt (Nat.lt_succ_of_lt l1)
  have nf : s.heap.objs.size ∉ [(s.heap.push (e0 w)).objs.size, l] := by
    rw [z1]
    simp only [List.mem_cons, List.not_mem_nil, or_false, not_or]
    exact ⟨Nat.ne_of_lt (Nat.lt_succ_self _), Nat.ne_of_gt l1⟩
  have hval : ∀ (i : Nat) (v : Value), its[i]? = some v → ∃ x t, xs[i]? = some x ∧ v = .str x t := fun i v hv => str_at hit i v (by rw [Array.getElem?_toList]; exact hv)
  refine txt_loop ((Walks.tuple hh3 _ l ne1 its).toS) s.heap.objs.size nf xs hz0 hb hval (its.size - 0) 0 _ (by omega) (Nat.zero_le _) ⟨⟨_, Heap.get?_push_size _ rfl, rfl, rfl⟩, (hl1.push _)⟩ ?hS0 ?hR
  case hS0 => exact ⟨0, Nat.le_refl 0, txs_new (Heap.get?_push_of_some _ hS)⟩
  case hR =>
    intro s' c' mv hc' hS'
    obtain ⟨h', g2, d', tk', os'⟩ := s'
    have eg : g2 = s.gens := mv.gens
    have ed : d' = s.drawn := mv.drawn
    have eo : os' = s.os := mv.os
    subst eg; subst ed; subst eo
    show wpAny _ _ _ _ _ _
    refine wpAny_pure ?_
    show wpAny _ _ (ret Value.none) _ _ _
    rw [hz0] at hc'
    refine wpAny_pure ⟨rfl, h h' tk' c' hS' hc' fun b o e => ?_⟩
    have lb : b < s.heap.objs.size := Heap.lt_size e
    refine mv.heap b o ?_ (Heap.get?_push_of_some _ (Heap.get?_push_of_some _ e))
    rw [z1]
    simp only [List.mem_cons, List.not_mem_nil, or_false, not_or]
    exact ⟨Nat.ne_of_lt lb, Nat.ne_of_lt (Nat.lt_succ_of_lt lb)⟩
theorem set_list {l : Addr} {its : Array Value} (xs : List Str) {Q : Value → Shared → Prop} (hh : A.handled = none) (hl : s.heap.IsList l its) (hit : StrsAre its.toList xs) (hb : xs.length + 1 < scanBound)
    (h : ∀ (h' : Heap) (tk c : Nat), TxS w h' s.heap.objs.size xs c → c ≤ xs.length → (∀ b o, s.heap.get? b = some o → h'.get? b = some o) → Q (.ref s.heap.objs.size) { s with heap := h', toks := tk }) :
    wpAny (model P w) A (call (.type "set") [.ref l]) Q E s := by
  have hz0 : its.size = xs.length := by
    have y := StrsAre.length hit
    rw [Array.length_toList] at y
    exact y
  have hS : (s.heap.push (e0 w)).get? s.heap.objs.size = some (e0 w) := Heap.get?_push_size _ rfl
  have hT : Shared.TypeIs { s with heap := s.heap.push (e0 w) } (.ref s.heap.objs.size) "set" := ⟨_, hS, rfl⟩
  refine set_call (codeAny_call_builtin F.called_set.init.plain F.entry_set_init (check_set_init_1 hT ?_))
  obtain ⟨ol, hol, hcl, nl, hdl⟩ := hl
  obtain ⟨ocls, odict, odata, oslots⟩ := ol
  simp only at hcl hdl
  subst hcl; subst hdl
  have hol' : (s.heap.push (e0 w)).get? l = some { cls := .type "list", dict := odict, data := .seq its nl, slots := oslots } := Heap.get?_push_of_some _ hol
  have hsls := F.sub_list_set
  have hslf := F.sub_list_frozenset
  have hne : (Value.type "list" == Value.type "dict") = false := by decide
  have hl1 : (s.heap.push (e0 w)).IsList l its := ⟨_, hol', rfl, nl, rfl⟩
  unfold Builtin.«set.__init__» noKeywords Builtin.Frozenset.updateFrom
  generalize hPI : pyIter = PI
  wp_walk
  subst hPI
  refine wpAny_pyIter_list hl1 (wpAny_bind (wpAny_runValue ?_))
  have l1 : l < s.heap.objs.size := Heap.lt_size hol
  have hh3 : A.in1.in1.in1.handled = none := by simp [hh]
  have z1 : (s.heap.push (e0 w)).objs.size = s.heap.objs.size + 1 := Heap.size_push ..
  have ne1 : l ≠ (s.heap.push (e0 w)).objs.size := by
    rw [z1]
    exact Nat.ne_of_lt (Nat.lt_succ_of_lt l1)
  have nf : s.heap.objs.size ∉ [(s.heap.push (e0 w)).objs.size, l] := by
    rw [z1]
    simp only [List.mem_cons, List.not_mem_nil, or_false, not_or]
    exact ⟨Nat.ne_of_lt (Nat.lt_succ_self _), Nat.ne_of_gt l1⟩
  have hval : ∀ (i : Nat) (v : Value), its[i]? = some v → ∃ x t, xs[i]? = some x ∧ v = .str x t := fun i v hv => str_at hit i v (by rw [Array.getElem?_toList]; exact hv)
  refine txt_loop ((Walks.list hh3 _ l ne1 its).toS) s.heap.objs.size nf xs hz0 hb hval (its.size - 0) 0 _ (by omega) (Nat.zero_le _) ⟨⟨_, Heap.get?_push_size _ rfl, rfl, rfl⟩, (hl1.push _)⟩ ?hS0 ?hR
  case hS0 => exact ⟨0, Nat.le_refl 0, txs_new (Heap.get?_push_of_some _ hS)⟩
  case hR =>
    intro s' c' mv hc' hS'
    obtain ⟨h', g2, d', tk', os'⟩ := s'
    have eg : g2 = s.gens := mv.gens
    have ed : d' = s.drawn := mv.drawn
    have eo : os' = s.os := mv.os
    subst eg; subst ed; subst eo
    show wpAny _ _ _ _ _ _
    refine wpAny_pure ?_
    show wpAny _ _ (ret Value.none) _ _ _
    rw [hz0] at hc'
    refine wpAny_pure ⟨rfl, h h' tk' c' hS' hc' fun b o e => ?_⟩
    have lb : b < s.heap.objs.size := Heap.lt_size e
    refine mv.heap b o ?_ (Heap.get?_push_of_some _ (Heap.get?_push_of_some _ e))
    rw [z1]
    simp only [List.mem_cons, List.not_mem_nil, or_false, not_or]
    exact ⟨Nat.ne_of_lt lb, Nat.ne_of_lt (Nat.lt_succ_of_lt lb)⟩
end
end DL
set_option maxHeartbeats 4000000
/-! The data layer, part t: sorted(set(..)), len(set(..)) of texts; enumerate; index. -/
namespace DL
open PySem PySem.Spec PyProof.Rows L2

/-! ### no double -/
theorem nodup_ed : ∀ (n : Nat) (l : List Str), l.length ≤ n → l.eraseDups.Nodup
  | 0, [], _ => by simp
  | _ + 1, [], _ => by simp
  | n + 1, x :: r, h => by
    rw [List.eraseDups_cons]
    refine List.nodup_cons.mpr ⟨fun z => ?_, nodup_ed n _ (Nat.le_trans (List.length_filter_le _ _) (Nat.le_of_succ_le_succ h))⟩
    rw [List.mem_eraseDups, List.mem_filter] at z
    simp at z
/-- the sorted members -/
def setS (xs : List Str) : List Str := sortS xs.eraseDups
theorem setS_eq {xs ys : List Str} (h1 : ys.Nodup) (h2 : ∀ x, x ∈ ys ↔ x ∈ xs) (h3 : sortedS ys = true) : ys = setS xs :=
  sortS_eq ((List.perm_ext_iff_of_nodup h1 (nodup_ed _ xs (Nat.le_refl _))).mpr fun x => by rw [h2, List.mem_eraseDups]) h3
def TxO (w : World) (a : Addr) (l : List Str) (m : Nat) : HO := .ext fun h => TxS w h a l m
theorem txO_nt {w : World} {a : Addr} {l : List Str} {m : Nat} : NT (TxO w a l m) := fun ps z => by
  unfold TxO at z
  cases z
section
variable {X : Cx} {cl : Cl} {E : XK}
theorem txO_new {P : Program} {w : World} {H : Hp} {h : Heap} {a : Addr} {l : List Str} {m : Nat} (R : TxS w h a l m) : ObjOk P w H h a (TxO w a l m) := by
  have ⟨o, _, _, _, ho, _⟩ := R
  exact ⟨R, ⟨o, ho⟩, fun h1 h2 p k => TxS.stay p k⟩
/-- set(xs), texts -/
def rSetX (K : PySem.W.Frag) (w : World) : List V → Hp → VK → Prop := fun vs H Q => ∃ (l : Addr) (xs : List Str), vs = [.ref l] ∧ (SqL K H l (xs.map V.str) ∨ SqT K H l (xs.map V.str)) ∧ xs.length + 1 < scanBound ∧ ∀ p m, H p = none → m = xs.eraseDups.length → Q (.ref p) (upd H p (TxO w p xs m))
theorem txs_len {w : World} {h : Heap} {a : Addr} {l : List Str} {m : Nat} (R : TxS w h a l m) : m = l.eraseDups.length := by
  obtain ⟨ob, rows, ep, tb, q1, q2, q3, q4, q5, q6, q7, q8, q9, r⟩ := R
  have p : (rows.toList.map txtOf).Perm l.eraseDups := (List.perm_ext_iff_of_nodup q5 (nodup_ed _ l (Nat.le_refl _))).mpr fun x => by rw [← q6 x, List.mem_eraseDups]
  have := p.length_eq
  rw [List.length_map, Array.length_toList, q9] at this
  exact this
theorem cr_setX (hc : X.calm = true) : CallR X (.type "set") (rSetX X.K X.w) := by
  intro pins s σ H vs us Q I r h
  obtain ⟨l, xs, rfl, hs, hb, q⟩ := h
  rw [Vals.ref1 r]
  have fin : ∀ (h' : Heap) (tk c : Nat), TxS X.w h' s.heap.objs.size xs c → c ≤ xs.length → (∀ b o, s.heap.get? b = some o → h'.get? b = some o) → EP X pins σ Q (.ref s.heap.objs.size) { s with heap := h', toks := tk } := fun h' tk c R hc2 k =>
    ⟨.ref s.heap.objs.size, _, I.laid (t' := tk) (o := TxO X.w s.heap.objs.size xs c) k (Nat.le_refl _) (txO_new R), rfl, q _ c (I.hok.fresh (Nat.le_refl _)) (txs_len R)⟩
  rcases hs with hs | hs
  · obtain ⟨its, rv, pl, hz⟩ := I.list hs
    exact set_list xs (I.ok.hd hc) pl.isList (by simpa using strsAre_of rv) hb fin
  · obtain ⟨its, rv, pl, hz⟩ := I.tuple hs
    exact set_tuple xs (I.ok.hd hc) pl (by simpa using strsAre_of rv) hb fin
/-- sorted(set) -/
theorem txt_sorted {P : Program} {w : World} {A : Around} {E : Value → Shared → Prop} {s : Shared} {a : Addr} {l : List Str} {m : Nat} {Q : Value → Shared → Prop} (R : TxS w s.heap a l m) (hh : A.handled = none) (h64 : m < 64)
    (hQ : ∀ s' p (out : Array Value) (c : Nat) (ys : List Str), (∀ b o, s.heap.get? b = some o → s'.heap.get? b = some o) → s'.gens = s.gens → s'.os = s.os → s.heap.objs.size ≤ p →
      s'.heap.get? p = some (seqObj "list" out c) → StrsAre out.toList ys → ys.Nodup → (∀ x, x ∈ ys ↔ x ∈ l) → sortedS ys = true → ys.length = m → Q (.ref p) s') :
    wpAny (model P w) A (call (.builtin "sorted") [.ref a]) Q E s := by
  obtain ⟨ob, rows, ep, t, q, ex, d, g, nd, hm, hb, hf, hn, hr, hl⟩ := R
  refine Calls.call_function_entry kind_sorted plain_sorted entry_sorted (args_sorted1 _) ?_
  unfold Builtin.«sorted»
  refine wpAny_bind (m := checkCount "sorted" 1 1 _) (wpAny_pure (wpAny_bind (collect_set (A := A.in1) hh ⟨ob, q, ex.1, d⟩ hf hb hr hl fun s1 vs k1 z1 g1 o1 pm => ?_)))
  have vl : vs.length = m := by rw [pm.length_eq, List.length_map, Array.length_toList, hn]
  have hT : ∀ v ∈ vs, ∃ x u, v = Value.str x u := fun v hv => by
    obtain ⟨e, he, rfl⟩ := List.mem_map.mp (pm.mem_iff.mp hv)
    obtain ⟨x, u, h1, _⟩ := g e he
    exact ⟨x, u, h1⟩
  have hS : StrsAre vs (vs.map strOf) := strsAre_map vs hT
  have pk : (vs.map strOf).Perm (rows.toList.map txtOf) := by
    have z := pm.map strOf
    rw [List.map_map] at z
    refine z.trans (List.Perm.of_eq (List.map_congr_left fun e he => ?_))
    obtain ⟨x, u, h1, _⟩ := g e he
    show strOf e.2 = txtOf e
    unfold txtOf
    rw [h1]
    rfl
  refine wpAny_bind (wpAny_newList ?_ (by rw [vl, sizeLine_eq]; omega))
  have hoL : (s1.heap.push (seqObj "list" vs.toArray 0)).get? s1.heap.objs.size = some (seqObj "list" vs.toArray 0) := Heap.get?_push_size _ rfl
  refine wpAny_bind (wpAny_holding (wpAny_call_entry slot_list_sort ⟨_, hoL, rfl⟩ entry_list_sort (list_sort_treeK strKind_oneLt hoL hS.keysOf (fun v₁ v₂ rest e => keyKind_strs (by rw [← e]; exact hS)) (by rw [vl]; exact h64) fun st' p1 p2 => ⟨_, rfl, ?_⟩) (args_list_sort _)))
  obtain ⟨ys, y1, y2, y3⟩ := sorted_out_str hS p1 p2
  obtain ⟨c, hc⟩ := sortedHeap_at (vs := vs) (out := (arrOf st').map (·.2)) hoL
  have pn := y2.trans pk
  refine wpAny_pure ⟨_, rfl, hQ _ s1.heap.objs.size _ c ys (fun b u e => ?_) g1 o1 z1 hc y1 (pn.nodup_iff.mpr nd) (fun x => by rw [pn.mem_iff, ← hm x]) y3 (by rw [pn.length_eq, List.length_map, Array.length_toList, hn])⟩
  have z := k1 b u e
  have lt1 := Heap.lt_size z
  show (sortedHeap (s1.heap.push (seqObj "list" vs.toArray 0)) s1.heap.objs.size vs _).get? b = some u
  rw [sortedHeap_old (Nat.ne_of_lt lt1) (by rw [size_push']; exact Nat.lt_succ_of_lt lt1)]
  exact Heap.get?_push_of_some _ z
def rSortX (w : World) : List V → Hp → VK → Prop := fun vs H Q => ∃ (a : Addr) (l : List Str) (m : Nat), vs = [V.ref a] ∧ H a = some (TxO w a l m) ∧ m < 64 ∧ ∀ p, H p = none → Q (.ref p) (upd H p (.lst ((setS l).map V.str)))
theorem cr_sortX (hc : X.calm = true) : CallR X (.builtin "sorted") (rSortX X.w) := by
  intro pins s σ H vs us Q I r h
  obtain ⟨a, l, m, rfl, ha, h64, q⟩ := h
  rw [Vals.ref1 r]
  have R : TxS X.w s.heap a l m := (I.hok a _ ha).1
  refine txt_sorted R (I.ok.hd hc) h64 fun s' p out c ys k g o hp hg hi nd hm hs hl => ?_
  rw [setS_eq nd hm hs] at hi hl
  have hlen : ((setS l).map V.str).length ≤ sizeLine := by rw [List.length_map, hl, sizeLine_eq]; omega
  have hn : H p = none := I.hok.fresh hp
  have J : Inv X pins σ (upd H p (.lst ((setS l).map V.str))) { s with heap := s'.heap, gens := s'.gens, drawn := s'.drawn, toks := s'.toks } :=
    I.call (ch := []) (Un.laid k hp hn) (I.hok.laid k hp ⟨hlen, out.toList, c, vals_of_strs hi, hg⟩) (by rw [g]; exact I.bare) (fun _ z => nomatch z)
  have e : s' = { s with heap := s'.heap, gens := s'.gens, drawn := s'.drawn, toks := s'.toks } := by
    cases s'
    cases s
    cases o
    rfl
  rw [e]
  exact ⟨.ref p, _, J, rfl, q p hn⟩
/-- sorted(set(a)) -/
def setD (d : D) (st : S) : R D := match view d st with
  | .lst ds => (match strsOf ds with
    | some xs => if xs.length < 4000 ∧ xs.eraseDups.length < 64 then .ok (.lst ((setS xs).map .str)) st else .stuck
    | none => .stuck)
  | .tup ds => (match strsOf ds with
    | some xs => if xs.length < 4000 ∧ xs.eraseDups.length < 64 then .ok (.lst ((setS xs).map .str)) st else .stuck
    | none => .stuck)
  | _ => .stuck
theorem rd_set {W : Wd} {ρ : Ev} {σ : L2.St} {st : S} {H : Hp} {v : V} {d : D} {Q : VK} (s : SatS X.K cl W st H) (l : SatL X.K cl W ρ σ H) (o : ORp X.K cl ρ σ W v d) (h : Aft X.K cl E (Rp X.K cl) W H (setD d st) Q) :
    rSetX X.K X.w [v] H fun x H1 => rSortX X.w [x] H1 Q := by
  have key : ∀ (xs : List Str) (a : Addr), (xs.length < 4000 ∧ xs.eraseDups.length < 64) → v = .ref a → (SqL X.K H a (xs.map V.str) ∨ SqT X.K H a (xs.map V.str)) → Aft X.K cl E (Rp X.K cl) W H (.ok (.lst ((setS xs).map .str)) st) Q → rSetX X.K X.w [v] H fun x H1 => rSortX X.w [x] H1 Q := by
    intro xs a hx e hs h
    subst e
    refine ⟨a, xs, rfl, hs, by show _ < 4096; omega, fun p m hn hm => ⟨p, xs, m, rfl, upd_same, by omega, fun p2 hn2 => ?_⟩⟩
    have g1 : Grow W H ⟨upd W.F p (TxO X.w p xs m), W.A⟩ := grow_new s.ex hn
    have s1 := s.new (o := TxO X.w p xs m) hn txO_nt
    have h2 := Aft.mono h g1 (keep_new hn) s1
    exact h2.newL s1 (RpAll.ofStrs _) hn2
  unfold setD at h
  split at h
  · rename_i ds e
    split at h
    · rename_i xs ex
      split at h
      · rename_i hx
        obtain ⟨a, vs, rfl, h1, h2⟩ := lst_of s l o e
        rw [strsOf_eq ex] at h2
        exact key xs a hx rfl (.inl (by rw [← h2.strs]; exact .inl (.inl h1))) h
      · exact h.elim
    · exact h.elim
  · rename_i ds e
    split at h
    · rename_i xs ex
      split at h
      · rename_i hx
        obtain ⟨a, vs, rfl, h1, h2, _⟩ := tup_of s o e
        rw [strsOf_eq ex] at h2
        exact key xs a hx rfl (.inr (by rw [← h2.strs]; exact h1)) h
      · exact h.elim
    · exact h.elim
  · exact h.elim
theorem bt_set : bootBuiltins "set" = some (.type "set") := by decide +kernel
theorem bt_srt : bootBuiltins "sorted" = some (.builtin "sorted") := by decide +kernel
theorem dv_sortSet {fa : Ev → S → R D} {a : Expr} {p1 p2 p3 p4 : Pos} (hc : X.calm = true) (hg : Gl X "sorted") (hm : X.mg "sorted" = none) (hg2 : Gl X "set") (hm2 : X.mg "set" = none) (ha : DO X cl E a fa)
    (h1 : starEach [a] X.env = (false, eval a X.env) :: starEach [] X.env := by rfl) : DV X cl E (.Call (.Name "sorted" p1) [.Call (.Name "set" p2) [a] [] p3] [] p4) (dUn setD fa) := by
  refine PEimp (pe_callB (cr_sortX hc) hg hm bt_srt (pa_cons (pe_callTy (cr_setX hc) hg2 hm2 bt_set (pa_cons ha pa_nil h1) (by decide) (by decide) h1 (by rfl)) pa_nil rfl) (by decide) (by decide) rfl rfl) fun σ H Q h => ?_
  obtain ⟨W, ρ, st, s, l, h⟩ := h
  refine ⟨W, ρ, st, s, l, (Aft.peel h).imp (fun _ _ _ r => r) ?_⟩
  rintro x H1 ⟨dx, st1, W1, g1, k1, s1, r1, h1⟩
  exact rd_set s1 (l.keep g1 k1) r1 h1
end
end DL
set_option maxHeartbeats 4000000
/-! The data layer, part u: enumerate. -/
namespace DL
open PySem PySem.Spec PyProof.Rows L2

/-- enumerate(v) of what begins so -/
theorem enum_meets {v : Value} {o : Obj} {H : Heap → Prop} (B : Begins v o H) :
    Meets (Builtin.«enumerate.__new__» ⟨[.type "enumerate", v], []⟩) (fun _ R s => H s.heap ∧
      R (.ok (.ret (.ref (s.heap.push o).objs.size))) { s with heap := (s.heap.push o).push { cls := .type "enumerate", data := .fields #[.none, .bool false, .ref s.heap.objs.size, rawInt 0, .none, .none] } }) :=
  .of_wp fun prog w A R s h => by
    obtain ⟨hp, g, d, tk, os⟩ := s
    obtain ⟨h1, h⟩ := h
    have hsub := sub_enumerate
    have q1 : ∀ {A' : Around} {E : Value → Shared → Prop} {Q : Value → Shared → Prop}, Q (.ref hp.objs.size) ⟨hp.push o, g, d, tk, os⟩ → wpAny (model prog w) A' (pyIter v) Q E ⟨hp, g, d, tk, os⟩ := fun q => B.iter prog w _ _ ⟨hp, g, d, tk, os⟩ _ h1 q
    wp_walk using q1
    refine wpAny_stack_any fun st => wpAny_pure ?_
    split
    · rename_i c _ _ _ _ _
      cases (c == Value.type "enumerate")
      · wp_walk using q1
        exact ⟨_, rfl, h⟩
      · wp_walk using q1
        exact ⟨_, rfl, h⟩
    · wp_walk using q1
      exact ⟨_, rfl, h⟩
theorem enum_call {prog : Program} {w : World} {A : Around} {E : Value → Shared → Prop} {s : Shared} {v : Value} {o : Obj} {H : Heap → Prop} {Q : Value → Shared → Prop} (B : Begins v o H) (h1 : H s.heap)
    (h : ∀ h', IsEnum h' (s.heap.objs.size + 1) s.heap.objs.size 0 .none → h'.get? s.heap.objs.size = some o → (∀ b o, s.heap.get? b = some o → h'.get? b = some o) → Q (.ref (s.heap.objs.size + 1)) { s with heap := h' }) :
    wpAny (model prog w) A (call (.type "enumerate") [v]) Q E s := by
  refine callType_new F.called_enumerate (by decide) (F.typeCall_enumerate_1 _) (F.newCall_enumerate_1 _) (fun obj => F.args_object_init_2 obj _) F.entry_enumerate_new (enum_meets B) ⟨h1, ?_⟩
  have z1 : (s.heap.push o).objs.size = s.heap.objs.size + 1 := Heap.size_push ..
  show _ ∧ _
  rw [z1]
  have he : IsEnum ((s.heap.push o).push { cls := .type "enumerate", data := .fields #[.none, .bool false, .ref s.heap.objs.size, rawInt 0, .none, .none] }) (s.heap.objs.size + 1) s.heap.objs.size 0 .none := by
    have q := Heap.get?_push_size (s.heap.push o) (o := { cls := .type "enumerate", data := .fields #[.none, .bool false, .ref s.heap.objs.size, rawInt 0, .none, .none] }) rfl
    rw [z1] at q
    exact q
  exact ⟨⟨_, he, rfl⟩, h _ he (Heap.get?_push_of_some _ (Heap.get?_push_size _ B.free)) fun b o x => Heap.get?_push_of_some _ (Heap.get?_push_of_some _ x)⟩
/-- the tuple at a, each item in a new pair -/
def IteT (K : PySem.W.Frag) (a : Addr) : It :=
  ⟨fun i H => ∃ (xs : List V) (x : V), SqT K H a xs ∧ xs[i]? = some x, fun i H v H' => ∃ T x, v = .ref T ∧ H T = none ∧ H' = upd H T (.tup [.int (i : Nat), x]) ∧ ∀ xs, SqT K H a xs → xs[i]? = some x, fun i H => ∃ xs : List V, SqT K H a xs ∧ xs.length = i⟩
theorem turn_enumT {P : Program} {w : World} {K : PySem.W.Frag} {elts : List Expr} {kk : Nat} {tpos : Pos} (a e it : Addr) (hea : e ≠ a) (hia : a ≠ it) :
    Turn P w K (.Tuple elts kk tpos) (IteT K a) [e, it] e (fun i h => (∃ old, IsEnum h e it ((i : Nat) : Int) old) ∧ h.IsTupleIter it a i ∧ e ≠ it) where
  mem := by simp
  obj := fun i h st b hb => by
    obtain ⟨⟨old, he⟩, ⟨o, ho, hc, hd⟩, _⟩ := st
    have e' : b = e ∨ b = it := by simpa using hb
    rcases e' with rfl | rfl
    · exact ⟨_, he, fun v q => nomatch q⟩
    · exact ⟨o, ho, fun v q => by rw [hd] at q; cases q⟩
  keep := fun i h h' st k => let ⟨⟨old, he⟩, hi, hne⟩ := st; ⟨⟨old, k e (by simp) _ he⟩, hi.at fun o q => k it (by simp) o q, hne⟩
  item := by
    intro X hP hw hK hc i pins s σ H E I hf st hg
    subst hP hw hK
    obtain ⟨⟨old, he⟩, hit, hne⟩ := st
    obtain ⟨xs, x, hq, hx⟩ := hg
    obtain ⟨its, rv, p, hz⟩ := I.tuple hq
    obtain ⟨u, hu, ru⟩ := rv.get hx
    have hel : e < s.heap.objs.size := Heap.lt_size he
    have hil : it < s.heap.objs.size := by obtain ⟨_, q, _⟩ := hit; exact Heap.lt_size q
    have hlt : i < its.toArray.size := by
      rw [List.size_toArray]
      exact (List.getElem?_eq_some_iff.mp hu).1
    refine wpAny_pyNext_enum_itemC (Draws.tuple (A := X.A.in1) (I.ok.hd hc) it a hia its.toArray) he ⟨hit, p⟩ hlt hne (by simp only [List.mem_cons, List.not_mem_nil, or_false, not_or]; exact ⟨hne, hea⟩) fun y h' tk hy ho hst' hT hsz hk => ?_
    have ey : y = u := by
      have : its.toArray[i]? = some u := by simpa using hu
      rw [show its.toArray[i]? = some y from hy] at this
      exact Option.some.inj this
    subst ey
    refine ⟨_, rfl, wpAny_letOwnedTupleGo_enum (s := { s with heap := h', toks := tk + 1 }) ho fun h'' he' sb => ?_⟩
    have hT2 : h''.get? s.heap.objs.size = some { cls := .type "tuple", data := .seq #[.int i tk, y] } := (sb.2 _ (Nat.ne_of_gt hel)).trans hT
    have new : ObjOk X.prog X.w (upd H s.heap.objs.size (.tup [.int (i : Nat), x])) h'' s.heap.objs.size (.tup [.int (i : Nat), x]) := ⟨by show 2 ≤ sizeLine; decide, [.int i tk, y], .cons ⟨_, rfl⟩ (.cons ru .nil), ⟨_, hT2, rfl, _, rfl⟩⟩
    have I1 : Inv X pins σ (upd H s.heap.objs.size (.tup [.int (i : Nat), x])) { s with heap := h'', toks := tk + 1 } :=
      I.turnedNew (ch := [e, it]) (fun b ob hb q => (sb.2 b (fun z => hb (by simp [z]))).trans (hk b ob (fun z => hb (by simp [z])) (fun z => hb (by simp [z])) q)) hf (Nat.le_refl _) new
    refine ⟨.ref s.heap.objs.size, _, I1, rfl, ⟨_, x, rfl, I.hok.fresh (Nat.le_refl _), rfl, fun ys hy => by rw [I.tuple_inj hy hq]; exact hx⟩, ⟨⟨y, ?_⟩, hst'.1.at fun o q => (sb.2 it (Ne.symm hne)).trans q, hne⟩, fun b hb => ?_⟩
    · have e1 : ((i + 1 : Nat) : Int) = (i : Int) + 1 := by omega
      rw [e1]
      exact he'
    · have hb' : b < s.heap.objs.size := by
        have e' : b = e ∨ b = it := by simpa using hb
        rcases e' with rfl | rfl
        · exact hel
        · exact hil
      rw [upd_ne (Nat.ne_of_lt hb')]
      exact (hf b hb).1
  done := by
    intro X hP hw hK hc i pins s σ H E I hf st hg
    subst hP hw hK
    obtain ⟨⟨old, he⟩, hit, hne⟩ := st
    obtain ⟨xs, hq, hx⟩ := hg
    obtain ⟨its, rv, p, hz⟩ := I.tuple hq
    obtain ⟨f0, f1, f2, f3, f4, f5⟩ := hf it (by simp)
    have hl := rv.length
    have hge : its.toArray.size = i := by rw [List.size_toArray]; omega
    have hst : s.heap.IsTupleIter it a its.toArray.size ∧ s.heap.IsTuple a its.toArray := by rw [hge]; exact ⟨hit, p⟩
    exact wpAny_pyNext_enum_endD (Draws.tuple (A := X.A.in1) (I.ok.hd hc) it a hia its.toArray) he hst fun h' eb => ⟨rfl, I.turned (t' := s.toks) (fun b o hb q => eb b o hb q) f0 f1 f3 f4 f5⟩
  self := fun A i s Q E st h => let ⟨⟨_, he⟩, _⟩ := st; wpAny_pyIter_enum he h
def iEnumT (K : PySem.W.Frag) (ta : TA) : TI := fun σ H R => ta σ H fun vs H1 => ∃ a xs, vs = [.ref a] ∧ SqT K H1 a xs ∧ R (IteT K a) H1
theorem pi_enumT {X : Cx} {e : Expr} {ta : TA} {p pos tpos : Pos} {elts : List Expr} {kk : Nat} (hg : Gl X "enumerate") (hm : X.mg "enumerate" = none) (ha : PA X [e] ta) (hs : starEach [e] X.env = [(false, eval e X.env)] := by rfl) :
    PI X (.Tuple elts kk tpos) (.Call (.Name "enumerate" p) [e] [] pos) (iEnumT X.K ta) := by
  refine ⟨fun pins s σ H R I h => ?_⟩
  refine Call_ (ld_blt I hg hm boot_enumerate (PyProof.Rows.callWith_type1 (thn (ha.run pos pins s σ H _ I h) fun us s1 hh => ?_) hs rfl))
  obtain ⟨vs, H1, I1, r1, a, xs, ex, hq, q⟩ := hh
  subst ex
  cases r1 with
  | cons r rr =>
    cases rr
    cases r
    obtain ⟨its, rv, p', hz⟩ := I1.tuple hq
    have hal : a < s1.heap.objs.size := by obtain ⟨o, y, _⟩ := p'; exact Heap.lt_size y
    refine enum_call (begins_tuple a its.toArray) p' fun h' he hit hk => wpAny_pyIter_enum he ?_
    have I2 : Inv X pins σ H1 { s1 with heap := h' } := I1.kept (t' := s1.toks) hk
    refine ⟨s1.heap.objs.size + 1, [s1.heap.objs.size + 1, s1.heap.objs.size], _, _, H1, rfl, I2, turn_enumT a (s1.heap.objs.size + 1) s1.heap.objs.size (Nat.ne_of_gt (Nat.lt_succ_of_lt hal)) (Nat.ne_of_lt hal), ⟨⟨.none, he⟩, ⟨_, hit, rfl, rfl⟩, Nat.succ_ne_self _⟩, fun b hb => ?_, q⟩
    have e' : b = s1.heap.objs.size + 1 ∨ b = s1.heap.objs.size := by simpa using hb
    have hle : s1.heap.objs.size ≤ b := by
      rcases e' with rfl | rfl
      · exact Nat.le_add_right _ _
      · exact Nat.le_refl _
    exact I1.fpOk hle (I1.hok.fresh hle)
theorem enum_get {a : List D} {i : Nat} {d : D} (e : (a.zipIdx.map fun p => D.pr (.int p.2) p.1)[i]? = some d) : ∃ x, a[i]? = some x ∧ d = .pr (.int (i : Nat)) x := by
  rw [List.getElem?_map, Option.map_eq_some_iff] at e
  obtain ⟨⟨x, j⟩, h1, rfl⟩ := e
  rw [List.getElem?_zipIdx, Option.map_eq_some_iff] at h1
  obtain ⟨y, h2, h3⟩ := h1
  cases h3
  exact ⟨x, h2, by simp⟩
theorem di_enum {X : Cx} {cl : Cl} {E : XK} {e : Expr} {g : Ev → S → R (List D)} {p pos tpos : Pos} {elts : List Expr} {kk : Nat} (hg : Gl X "enumerate") (hm : X.mg "enumerate" = none) (ha : DA X cl E [e] g) (hs : starEach [e] X.env = [(false, eval e X.env)] := by rfl) :
    DI X cl E (.Tuple elts kk tpos) (.Call (.Name "enumerate" p) [e] [] pos) (dEnum g) := by
  refine PIimp (PIor (pi_enum hg hm ha hs) (pi_enumT hg hm ha hs)) fun σ H R h => ?_
  obtain ⟨W, ρ, st, s, l, h⟩ := h
  unfold dEnum at h
  cases q : g ρ st with
  | stuck => rw [q] at h; exact (show False from h).elim
  | ex x st1 =>
    left
    refine ⟨W, ρ, st, s, l, ?_⟩
    rw [q] at h ⊢
    exact h
  | ok ds st1 =>
    rw [q] at h
    have h0 : Aft X.K cl E (Wlk X.K cl) W H (enumD ds st1) R := h
    clear h
    unfold enumD at h0
    split at h0
    · left
      refine ⟨W, ρ, st, s, l, ?_⟩
      rw [q]
      intro vs0 H1 W1 g1 k1 s1 r1
      have h1 := Aft.mono h0 g1 k1 s1
      cases r1 with
      | cons r rr =>
        cases rr
        cases r with
        | lst hf rf =>
          rename_i b vs
          refine ⟨b, vs, rfl, .inl (.inl (s1.ex _ _ hf)), Aft.now h1 s1 ⟨⟨fun H => SqL X.K H b vs, YPair (fun i => some (.int (i : Nat))) (fun i => vs[i]?), ?_, fun H hs => .inl (.inl (hs _ _ hf)), fun i d H x H' W2 st e hw hA s y => ?_⟩⟩⟩
          · rw [List.length_map, List.length_zipIdx, ← rf.length]
            exact walk_enum (K := X.K) (a := b) (xs := vs)
          · obtain ⟨T, x1, y1, rfl, hn, rfl, h3, h4⟩ := y
            obtain ⟨dx, e1, rfl⟩ := enum_get e
            obtain ⟨v1, q1, t1⟩ := rf.get e1
            cases h3
            rw [show vs[i]? = some y1 from h4] at q1
            cases q1
            exact pair_step s hn (.int _) (t1.mono hw hA)
    · right
      refine ⟨W, ρ, st, s, l, ?_⟩
      rw [q]
      intro vs0 H1 W1 g1 k1 s1 r1
      have h1 := Aft.mono h0 g1 k1 s1
      cases r1 with
      | cons r rr =>
        cases rr
        cases r with
        | tup hf rf =>
          rename_i b vs
          refine ⟨b, vs, rfl, same_sqt s1.ex hf.1, Aft.now h1 s1 ⟨⟨fun H => SqT X.K H b vs, YPair (fun i => some (.int (i : Nat))) (fun i => vs[i]?), ?_, fun H hs => same_sqt hs hf.1, fun i d H x H' W2 st e hw hA s y => ?_⟩⟩⟩
          · rw [List.length_map, List.length_zipIdx, ← rf.length]
            refine ⟨fun i _ hi q => ⟨vs, vs[i], q, by simp [hi]⟩, fun _ q => ⟨vs, q, rfl⟩, fun i H v H' _ q y => ?_⟩
            obtain ⟨T, x, h1, h2, h3, h4⟩ := y
            exact ⟨T, .int (i : Nat), x, h1, h2, h3, rfl, h4 vs q⟩
          · obtain ⟨T, x1, y1, rfl, hn, rfl, h3, h4⟩ := y
            obtain ⟨dx, e1, rfl⟩ := enum_get e
            obtain ⟨v1, q1, t1⟩ := rf.get e1
            cases h3
            rw [show vs[i]? = some y1 from h4] at q1
            cases q1
            exact pair_step s hn (.int _) (t1.mono hw hA)
    · exact h0.elim
end DL
set_option maxHeartbeats 4000000
/-! The data layer, part v: defs that raise, defs with lambdas, the head with tables. -/
namespace DL
open PySem PySem.Spec PyProof.Rows L2

/-! ### own exception classes, by a Bool -/
/-- own classes, then tl -/
def refsT (tl : List Value) : List Value → Bool
  | .ref _ :: r => refsT tl r
  | l => l == tl
theorem refsT_cases (tl l : List Value) (h : refsT tl l = true) : (∃ c r, l = .ref c :: r ∧ refsT tl r = true) ∨ l = tl := by
  unfold refsT at h
  split at h
  · exact .inl ⟨_, _, rfl, h⟩
  · exact .inr (beq_iff_eq.mp h)
theorem refsT_pass {tl : List Value} (hp : ∀ self : Value, refuseLoop self "__setattr__" tl = pure ()) (self : Value) : ∀ l : List Value, refsT tl l = true → refuseLoop self "__setattr__" l = pure ()
  | [], h => by
    rcases refsT_cases tl [] h with ⟨c, r, e, _⟩ | e
    · cases e
    · rw [e]; exact hp self
  | a :: r, h => by
    rcases refsT_cases tl (a :: r) h with ⟨c, r', e, h'⟩ | e
    · cases e
      rw [refuseLoop_ref]
      exact refsT_pass hp self r h'
    · rw [e]; exact hp self
theorem refsT_has {tl : List Value} (X : String) : ∀ l : List Value, refsT tl l = true → l.contains (.type X) = tl.contains (.type X)
  | [], h => by
    rcases refsT_cases tl [] h with ⟨c, r, e, _⟩ | e
    · cases e
    · rw [e]
  | a :: r, h => by
    rcases refsT_cases tl (a :: r) h with ⟨c, r', e, h'⟩ | e
    · cases e
      rw [List.contains_cons, refsT_has X r h']
      rfl
    · rw [e]
abbrev tlV : List Value := [.type "ValueError", .type "Exception", .type "BaseException", .type "object"]
abbrev tlL : List Value := [.type "LookupError", .type "Exception", .type "BaseException", .type "object"]
abbrev tlI : List Value := [.type "IndexError", .type "LookupError", .type "Exception", .type "BaseException", .type "object"]
def oexB (K : PySem.W.Frag) (C : Addr) : Bool := (match K.lookup C with
  | some ⟨.type t, _, .cls cd, sl⟩ => decide (t = "type") && (match cd.mro, sl.toList with
    | .ref C' :: bm, [_, _, _, _, some (.builtin n), _] => decide (C' = C) && (!cd.hasDel && (cd.hasDict && ((decide (n = "ValueError.__new__") && refsT tlV bm) || ((decide (n = "LookupError.__new__") && refsT tlL bm) || (decide (n = "IndexError.__new__") && refsT tlI bm)))))
    | _, _ => false)
  | _ => false) && (He.eqO (PySem.W.findIn K (.ref C) "__setattr__") (some (some (.builtin "object.__setattr__"))) && (decide (PySem.W.subIn K (.ref C) (.type "BaseException") = some true) && (decide (PySem.W.typeIn K (.ref C) = some (.type "type")) && PySem.W.keepIn K (.ref C))))
theorem oexB_ok {K : PySem.W.Frag} {C : Addr} (h : oexB K C = true) : OexG K C := by
  unfold oexB at h
  obtain ⟨h1, h2⟩ := He.ba h
  obtain ⟨h2, h3⟩ := He.ba h2
  obtain ⟨h3, h4⟩ := He.ba h3
  obtain ⟨h4, h5⟩ := He.ba h4
  refine ⟨?_, He.eqO_ok h2, of_decide_eq_true h3, of_decide_eq_true h4, h5⟩
  split at h1
  · rename_i t dd cd sl ho
    obtain ⟨a1, a2⟩ := He.ba h1
    have et : t = "type" := of_decide_eq_true a1
    subst et
    split at a2
    · rename_i C' bm k0 k1 k2 k3 n k5 hm hs
      obtain ⟨b1, c2⟩ := He.ba a2
      obtain ⟨b3, c4⟩ := He.ba c2
      obtain ⟨b4, b5⟩ := He.ba c4
      have e1 := of_decide_eq_true b1
      clear h1 a2 c2 c4
      subst e1
      obtain ⟨nm, bs, mro, ns, qn, hd, sn, sub, ab, col, del⟩ := cd
      dsimp only at hm b3 b4
      have e3 : del = false := by
        cases del
        · rfl
        · cases b3
      subst hm e3 b4
      have hsl : sl = #[k0, k1, k2, k3, some (.builtin n), k5] := by
        obtain ⟨l⟩ := sl
        simp only at hs
        rw [hs]
      subst hsl
      have fin : ∀ {B nI iI : String} {tl : List Value}, ExcBaseFacts B nI iI tl → (∀ self : Value, refuseLoop self "__setattr__" tl = pure ()) → tl.contains (.type "object") = true → n = nI → refsT tl bm = true → ∃ nm q N bs bm sn sub ab col dd k0 k1 k2 k3 k5 B newId initId bmB, K.lookup C' = some (excClassObj nm q C' N bs bm true sn sub ab col dd k0 k1 k2 k3 k5 newId) ∧ ExcBaseFacts B newId initId bmB ∧ (∀ X : String, bm.contains (.type X) = bmB.contains (.type X)) ∧ (Value.ref C' :: bm).contains (.type "object") = true ∧ ∀ self : Value, refuseLoop self "__setattr__" (.ref C' :: bm) = pure () := by
        intro B nI iI tl FB hp hob en hr
        subst en
        refine ⟨nm, qn, ns, bs, bm, sn, sub, ab, col, dd, k0, k1, k2, k3, k5, B, _, iI, tl, ho, FB, fun X => refsT_has X bm hr, ?_, fun self => ?_⟩
        · rw [List.contains_cons, refsT_has "object" bm hr, hob, Bool.or_true]
        · rw [refuseLoop_ref]
          exact refsT_pass hp self bm hr
      rcases Bool.or_eq_true_iff.mp b5 with b5 | b5
      · obtain ⟨x1, x2⟩ := He.ba b5
        exact fin F.excBase_ValueError F.store_ValueError.passes (by decide +kernel) (of_decide_eq_true x1) x2
      · rcases Bool.or_eq_true_iff.mp b5 with b5 | b5
        · obtain ⟨x1, x2⟩ := He.ba b5
          exact fin F.excBase_LookupError F.store_LookupError.passes (by decide +kernel) (of_decide_eq_true x1) x2
        · obtain ⟨x1, x2⟩ := He.ba b5
          exact fin F.excBase_IndexError F.store_IndexError.passes (by decide +kernel) (of_decide_eq_true x1) x2
    · cases a2
  · cases h1
/-- the class x, its __init__ -/
def iniB (K : PySem.W.Frag) (x : Str) (fs : List Str) : Bool := oexB K (He.ga K x) && (He.eqO (PySem.W.findIn K (.ref (He.ga K x)) "__init__") (some (some (.ref (He.ma K (He.ga K x) "__init__")))) && (decide (PySem.W.typeIn K (.ref (He.ma K (He.ga K x) "__init__")) = some (.type "function")) && fs.all fun f => He.eqO (PySem.W.findIn K (.ref (He.ga K x)) f) (some none)))
structure IniC (K : PySem.W.Frag) (C fI : Addr) (fs : List Str) : Prop where
  o : OexG K C
  i : PySem.W.findIn K (.ref C) "__init__" = some (some (.ref fI))
  t : PySem.W.typeIn K (.ref fI) = some (.type "function")
  n : ∀ f ∈ fs, PySem.W.findIn K (.ref C) f = some none
theorem iniB_ok {K : PySem.W.Frag} {x : Str} {fs : List Str} (h : iniB K x fs = true) : IniC K (He.ga K x) (He.ma K (He.ga K x) "__init__") fs := by
  obtain ⟨h1, h2⟩ := He.ba h
  obtain ⟨h2, h3⟩ := He.ba h2
  obtain ⟨h3, h4⟩ := He.ba h3
  exact ⟨oexB_ok h1, He.eqO_ok h2, of_decide_eq_true h3, fun f hf => He.eqO_ok (List.all_eq_true.mp h4 f hf)⟩
/-- the numbers of the classes that are known -/
def okC (l : List Nat) (c : Nat) : Bool := l.contains c
/-- the attributes of the exceptions of the classes xs -/
def xatB (K : PySem.W.Frag) (xs : List Str) (fs : List Str) : Bool := xs.all fun x => xfB K (He.ga K x) && fs.all fun f => He.eqO (PySem.W.findIn K (.ref (He.ga K x)) f) (some none)
theorem xatB_ok {K : PySem.W.Frag} {cl : Cl} {xs : List Str} {fs : List Str} {l : List Nat} (h : xatB K xs fs = true) (hl : ∀ c, okC l c = true → ∃ x ∈ xs, cl.c c = He.ga K x) : XAt K cl (okC l) fs := by
  refine ⟨fun c hc => ?_, fun c hc f hf => ?_⟩
  · obtain ⟨x, hx, e⟩ := hl c hc
    show XfC K (cl.c c)
    rw [e]
    exact xfB_ok (He.ba (List.all_eq_true.mp h x hx)).1
  · obtain ⟨x, hx, e⟩ := hl c hc
    show PySem.W.findIn K (.ref (cl.c c)) f = some none
    rw [e]
    exact He.eqO_ok (List.all_eq_true.mp (He.ba (List.all_eq_true.mp h x hx)).2 f hf)
theorem xat_cl {K : PySem.W.Frag} {cl cl' : Cl} {ok : Nat → Bool} {fs : List Str} (h : cl'.c = cl.c) (x : XAt K cl ok fs) : XAt K cl' ok fs := by
  refine ⟨fun c hc => ?_, fun c hc f hf => ?_⟩
  · show XfC K (cl'.c c)
    rw [h]
    exact x.c c hc
  · show PySem.W.findIn K (.ref (cl'.c c)) f = some none
    rw [h]
    exact x.no c hc f hf
theorem uniq_of {l : List (Addr × Str)} {P : Addr} {q : Str} (hn : (l.map (·.1)).Nodup) (h : (P, q) ∈ l) : ∀ p ∈ l, p.1 = P → p.2 = q := by
  induction l with
  | nil => cases h
  | cons z r ih =>
    intro p hp e
    rw [List.map_cons, List.nodup_cons] at hn
    rcases List.mem_cons.mp h with h | h
    · rcases List.mem_cons.mp hp with hp | hp
      · rw [hp, ← h]
      · exact absurd (List.mem_map.mpr ⟨p, hp, by rw [e, ← h]⟩) hn.1
    · rcases List.mem_cons.mp hp with hp | hp
      · exact absurd (List.mem_map.mpr ⟨(P, q), h, by rw [← e, hp]⟩) hn.1
      · exact ih hn.2 h p hp e
/-- caught -/
def catB (K : PySem.W.Frag) (xs ys : List Str) : Bool := xs.all fun x => decide (PySem.W.exmAny K (.ref (He.ga K x)) (ys.map fun y => .ref (He.ga K y)) = some true)
theorem catB_ok {K : PySem.W.Frag} {cl : Cl} {xs ys : List Str} {l : List Nat} (h : catB K xs ys = true) (hl : ∀ c, okC l c = true → ∃ x ∈ xs, cl.c c = He.ga K x) : ∀ c, okC l c = true → PySem.W.exmAny K (.ref (cl c)) (ys.map fun y => .ref (He.ga K y)) = some true := fun c hc => by
  obtain ⟨x, hx, e⟩ := hl c hc
  show PySem.W.exmAny K (.ref (cl.c c)) _ = some true
  rw [e]
  exact of_decide_eq_true (List.all_eq_true.mp h x hx)
/-! ### defs that raise -/
section
variable {P : Program} {w : World} {K : PySem.W.Frag} {mg : Str → Option Value} {base : Heap} {cl : Cl} {x qual : Str} {params : Arguments} {body : List Stmt} {scope : Scope} {f : Addr} {fd : FuncData} {N ps : List Str} {k : Nat}
theorem fn_E (sem : List D → S → R D) (fb : Ev → S → RS) (F : FunD K x qual params body scope [] [] f fd) (Sc : FnScope N ps scope)
    (hb : ∀ (cdv : Value) (A : Around) (outer : List Env) (s : Shared) (H : Hp) (E : XK) (W0 : Wd), Room k (A.deeper (envOfC qual scope s.heap.objs.size f cdv)) → DSs (cxOf (L2.CX P w) P w K mg base N qual scope f cdv A outer s H E) cl E W0 H body fb) (hs : sem = semOf ps.length N.length fb) (h0 : cl.f = false) :
    FnOk P w K mg base (L2.CX P w) (k + 1) f fd ps (spG K cl sem) := by
  subst hs
  refine fn_D (semOf ps.length N.length fb) fb F Sc (fun ds st h => ?_) hb (fun ds st h => ?_) h0
  · unfold semOf at h
    split at h
    · assumption
    · exact absurd rfl h
  · unfold semOf at h ⊢
    split at h
    · rename_i e
      rw [if_pos e]
      rfl
    · exact absurd rfl h
structure FnE (P : Program) (w : World) (K : PySem.W.Frag) (mg : Str → Option Value) (base : Heap) (cl : Cl) (k : Nat) (x : Str) (st : Stmt) (ps : List Str) (sem : List D → S → R D) (f : Addr) (fd : FuncData) : Prop where
  F : FunD K x x (defArgs st) (defBody st) (defScope st) [] [] f fd
  G : FnOk P w K mg base (L2.CX P w) k f fd ps (spG K cl sem)
  m : mg x = some (.ref f)
  b : Binds K fd ps []
/-- what the context takes -/
theorem passE {X : Cx} {E : XK} (tk : Takes X (fun cls d _ H => E cls d H)) : Passes (L2.CX X.prog X.w) X E := passes_call tk fun _ _ _ _ h => h
/-! ### defs with lambdas -/
theorem fn_TE {at_ : He.Defn} (sem : List D → S → R D) (fb : Ev → S → RS) (F : FunD K x qual params body scope [] [] f fd) (hf : He.fAd K at_ = f) (Sc : FnScope N ps scope)
    (hb : ∀ (A : Around) (outer : List Env) (s : Shared) (H : Hp) (E : XK) (W0 : Wd), Room k (A.deeper (envOfC qual scope s.heap.objs.size f (.ref (He.codeOf K at_)))) → DSs (cxOf (L2.CX P w) P w K mg base N qual scope f (.ref (He.codeOf K at_)) A outer s H E) cl E W0 H body fb) (hs : sem = semOf ps.length N.length fb) (h0 : cl.f = false) :
    FnOk P w K mg base (L2.CX P w) (k + 1) f fd ps (spG K cl sem) := by
  subst hs
  obtain ⟨oc, od, dV, kV, doc, pmv, an, cdv, ct, osl, rfl, lk, hcd, hD, hK⟩ := id F.ex
  obtain ⟨c, rfl⟩ := He.codeIn_ref hcd
  have ec : He.codeOf K at_ = c := by
    subst hf
    exact He.codeOf_eq lk rfl
  refine fn_of lk hcd Sc (fun vs H Q E h => ?_) fun A outer s H vs Q E hr h => ?_
  · obtain ⟨W, st, ds, s, r, h⟩ := h
    rw [r.length]
    unfold semOf at h
    split at h
    · assumption
    · exact h.elim
  · obtain ⟨W, st, ds, s0, r, h⟩ := h
    have hd := hb A outer s H E W (by rw [ec]; exact hr)
    rw [ec] at hd
    refine ⟨_, hd, W, startE N ds, st, ⟨.refl, .refl, s0, satL_start r, fun i es p q => ?_, fun i o p q => ?_⟩, ?_⟩
    · exact absurd q (by
        intro q
        obtain ⟨p', us, h1, h2, h3, _⟩ := (satL_start (K := K) (cl := cl) (N := N) (H := fun _ => none) r).own i es q
        cases h2)
    · exact absurd q (by
        intro q
        obtain ⟨_, p', _, h1, _⟩ := (satL_start (K := K) (cl := cl) (N := N) (H := fun _ => none) r).hd i o q
        obtain ⟨u, e, _⟩ := h1.there
        cases e)
    · unfold semOf at h
      split at h
      · rename_i e
        have h' : Aft K cl E (Rp K cl) W H (retOf (fb (startE N ds) st)) Q := h
        cases q : fb (startE N ds) st with
        | stuck => rw [q] at h'; exact h'
        | brk ρ st' => rw [q] at h'; exact (show False from h').elim
        | ct ρ st' => rw [q] at h'; exact (show False from h').elim
        | ret d st' => rw [q] at h'; exact ⟨fun z => (by rw [h0] at z; cases z), fun v H' W' g k s r => h' v H' W' g k s (r.1 h0)⟩
        | ex y st' => rw [q] at h'; exact h'
        | nx ρ st' => rw [q] at h'; exact fun σ' H' W' _ F' => h' .non H' W' F'.g F'.k F'.s .non
      · exact h.elim
end
/-- a def that is handed the exception -/
def semX (m : Nat) (fb : Ev → S → RS) : Exn → S → R D := fun x st => retOf (fb (.exn x :: List.replicate (m - 1) .no) st)
structure FnH1 (P : Program) (w : World) (K : PySem.W.Frag) (mg : Str → Option Value) (base : Heap) (cl : Cl) (k : Nat) (x a : Str) (st : Stmt) (sem : Exn → S → R D) (f : Addr) (fd : FuncData) : Prop where
  F : FunD K x x (defArgs st) (defBody st) (defScope st) [] [] f fd
  G : FnX P w K mg base cl k f fd a sem
  m : mg x = some (.ref f)
  b : Binds K fd [a] []
theorem u64H {k : Nat} {A : Around} (hr : L2H.RoomH k A) : A.units + 64 < cLine := by have := hr.un; omega
theorem u65H {k : Nat} {A : Around} (hr : L2H.RoomH k A) : A.units + 65 < cLine := by have := hr.un; omega
/-- the room in the suite of the def that tries -/
theorem room_suite {k : Nat} {A : Around} {env : Env} {v : Option Value} (hr : Room (k + 2) A) : L2H.RoomH k ((A.deeper env).mark v) := by
  have h1 := hr.dp
  have h2 := hr.un
  refine ⟨?_, ?_⟩
  · show A.depth + 1 + 3 * k + 5 < _
    omega
  · show A.units + 3 + 16 * k + 200 < _
    omega
end DL
set_option maxHeartbeats 4000000
/-! The data layer, part w: index. -/
namespace DL
open PySem PySem.Spec PyProof.Rows L2
section
variable {X : Cx} {cl : Cl} {E : XK} {fa fb : Ev → S → R D} {o e : Expr} {apos cpos : Pos}
end
end DL
set_option maxHeartbeats 4000000
/-! The data layer, part y: max, min, append to a list of the store. -/
namespace DL
open PySem PySem.Spec PyProof.Rows L2
def maxD : List D → S → R D
  | [a, b], st => (match view a st, view b st with
    | .int i, .int j => .ok (.int (if j > i then j else i)) st
    | _, _ => .stuck)
  | [a], st => (match view a st with
    | .lst ds => (match intsOf ds with
      | some ns => (match ns.max? with
        | some m => .ok (.int m) st
        | none => .stuck)
      | none => .stuck)
    | _ => .stuck)
  | _, _ => .stuck
def minD : List D → S → R D
  | [a, b], st => (match view a st, view b st with
    | .int i, .int j => .ok (.int (if j < i then j else i)) st
    | _, _ => .stuck)
  | [a], st => (match view a st with
    | .lst ds => (match intsOf ds with
      | some ns => (match ns.min? with
        | some m => .ok (.int m) st
        | none => .stuck)
      | none => .stuck)
    | _ => .stuck)
  | _, _ => .stuck
section
variable {X : Cx} {cl : Cl} {E : XK}
theorem cr_minD (hc : X.calm = true) : CallR X (.builtin "min") (rL X.K cl E minD) := by
  intro pins s σ H xs us Q I rv h
  obtain ⟨W, ρ, σ', st, ds, s0, l0, r, h⟩ := h
  unfold minD at h
  split at h
  · rename_i a b
    cases r with
    | cons r1 r2 =>
      cases r2 with
      | cons r2 r3 =>
        cases r3
        split at h
        · rename_i i j e1 e2
          exact call_min2 hc pins s σ H _ us Q I rv ⟨i, j, by rw [int_of r1 e1, int_of r2 e2], h.now s0 (.int _)⟩
        · exact h.elim
  · rename_i a
    cases r with
    | cons r1 r2 =>
      cases r2
      split at h
      · rename_i es e
        obtain ⟨q, vs, rfl, h1, h2⟩ := lst_of s0 l0 r1 e
        split at h
        · rename_i ns en
          rw [intsOf_eq en] at h2
          split at h
          · rename_i m em
            have hm := List.min?_eq_some_iff.mp em
            refine cr_min hc pins s σ H _ us Q I rv ⟨q, ns, rfl, by rw [← h2.ints]; exact .inl (.inl h1), List.length_pos_of_mem hm.1, fun m' h3 h4 => ?_⟩
            obtain rfl : m' = m := Int.le_antisymm (h4 m hm.1) (hm.2 m' h3)
            exact h.now s0 (.int _)
          · exact h.elim
        · exact h.elim
      · exact h.elim
  · exact h.elim
end
end DL
set_option maxHeartbeats 1000000
/-! Dicts of the top with text keys: d[k], d.get(k, x). -/
namespace DL
open PySem PySem.Spec PyProof.Rows L2
/-- a dict of the top: its items -/
structure KdD (K : PySem.W.Frag) (w : World) (a : Addr) (kvs : List (Str × D)) : Prop where
  kd : ∃ es n, KDict K w a es n
  ns : ∀ z, ∃ r, PySem.W.nsIn K a z = some r ∧ (match kvs.lookup z with | some d => ∃ u v, r = some u ∧ RelV v u ∧ ∀ cl W, Rp K cl W v d | none => r = none)
section
variable {X : Cx} {cl : Cl} {E : XK} {fe fx : Ev → S → R D} {e f : Expr} {x : Str} {a : Addr} {kvs : List (Str × D)} {p pos apos cpos : Pos}
end
/-! ### list(x) that gives a list of the store -/
section
variable {X : Cx} {cl : Cl} {E : XK}
end
end DL
set_option maxHeartbeats 4000000
/-! The data layer, part B: own classes: made, attributes, methods. -/
namespace DL
open PySem PySem.Spec PyProof.Rows L2

section
variable {K : PySem.W.Frag} {cl : Cl} {E : XK} {W W' W0 : Wd} {ρ : Ev} {σ : L2.St} {st : S} {H H' H0 : Hp} {v : V} {d : D} {ds : List D} {vs us : List V}
theorem RpF.split : ∀ {vs : List (Str × V)} {fs : List (Str × D)}, RpF K cl W vs fs → ∃ us, vs = (fs.map (·.1)).zip us ∧ (fs.map (·.1)).length = us.length ∧ RpAll K cl W us (fs.map (·.2))
  | _, _, .nil => ⟨[], rfl, rfl, .nil⟩
  | _, _, .cons (x := x) (v := v) q r => by
    obtain ⟨us, h1, h2, h3⟩ := RpF.split r
    refine ⟨v :: us, ?_, ?_, .cons q h3⟩
    · rw [List.map_cons, List.zip_cons_cons, ← h1]
    · rw [List.map_cons, List.length_cons, List.length_cons, h2]
theorem RpF.join : ∀ {ns : List Str} {us : List V} {ds : List D}, ns.length = us.length → RpAll K cl W us ds → RpF K cl W (ns.zip us) (ns.zip ds)
  | [], _, _, _, _ => .nil
  | n :: ns, _, _, h, .nil => by cases h
  | n :: ns, _, _, h, .cons q r => .cons q (RpF.join (Nat.succ.inj h) r)
theorem RpF.none {f : Str} : ∀ {vs : List (Str × V)} {fs : List (Str × D)}, RpF K cl W vs fs → fs.lookup f = none → vs.lookup f = none
  | _, _, .nil, _ => rfl
  | _, _, .cons (x := x) q r, h => by
    rw [List.lookup_cons] at h ⊢
    split at h
    · cases h
    · exact RpF.none r h
theorem RpF.len : ∀ {vs : List (Str × V)} {fs : List (Str × D)}, RpF K cl W vs fs → vs.length = fs.length
  | _, _, .nil => rfl
  | _, _, .cons q r => congrArg Nat.succ r.len
/-- an attribute is stored -/
def setF (f : Str) (d : D) : List (Str × D) → List (Str × D)
  | [] => [(f, d)]
  | (g, x) :: r => if g = f then (g, d) :: r else (g, x) :: setF f d r
theorem RpF.set {f : Str} (q : Rp K cl W v d) : ∀ {vs : List (Str × V)} {fs : List (Str × D)}, RpF K cl W vs fs → RpF K cl W (L2.putF f v vs) (setF f d fs)
  | _, _, .nil => .cons q .nil
  | _, _, .cons (x := x) h r => by
    unfold L2.putF setF
    by_cases e : x = f
    · rw [if_pos e, if_pos e]; exact .cons q r
    · rw [if_neg e, if_neg e]; exact .cons h (RpF.set q r)

/-! ### attributes -/
/-- the class and the attributes of a thing -/
def fldsOf (d : D) (st : S) : Option (Nat × List (Str × D)) := match d with
  | .ob c ns ds => some (c, ns.zip ds)
  | .ref i => (match st[i]? with
    | some (.ins c fs) => some (c, fs)
    | _ => none)
  | _ => none
theorem ins_of {c : Nat} {fs : List (Str × D)} (s : SatS K cl W st H) (r : Rp K cl W v d) (e : fldsOf d st = some (c, fs)) : ∃ a dx vs, v = .ref a ∧ H a = some (.ins (cl c) dx vs) ∧ RpF K cl W vs fs := by
  cases d with
  | ob c' ns ds =>
    cases e
    cases r with
    | ob h1 h2 h3 => exact ⟨_, _, _, rfl, s.ex _ _ h1, RpF.join h2 h3⟩
  | ref i =>
    unfold fldsOf at e
    dsimp only at e
    split at e
    · rename_i c' fs' q
      cases e
      cases r with
      | ref ha =>
        obtain ⟨a, h1, dx, vs, h2, h3⟩ := s.mo i _ q
        rw [ha] at h1
        cases h1
        exact ⟨_, dx, vs, rfl, h2, h3⟩
    · cases e
  | _ => cases e
def attrD (cs : List Nat) (f : Str) (d : D) (st : S) : R D := match fldsOf d st with
  | some (c, fs) => if cs.contains c then (match fs.lookup f with
    | some x => .ok x st
    | none => .stuck) else .stuck
  | none => .stuck
end
section
variable {X : Cx} {cl : Cl} {E : XK} {fo fe : Ev → S → R D} {g gk : Ev → S → R (List D)} {o e : Expr} {es : List Expr} {f x m : Str} {pos p apos : Pos} {cs : List Nat}
theorem dv_attr (hc : ∀ c, cs.contains c = true → Cls X.K (cl c) ∧ NoAttr X.K (cl c) f) (ho : DV X cl E o fo) (hb : attributeBase o f X.env (eval o X.env) = eval o X.env := by rfl) : DV X cl E (.Attribute o f pos) (dUn (attrD cs f) fo) := by
  refine PEimp (pe_fld ho hb) fun σ H Q h => ?_
  obtain ⟨W, ρ, st, s, l, h⟩ := h
  refine ⟨W, ρ, st, s, l, (Aft.peel h).imp (fun _ _ _ r => r) ?_⟩
  rintro v H1 ⟨d, st1, W1, g1, k1, s1, r1, h1⟩
  unfold attrD at h1
  split at h1
  · rename_i c fs ef
    obtain ⟨a, dx, vs, rfl, h2, h3⟩ := ins_of s1 r1 ef
    split at h1
    · rename_i hc'
      split at h1
      · rename_i y ey
        obtain ⟨u, h4, h5⟩ := h3.lookup ey
        obtain ⟨C1, C2⟩ := hc c hc'
        exact ⟨a, cl c, dx, vs, u, rfl, h2, C1, C2, h4, h1.now s1 h5⟩
      · exact h1.elim
    · exact h1.elim
  · exact h1.elim
end
/-! ### self.f = e where self is being made -/
section
variable {K : PySem.W.Frag} {cl : Cl} {E : XK} {W0 W : Wd} {H0 H : Hp} {ρ : Ev} {σ : L2.St} {st : S} {p : Addr} {o : HO} {i : Nat}
/-- an object of one's own changes -/
theorem Full.mutHd {u u' : MO} (F : Full K cl W0 H0 W ρ st σ H) (h : ρ[i]? = some (.hd u)) (hp : σ[i]? = some (some (.ref p))) (hu : u'.nl = true) (r : MoRp K cl W (upd H p o) p u') (ho : NT o) : Full K cl W0 H0 W (ρ.set i (.hd u')) st σ (upd H p o) := by
  obtain ⟨h0, p', h1, h2, h3, h4⟩ := F.l.hd i u h
  rw [hp] at h1
  cases h1
  obtain ⟨w, e1, e2, e3⟩ := h2.there
  have hlst : ∀ vs, H p ≠ some (.lst vs) := fun vs z => e3 h0 vs (by rw [e1] at z; exact Option.some.inj z)
  have sS : SatS K cl W st (upd H p o) := by
    refine ⟨fun a u h => ?_, F.s.len, F.s.nod, F.s.off, fun i ob e => ?_, F.s.nt, tabs_rp F.s.tab h2⟩
    · have : a ≠ p := fun e => by
        rw [e, h3] at h; cases h
      rw [upd_ne this]
      exact F.s.ex a u h
    · obtain ⟨a, h5, h6⟩ := F.s.mo i ob e
      have : a ≠ p := fun e => h4 (e ▸ List.mem_of_getElem? h5)
      exact ⟨a, h5, h6.mono (fun _ _ q => q) (List.prefix_refl _) fun u h => by rw [upd_ne this]; exact h⟩
  refine ⟨F.g, F.k.mut (F.oh i u p h hp).1, sS, ⟨by rw [List.length_set]; exact F.l.len, fun j e q => ?_, fun j fs q => ?_, fun j m fs gs a n q1 q2 q3 q4 => ?_, fun j x q => ?_, fun j o' q => ?_, fun j m o1 o2 a n q1 q2 q3 q4 => ?_⟩, fun j fs a q1 q2 => ?_, fun j o' a q1 q2 => ?_⟩
  · rcases getE_set q with ⟨_, z⟩ | ⟨n, q⟩
    · cases z
    · exact F.l.sh j e q
  · rcases getE_set q with ⟨_, z⟩ | ⟨n, q⟩
    · cases z
    · obtain ⟨a, us, k1, k2, k3, k4, k5⟩ := F.l.own j fs q
      have : a ≠ p := fun z => hlst us (z ▸ k2)
      exact ⟨a, us, k1, by rw [upd_ne this]; exact k2, k3, k4, k5⟩
  · rcases getE_set q1 with ⟨_, z⟩ | ⟨_, q1⟩
    · cases z
    · rcases getE_set q2 with ⟨_, z⟩ | ⟨_, q2⟩
      · cases z
      · exact F.l.ne j m fs gs a n q1 q2 q3 q4
  · rcases getE_set q with ⟨_, z⟩ | ⟨n, q⟩
    · cases z
    · exact F.l.xn j x q
  · rcases getE_set q with ⟨rfl, z⟩ | ⟨n, q⟩
    · cases z
      exact ⟨hu, p, hp, r, h3, h4⟩
    · obtain ⟨k0, a, k1, k2, k3, k4⟩ := F.l.hd j o' q
      have : a ≠ p := fun z => F.l.hn i j u o' p n h q hp (z ▸ k1)
      exact ⟨k0, a, k1, k2.mono (fun _ _ z => z) (List.prefix_refl _) fun w e => by rw [upd_ne this]; exact e, k3, k4⟩
  · have back : ∀ {j : Nat} {o' : MO}, (ρ.set i (.hd u'))[j]? = some (.hd o') → ∃ v, ρ[j]? = some (.hd v) := fun q => by
      rcases getE_set q with ⟨rfl, z⟩ | ⟨_, q⟩
      · exact ⟨u, h⟩
      · exact ⟨_, q⟩
    obtain ⟨v1, q1⟩ := back q1
    obtain ⟨v2, q2⟩ := back q2
    exact F.l.hn j m v1 v2 a n q1 q2 q3 q4
  · rcases getE_set q1 with ⟨_, z⟩ | ⟨_, q1⟩
    · cases z
    · exact F.o j fs a q1 q2
  · rcases getE_set q1 with ⟨rfl, z⟩ | ⟨_, q1⟩
    · exact F.oh _ u a h q2
    · exact F.oh j o' a q1 q2
end
def sFld (i c0 : Nat) (f : Str) (fe : Ev → S → R D) : Ev → S → RS := fun ρ st => match ρ[i]? with
  | some (.hd (.ins c fs)) => if c = c0 ∧ fs.length < 1000 then (fe ρ st).toS fun d st => .nx (ρ.set i (.hd (.ins c (setF f d fs)))) st else .stuck
  | _ => .stuck
section
variable {X : Cx} {cl : Cl} {E : XK} {W0 : Wd} {H0 : Hp} {fe : Ev → S → R D} {e : Expr} {f x : Str} {pos p pos' : Pos}
theorem ds_fld (i c0 : Nat) (C1 : Cls X.K (cl c0)) (C2 : NoAttr X.K (cl c0) f) (ho : PE X (.Name x p) (tVar i)) (he : DV X cl E e fe) (hs : swapsWith e (some (.Attribute (.Name x p) f pos')) pos.line X.env = pure false := by rfl) :
    DS X cl E W0 H0 (.Assign [.Attribute (.Name x p) f pos'] e pos) (sFld i c0 f fe) := by
  refine PSimp (ps_fld ho he hs) fun D σ H h => ?_
  obtain ⟨W, ρ, st, F, h⟩ := h
  unfold sFld at h
  split at h
  · rename_i c fs q
    split at h
    · rename_i hc
      obtain ⟨rfl, hl⟩ := hc
      refine ⟨W, ρ, st, F.s, F.l, (Out.peel F h).imp (fun _ _ _ r => r) ?_⟩
      rintro v H1 ⟨d, st1, W1, F1, g1, r, h1⟩
      obtain ⟨_, a, k1, ⟨dx, vs, k2, k3⟩, k4, k5⟩ := F1.l.hd i _ q
      refine ⟨.ref a, k1, a, cl c, dx, vs, rfl, k2, C1, C2, by rw [k3.len]; exact hl, ?_⟩
      exact h1 _ _ W1 .refl (F1.mutHd q k1 rfl ⟨dx, _, upd_same, k3.set r⟩ .ins)
    · exact h.elim
  · exact h.elim
end
/-! ### __init__ -/
/-- what stands in self's slot in the end -/
def retI (r : RS) : R D := match r with
  | .nx ρ s => (match (ρ[0]? : Option Sl) with
    | some (.hd (.ins c fs)) => .ok (.ob c (fs.map (·.1)) (fs.map (·.2))) s
    | _ => .stuck)
  | .ex x s => .ex x s
  | _ => .stuck
/-- the plain function of an __init__: n parameters behind self, m slots -/
def semI (c n m : Nat) (fb : Ev → S → RS) : List D → S → R D := fun ds st => if ds.length = n then retI (fb (.hd (.ins c []) :: (ds.map Sl.sh ++ List.replicate (m - 1 - ds.length) .no)) st) else .stuck
/-- an __init__'s promise by a plain function -/
def spInit (K : PySem.W.Frag) (cl : Cl) (c : Nat) (F : List D → S → R D) : Sp := fun vs H Q E => ∃ (W : Wd) (st : S) (ds : List D) (x dx : Addr) (us : List V) (H1 : Hp), vs = .ref x :: us ∧ H1 x = none ∧ H1 dx = none ∧ dx ≠ x ∧
  H = upd (upd H1 dx (.own x)) x (.ins (cl c) dx []) ∧ SatS K cl W st H1 ∧ RpAll K cl W us ds ∧ Aft K cl E (fun W' b a => b = V.ref x ∧ Rp K cl W' b a) W H1 (F ds st) fun _ H' => Q .non H'
section
variable {P : Program} {w : World} {K : PySem.W.Frag} {mg : Str → Option Value} {base : Heap} {cl : Cl} {CX : CXT} {qual : Str} {params : Arguments} {body : List Stmt} {scope : Scope} {dvs : List V} {kws : List (Str × V)} {f : Addr} {fd : FuncData} {N ps : List Str} {k c : Nat}
def startI (N : List Str) (c : Nat) (ds : List D) : Ev := .hd (.ins c []) :: (ds.map Sl.sh ++ List.replicate (N.length - 1 - ds.length) .no)
theorem NT.own {x : Addr} : NT (.own x) := fun _ z => nomatch z
/-- two new objects -/
theorem made_ok {W : Wd} {st : S} {H1 : Hp} {x dx : Addr} {o u : HO} (s : SatS K cl W st H1) (h1 : H1 x = none) (h2 : H1 dx = none) (hn : dx ≠ x) :
    SatS K cl W st (upd (upd H1 dx o) x u) ∧ Keep W.A H1 (upd (upd H1 dx o) x u) ∧ W.F x = none ∧ x ∉ W.A := by
  have f0 : ∀ {a : Addr}, H1 a = none → W.F a = none := fun {a} e => by
    cases q : W.F a with
    | none => rfl
    | some v => rw [s.ex _ _ q] at e; cases e
  have a0 : ∀ {a : Addr}, H1 a = none → a ∉ W.A := fun e m => s.ne m (.of e) rfl
  have sA := s.mut (o := o) (a0 h2) (f0 h2) (.inl h2)
  have sB := sA.mut (p := x) (o := u) (a0 h1) (f0 h1) (.inl (by rw [upd_ne hn.symm]; exact h1))
  refine ⟨sB, fun a v e t m => ?_, f0 h1, a0 h1⟩
  rw [upd_ne (ne_of_none e h1), upd_ne (ne_of_none e h2)]
  exact e
theorem satL_startI {W : Wd} {H : Hp} {vs : List V} {ds : List D} {x dx : Addr} (r : RpAll K cl W vs ds) (h1 : H x = some (.ins (cl.c c) dx [])) (h2 : W.F x = none) (h3 : x ∉ W.A) (hN : vs.length + 1 ≤ N.length) : SatL K cl W (startI N c ds) (L2.start N (.ref x :: vs)) H := by
  have hl := r.length
  have at_ : ∀ (i : Nat) (s : Sl), (startI N c ds)[i]? = some s → (i = 0 ∧ s = .hd (.ins c [])) ∨ (∃ j d, i = j + 1 ∧ s = .sh d ∧ ds[j]? = some d) ∨ s = .no := fun i s e => by
    unfold startI at e
    cases i with
    | zero => exact .inl ⟨rfl, (Option.some.inj e).symm⟩
    | succ i =>
      rw [List.getElem?_cons_succ] at e
      by_cases hi : i < (ds.map Sl.sh).length
      · rw [List.getElem?_append_left hi, List.getElem?_map] at e
        cases q : ds[i]? with
        | none => rw [q] at e; cases e
        | some d => rw [q] at e; exact .inr (.inl ⟨i, d, rfl, (Option.some.inj e).symm, q⟩)
      · rw [List.getElem?_append_right (by omega), List.getElem?_replicate] at e
        split at e
        · exact .inr (.inr (Option.some.inj e).symm)
        · cases e
  refine ⟨?_, fun i d e => ?_, fun i d e => ?_, fun i j ds es p _ e => ?_, fun i y e => ?_, fun i o e => ?_, fun i j o u p n e1 e2 => ?_⟩
  · unfold startI L2.start
    simp only [List.length_cons, List.length_append, List.length_map, List.length_replicate]
    omega
  · rcases at_ i _ e with ⟨_, z⟩ | ⟨j, d', rfl, z, q⟩ | z
    · cases z
    · cases z
      obtain ⟨v, h5, h6⟩ := r.get q
      refine ⟨v, ?_, h6⟩
      unfold L2.start
      rw [List.getElem?_append_left (by rw [List.length_map, List.length_cons]; have := (List.getElem?_eq_some_iff.mp h5).1; omega), List.getElem?_map, List.getElem?_cons_succ, h5]
      rfl
    · cases z
  · rcases at_ i _ e with ⟨_, z⟩ | ⟨j, d', rfl, z, q⟩ | z <;> cases z
  · rcases at_ i _ e with ⟨_, z⟩ | ⟨j, d', rfl, z, q⟩ | z <;> cases z
  · rcases at_ i _ e with ⟨_, z⟩ | ⟨j, d', rfl, z, q⟩ | z <;> cases z
  · rcases at_ i _ e with ⟨rfl, z⟩ | ⟨j, d', rfl, z, q⟩ | z
    · cases z
      exact ⟨rfl, x, rfl, ⟨dx, [], h1, .nil⟩, h2, h3⟩
    · cases z
    · cases z
  · rcases at_ i _ e1 with ⟨rfl, z⟩ | ⟨j, d', rfl, z, q⟩ | z
    · rcases at_ j _ e2 with ⟨rfl, z⟩ | ⟨j, d', rfl, z, q⟩ | z
      · exact absurd rfl n
      · cases z
      · cases z
    · cases z
    · cases z
def Cl.me (cl : Cl) (x : Addr) : Cl := ⟨cl.c, cl.T, none, some x, false⟩
theorem me_c (cl : Cl) (x : Addr) : cl.c = (cl.me x).c := rfl
theorem me_T (cl : Cl) (x : Addr) : cl.T = (cl.me x).T := rfl
theorem fn_I (sem : List D → S → R D) (fb : Ev → S → RS) (F : FunD K "__init__" qual params body scope dvs kws f fd) (Sc : FnScope N ps scope) (hps : ps.length ≤ N.length ∧ 0 < ps.length)
    (hb : ∀ (cdv : Value) (A : Around) (outer : List Env) (s : Shared) (H : Hp) (E : XK) (W0 : Wd) (H0 : Hp) (x : Addr), Room k (A.deeper (envOfC qual scope s.heap.objs.size f cdv)) → DSs (cxOf CX P w K mg base N qual scope f cdv A outer s H E) (cl.me x) E W0 H0 body fb)
    (hs : sem = semI c (ps.length - 1) N.length fb) : FnOk P w K mg base CX (k + 1) f fd ps (spInit K cl c sem) := by
  subst hs
  refine F.ok Sc (fun vs H Q E h => ?_) (fun cdv A outer s H vs Q E hr h => ?_)
  · obtain ⟨W, st, ds, x, dx, us, H1, rfl, _, _, _, _, s, r, h⟩ := h
    rw [List.length_cons, r.length]
    unfold semI at h
    split at h
    · omega
    · exact h.elim
  · obtain ⟨W, st, ds, x, dx, us, H1, rfl, n1, n2, n3, rfl, s0, r, h⟩ := h
    have hlen : ds.length = ps.length - 1 := by
      unfold semI at h
      split at h
      · assumption
      · exact h.elim
    unfold semI at h
    rw [if_pos hlen] at h
    have s0' : SatS K (cl.me x) W st H1 := s0.cl (me_c cl x) (me_T cl x)
    have r' : RpAll K (cl.me x) W us ds := r.cl (me_c cl x)
    obtain ⟨sB, kB, fB, aB⟩ := made_ok (o := .own x) (u := .ins (cl c) dx []) s0' n1 n2 n3
    have l0 : SatL K (cl.me x) W (startI N c ds) (L2.start N (.ref x :: us)) (upd (upd H1 dx (.own x)) x (.ins (cl c) dx [])) := satL_startI r' upd_same fB aB (by rw [r.length]; omega)
    have hd := hb cdv A outer s (upd (upd H1 dx (.own x)) x (.ins (cl c) dx [])) E W H1 x hr
    have only : ∀ (i : Nat) (t : Sl), (startI N c ds)[i]? = some t → i = 0 ∨ (∃ d, t = .sh d) ∨ t = .no := fun i t q => by
      unfold startI at q
      cases i with
      | zero => exact .inl rfl
      | succ i =>
        rw [List.getElem?_cons_succ] at q
        by_cases hi : i < (ds.map Sl.sh).length
        · rw [List.getElem?_append_left hi, List.getElem?_map] at q
          cases z : ds[i]? with
          | none => rw [z] at q; cases q
          | some d => rw [z] at q; exact .inr (.inl ⟨d, (Option.some.inj q).symm⟩)
        · rw [List.getElem?_append_right (by omega), List.getElem?_replicate] at q
          split at q
          · exact .inr (.inr (Option.some.inj q).symm)
          · cases q
    have e0 : (startI N c ds)[0]? = some (.hd (.ins c [])) := rfl
    have t0 : (L2.start N (V.ref x :: us))[0]? = some (some (.ref x)) := rfl
    refine ⟨_, hd, W, startI N c ds, st, ⟨.refl, kB, sB, l0, fun i es p q q2 => ?_, fun i o p q q2 => ?_⟩, ?_⟩
    · rcases only i _ q with rfl | ⟨d, z⟩ | z
      · rw [e0] at q; cases q
      · cases z
      · cases z
    · rcases only i _ q with rfl | ⟨d, z⟩ | z
      · rw [t0] at q2
        cases q2
        exact ⟨.of n1, fun _ a ha => Option.some.inj ha⟩
      · cases z
      · cases z
    · have h' : Aft K cl E (fun W' b a => b = V.ref x ∧ Rp K cl W' b a) W H1 (retI (fb (startI N c ds) st)) fun _ H' => Q .non H' := h
      cases q : fb (startI N c ds) st with
      | stuck => rw [q] at h'; exact h'
      | brk ρ st' => rw [q] at h'; exact (show False from h').elim
      | ct ρ st' => rw [q] at h'; exact (show False from h').elim
      | ret d st' => rw [q] at h'; exact (show False from h').elim
      | ex y st' =>
        rw [q] at h'
        intro dx' H' W' g k s r
        obtain ⟨vs', r1, r2⟩ := r
        exact h' dx' H' W' g k (s.cl (me_c cl x).symm (me_T cl x).symm) ⟨vs', r1, r2.cl (me_c cl x).symm⟩
      | nx ρ st' =>
        rw [q] at h'
        intro σ' H' W' _ F'
        unfold retI at h'
        dsimp only at h'
        split at h'
        · rename_i c' fs q0
          obtain ⟨_, p, k1, ⟨dx', vs', k2, k3⟩, k4, k5⟩ := F'.l.hd 0 _ q0
          obtain ⟨g1, g2⟩ := F'.oh 0 _ p q0 k1
          have ep : p = x := g2 rfl x rfl
          subst ep
          obtain ⟨zs, z1, z2, z3⟩ := k3.split
          subst z1
          have gg : Grow W H1 ⟨upd W'.F p (.ins (cl.c c') dx' ((fs.map (·.1)).zip zs)), W'.A⟩ := F'.g.frz g1 k4
          have ss : SatS K cl ⟨upd W'.F p (.ins (cl.c c') dx' ((fs.map (·.1)).zip zs)), W'.A⟩ st' H' := (F'.s.frz k5 k2 k4).cl (me_c cl p).symm (me_T cl p).symm
          have hf : Same W'.F (upd W'.F p (.ins (cl.c c') dx' ((fs.map (·.1)).zip zs))) := fun a u h => by
            rw [upd_ne fun e => by rw [e, k4] at h; cases h]
            exact h
          have z4 : RpAll K (cl.me p) ⟨upd W'.F p (.ins (cl.c c') dx' ((fs.map (·.1)).zip zs)), W'.A⟩ zs (fs.map (·.2)) := by
            have z5 : RpAll K (cl.me p) W' zs (fs.map (·.2)) := z3
            refine RpAll.mono (W := W') ?_ ?_ z5
            · exact hf
            · exact List.prefix_refl _
          have zz := z4.cl (me_c cl p).symm
          exact h' (.ref p) H' _ gg F'.k ss ⟨rfl, .ob (dx := dx') upd_same z2 zz⟩
        · exact h'.elim
end
end DL
set_option maxHeartbeats 4000000
/-! The data layer, part C: own classes called, methods called. -/
namespace DL
open PySem PySem.Spec PyProof.Rows L2

/-! ### binding with defaults -/
/-- a call with n positional values, keywords ks, defaults dvs: the values by the places pm -/
def KBD (K : PySem.W.Frag) (fd : FuncData) (ps : List Str) (n : Nat) (ks : List Str) (dvs : List V) (pm : List Nat) : Prop := ∃ its : List Value, KBn K fd ps n ks (fun us ws => gath (us ++ (ws ++ its)) pm) (fun vs zs => gath (vs ++ (zs ++ dvs)) pm)
theorem kbd_of {K : PySem.W.Frag} {x qual : Str} {params : Arguments} {body : List Stmt} {scope : Scope} {dvs : List V} {kws : List (Str × V)} {f : Addr} {fd : FuncData} {ps : List Str} {n : Nat} {ks : List Str} {pm : List Nat} (F : FunD K x qual params body scope dvs kws f fd) (hd : dvs ≠ [])
    (h : ∀ (T : Addr) (kV doc pmv : Value) (an : Option Addr) (cdv ct : Value) (us its ws : List Value), us.length = n → its.length = dvs.length → ws.length = ks.length →
      ∃ k, bindArgs (PySem.W.fnOf x qual params body scope (.ref T) kV doc pmv an cdv ct) ⟨us, ks.zip ws⟩ = seqItems? (.ref T) >>= k ∧ k (some its.toArray) = pure (ps.zip (gath (us ++ (ws ++ its)) pm))) : KBD K fd ps n ks dvs pm := by
  exact F.kbindsD n ks (fun us its ws => gath (us ++ (ws ++ its)) pm) hd (fun r1 r2 r3 => Vals.gath (r1.append (r3.append r2)) pm) h
/-- without defaults -/
theorem kbd0_of {K : PySem.W.Frag} {x qual : Str} {params : Arguments} {body : List Stmt} {scope : Scope} {kwd : List (Str × V)} {f : Addr} {fd : FuncData} {ps : List Str} {n : Nat} {ks : List Str} {pm : List Nat} (Fn : FunD K x qual params body scope [] kwd f fd)
    (h : ∀ (kV doc pmv : Value) (an : Option Addr) (cdv ct : Value) (us ws : List Value), us.length = n → ws.length = ks.length → bindArgs (PySem.W.fnOf x qual params body scope .none kV doc pmv an cdv ct) ⟨us, ks.zip ws⟩ = pure (ps.zip (gath (us ++ ws) pm))) : KBD K fd ps n ks [] pm := by
  refine ⟨[], ?_⟩
  have := kb_of Fn h
  simp only [List.append_nil]
  exact this
def shiftP (pm : List Nat) : List Nat := 0 :: pm.map (· + 1)
theorem gath_shift {α : Type} (a : α) (l : List α) (pm : List Nat) : gath (a :: l) (shiftP pm) = a :: gath l pm := by
  unfold gath shiftP
  rw [List.filterMap_cons, List.filterMap_map]
  rfl
/-- f(..) with defaults -/
def dCallD (F : List D → S → R D) (dds : List D) (g : Ev → S → R (List D)) : Ev → S → R D := fun ρ st => (g ρ st).bind fun ds st => F (ds ++ dds) st
def dCallKD (F : List D → S → R D) (n m : Nat) (dds : List D) (pm : List Nat) (g gk : Ev → S → R (List D)) : Ev → S → R D := fun ρ st => (g ρ st).bind fun ds st => (gk ρ st).bind fun es st => if ds.length = n ∧ es.length = m then F (gath (ds ++ (es ++ dds)) pm) st else .stuck
section
variable {X : Cx} {cl : Cl} {E : XK} {CX : CXT} {k n c : Nat} {f fI : Addr} {fd : FuncData} {ps ks : List Str} {F : List D → S → R D} {g gk : Ev → S → R (List D)} {fo : Ev → S → R D} {e o : Expr} {es : List Expr} {kws : List Keyword} {pos p apos : Pos} {x m : Str} {dvs : List V} {ds : List Value} {dds : List D} {pm : List Nat}
theorem aft_made {W : Wd} {H : Hp} {r : R D} {Q : VK} {x : Addr} (h : Aft X.K cl E (Rp X.K cl) W H r Q) : Aft X.K cl E (fun W' b a => b = V.ref x ∧ Rp X.K cl W' b a) W H r fun _ H' => V.non = V.non ∧ Q (.ref x) H' := by
  cases r with
  | stuck => exact h
  | ok a st => exact fun b H' W' g k s rp => ⟨rfl, by have := h b H' W' g k s rp.2; rw [rp.1] at this; exact this⟩
  | ex y st => exact h
/-! ### C(..) -/
theorem dv_makeD (M : Mk X.K (cl c) fI) (G : FnOk X.prog X.w X.K X.mg X.base CX k fI fd ps (spInit X.K cl c F)) (hr : Room (k + 1) X.A) (hg : Gl X x) (hm : X.mg x = some (.ref (cl c))) (hb : Binds X.K fd ps ds) (hd : Vals dvs ds) (hv : ∀ W, RpAll X.K cl W dvs dds) (hx : Passes CX X E)
    (ha : DA X cl E (e :: es) g) (hdb : (x == ("__debug__" : Str)) = false := by decide) (he : starEach (e :: es) X.env = (false, eval e X.env) :: starEach es X.env := by rfl) (hpl : (backTo pos (starEach es X.env)).any (·.1) = false := by rfl) :
    DV X cl E (.Call (.Name x p) (e :: es) [] pos) (dCallD F dds g) := by
  refine PEimp (pe_make (dvs := dvs) (E := E) M G hr hg hm hb hd hx ha hdb he hpl) fun σ H Q h => ?_
  obtain ⟨W, ρ, st, s, l, h⟩ := h
  refine ⟨W, ρ, st, s, l, (Aft.peel h).imp (fun _ _ _ r => r) ?_⟩
  rintro xs H1 ⟨ds, st1, W1, g1, k1, s1, r1, h1⟩ y dy n1 n2 n3
  exact ⟨W1, st1, _, y, dy, _, H1, rfl, n1, n2, n3, rfl, s1, r1.append (hv W1), aft_made h1⟩
theorem dv_makeKD0 (M : Mk X.K (cl c) fI) (G : FnOk X.prog X.w X.K X.mg X.base CX k fI fd ps (spInit X.K cl c F)) (hr : Room (k + 1) X.A) (hg : Gl X x) (hm : X.mg x = some (.ref (cl c))) (hb : KBD X.K fd ps 1 ks dvs (shiftP pm)) (hv : ∀ W, RpAll X.K cl W dvs dds) (hx : Passes CX X E)
    (hkw : DK X cl E kws gk) (hall : (backToKw pos (keywordEach kws X.env)).all (·.1.isSome) = true := by rfl) (hks : (backToKw pos (keywordEach kws X.env)).filterMap (·.1) = ks := by rfl)
    (hdb : (x == ("__debug__" : Str)) = false := by decide)
    (hpl : ((backTo pos (starEach [] X.env)).any (·.1) || (backToKw pos (keywordEach kws X.env)).any (·.1.isNone)) = false := by rfl) :
    DV X cl E (.Call (.Name x p) [] kws pos) (dCallKD F 0 ks.length dds pm dNil gk) := by
  obtain ⟨its, hb⟩ := hb
  refine ⟨fun pins s σ H Q I h => ?_⟩
  refine wpAny_Call_Name_kw (ld_glob I hg hm ?_ hdb)
  obtain ⟨W, ρ, st, s0, l, h⟩ := h
  refine PySem.W.callWith_KW0 (h₀ := X.base) I.ok.mod.kin M.kp hall ?_ hpl
  refine thn (hkw.run pos pins s σ H _ I ⟨W, ρ, st, s0, l, Aft.peel (k := fun es st => if ([] : List D).length = 0 ∧ es.length = ks.length then F (gath ([] ++ (es ++ dds)) pm) st else .stuck) h⟩) fun ws s2 ⟨zs, H2, I2, rz, dz, st2, W2, g2, k2, s2', r2, h2⟩ => ⟨I2.kIn, ?_⟩
  rw [hks]
  dsimp only at h2
  split at h2
  · rename_i hl
    refine run_makeN (us := []) (vs := []) (n := 0) M G hr hb hx I2 .nil rz rfl (by rw [r2.length]; exact hl.2) fun y dy n1 n2 n3 => ?_
    show spInit X.K cl c F (gath ([V.ref y] ++ (zs ++ dvs)) (shiftP pm)) _ _ E
    rw [List.cons_append, gath_shift]
    exact ⟨W2, st2, _, y, dy, _, H2, rfl, n1, n2, n3, rfl, s2', RpAll.gath (r2.append (hv W2)) pm, aft_made h2⟩
  · exact h2.elim
/-! ### o.m(..) -/
abbrev MT := List (Nat × (List D → S → R D))
/-- the method for a thing -/
def methOf (m : Str) (tbl : MT) (d : D) (st : S) : Option (List D → S → R D) := match fldsOf d st with
  | some (c, fs) => if (fs.lookup m).isNone then tbl.lookup c else none
  | none => none
def dMeth (m : Str) (tbl : MT) (fo : Ev → S → R D) (g : Ev → S → R (List D)) : Ev → S → R D := fun ρ st => (fo ρ st).bind fun d st => match methOf m tbl d st with
  | some F => (g ρ st).bind fun ds st => F (d :: ds) st
  | none => .stuck
def dMethK (m : Str) (tbl : MT) (n l : Nat) (pm : List Nat) (fo : Ev → S → R D) (g gk : Ev → S → R (List D)) : Ev → S → R D := fun ρ st => (fo ρ st).bind fun d st => match methOf m tbl d st with
  | some F => (g ρ st).bind fun ds st => (gk ρ st).bind fun es st => if ds.length = n ∧ es.length = l then F (d :: gath (ds ++ es) pm) st else .stuck
  | none => .stuck
theorem meth_one {d : D} {st : S} {F' : List D → S → R D} (h : methOf m [(c, F)] d st = some F') : F' = F ∧ ∃ fs, fldsOf d st = some (c, fs) ∧ fs.lookup m = none := by
  unfold methOf at h
  split at h
  · rename_i c' fs e
    split at h
    · rename_i hn
      rw [List.lookup_cons] at h
      split at h
      · rename_i hc
        have : c' = c := beq_iff_eq.mp hc
        subst this
        exact ⟨(Option.some.inj h).symm, fs, e, Option.isNone_iff_eq_none.mp hn⟩
      · cases h
    · cases h
  · cases h
theorem dv_meth {pl : Sem Bool} (ho : DV X cl E o fo) (C : Cls X.K (cl c)) (M : Meth X.K (cl c) m f) (G : FnOk X.prog X.w X.K X.mg X.base CX k f fd ps (spG X.K cl F)) (hr : Room k X.A) (hb : Binds X.K fd ps []) (hx : Passes CX X E) (ha : DA X cl E (e :: es) g)
    (hst : starEach (e :: es) X.env = (false, eval e X.env) :: starEach es X.env := by rfl) (hpl : (backTo pos (starEach es X.env)).any (·.1) = false := by rfl)
    (ht : eval (.Call (.Attribute o m apos) (e :: es) [] pos) X.env = (do
      let ov ← eval o X.env
      standAt apos.atName
      let (f, first) ← holding [ov] (getMethod ov m pl)
      callWith pos f first (backTo pos (starEach (e :: es) X.env)) (backToKw pos (keywordEach [] X.env))) := by rfl) :
    DV X cl E (.Call (.Attribute o m apos) (e :: es) [] pos) (dMeth m [(c, F)] fo g) := by
  refine PEimp (pe_meth (pl := pl) (dvs := []) (E := E) ho C M G hr hb .nil hx ha hst hpl ht) fun σ H Q h => ?_
  obtain ⟨W, ρ, st, s, l, h⟩ := h
  refine ⟨W, ρ, st, s, l, (Aft.peel h).imp (fun _ _ _ r => r) ?_⟩
  rintro x H1 ⟨d, st1, W1, g1, k1, s1, r1, h1⟩
  dsimp only at h1
  split at h1
  · rename_i F' eF
    obtain ⟨rfl, fs, ef, en⟩ := meth_one eF
    obtain ⟨a, dx, vs, rfl, h2, h3⟩ := ins_of s1 r1 ef
    refine ⟨a, dx, vs, rfl, h2, h3.none en, W1, ρ, st1, s1, l.keep g1 k1, (Aft.peel h1).imp (fun _ _ _ r => r) ?_⟩
    rintro xs H2 ⟨ds, st2, W2, g2, k2, s2, r2, h4⟩
    rw [List.append_nil]
    exact ⟨W2, st2, _, s2, .cons (r1.grow g2) r2, h4⟩
  · exact h1.elim
theorem dv_meth0 {pl : Sem Bool} (ho : DV X cl E o fo) (C : Cls X.K (cl c)) (M : Meth X.K (cl c) m f) (G : FnOk X.prog X.w X.K X.mg X.base CX k f fd ps (spG X.K cl F)) (hr : Room k X.A) (hb : Binds X.K fd ps []) (hx : Passes CX X E)
    (ht : eval (.Call (.Attribute o m apos) [] [] pos) X.env = (do
      let ov ← eval o X.env
      standAt apos.atName
      let (f, first) ← holding [ov] (getMethod ov m pl)
      callWith pos f first (backTo pos (starEach [] X.env)) (backToKw pos (keywordEach [] X.env))) := by rfl) :
    DV X cl E (.Call (.Attribute o m apos) [] [] pos) (dMeth m [(c, F)] fo dNil) := by
  refine PEimp (pe_meth0 (pl := pl) (dvs := []) (E := E) ho C M G hr hb .nil hx ht) fun σ H Q h => ?_
  obtain ⟨W, ρ, st, s, l, h⟩ := h
  refine ⟨W, ρ, st, s, l, (Aft.peel h).imp (fun _ _ _ r => r) ?_⟩
  rintro x H1 ⟨d, st1, W1, g1, k1, s1, r1, h1⟩
  dsimp only at h1
  split at h1
  · rename_i F' eF
    obtain ⟨rfl, fs, ef, en⟩ := meth_one eF
    obtain ⟨a, dx, vs, rfl, h2, h3⟩ := ins_of s1 r1 ef
    exact ⟨a, dx, vs, rfl, h2, h3.none en, W1, st1, _, s1, .cons r1 .nil, h1⟩
  · exact h1.elim
theorem dv_methK0 {pl : Sem Bool} (ho : DV X cl E o fo) (C : Cls X.K (cl c)) (M : Meth X.K (cl c) m f) (G : FnOk X.prog X.w X.K X.mg X.base CX k f fd ps (spG X.K cl F)) (hr : Room k X.A) (hb : KBD X.K fd ps 1 ks [] (shiftP pm)) (hx : Passes CX X E)
    (hkw : DK X cl E kws gk) (hall : (backToKw pos (keywordEach kws X.env)).all (·.1.isSome) = true := by rfl) (hks : (backToKw pos (keywordEach kws X.env)).filterMap (·.1) = ks := by rfl)
    (hpl : ((backTo pos (starEach [] X.env)).any (·.1) || (backToKw pos (keywordEach kws X.env)).any (·.1.isNone)) = false := by rfl)
    (ht : eval (.Call (.Attribute o m apos) [] kws pos) X.env = (do
      let ov ← eval o X.env
      standAt apos.atName
      let (f, first) ← holding [ov] (getMethod ov m pl)
      callWith pos f first (backTo pos (starEach [] X.env)) (backToKw pos (keywordEach kws X.env))) := by rfl) :
    DV X cl E (.Call (.Attribute o m apos) [] kws pos) (dMethK m [(c, F)] 0 ks.length pm fo dNil gk) := by
  obtain ⟨its, hb⟩ := hb
  refine ⟨fun pins s σ H Q I h => ?_⟩
  obtain ⟨W, ρ, st, s0, l, h⟩ := h
  refine PySem.W.methodCall_KW (pl := pl) (thn (ho.run pins s σ H _ I ⟨W, ρ, st, s0, l, Aft.peel h⟩) fun u sa hh => ?_) ht
  obtain ⟨x, H1, I1, rx, d, st1, W1, g1, k1, s1, r1, h1⟩ := hh
  dsimp only at h1
  split at h1
  case h_2 => exact h1.elim
  rename_i F' eF
  obtain ⟨rfl, fs, ef, en⟩ := meth_one eF
  obtain ⟨a, dx, vs, rfl, h2, h3⟩ := ins_of s1 r1 ef
  obtain rfl : u = Value.ref a := rx
  refine getmeth_ok I1 h2 C M (h3.none en) ?_
  refine PySem.W.callWith_KW0 (first := [.ref a]) (h₀ := X.base) I1.ok.mod.kin M.kp hall ?_ hpl
  have h1' : Aft X.K cl E (Rp X.K cl) W1 H1 ((gk ρ st1).bind fun es st => if ([] : List D).length = 0 ∧ es.length = ks.length then F' (d :: gath ([] ++ es) pm) st else .stuck) Q := h1
  refine thn (hkw.run pos pins sa σ H1 _ I1 ⟨W1, ρ, st1, s1, l.keep g1 k1, Aft.peel h1'⟩) fun ws sc hh => ?_
  obtain ⟨zs, H3, I3, rz, dz, st3, W3, g3, k3, s3, r3, h5⟩ := hh
  refine ⟨I3.kIn, ?_⟩
  rw [hks]
  split at h5
  · rename_i hl
    refine run_fnN (us := [.ref a]) (vs := [.ref a]) (n := 1) G hr hb hx I3 (.cons rfl .nil) rz rfl (by rw [r3.length]; exact hl.2) ?_
    show spG X.K cl _ (gath (V.ref a :: ([] ++ (zs ++ []))) (shiftP pm)) H3 Q E
    rw [gath_shift, List.append_nil]
    exact ⟨W3, st3, _, s3, .cons (r1.grow g3) (RpAll.gath r3 pm), h5⟩
  · exact h5.elim
end
end DL
set_option maxHeartbeats 4000000
/-! The data layer, part D: dicts that are made and then only read. -/
namespace DL
open PySem PySem.Spec PyProof.Rows L2

/-! ### tables -/
inductive RpK (K : PySem.W.Frag) (cl : Cl) (W : Wd) : List (Key × V) → List (Key × D) → Prop
  | nil : RpK K cl W [] []
  | cons {x : Key} {v : V} {vs : List (Key × V)} {d : D} {ds : List (Key × D)} : Rp K cl W v d → RpK K cl W vs ds → RpK K cl W ((x, v) :: vs) ((x, d) :: ds)
/-- what stands at a key -/
def getK (kvs : List (Key × D)) (k : Key) : Option D := (kvs.find? fun p => decide (p.1 = k)).map (·.2)
/-- in its place, or at the end -/
def setK (kvs : List (Key × D)) (k : Key) (d : D) : List (Key × D) := if (kvs.any fun p => decide (p.1 = k)) = true then kvs.map (fun p => if p.1 = k then (p.1, d) else p) else kvs ++ [(k, d)]
section
variable {K : PySem.W.Frag} {cl : Cl} {E : XK} {W W' : Wd} {ρ : Ev} {σ : L2.St} {st : S} {H H' : Hp} {v : V} {d : D} {ds : List D}
theorem RpK.mono (hf : Same W.F W'.F) (ha : W.A <+: W'.A) : ∀ {vs : List (Key × V)} {kvs : List (Key × D)}, RpK K cl W vs kvs → RpK K cl W' vs kvs
  | _, _, .nil => .nil
  | _, _, .cons h r => .cons (h.mono hf ha) (r.mono hf ha)
theorem RpK.grow {vs : List (Key × V)} {kvs : List (Key × D)} (r : RpK K cl W vs kvs) (g : Grow W H W') : RpK K cl W' vs kvs := r.mono g.f g.a
theorem RpK.len : ∀ {vs : List (Key × V)} {kvs : List (Key × D)}, RpK K cl W vs kvs → vs.length = kvs.length
  | _, _, .nil => rfl
  | _, _, .cons _ r => congrArg Nat.succ r.len
theorem RpK.split : ∀ {vs : List (Key × V)} {kvs : List (Key × D)}, RpK K cl W vs kvs → ∃ us, vs = (kvs.map (·.1)).zip us ∧ (kvs.map (·.1)).length = us.length ∧ RpAll K cl W us (kvs.map (·.2))
  | _, _, .nil => ⟨[], rfl, rfl, .nil⟩
  | _, _, .cons (x := x) (v := v) q r => by
    obtain ⟨us, h1, h2, h3⟩ := RpK.split r
    refine ⟨v :: us, ?_, ?_, .cons q h3⟩
    · rw [List.map_cons, List.zip_cons_cons, ← h1]
    · rw [List.map_cons, List.length_cons, List.length_cons, h2]
theorem RpK.join : ∀ {ks : List Key} {us : List V} {ds : List D}, ks.length = us.length → RpAll K cl W us ds → RpK K cl W (ks.zip us) (ks.zip ds)
  | [], _, _, _, _ => .nil
  | n :: ks, _, _, h, .nil => by cases h
  | n :: ks, _, _, h, .cons q r => .cons q (RpK.join (Nat.succ.inj h) r)
theorem RpK.get (k : Key) : ∀ {vs : List (Key × V)} {kvs : List (Key × D)}, RpK K cl W vs kvs → (∃ v d, valV vs k = some v ∧ getK kvs k = some d ∧ Rp K cl W v d) ∨ (valV vs k = none ∧ getK kvs k = none)
  | _, _, .nil => .inr ⟨rfl, rfl⟩
  | _, _, .cons (x := x) q r => by
    unfold getK
    by_cases e : x = k
    · refine .inl ⟨_, _, valV_pos e, ?_, q⟩
      rw [List.find?_cons, decide_eq_true e]
      rfl
    · rw [valV_neg e, List.find?_cons, decide_eq_false e]
      exact RpK.get k r
theorem RpK.any (k : Key) : ∀ {vs : List (Key × V)} {kvs : List (Key × D)}, RpK K cl W vs kvs → (vs.any fun p => decide (p.1 = k)) = (kvs.any fun p => decide (p.1 = k))
  | _, _, .nil => rfl
  | _, _, .cons _ r => by rw [List.any_cons, List.any_cons, RpK.any k r]
theorem RpK.upd {k : Key} (q : Rp K cl W v d) : ∀ {vs : List (Key × V)} {kvs : List (Key × D)}, RpK K cl W vs kvs → RpK K cl W (vs.map fun kv => if kv.1 = k then (kv.1, v) else kv) (kvs.map fun p => if p.1 = k then (p.1, d) else p)
  | _, _, .nil => .nil
  | _, _, .cons (x := x) h r => by
    rw [List.map_cons, List.map_cons]
    by_cases e : x = k
    · rw [if_pos e, if_pos e]; exact .cons q (RpK.upd q r)
    · rw [if_neg e, if_neg e]; exact .cons h (RpK.upd q r)
theorem RpK.snoc {k : Key} (q : Rp K cl W v d) : ∀ {vs : List (Key × V)} {kvs : List (Key × D)}, RpK K cl W vs kvs → RpK K cl W (vs ++ [(k, v)]) (kvs ++ [(k, d)])
  | _, _, .nil => .cons q .nil
  | _, _, .cons h r => .cons h (RpK.snoc q r)
theorem RpK.put {vs : List (Key × V)} {kvs : List (Key × D)} (r : RpK K cl W vs kvs) (k : Key) (q : Rp K cl W v d) : RpK K cl W (putK vs k v) (setK kvs k d) := by
  unfold putK setK
  rw [r.any k]
  split
  · exact r.upd q
  · exact r.snoc q
end
/-! ### x in d, d[k], d.get(k, x) -/
section
variable {X : Cx} {cl : Cl} {E : XK} {fo fe fx : Ev → S → R D} {o e x : Expr} {pos apos cpos : Pos}
end
/-! ### {k: v for ..} -/
section
variable {K : PySem.W.Frag} {cl : Cl} {E : XK} {W : Wd} {ρ : Ev} {σ : L2.St} {st : S} {H : Hp}
end
section
variable {X : Cx} {cl : Cl} {E : XK} {t : Tg} {is : List Nat} {fi : Ev → S → R (List D)} {tt : Ev → S → R Bool} {tk tv : Ev → S → R D} {kx vx tg iter : Expr} {ifs : List Expr} {scope : Scope} {own : List (Str × Nat)} {pos : Pos}
end
end DL
set_option maxHeartbeats 4000000
/-! The data layer, part E: what a method, an __init__ keeps; defaults; code that is never reached. -/
namespace DL
open PySem PySem.Spec PyProof.Rows L2

theorem u1 {k : Nat} {A : Around} (hr : Room k A) : A.units + 1 < cLine := by have := hr.un; omega
/-- a method -/
structure FnM (P : Program) (w : World) (K : PySem.W.Frag) (mg : Str → Option Value) (base : Heap) (cl : Cl) (CX : CXT) (k : Nat) (c : Nat) (x qual : Str) (st : Stmt) (ps : List Str) (sem : List D → S → R D) (f : Addr) (fd : FuncData) : Prop where
  F : FunD K x qual (defArgs st) (defBody st) (defScope st) [] [] f fd
  G : FnOk P w K mg base CX k f fd ps (spG K cl sem)
  C : Cls K (cl c)
  M : Meth K (cl c) x f
  b : Binds K fd ps []
/-- an __init__ -/
structure FnI (P : Program) (w : World) (K : PySem.W.Frag) (mg : Str → Option Value) (base : Heap) (cl : Cl) (CX : CXT) (k : Nat) (c : Nat) (x qual : Str) (st : Stmt) (ps : List Str) (dvs : List V) (sem : List D → S → R D) (f : Addr) (fd : FuncData) : Prop where
  F : FunD K "__init__" qual (defArgs st) (defBody st) (defScope st) dvs [] f fd
  G : FnOk P w K mg base CX k f fd ps (spInit K cl c sem)
  M : Mk K (cl c) f
  m : mg x = some (.ref (cl c))
section
variable {P : Program} {w : World} {K : PySem.W.Frag} {mg : Str → Option Value} {base : Heap} {cl : Cl} {qual : Str} {params : Arguments} {body : List Stmt} {scope : Scope} {dvs : List V} {kws : List (Str × V)} {f : Addr} {fd : FuncData} {N ps : List Str} {k c : Nat}
theorem fn_IE (sem : List D → S → R D) (fb : Ev → S → RS) (F : FunD K "__init__" qual params body scope dvs kws f fd) (Sc : FnScope N ps scope) (hps : ps.length ≤ N.length ∧ 0 < ps.length)
    (hb : ∀ (cdv : Value) (A : Around) (outer : List Env) (s : Shared) (H : Hp) (E : XK) (W0 : Wd) (H0 : Hp) (x : Addr), Room k (A.deeper (envOfC qual scope s.heap.objs.size f cdv)) → DSs (cxOf (L2.CX P w) P w K mg base N qual scope f cdv A outer s H E) (cl.me x) E W0 H0 body fb)
    (hs : sem = semI c (ps.length - 1) N.length fb) : FnOk P w K mg base (L2.CX P w) (k + 1) f fd ps (spInit K cl c sem) := fn_I sem fb F Sc hps hb hs
end
/-- an empty tuple of the text -/
def nilB (K : PySem.W.Frag) (a : Addr) : Bool := match K.lookup a with
  | some ⟨.type c, none, .seq its _, _⟩ => decide (c = "tuple") && decide (its.size = 0)
  | _ => false
theorem nilB_ok {K : PySem.W.Frag} {a : Addr} {cl : Cl} (h : nilB K a = true) (W : Wd) : Rp K cl W (.ref a) (.tup []) := by
  unfold nilB at h
  split at h
  · rename_i c its n sl e
    rw [Bool.and_eq_true, decide_eq_true_eq, decide_eq_true_eq] at h
    obtain ⟨h1, h2⟩ := h
    subst h1
    have h3 : its = #[] := Array.eq_empty_of_size_eq_zero h2
    subst h3
    refine .tup (vs := []) ⟨?_, .inr ⟨_, e, rfl⟩⟩ .nil
    exact .inr ⟨_, #[], n, e, rfl, rfl, Nat.zero_le _, .nil⟩
  · cases h
end DL
set_option maxHeartbeats 4000000
/-! The data layer, part F: the head's facts, read of those objects alone that the names reach. -/
namespace DL
open PySem PySem.Spec PyProof.Rows L2 He

/-- a def, its code, its defaults -/
def behind (g : Addr → Option Obj) (a : Addr) : List Addr := a :: (match g a with
  | some o => (match o.data with
    | .func fd => refV fd.code ++ (refV fd.defaults ++ (refV fd.defaults).flatMap fun t => match g t with
      | some u => (match u.data with
        | .seq its _ => its.toList.flatMap refV
        | _ => [])
      | none => [])
    | _ => [])
  | none => [])
/-- a class's names -/
def nsOf (g : Addr → Option Obj) (a : Addr) : List Addr := match g a with
  | some o => (match o.data with
    | .cls cd => [cd.ns]
    | _ => [])
  | none => []
/-- the objects behind the classes cs, the defs and things fs, the methods ms -/
def asN (cs fs : List Str) (ms : List (Str × Str)) (g : Addr → Option Obj) : List Addr :=
  let K0 := frG g [mainGlobals]
  let C := cs.map (ga K0)
  let B := mainGlobals :: (C ++ C.flatMap (nsOf g))
  let K1 := frG g B
  B ++ ((fs.map (ga K0)).flatMap (behind g) ++ (ms.map fun p => ma K1 (ga K0 p.1) p.2).flatMap (behind g))
section
variable (L : (Addr → Option Obj) → List Addr) (fa : List Fa) (fn : List DefD) (ts : List Tab) (tf : List Defn) (ex : PySem.W.Frag → Bool)
def obsZ (g : Addr → Option Obj) : AlX := let K := frT g (L g); (obsT fa fn ts K, ex K && tabsB g tf K)
theorem saysZ {w : World} {h : Heap} (e : obsZ L fa fn ts tf ex h.get? = valX fn ts w) : SaysX fa fn ts tf ex w h (frT h.get? (L h.get?)) := by
  generalize hK : frT h.get? (L h.get?) = K at e ⊢
  have ea : obsT fa fn ts K = valT fn ts w := by
    have z := congrArg Prod.fst e
    unfold obsZ at z
    rw [hK] at z
    exact z
  have eb : (ex K && tabsB h.get? tf K) = true := by
    have z := congrArg Prod.snd e
    unfold obsZ at z
    rw [hK] at z
    exact z
  have ec := Bool.and_eq_true_iff.mp eb
  have tb : ∀ p ∈ tf, PySem.W.codeHdIn K (cT K p).1 (cT K p).2 = true ∧ ∃ o, h.get? (cT K p).2 = some o ∧ emptyTab o = true := fun p hp => by
    have z := Bool.and_eq_true_iff.mp (List.all_eq_true.mp ec.2 p hp)
    refine ⟨z.1, ?_⟩
    have z2 := z.2
    split at z2
    · rename_i o q
      exact ⟨o, q, z2⟩
    · cases z2
  refine ⟨ea, ec.1, fun p hp => (tb p hp).1, fun p hp => ?_, fun p hp => ?_⟩
  · obtain ⟨_, o, q1, q2⟩ := tb p hp
    rw [← hK] at q1 ⊢
    exact frT_none q1 q2
  · obtain ⟨_, o, q1, q2⟩ := tb p hp
    rw [q1, emptyTab_eq q2]
def hookZ : PySem.W.Hook where
  α := AlX
  obs := fun s => obsZ L fa fn ts tf ex s.heap.get?
  val := fun w => valX fn ts w
  says := fun w h => ∃ K : PySem.W.Frag, K.In h ∧ SaysX fa fn ts tf ex w h K
  of := fun _ _ e => ⟨_, frT_in, saysZ L fa fn ts tf ex e⟩
  keeps := fun _ _ _ ⟨K, a, c⟩ k => ⟨K, PySem.W.Frag.In.keeps a k, ⟨c.t, c.more, c.hd, c.out, fun p hp => k _ _ (c.empty p hp)⟩⟩
end
end DL
set_option maxHeartbeats 4000000
/-! The data layer, part G: dicts of the top that hold defs, a def held by a local name, k in a dict of the top, *x in a display. -/
namespace DL
open PySem PySem.Spec PyProof.Rows L2

/-- a dict of the top that may hold defs -/
structure KdC (K : PySem.W.Frag) (w : World) (cl : Cl) (a : Addr) (kvs : List (Str × D)) : Prop where
  kd : ∃ es n, KDict K w a es n
  ns : ∀ z, ∃ r, PySem.W.nsIn K a z = some r ∧ (match kvs.lookup z with | some d => ∃ u v, r = some u ∧ RelV v u ∧ ∀ W, Rp K cl W v d | none => r = none)
/-- *e ahead of others in a display -/
def dStar (fe : Ev → S → R D) (g : Ev → S → R (List D)) : Ev → S → R (List D) := fun ρ st => (fe ρ st).bind fun y st => match view y st with
  | .lst xs => (g ρ st).bind fun ys st => .ok (xs ++ ys) st
  | .tup xs => (g ρ st).bind fun ys st => .ok (xs ++ ys) st
  | _ => .stuck
theorem KdC.me {K : PySem.W.Frag} {w : World} {cl : Cl} {a : Addr} {kvs : List (Str × D)} (h : KdC K w cl a kvs) (x : Addr) : KdC K w (cl.me x) a kvs := ⟨h.kd, fun z => by
  obtain ⟨r, e, q⟩ := h.ns z
  refine ⟨r, e, ?_⟩
  cases el : kvs.lookup z with
  | none =>
    rw [el] at q
    exact q
  | some d =>
    rw [el] at q
    obtain ⟨u, v, e1, e2, e3⟩ := q
    exact ⟨u, v, e1, e2, fun W => (e3 W).cl (me_c cl x)⟩⟩
section
variable {X : Cx} {cl : Cl} {E : XK} {fe fx : Ev → S → R D} {g : Ev → S → R (List D)} {e f : Expr} {es : List Expr} {x : Str} {a : Addr} {kvs : List (Str × D)} {p pos apos cpos : Pos} {k i : Nat} {tbl : List (Nat × (List D → S → R D))}
theorem da_star (he : DO X cl E e fe) (hr : DA X cl E es g) (hs : starEach (.Starred e p :: es) X.env = (true, eval e X.env) :: starEach es X.env := by rfl) : DA X cl E (.Starred e p :: es) (dStar fe g) := by
  refine PAimp (StX.pa_star he hr hs) fun σ H Q h => ?_
  obtain ⟨W, ρ, st, s, l, h⟩ := h
  refine ⟨W, ρ, st, s, l, (Aft.peel h).imp (fun _ _ _ r => r) ?_⟩
  rintro x H1 ⟨dx, st1, W1, g1, k1, s1, r1, h1⟩
  have l1 := l.keep g1 k1
  dsimp only at h1
  have key : ∀ (xs : List D), (∃ a vs, x = .ref a ∧ (SqT X.K H1 a vs ∨ SqL X.K H1 a vs) ∧ RpAll X.K cl W1 vs xs) → Aft X.K cl E (RpAll X.K cl) W1 H1 ((g ρ st1).bind fun ys st => .ok (xs ++ ys) st) Q → ∃ p xs, x = V.ref p ∧ (SqT X.K H1 p xs ∨ SqL X.K H1 p xs) ∧ liftA X.K cl E g σ H1 fun ys H2 => Q (xs ++ ys) H2 := by
    rintro xs ⟨a, vs, rfl, h2, r2⟩ h1
    refine ⟨a, vs, rfl, h2, W1, ρ, st1, s1, l1, (Aft.peel h1).imp (fun _ _ _ r => r) ?_⟩
    rintro ys H2 ⟨dys, st2, W2, g2, k2, s2, r3, h3⟩
    exact Aft.now h3 s2 ((r2.mono g2.f g2.a).append r3)
  split at h1
  · rename_i xs e
    obtain ⟨a, vs, rfl, h2, r2⟩ := lst_of s1 l1 r1 e
    exact key xs ⟨a, vs, rfl, .inr (.inl (.inl h2)), r2⟩ h1
  · rename_i xs e
    obtain ⟨a, vs, rfl, h2, r2, _⟩ := tup_of s1 r1 e
    exact key xs ⟨a, vs, rfl, .inl h2, r2⟩ h1
  · exact h1.elim
end
end DL
set_option maxHeartbeats 4000000
/-! The data layer, part H: lists that come fresh from a call, a sum, a comprehension: the frame's own. -/
namespace DL
open PySem PySem.Spec PyProof.Rows L2

/-! ### frames that return a datum, a list of their own -/
def Cl.pl (cl : Cl) : Cl := ⟨cl.c, cl.T, cl.x, cl.s, false⟩
def Cl.fs (cl : Cl) : Cl := ⟨cl.c, cl.T, cl.x, cl.s, true⟩
theorem pl_c (cl : Cl) : cl.c = cl.pl.c := rfl
theorem fs_c (cl : Cl) : cl.c = cl.fs.c := rfl
section
variable {K : PySem.W.Frag} {cl cl' : Cl} {E : XK} {W : Wd} {H : Hp}
theorem xrp_cl {x : Exn} {dx : Addr} (h : cl.c = cl'.c) (r : XRp K cl W H x dx) : XRp K cl' W H x dx := by
  obtain ⟨vs, r1, r2⟩ := r
  exact ⟨vs, r1, r2.cl h⟩
theorem aft_cl {r : R D} {Q : VK} (h : cl.c = cl'.c) (hT : cl.T = cl'.T) (a : Aft K cl E (Rp K cl) W H r Q) : Aft K cl' E (Rp K cl') W H r Q := by
  cases r with
  | stuck => exact a
  | ok d st => exact fun b H' W' g k s r => a b H' W' g k (s.cl h.symm hT.symm) (r.cl h.symm)
  | ex x st => exact fun dx H' W' g k s r => (show E (.ref (cl'.c x.c)) _ _ from h ▸ a dx H' W' g k (s.cl h.symm hT.symm) (xrp_cl h.symm r))
theorem spG_cl {F : List D → S → R D} (h : cl.c = cl'.c) (hT : cl.T = cl'.T) : spG K cl F = spG K cl' F := by
  funext vs H Q E
  exact propext ⟨fun ⟨W, st, ds, s, r, a⟩ => ⟨W, st, ds, s.cl h hT, r.cl h, aft_cl h hT a⟩, fun ⟨W, st, ds, s, r, a⟩ => ⟨W, st, ds, s.cl h.symm hT.symm, r.cl h.symm, aft_cl h.symm hT.symm a⟩⟩
end
section
variable {P : Program} {w : World} {K : PySem.W.Frag} {mg : Str → Option Value} {base : Heap} {cl : Cl} {x qual : Str} {params : Arguments} {body : List Stmt} {scope : Scope} {f : Addr} {fd : FuncData} {N ps : List Str} {k : Nat}
theorem fp_0 {dvs : List V} {kws : List (Str × V)} (sem : List D → S → R D) (fb : Ev → S → RS) (F : FunD K x qual params body scope dvs kws f fd) (Sc : FnScope N ps scope)
    (hb : ∀ (cdv : Value) (A : Around) (outer : List Env) (s : Shared) (H : Hp) (E : XK) (W0 : Wd), Room k (A.deeper (envOfC qual scope s.heap.objs.size f cdv)) → DSs (cxOf CX0 P w K mg base N qual scope f cdv A outer s H E).nox cl.pl E W0 H body fb) (hs : sem = semOf ps.length N.length fb) :
    FnOk P w K mg base CX0 (k + 1) f fd ps (spG K cl sem) := by
  rw [spG_cl (cl := cl) (cl' := cl.pl) rfl rfl]
  exact fn_0 sem fb F Sc hb hs rfl
theorem fp_E (sem : List D → S → R D) (fb : Ev → S → RS) (F : FunD K x qual params body scope [] [] f fd) (Sc : FnScope N ps scope)
    (hb : ∀ (cdv : Value) (A : Around) (outer : List Env) (s : Shared) (H : Hp) (E : XK) (W0 : Wd), Room k (A.deeper (envOfC qual scope s.heap.objs.size f cdv)) → DSs (cxOf (L2.CX P w) P w K mg base N qual scope f cdv A outer s H E) cl.pl E W0 H body fb) (hs : sem = semOf ps.length N.length fb) :
    FnOk P w K mg base (L2.CX P w) (k + 1) f fd ps (spG K cl sem) := by
  rw [spG_cl (cl := cl) (cl' := cl.pl) rfl rfl]
  exact fn_E sem fb F Sc hb hs rfl
theorem fp_TE {at_ : He.Defn} (sem : List D → S → R D) (fb : Ev → S → RS) (F : FunD K x qual params body scope [] [] f fd) (hf : He.fAd K at_ = f) (Sc : FnScope N ps scope)
    (hb : ∀ (A : Around) (outer : List Env) (s : Shared) (H : Hp) (E : XK) (W0 : Wd), Room k (A.deeper (envOfC qual scope s.heap.objs.size f (.ref (He.codeOf K at_)))) → DSs (cxOf (L2.CX P w) P w K mg base N qual scope f (.ref (He.codeOf K at_)) A outer s H E) cl.pl E W0 H body fb) (hs : sem = semOf ps.length N.length fb) :
    FnOk P w K mg base (L2.CX P w) (k + 1) f fd ps (spG K cl sem) := by
  rw [spG_cl (cl := cl) (cl' := cl.pl) rfl rfl]
  exact fn_TE sem fb F hf Sc hb hs rfl
end
theorem KdC.pl {K : PySem.W.Frag} {w : World} {cl : Cl} {a : Addr} {kvs : List (Str × D)} (h : KdC K w cl a kvs) : KdC K w cl.pl a kvs := ⟨h.kd, fun z => by
  obtain ⟨r, e, q⟩ := h.ns z
  refine ⟨r, e, ?_⟩
  cases el : kvs.lookup z with
  | none =>
    rw [el] at q
    exact q
  | some d =>
    rw [el] at q
    obtain ⟨u, v, e1, e2, e3⟩ := q
    exact ⟨u, v, e1, e2, fun W => (e3 W).cl (pl_c cl)⟩⟩
theorem KdC.fs {K : PySem.W.Frag} {w : World} {cl : Cl} {a : Addr} {kvs : List (Str × D)} (h : KdC K w cl a kvs) : KdC K w cl.fs a kvs := ⟨h.kd, fun z => by
  obtain ⟨r, e, q⟩ := h.ns z
  refine ⟨r, e, ?_⟩
  cases el : kvs.lookup z with
  | none =>
    rw [el] at q
    exact q
  | some d =>
    rw [el] at q
    obtain ⟨u, v, e1, e2, e3⟩ := q
    exact ⟨u, v, e1, e2, fun W => (e3 W).cl (fs_c cl)⟩⟩
/-! ### expressions that give a fresh list -/
section
variable (K : PySem.W.Frag) (cl : Cl) (E : XK)
def AftF (W : Wd) (H : Hp) (r : R D) (Q : V → Hp → Prop) : Prop := match r with
  | .stuck => False
  | .ok d st => (∃ ds, d = .lst ds) ∧ ∀ v H' W', Grow W H W' → Keep W.A H H' → SatS K cl W' st H' → Fr K cl H H' W' v d → Q v H'
  | .ex x st => ∀ dx H' W', Grow W H W' → Keep W.A H H' → SatS K cl W' st H' → XRp K cl W' H' x dx → E (.ref (cl x.c)) (some dx) H'
def spF (F : List D → S → R D) : Sp := fun vs H Q E => ∃ W st ds, SatS K cl W st H ∧ RpAll K cl W vs ds ∧ AftF K cl E W H (F ds st) Q
end
section
variable {K : PySem.W.Frag} {cl : Cl} {E : XK} {β γ : Type}
theorem Fr.back {W W1 W' : Wd} {H H1 H' : Hp} {st : S} {v : V} {d : D} (g : Grow W H W1) (k : Keep W.A H H1) (s : SatS K cl W1 st H1) (h : Fr K cl H1 H' W' v d) : Fr K cl H H' W' v d := by
  obtain ⟨p, vs, ds, h1, h2, h3, h4, h5, h6, h7⟩ := h
  exact ⟨p, vs, ds, h1, h2, h3, h4, h5, h6, back_none g k s h7⟩
theorem AftF.mono {W W1 : Wd} {H H1 : Hp} {st : S} {r : R D} {Q : V → Hp → Prop} (h : AftF K cl E W H r Q) (g : Grow W H W1) (k : Keep W.A H H1) (s : SatS K cl W1 st H1) : AftF K cl E W1 H1 r Q := by
  cases r with
  | stuck => exact h
  | ok a st2 => exact ⟨h.1, fun b H' W' g' k' s' rp => h.2 b H' W' (g.trans k s g') (k.trans g k') s' (rp.back g k s)⟩
  | ex x st2 => exact fun dx H' W' g' k' s' rp => h dx H' W' (g.trans k s g') (k.trans g k') s' rp
theorem AftF.peel {RP' : Wd → β → γ → Prop} {W : Wd} {H : Hp} {r : R γ} {k : γ → S → R D} {Q : V → Hp → Prop} (h : AftF K cl E W H (r.bind k) Q) :
    Aft K cl E RP' W H r fun b H' => ∃ c st W', Grow W H W' ∧ Keep W.A H H' ∧ SatS K cl W' st H' ∧ RP' W' b c ∧ AftF K cl E W' H' (k c st) Q := by
  cases r with
  | stuck => exact h
  | ok c st => exact fun b H' W' g kk s rp => ⟨c, st, W', g, kk, s, rp, AftF.mono (show AftF K cl E W H (k c st) Q from h) g kk s⟩
  | ex x st => exact h
theorem AftF.newL {W : Wd} {H : Hp} {ds : List D} {st : S} {vs : List V} {p : Addr} {Q : V → Hp → Prop} (h : AftF K cl E W H (.ok (.lst ds) st) Q) (s : SatS K cl W st H) (r : RpAll K cl W vs ds) (hn : H p = none) : Q (.ref p) (upd H p (.lst vs)) := by
  have hF : W.F p = none := by
    cases q : W.F p with
    | none => rfl
    | some u =>
      have := s.ex p u q
      rw [hn] at this; cases this
  have hA : p ∉ W.A := fun m => s.ne m (.of hn) rfl
  exact h.2 (.ref p) _ W .refl (keep_new hn) (s.mut hA hF (.inl hn)) ⟨p, vs, ds, rfl, rfl, upd_same, hF, hA, r, .of hn⟩
end
section
variable {X : Cx} {cl : Cl} {E : XK} {fa fb : Ev → S → R D} {a b c e : Expr} {es : List Expr} {pos p : Pos} {g : Ev → S → R (List D)} {tc : Ev → S → R Bool}
end
/-! calls -/
section
variable {X : Cx} {cl : Cl} {E : XK} {CX : CXT} {k n : Nat} {f : Addr} {fd : FuncData} {ps ks : List Str} {F : List D → S → R D} {g gk : Ev → S → R (List D)} {e : Expr} {es : List Expr} {kws : List Keyword} {pos p : Pos} {x : Str}
end
/-! defs that return a fresh list -/
section
variable {P : Program} {w : World} {K : PySem.W.Frag} {mg : Str → Option Value} {base : Heap} {cl : Cl} {CX : CXT} {x qual : Str} {params : Arguments} {body : List Stmt} {scope : Scope} {dvs : List V} {kws : List (Str × V)} {f : Addr} {fd : FuncData} {N ps : List Str} {k : Nat}
structure FnF (P : Program) (w : World) (K : PySem.W.Frag) (mg : Str → Option Value) (base : Heap) (cl : Cl) (k : Nat) (x : Str) (st : Stmt) (ps : List Str) (sem : List D → S → R D) (f : Addr) (fd : FuncData) : Prop where
  F : FunD K x x (defArgs st) (defBody st) (defScope st) [] [] f fd
  G : FnOk P w K mg base CX0 k f fd ps (spF K cl sem)
  m : mg x = some (.ref f)
  b : Binds K fd ps []
end
/-! statements -/
section
variable {X : Cx} {cl : Cl} {E : XK} {W0 : Wd} {H0 : Hp} {fe : Ev → S → R D} {e : Expr} {pos : Pos} {i : Nat} {x : Str}
end
end DL
set_option maxHeartbeats 4000000
/-! The data layer, part I: ranges as values; a fresh list put into the store and taken out again at the return. -/
namespace DL
open PySem PySem.Spec PyProof.Rows L2

/-! ### i in range(n), list(range(a, b)) -/
section
variable {X : Cx} {cl : Cl} {E : XK} {fe fa fb : Ev → S → R D} {e a b : Expr} {pos p rp : Pos}
end

/-! ### more fresh lists -/
section
variable {K : PySem.W.Frag} {cl : Cl} {E : XK} {σ : L2.St} {H : Hp}
end
section
variable {X : Cx} {cl : Cl} {E : XK} {t : Tg} {is : List Nat} {fi : Ev → S → R (List D)} {tt : Ev → S → R Bool} {te : Ev → S → R D} {elt tg iter : Expr} {ifs : List Expr} {scope : Scope} {own : List (Str × Nat)} {pos spos py : Pos}
end
section
variable {X : Cx} {cl : Cl} {E : XK} {fa fb : Ev → S → R D} {a b c e : Expr} {es : List Expr} {pos p : Pos} {x : Str} {g : Ev → S → R (List D)} {tc : Ev → S → R Bool}
end

/-! ### a fresh list into the store -/
mutual
/-- no reference to k -/
def nrD (k : Nat) : D → Bool
  | .lst ds => nrs k ds
  | .tup ds => nrs k ds
  | .pr a b => nrD k a && nrD k b
  | .ref i => decide (i ≠ k)
  | .dic _ ds => nrs k ds
  | .ob _ _ ds => nrs k ds
  | _ => true
def nrs (k : Nat) : List D → Bool
  | [] => true
  | d :: ds => nrD k d && nrs k ds
end
def nrM (k : Nat) : MO → Bool
  | .lst ds => nrs k ds
  | .ins _ fs => nrs k (fs.map (·.2))
  | .dct _ ds => nrs k ds
section
variable {K : PySem.W.Frag} {cl : Cl} {W : Wd} {k : Nat}
mutual
theorem Rp.drop_ (hk : W.A.length = k + 1) : ∀ {v : V} {d : D}, Rp K cl W v d → nrD k d = true → Rp K cl ⟨W.F, W.A.dropLast⟩ v d
  | _, _, .non, _ => .non
  | _, _, .bl b, _ => .bl b
  | _, _, .int i, _ => .int i
  | _, _, .str x, _ => .str x
  | _, _, .lst h r, n => .lst h (RpAll.drop_ hk r (by unfold nrD at n; exact n))
  | _, _, .tup h r, n => .tup h (RpAll.drop_ hk r (by unfold nrD at n; exact n))
  | _, _, .pr h r q, n => by
    unfold nrD at n
    rw [Bool.and_eq_true] at n
    exact .pr h (Rp.drop_ hk r n.1) (Rp.drop_ hk q n.2)
  | _, _, .ref (i := i) h, n => by
    unfold nrD at n
    refine .ref ?_
    have hl : i < W.A.length := (List.getElem?_eq_some_iff.mp h).1
    have hn := of_decide_eq_true n
    show W.A.dropLast[i]? = _
    rw [List.getElem?_dropLast, if_pos (by omega)]
    exact h
  | _, _, .ty n, _ => .ty n
  | _, _, .cls c, _ => .cls c
  | _, _, .scr h, _ => .scr h
  | _, _, .dic h e r, n => .dic h e (RpAll.drop_ hk r (by unfold nrD at n; exact n))
  | _, _, .ob h e r, n => .ob h e (RpAll.drop_ hk r (by unfold nrD at n; exact n))
theorem RpAll.drop_ (hk : W.A.length = k + 1) : ∀ {vs : List V} {ds : List D}, RpAll K cl W vs ds → nrs k ds = true → RpAll K cl ⟨W.F, W.A.dropLast⟩ vs ds
  | _, _, .nil, _ => .nil
  | _, _, .cons h r, n => by
    unfold nrs at n
    rw [Bool.and_eq_true] at n
    exact .cons (Rp.drop_ hk h n.1) (RpAll.drop_ hk r n.2)
end
theorem RpF.drop_ (hk : W.A.length = k + 1) : ∀ {vs : List (Str × V)} {ds : List (Str × D)}, RpF K cl W vs ds → nrs k (ds.map (·.2)) = true → RpF K cl ⟨W.F, W.A.dropLast⟩ vs ds
  | _, _, .nil, _ => .nil
  | _, _, .cons h r, n => by
    rw [List.map_cons] at n
    unfold nrs at n
    rw [Bool.and_eq_true] at n
    exact .cons (Rp.drop_ hk h n.1) (RpF.drop_ hk r n.2)
theorem MoRp.drop_ (hk : W.A.length = k + 1) {H : Hp} {a : Addr} {o : MO} (m : MoRp K cl W H a o) (n : nrM k o = true) : MoRp K cl ⟨W.F, W.A.dropLast⟩ H a o := by
  cases o with
  | lst ds => obtain ⟨vs, h1, h2⟩ := m; exact ⟨vs, h1, h2.drop_ hk n⟩
  | ins c fs => obtain ⟨dx, vs, h1, h2⟩ := m; exact ⟨dx, vs, h1, h2.drop_ hk n⟩
  | dct ks ds => obtain ⟨vs, h1, h2, h3⟩ := m; exact ⟨vs, h1, h2, h3.drop_ hk n⟩
end
section
variable {X : Cx} {cl : Cl} {E : XK} {W0 : Wd} {H0 : Hp} {fe : Ev → S → R D} {e : Expr} {b : List Stmt} {pos : Pos} {i : Nat} {x : Str}
end
end DL
set_option maxHeartbeats 4000000
/-! The data layer, part J: a, b = x, y where some of the values are fresh lists. -/
namespace DL
open PySem PySem.Spec PyProof.Rows L2

/-- how a value is kept: a datum, a list of the frame's own, a new list of the store -/
inductive Fg | sh | own | ref
deriving DecidableEq
def owns : List Fg → List V → List V
  | .sh :: fl, _ :: vs => owns fl vs
  | _ :: fl, v :: vs => v :: owns fl vs
  | _, _ => []
inductive MAll (K : PySem.W.Frag) (cl : Cl) (H0 H : Hp) (W : Wd) : List Fg → List V → List D → Prop
  | nil : MAll K cl H0 H W [] [] []
  | sh {fl : List Fg} {v : V} {vs : List V} {d : D} {ds : List D} : Rp K cl W v d → MAll K cl H0 H W fl vs ds → MAll K cl H0 H W (.sh :: fl) (v :: vs) (d :: ds)
  | own {k : Fg} {fl : List Fg} {v : V} {vs : List V} {d : D} {ds : List D} : k ≠ .sh → Fr K cl H0 H W v d → (∀ u ∈ owns fl vs, u ≠ v) → MAll K cl H0 H W fl vs ds → MAll K cl H0 H W (k :: fl) (v :: vs) (d :: ds)
section
variable {K : PySem.W.Frag} {cl : Cl} {E : XK} {W W1 W' W0 : Wd} {H H0 H1 H' : Hp} {st : S} {fl : List Fg} {vs : List V} {ds : List D}
theorem MAll.back (g : Grow W H W1) (k : Keep W.A H H1) (s : SatS K cl W1 st H1) : ∀ {fl : List Fg} {vs : List V} {ds : List D}, MAll K cl H1 H' W' fl vs ds → MAll K cl H H' W' fl vs ds
  | _, _, _, .nil => .nil
  | _, _, _, .sh r m => .sh r (MAll.back g k s m)
  | _, _, _, .own h r n m => .own h (r.back g k s) n (MAll.back g k s m)
end
section
variable (K : PySem.W.Frag) (cl : Cl) (E : XK)
end
section
variable {X : Cx} {cl : Cl} {E : XK} {f : Ev → S → R D} {g : Ev → S → R (List D)} {e : Expr} {es : List Expr} {fl : List Fg}
end
section
variable {K : PySem.W.Frag} {cl : Cl} {E : XK} {W W1 W' W0 : Wd} {H H0 H1 H' : Hp} {st : S} {fl : List Fg} {vs : List V} {ds : List D} {ρ : Ev} {σ : L2.St} {p : Addr}
theorem MAll.len : ∀ {fl : List Fg} {vs : List V} {ds : List D}, MAll K cl H0 H W fl vs ds → vs.length = ds.length
  | _, _, _, .nil => rfl
  | _, _, _, .sh _ m => congrArg Nat.succ m.len
  | _, _, _, .own _ _ _ m => congrArg Nat.succ m.len
end
section
variable {X : Cx} {cl : Cl} {E : XK} {W0 : Wd} {H0 : Hp} {fs : Ev → S → R (List D)} {fl : List Fg} {pos : Pos}
end
end DL
set_option maxHeartbeats 4000000
/-! The data layer, part K: texts parted: x.split(sep), x.partition(sep), f-strings of two parts. -/
namespace DL
open PySem PySem.Spec PyProof.Rows L2
section
variable {X : Cx}
variable {cl : Cl} {E : XK} {fa fb : Ev → S → R D} {o e : Expr} {apos pos : Pos}
end
end DL
set_option maxHeartbeats 4000000
/-! The data layer, part O: operators by an own method. -/
namespace PySem.W
open PySem PySem.Calls PyProof.Rows
section
variable {prog : Program} {w : World} {A : Around} {E : Value → Shared → Prop} {s : Shared} {K : Frag} {x C L f : Addr} {h₀ : Heap} {m : Str → Option Value} {ox : Obj} {od : Option Obj} {T : String}
/-- a + b by an own method of the left one; the right one is of a built-in class -/
theorem own_bin {op : Operator} {b : Value} {fo ro rc : Option Value} {Q : Value → Shared → Prop} (F : Fr h₀ L s.heap m) (X₀ : K.In h₀) (I : InstAt s.heap x ox C od) (hb : Looks (model prog w) s.heap (typeOf b) (.type T)) (hc : selfFirst K C = true)
    (hs : findIn K (.ref C) (PySem.dunder op.info.2) = some (some (.ref f))) (hf : isFn K (.ref f) = true) (hr : findIn K (.ref C) (dunderR op.info.2) = some rc) (hp : rc = none ∨ ∃ g : Addr, rc = some (.ref g))
    (h1 : findIn K (.type T) (PySem.dunder op.info.2) = some fo) (h2 : findIn K (.type T) (dunderR op.info.2) = some ro) (hsub : subIn K (.type T) (.ref C) = some false)
    (h : wpAny (model prog w) A (call (.ref f) [.ref x, b]) (PySem.W.CmpBack Q) E s) : wpAny (model prog w) A (binaryOp op (.ref x) b) Q E s := by
  have X := X₀.keeps F.keep
  obtain ⟨cd, rest, hcd, hm⟩ := ksp_first hc
  rcases hi : op.info with ⟨sym, nm'⟩
  rw [hi] at hs hr h1 h2
  dsimp only at hs hr h1 h2
  have one := ksp_try X I hs hf h
  obtain ⟨hh, g, d, tt, os⟩ := s
  have L1 : Looks (model prog w) hh (typeOf (.ref x)) (.ref C) := I.type
  have L2 : Looks (model prog w) hh (typeOf b) (.type T) := hb
  have L3 : Looks (model prog w) hh (fillsNumberSlot (.ref C) nm') true := fills_K X hcd hm hs
  have L4 : Looks (model prog w) hh (fillsNumberSlot (.type T) nm') ((fo.isSome && !isSeqSlot fo) || (ro.isSome && !isSeqSlot ro)) := ksp_fillsT X h1 h2
  have L5 : Looks (model prog w) hh (isSubtype (.type T) (.ref C)) false := looks_subIn X hsub
  have L6 : Looks (model prog w) hh (numberSlotInPython (.ref C) nm') true := ksp_inPy X hs hr hp
  have L7 : Looks (model prog w) hh (numberSlotInPython (.type T) nm') false := Looks.of_pure rfl
  have L8 : Looks (model prog w) hh (typeLookup (.type T) (dunderR nm')) ro := looks_findIn X h2
  generalize ((fo.isSome && !isSeqSlot fo) || (ro.isSome && !isSeqSlot ro)) = right at L4
  have hne : (Value.ref C == Value.type T) = false := Bool.eq_false_iff.mpr fun q => by cases beq_iff_eq.mp q
  simp only [binaryOp, hi]
  refine wpAny_holding (wpAny_bind ?_)
  unfold binaryOp1
  refine wpAny_bind (L1.at (wpAny_bind (L2.at (wpAny_bind (L3.at ?_)))))
  simp only [hne, Bool.false_eq_true, if_false]
  cases right with
  | false =>
    ksp_lk
    refine wpAny_mono one (fun r s' hr' => ?_) fun _ _ e => e
    obtain ⟨v, rfl, hq⟩ := hr'
    ksp_lk
    exact hq
  | true =>
    ksp_lk
    refine wpAny_mono one (fun r s' hr' => ?_) fun _ _ e => e
    obtain ⟨v, rfl, hq⟩ := hr'
    ksp_lk
    exact hq
end
end PySem.W
namespace DL
open PySem PySem.Spec PyProof.Rows L2

section
open PySem.W
variable {T : String}
theorem look_type {M : Model} {h : Heap} {y : Addr} {o : Obj} (ho : h.get? y = some o) (hc : o.cls = .type T) : Looks M h (typeOf (.ref y)) (.type T) := fun A Q E s k q => wpAny_typeOf_ref (k _ _ ho) (by rw [hc]; exact q)
end

/-- the built-in class of a thing -/
def tyD (d : D) : Option String := match d with
  | .non => some "NoneType" | .bl _ => some "bool" | .int _ => some "int" | .str _ => some "str" | .lst _ => some "list" | .tup _ => some "tuple" | _ => none
def tyN : List String := ["NoneType", "bool", "int", "str", "list", "tuple"]
theorem tyD_in {d : D} {T : String} (h : tyD d = some T) : T ∈ tyN := by
  unfold tyD at h
  split at h <;> cases h <;> simp [tyN]
section
variable {X : Cx} {cl : Cl} {E : XK} {CX : CXT} {c k : Nat} {f : Addr} {fd : FuncData} {ps : List Str} {F : List D → S → R D}
theorem look_D {pins : List (Addr × Obj)} {σ σ' : L2.St} {H : Hp} {s : Shared} {W : Wd} {ρ : Ev} {st : S} {y : V} {u : Value} {dy : D} {T : String} {M : Model} (I : Inv X pins σ H s) (ry : RelV y u) (s0 : SatS X.K cl W st H) (l : SatL X.K cl W ρ σ' H) (oy : ORp X.K cl ρ σ' W y dy) (h : tyD dy = some T) : PySem.W.Looks M s.heap (typeOf u) (.type T) := by
  have hl : ∀ (a : Addr) (vs : List V), H a = some (.lst vs) → y = .ref a → T = "list" → PySem.W.Looks M s.heap (typeOf u) (.type T) := fun a vs e ey eT => by
    subst ey eT
    obtain rfl : u = Value.ref a := ry
    obtain ⟨z, its, k, r, e⟩ := I.hok a _ e
    exact look_type e rfl
  rcases oy with r | ⟨i, ds, e, e1, e2⟩
  · cases r with
    | non =>
      cases h
      obtain rfl : u = Value.none := ry
      exact PySem.W.Looks.of_pure rfl
    | bl b =>
      cases h
      obtain rfl : u = Value.bool b := ry
      exact PySem.W.Looks.of_pure rfl
    | int b =>
      cases h
      obtain ⟨t, rfl⟩ := ry
      exact PySem.W.Looks.of_pure rfl
    | str b =>
      cases h
      obtain ⟨t, rfl⟩ := ry
      exact PySem.W.Looks.of_pure rfl
    | lst h1 h2 =>
      cases h
      exact hl _ _ (s0.ex _ _ h1) rfl rfl
    | tup h1 h2 =>
      cases h
      obtain rfl := ry
      obtain ⟨its, r, e, z⟩ := I.tuple (same_sqt s0.ex h1.1)
      obtain ⟨o, ho, hc, _⟩ := e
      exact look_type ho hc
    | _ => cases h
  · subst e
    cases h
    obtain ⟨p, vs, h1, h2, _⟩ := l.own i ds e1
    rw [e2] at h1
    cases h1
    exact hl _ _ h2 rfl rfl
end
/-- what a class with an own operator must have beside it -/
structure OwnB (K : PySem.W.Frag) (C : Addr) (r : Str) : Prop where
  sf : PySem.W.selfFirst K C = true
  rr : PySem.W.findIn K (.ref C) r = some none
  ty : ∀ T ∈ tyN, PySem.W.subIn K (.type T) (.ref C) = some false
def ownB (K : PySem.W.Frag) (x : Str) (rs : List Str) : Bool := PySem.W.selfFirst K (He.ga K x) && ((rs.all fun r => He.eqO (PySem.W.findIn K (.ref (He.ga K x)) r) (some none)) && tyN.all fun T => decide (PySem.W.subIn K (.type T) (.ref (He.ga K x)) = some false))
theorem ownB_ok {K : PySem.W.Frag} {x : Str} {rs : List Str} (h : ownB K x rs = true) : ∀ r ∈ rs, OwnB K (He.ga K x) r := fun r hr => by
  obtain ⟨h1, h2⟩ := He.ba h
  obtain ⟨h2, h3⟩ := He.ba h2
  exact ⟨h1, He.eqO_ok (List.all_eq_true.mp h2 r hr), fun T hT => of_decide_eq_true (List.all_eq_true.mp h3 T hT)⟩
/-- an operator by an own method, or o -/
def ownD (tbl : MT) (o : D → D → S → R D) : D → D → S → R D := fun dx dy st => match fldsOf dx st with
  | some (c, _) => (match tbl.lookup c with
    | some F => if (tyD dy).isSome = true ∨ (fldsOf dy st).map (·.1) = some c then F [dx, dy] st else .stuck
    | none => .stuck)
  | none => o dx dy st
section
variable {X : Cx} {cl : Cl} {E : XK} {CX : CXT} {op : Operator} {o : D → D → S → R D} {tbl : MT} {fa fb : Ev → S → R D} {a b : Expr} {pos : Pos}
/-- likewise, the right one is a datum -/
def rV (K : PySem.W.Frag) (cl : Cl) (E : XK) (o : D → D → S → R D) : R2 := fun x y H Q => ∃ W ρ σ st dx dy, SatS K cl W st H ∧ SatL K cl W ρ σ H ∧ ORp K cl ρ σ W x dx ∧ Rp K cl W y dy ∧ Aft K cl E (Rp K cl) W H (o dx dy st) Q
theorem dv_opV (ho : OpR X (binaryOp op) (rV X.K cl E o)) (ha : DO X cl E a fa) (hb : DV X cl E b fb) : DV X cl E (.BinOp a op b pos) (dBin o fa fb) := PEimp (pe_op ho ha hb) fun σ H Q h => by
  obtain ⟨W, ρ, st, s, l, h⟩ := h
  refine ⟨W, ρ, st, s, l, (Aft.peel h).imp (fun _ _ _ r => r) ?_⟩
  rintro x H1 ⟨dx, st1, W1, g1, k1, s1, r1, h1⟩
  refine ⟨W1, ρ, st1, s1, l.keep g1 k1, (Aft.peel h1).imp (fun _ _ _ r => r) ?_⟩
  rintro y H2 ⟨dy, st2, W2, g2, k2, s2, r2, h2⟩
  exact ⟨W2, ρ, σ, st2, dx, dy, s2, (l.keep g1 k1).keep g2 k2, r1.grow g2, r2, h2⟩
def OwnAt (X : Cx) (cl : Cl) (E : XK) (CX : CXT) (op : Operator) (c : Nat) (F : List D → S → R D) : Prop := ∃ f fd ps k, Meth X.K (cl c) (PySem.dunder op.info.2) f ∧ OwnB X.K (cl c) (PySem.dunderR op.info.2) ∧ FnOk X.prog X.w X.K X.mg X.base CX k f fd ps (spG X.K cl F) ∧ Room k X.A ∧ Binds X.K fd ps [] ∧ Passes CX X E
theorem op_own (ho : OpR X (binaryOp op) (rD X.K cl E o)) (ht : ∀ c F, tbl.lookup c = some F → OwnAt X cl E CX op c F) (hT : (tyN.all fun T => (fastLookup T (PySem.dunder op.info.2)).isSome && (fastLookup T (PySem.dunderR op.info.2)).isSome) = true) :
    OpR X (binaryOp op) (rV X.K cl E (ownD tbl o)) := by
  rintro pins s σ H x y v u Q I rx ry ⟨W, ρ, σ', st, dx, dy, s0, l0, ox, ryD, h⟩
  unfold ownD at h
  split at h
  · rename_i c fs hc
    split at h
    · rename_i F hF
      split at h
      · rename_i hk
        obtain ⟨f, fd, ps, k, M, O, G, hr, hb, hx⟩ := ht c F hF
        have rxD : Rp X.K cl W x dx := by
          rcases ox with r | ⟨i, ds, e, _⟩
          · exact r
          · subst e
            cases hc
        obtain ⟨a, dxa, vs, rfl, h2, h3⟩ := ins_of s0 rxD hc
        obtain rfl : v = Value.ref a := rx
        obtain ⟨mA, J, _⟩ := ins_get I.hok h2
        obtain ⟨od, J, _⟩ := J.look
        obtain ⟨m, hFr⟩ := I.fr
        have run : wpAny (model X.prog X.w) X.A (call (.ref f) [.ref a, u]) (PySem.W.CmpBack (EP X pins σ Q)) X.xe s := by
          refine wpAny_mono (run_fn (us := [.ref a, u]) (vs := [.ref a, y]) (Q := Q) G hr hb .nil hx I (.cons rfl (.cons ry .nil)) ?_) (fun r s' q => ?_) fun _ _ e => e
          · exact ⟨W, st, [dx, dy], s0, .cons rxD (.cons ryD .nil), h⟩
          · obtain ⟨w, H', I', rw', q'⟩ := q
            unfold PySem.W.CmpBack
            split
            · cases w <;> simp [L2.RelV] at rw'
            · exact ⟨w, H', I', rw', q'⟩
        by_cases hy : (tyD dy).isSome = true
        · obtain ⟨T, hT'⟩ := Option.isSome_iff_exists.mp hy
          have hin := tyD_in hT'
          have hlk := List.all_eq_true.mp hT T hin
          rw [Bool.and_eq_true] at hlk
          obtain ⟨fo, h1⟩ := Option.isSome_iff_exists.mp hlk.1
          obtain ⟨ro, h2'⟩ := Option.isSome_iff_exists.mp hlk.2
          exact PySem.W.own_bin hFr I.ok.mod.kin J (look_D I ry s0 l0 (.inl ryD) hT') O.sf M.at_ M.fn O.rr (.inl rfl) h1 h2' (O.ty T hin) run
        · have hk := hk.resolve_left hy
          obtain ⟨⟨c', fs'⟩, hc', e⟩ := Option.map_eq_some_iff.mp hk
          cases e
          obtain ⟨b', db, vs', rfl, h2', h3'⟩ := ins_of s0 ryD hc'
          obtain rfl : u = Value.ref b' := ry
          obtain ⟨mB, J', _⟩ := ins_get I.hok h2'
          obtain ⟨od', J', _⟩ := J'.look
          exact PySem.W.binop_K hFr I.ok.mod.kin J J'.type O.sf M.at_ M.fn run
      · exact h.elim
    · exact h.elim
  · exact ho pins s σ H x y v u Q I rx ry ⟨W, ρ, σ', st, dx, dy, s0, l0, ox, .inl ryD, h⟩
theorem dv_own (ho : OpR X (binaryOp op) (rD X.K cl E o)) (ht : ∀ c F, tbl.lookup c = some F → OwnAt X cl E CX op c F) (ha : DO X cl E a fa) (hb : DV X cl E b fb) (hT : (tyN.all fun T => (fastLookup T (PySem.dunder op.info.2)).isSome && (fastLookup T (PySem.dunderR op.info.2)).isSome) = true := by decide +kernel) : DV X cl E (.BinOp a op b pos) (dBin (ownD tbl o) fa fb) := dv_opV (op_own ho ht hT) ha hb
theorem own_at {c k : Nat} {f : Addr} {fd : FuncData} {ps : List Str} {F : List D → S → R D} {nm rm : Str} {rs : List Str} (M : Meth X.K (cl c) nm f) (O : ∀ r ∈ rs, OwnB X.K (cl c) r) (G : FnOk X.prog X.w X.K X.mg X.base CX k f fd ps (spG X.K cl F)) (hr : Room k X.A) (hb : Binds X.K fd ps []) (hx : Passes CX X E)
    (hm : rm ∈ rs := by simp) (h1 : PySem.dunder op.info.2 = nm := by decide +kernel) (h2 : PySem.dunderR op.info.2 = rm := by decide +kernel) : OwnAt X cl E CX op c F := ⟨f, fd, ps, k, h1 ▸ M, h2 ▸ O rm hm, G, hr, hb, hx⟩
theorem own_nil (c : Nat) (F : List D → S → R D) (h : ([] : MT).lookup c = some F) : OwnAt X cl E CX op c F := by cases h
theorem own_cons {q : Nat × (List D → S → R D)} {r : MT} (h : OwnAt X cl E CX op q.1 q.2) (hr : ∀ c F, r.lookup c = some F → OwnAt X cl E CX op c F) (c : Nat) (F : List D → S → R D) (e : (q :: r).lookup c = some F) : OwnAt X cl E CX op c F := by
  rw [List.lookup_cons] at e
  by_cases hc : (c == q.1) = true
  · rw [hc] at e
    cases beq_iff_eq.mp hc
    cases e
    exact h
  · rw [Bool.eq_false_iff.mpr hc] at e
    exact hr c F e
end
end DL
set_option maxHeartbeats 4000000
/-! Denotations of defs (printed by wip/tools/gen.py). -/
namespace Co
open PySem L2 DL
def den__law_start : Ev → S → RS := sSeq (sSet 2 (dVar 1)) (sSeq (sFor (.nm 3) (dItems (dSl (dVar 0) (dNoP) (dPart (dC (.int 63))))) (sSet 2 (dBin modD (dCall (one intF) (dCons (dBin addD (dBin addD (dBin mulD (dVar 2) (dC (.int 69621))) (dBin modD (dCall (one intF) (dCons (dVar 3) (dNil))) (dC (.int 2147483549)))) (dC (.int 17))) (dNil))) (dC (.int 2147483563))))) (sRet (dLstRef (dCons (dLc (.nm 3) [3] (dItems (dSl (dVar 0) (dNoP) (dPart (dC (.int 63))))) (tTrue) (dCall (one intF) (dCons (dVar 3) (dNil)))) (dCons (dC (.int 0)) (dCons (dC (.int 0)) (dCons (dVar 2) (dCons (dC (.int 0)) (dNil)))))))))
def sem__law_start : List D → S → R D := semOf 2 4 den__law_start
def den__law_same (rec : List D → S → R D) : Ev → S → RS := sSeq (sIf (dTst (dUn (isiT ["list", "tuple"]) (dVar 1))) (sSeq (sIf (tOrD (dTB (dBin neD (dCall isiD (dCons (dVar 0) (dCons (dC (.ty "list")) dNil))) (dCall isiD (dCons (dVar 1) (dCons (dC (.ty "list")) dNil))))) (dTB (dBin neD (dCall isiD (dCons (dVar 0) (dCons (dC (.ty "tuple")) dNil))) (dCall isiD (dCons (dVar 1) (dCons (dC (.ty "tuple")) dNil)))))) (sRet (dC (.bl false))) (sNext)) (sRet (dAnd (dBin eqD (dCall (one lenD) (dCons (dVar 0) (dNil))) (dCall (one lenD) (dCons (dVar 1) (dNil)))) (dCall (one allD) (dCons (dLc (.nm 2) [2] (dRange (dCons (dCall (one lenD) (dCons (dVar 1) (dNil))) (dNil))) (tTrue) (dCall rec (dCons (dBin ixD (dVar 0) (dVar 2)) (dCons (dBin ixD (dVar 1) (dVar 2)) (dNil))))) (dNil)))))) (sNext)) (sSeq (sIf (tOrD (dTB (dBin isND (dVar 1) (dC .non))) (dTB (dBin isND (dVar 0) (dC .non)))) (sRet (dAnd (dBin isND (dVar 1) (dC .non)) (dBin isND (dVar 0) (dC .non)))) (sNext)) (sSeq (sIf (tOrD (dTst (dCall isiD (dCons (dVar 1) (dCons (dC (.ty "bool")) dNil)))) (dTst (dCall isiD (dCons (dVar 0) (dCons (dC (.ty "bool")) dNil))))) (sRet (dAnd (dCall isiD (dCons (dVar 1) (dCons (dC (.ty "bool")) dNil))) (dAnd (dCall isiD (dCons (dVar 0) (dCons (dC (.ty "bool")) dNil))) (dBin eqD (dVar 0) (dVar 1))))) (sNext)) (sSeq (sIf (dTst (dCall isiD (dCons (dVar 1) (dCons (dC (.ty "int")) dNil)))) (sRet (dAnd (dCall isiD (dCons (dVar 0) (dCons (dC (.ty "int")) dNil))) (dBin eqD (dVar 0) (dVar 1)))) (sNext)) (sRet (dAnd (dCall isiD (dCons (dVar 1) (dCons (dC (.ty "str")) dNil))) (dAnd (dCall isiD (dCons (dVar 0) (dCons (dC (.ty "str")) dNil))) (dBin eqD (dVar 0) (dVar 1))))))))
def sem__law_same : Nat → List D → S → R D
  | 0 => fun _ _ => .stuck
  | k + 1 => semOf 2 3 (den__law_same (sem__law_same k))
def den__law_draw : Ev → S → RS := sSeq (sIf (tAndD (dTB (dBin eqD (dBin ixD (dVar 0) (dC (.int 2))) (dC (.int 0)))) (dTB (dBin ltD (dBin ixD (dVar 0) (dC (.int 1))) (dCall (one lenD) (dCons (dBin ixD (dVar 0) (dC (.int 0))) (dNil)))))) (sSeq (sSet 3 (dBin ixD (dBin ixD (dVar 0) (dC (.int 0))) (dBin ixD (dVar 0) (dC (.int 1))))) (sSeq (sPut (dVar 0) (dC (.int 1)) (dBin addD (dBin ixD (dVar 0) (dC (.int 1))) (dC (.int 1)))) (sIf (dTB (dBin geD (dCall (one absD) (dCons (dVar 3) (dNil))) (dBin powD (dC (.int 10)) (dC (.int 18))))) (sPut (dVar 0) (dC (.int 2)) (dCall (one absD) (dCons (dVar 3) (dNil)))) (sNext)))) (sNext)) (sSeq (sIf (dTB (dBin gtD (dBin ixD (dVar 0) (dC (.int 2))) (dC (.int 0)))) (sSeq (sSet 4 (dBin modD (dCall (one intF) (dCons (dBin ixD (dVar 0) (dC (.int 2))) (dNil))) (dVar 1))) (sSeq (sPut (dVar 0) (dC (.int 2)) (dBin fdivD (dCall (one intF) (dCons (dBin ixD (dVar 0) (dC (.int 2))) (dNil))) (dVar 1))) (sRet (dVar 4)))) (sNext)) (sSeq (sPut (dVar 0) (dC (.int 4)) (dBin addD (dBin ixD (dVar 0) (dC (.int 4))) (dC (.int 1)))) (sSeq (sSet 2 (dBin modD (dCall (one intF) (dCons (dBin addD (dBin ixD (dVar 0) (dC (.int 3))) (dBin mulD (dBin ixD (dVar 0) (dC (.int 4))) (dC (.int 7919)))) (dNil))) (dC (.int 2147483563)))) (sSeq (sPut (dVar 0) (dC (.int 3)) (dBin modD (dCall (one intF) (dCons (dBin addD (dBin addD (dBin powD (dVar 2) (dC (.int 5))) (dBin mulD (dC (.int 30323)) (dVar 2))) (dC (.int 4099))) (dNil))) (dC (.int 2147483563)))) (sRet (dBin modD (dCall (one intF) (dCons (dBin addD (dBin fdivD (dBin ixD (dVar 0) (dC (.int 3))) (dC (.int 61))) (dBin mulD (dBin modD (dCall (one intF) (dCons (dBin ixD (dVar 0) (dC (.int 3))) (dNil))) (dC (.int 6047))) (dC (.int 29)))) (dNil))) (dVar 1)))))))
def sem__law_draw : List D → S → R D := semOf 2 5 den__law_draw
def den__law_pick : Ev → S → RS := sRet (dBin ixD (dVar 1) (dCall sem__law_draw (dCons (dVar 0) (dCons (dCall (one lenD) (dCons (dVar 1) (dNil))) (dNil)))))
def sem__law_pick : List D → S → R D := semOf 2 2 den__law_pick
def den__law_letters : Ev → S → RS := sRet (dC (.str "abcdefghijklmnopqrstuvwxyz"))
def sem__law_letters : List D → S → R D := semOf 0 0 den__law_letters
def den__law_word : Ev → S → RS := sRet (dJoin (dC (.str "")) (dLc (.nm 2) [2] (dRange (dCons (dBin addD (dC (.int 1)) (dCall sem__law_draw (dCons (dVar 0) (dCons (dVar 1) (dNil))))) (dNil))) (tTrue) (dBin ixD (dCall sem__law_letters dNil) (dCall sem__law_draw (dCons (dVar 0) (dCons (dC (.int 26)) (dNil)))))))
def sem__law_word : List D → S → R D := semOf 2 3 den__law_word
def den__law_shuffle : Ev → S → RS := sSeq (sOwn 2 (dNil)) (sSeq (sFor (.nm 3) (dItems (dVar 1)) (sIns 2 (dCons (dCall sem__law_draw (dCons (dVar 0) (dCons (dBin addD (dCall (one lenD) (dCons (dOwn 2) (dNil))) (dC (.int 1))) (dNil)))) (dCons (dVar 3) (dNil))))) (sRetOwn 2))
def sem__law_shuffle : List D → S → R D := semOf 2 4 den__law_shuffle
def den__law_names : Ev → S → RS := sSeq (sAsg (.tp [6, 7]) (dTup (dCons (dCall sem__law_draw (dCons (dVar 0) (dCons (dC (.int 26)) (dNil)))) (dCons (dCall sem__law_pick (dCons (dVar 0) (dCons (dLst (dCons (dC (.int 1)) (dCons (dC (.int 3)) (dCons (dC (.int 5)) (dCons (dC (.int 7)) (dCons (dC (.int 9)) (dCons (dC (.int 11)) (dCons (dC (.int 25)) (dNil))))))))) (dNil)))) (dNil))))) (sSeq (sSet 2 (dLc (.nm 5) [5] (dRange (dCons (dVar 1) (dNil))) (tTrue) (dBin ixD (dCall sem__law_letters dNil) (dBin modD (dCall (one intF) (dCons (dBin addD (dVar 6) (dBin modD (dBin mulD (dVar 7) (dCall (one intF) (dCons (dVar 5) (dNil)))) (dC (.int 26)))) (dNil))) (dC (.int 26)))))) (sSeq (sSet 3 (dLc (.nm 5) [5] (dRange (dCons (dVar 1) (dNil))) (tTrue) (dBin addD (dBin ixD (dVar 2) (dVar 5)) (dIf (dTB (dBin ltD (dVar 5) (dC (.int 26)))) (dC (.str "")) (dBin ixD (dCall sem__law_letters dNil) (dBin fdivD (dVar 5) (dC (.int 26)))))))) (sSeq (sAsg (.tp [8, 9]) (dTup (dCons (dCall sem__law_draw (dCons (dVar 0) (dCons (dC (.int 4)) (dNil)))) (dCons (dCall sem__law_word (dCons (dVar 0) (dCons (dC (.int 4)) (dNil)))) (dNil))))) (sSeq (sIf (dTB (dBin eqD (dVar 8) (dC (.int 0)))) (sSeq (sSet 10 (dCall sem__law_draw (dCons (dVar 0) (dCons (dBin addD (dCall (one lenD) (dCons (dVar 9) (dNil))) (dC (.int 1))) (dNil))))) (sRet (dLc (.nm 15) [15] (dItems (dVar 3)) (tTrue) (dBin addD (dBin addD (dSl (dVar 9) (dNoP) (dPart (dVar 10))) (dVar 15)) (dSl (dVar 9) (dPart (dVar 10)) (dNoP)))))) (sNext)) (sSeq (sIf (dTB (dBin eqD (dVar 8) (dC (.int 1)))) (sSeq (sSet 11 (dLst (dCons (dC (.str "find")) (dCons (dC (.str "finds")) (dCons (dC (.str "word")) (dCons (dC (.str "fact")) (dCons (dC (.str "before")) (dCons (dC (.str "first")) (dCons (dC (.str "last")) (dCons (dC (.str "lot")) (dCons (dC (.str "never")) (dCons (dC (.str "all")) (dCons (dC (.str "rest")) (dCons (dC (.str "self")) (dNil))))))))))))))) (sRet (dCall sem__law_shuffle (dCons (dVar 0) (dCons (dSl (dBin addD (dCall sem__law_shuffle (dCons (dVar 0) (dCons (dVar 11) (dNil)))) (dVar 3)) (dNoP) (dPart (dVar 1))) (dNil)))))) (sNext)) (sSeq (sOwn 4 (dNil)) (sSeq (sFor (.nm 5) (dRange (dCons (dVar 1) (dNil))) (sSeq (sSet 12 (dAnd (dBin gtD (dVar 5) (dC (.int 0))) (dBin eqD (dCall sem__law_draw (dCons (dVar 0) (dCons (dC (.int 3)) (dNil)))) (dC (.int 0))))) (sSeq (sSet 13 (dIf (dTst (dVar 12)) (dSl (dBin addD (dBin ixD (dOwn 4) (dCall sem__law_draw (dCons (dVar 0) (dCons (dVar 5) (dNil))))) (dCall sem__law_word (dCons (dVar 0) (dCons (dC (.int 1)) (dNil))))) (dNoP) (dPart (dC (.int 6)))) (dCall sem__law_word (dCons (dVar 0) (dCons (dC (.int 6)) (dNil)))))) (sSeq (sSet 14 (dLc (.nm 15) [15] (dItems (dVar 3)) (dTB (dBin nInD (dVar 15) (dOwn 4))) (dVar 15))) (sApp 4 (dIf (dTB (dBin inD (dVar 13) (dOwn 4))) (dBin ixD (dVar 14) (dC (.int 0))) (dVar 13))))))) (sRetOwn 4))))))))
def sem__law_names : List D → S → R D := semOf 2 16 den__law_names
def den__law_odd : Ev → S → RS := sRet (dCall sem__law_pick (dCons (dVar 0) (dCons (dLst (dCons (dC .non) (dCons (dC (.bl true)) (dCons (dC (.bl false)) (dCons (dC (.int 0)) (dCons (dC (.int 1)) (dCons (dUn negD (dC (.int 1))) (dCons (dC (.int 30)) (dCons (dC (.int 999999999)) (dCons (dC (.str "")) (dCons (dC (.str "a")) (dCons (dC (.str "A")) (dCons (dC (.str "ab1")) (dCons (dC (.str "abcdefg")) (dCons (dC (.str "a b")) (dCons (dC (.str "a\n")) (dCons (dC (.str "{")) (dCons (dTup (dNil)) (dCons (dLst (dNil)) (dCons (dTup (dCons (dC (.str "a")) (dNil))) (dCons (dLst (dCons (dC (.str "a")) (dNil))) (dCons (dTup (dCons (dC (.str "b")) (dCons (dC (.str "a")) (dNil)))) (dCons (dTup (dCons (dC (.str "a")) (dCons (dC (.str "a")) (dNil)))) (dCons (dTup (dCons (dC (.str "a")) (dCons (dC (.int 1)) (dNil)))) (dCons (dTup (dCons (dC .non) (dNil))) (dCons (dTup (dCons (dC (.bl true)) (dNil))) (dCons (dTup (dCons (dTup (dCons (dC (.str "a")) (dNil))) (dNil))) (dCons (dLst (dCons (dLst (dCons (dC (.str "a")) (dNil))) (dNil))) (dCons (dTup (dCons (dC (.str "a")) (dCons (dLst (dCons (dC (.str "a")) (dNil))) (dNil)))) (dCons (dTup (dCons (dC (.str "a")) (dCons (dC (.str "")) (dNil)))) (dCons (dTup (dCons (dC (.str "a")) (dCons (dC (.str "B")) (dNil)))) (dCons (dLst (dCons (dC (.str "a")) (dCons (dTup (dCons (dC (.str "a")) (dNil))) (dNil)))) (dCons (dTup (dCons (dC (.str "a")) (dCons (dTup (dCons (dC (.str "b")) (dCons (dC (.str "a")) (dNil)))) (dNil)))) (dCons (dTup (dCons (dC (.str "a")) (dCons (dTup (dNil)) (dNil)))) (dCons (dTup (dCons (dC (.str "a")) (dCons (dLst (dNil)) (dNil)))) (dCons (dTup (dCons (dC (.int 1)) (dCons (dTup (dCons (dC (.str "a")) (dNil))) (dNil)))) (dNil))))))))))))))))))))))))))))))))))))) (dNil))))
def sem__law_odd : List D → S → R D := semOf 1 1 den__law_odd
def den__law_subset : Ev → S → RS := sSeq (sAsg (.tp [4, 5]) (dTup (dCons (dBin addD (dC (.int 1)) (dCall sem__law_draw (dCons (dVar 0) (dCons (dC (.int 3)) (dNil))))) (dCons (dCall sem__law_pick (dCons (dVar 0) (dCons (dVar 1) (dNil)))) (dNil))))) (sSeq (sSet 2 (dLc (.nm 6) [6] (dItems (dVar 1)) (tTrue) (dCall sem__law_draw (dCons (dVar 0) (dCons (dC (.int 4)) (dNil)))))) (sSeq (sSet 3 (dLc (.nm 7) [7] (dRange (dCons (dCall (one lenD) (dCons (dVar 1) (dNil))) (dNil))) (dTB (dBin ltD (dBin ixD (dVar 2) (dVar 7)) (dVar 4))) (dBin ixD (dVar 1) (dVar 7)))) (sRet (dCall (one tupleF) (dCons (dCall (one sortedD) (dCons (dIf (dTB (dBin neD (dVar 3) (dLst (dNil)))) (dVar 3) (dLst (dCons (dVar 5) (dNil)))) (dNil))) (dNil))))))
def sem__law_subset : List D → S → R D := semOf 2 8 den__law_subset
def den__law_is_name : Ev → S → RS := sRet (dAnd (dCall isiD (dCons (dVar 0) (dCons (dC (.ty "str")) dNil))) (dAnd (dBin inD (dCall (one lenD) (dCons (dVar 0) (dNil))) (dTup (dCons (dC (.int 1)) (dCons (dC (.int 2)) (dCons (dC (.int 3)) (dCons (dC (.int 4)) (dCons (dC (.int 5)) (dCons (dC (.int 6)) (dNil))))))))) (dCall (one allD) (dCons (dLc (.nm 1) [1] (dItems (dVar 0)) (tTrue) (dBin inD (dVar 1) (dCall sem__law_letters dNil))) (dNil)))))
def sem__law_is_name : List D → S → R D := semOf 1 2 den__law_is_name
def den__law_rising : Ev → S → RS := sRet (dCall (one allD) (dCons (dLc (.nm 1) [1] (dRange (dCons (dBin subD (dCall (one lenD) (dCons (dVar 0) (dNil))) (dC (.int 1))) (dNil))) (tTrue) (dBin ltD (dBin ixD (dVar 0) (dVar 1)) (dBin ixD (dVar 0) (dBin addD (dVar 1) (dC (.int 1)))))) (dNil)))
def sem__law_rising : List D → S → R D := semOf 1 2 den__law_rising
def den__law_is_lot : Ev → S → RS := sSeq (sIf (tOrD (tNotD (dTst (dCall isiD (dCons (dVar 0) (dCons (dC (.ty "tuple")) dNil))))) (tOrD (dTB (dBin eqD (dCall (one lenD) (dCons (dVar 0) (dNil))) (dC (.int 0)))) (tNotD (dTst (dCall (one allD) (dCons (dLc (.nm 1) [1] (dItems (dVar 0)) (tTrue) (dCall sem__law_is_name (dCons (dVar 1) (dNil)))) (dNil))))))) (sRet (dC (.bl false))) (sNext)) (sRet (dCall sem__law_rising (dCons (dVar 0) (dNil))))
def sem__law_is_lot : List D → S → R D := semOf 1 2 den__law_is_lot
def den_is_name : Ev → S → RS := sSeq (sIf (tOrD (tNotD (dTst (dCall isiD (dCons (dVar 0) (dCons (dC (.ty "str")) dNil))))) (tNotD (dTB (dChain leD leD (dC (.int 1)) (dCall (one lenD) (dCons (dVar 0) (dNil))) (dC (.int 6)))))) (sRet (dC (.bl false))) (sNext)) (sRet (dCall (one allD) (dCons (dLc (.nm 1) [1] (dItems (dVar 0)) (tTrue) (dBin inD (dVar 1) (dC (.str "abcdefghijklmnopqrstuvwxyz")))) (dNil))))
def sem_is_name : List D → S → R D := semOf 1 2 den_is_name
def den_is_lot : Ev → S → RS := sSeq (sIf (tOrD (tNotD (dTst (dCall isiD (dCons (dVar 0) (dCons (dC (.ty "tuple")) dNil))))) (tOrD (dTB (dBin eqD (dCall (one lenD) (dCons (dVar 0) (dNil))) (dC (.int 0)))) (tNotD (dTst (dCall (one allD) (dCons (dLc (.nm 1) [1] (dItems (dVar 0)) (tTrue) (dCall sem_is_name (dCons (dVar 1) (dNil)))) (dNil))))))) (sRet (dC (.bl false))) (sNext)) (sRet (dCall (one allD) (dCons (dLc (.tp [1, 2]) [1, 2] (dZip (dCons (dVar 0) (dCons (dSl (dVar 0) (dPart (dC (.int 1))) (dNoP)) (dNil)))) (tTrue) (dBin ltD (dVar 1) (dVar 2))) (dNil))))
def sem_is_lot : List D → S → R D := semOf 1 3 den_is_lot
end Co
set_option maxHeartbeats 4000000
/-! Denotations of defs (printed by wip/tools/gen.py). -/
namespace Co
open PySem L2 DL
def den__law_is_lot_of : Ev → S → RS := sRet (dAnd (dCall sem__law_is_lot (dCons (dVar 1) (dNil))) (dCall (one allD) (dCons (dLc (.nm 2) [2] (dItems (dVar 1)) (tTrue) (dBin inD (dVar 2) (dVar 0))) (dNil))))
def sem__law_is_lot_of : List D → S → R D := semOf 2 3 den__law_is_lot_of
def den_is_lot_of : Ev → S → RS := sRet (dAnd (dCall sem_is_lot (dCons (dVar 1) (dNil))) (dCall (one allD) (dCons (dLc (.nm 2) [2] (dItems (dVar 1)) (tTrue) (dBin inD (dVar 2) (dVar 0))) (dNil))))
def sem_is_lot_of : List D → S → R D := semOf 2 3 den_is_lot_of
end Co
set_option maxHeartbeats 4000000
/-! Denotations of defs (printed by wip/tools/gen.py). -/
namespace Co
open PySem L2 DL
end Co
set_option maxHeartbeats 4000000
/-! Denotations of defs (printed by wip/tools/gen.py). -/
namespace Co
open PySem L2 DL
def den__law_stretch : Ev → S → RS := sSeq (sSet 2 (dCall (minD) (dCons (dCall (one lenD) (dCons (dVar 1) (dNil))) (dCons (dCall sem__law_pick (dCons (dVar 0) (dCons (dLst (dCons (dC (.int 1)) (dCons (dC (.int 2)) (dCons (dC (.int 2)) (dCons (dC (.int 2)) (dCons (dC (.int 3)) (dCons (dC (.int 3)) (dCons (dC (.int 4)) (dCons (dC (.int 5)) (dCons (dC (.int 12)) (dNil))))))))))) (dNil)))) (dNil))))) (sSeq (sSet 3 (dCall sem__law_draw (dCons (dVar 0) (dCons (dBin addD (dBin subD (dCall (one lenD) (dCons (dVar 1) (dNil))) (dVar 2)) (dC (.int 1))) (dNil))))) (sRet (dCall (one tupleF) (dCons (dCall (one sortedD) (dCons (dSl (dVar 1) (dPart (dVar 3)) (dPart (dBin addD (dVar 3) (dVar 2)))) (dNil))) (dNil)))))
def sem__law_stretch : List D → S → R D := semOf 2 4 den__law_stretch
end Co
set_option maxHeartbeats 4000000
/-! Denotations of defs (printed by wip/tools/gen.py). -/
namespace Co
open PySem L2 DL
end Co
set_option maxHeartbeats 4000000
/-! Denotations of defs (printed by wip/tools/gen.py). -/
namespace Co
open PySem L2 DL
def den_check_finds : Ev → S → RS := sSeq (sIf (tOrD (tNotD (dTst (dUn (isiT ["list", "tuple"]) (dVar 0)))) (dTB (dBin eqD (dCall (one lenD) (dCons (dVar 0) (dNil))) (dC (.int 0))))) (sRaise 4 1 [("at", .par 0), ("code", .txt "InvalidFind")] (dCons (dUn negD (dC (.int 1))) (dNil))) (sNext)) (sSeq (sIf (dTB (dBin gtD (dCall (one lenD) (dCons (dVar 0) (dNil))) (dC (.int 12)))) (sRaise 19 1 [("most", .par 0), ("code", .txt "TooMany")] (dCons (dC (.int 12)) (dNil))) (sNext)) (sFor (.tp [1, 2]) (dEnum (dCons (dVar 0) (dNil))) (sIf (tOrD (tNotD (dTst (dCall sem_is_name (dCons (dVar 2) (dNil))))) (dTB (dBin inD (dVar 2) (dSl (dVar 0) (dNoP) (dPart (dVar 1)))))) (sRaise 4 1 [("at", .par 0), ("code", .txt "InvalidFind")] (dCons (dVar 1) (dNil))) (sNext))))
def sem_check_finds : List D → S → R D := semOf 1 3 den_check_finds
def den_is_word : Ev → S → RS := sRet (dAnd (dCall isiD (dCons (dVar 1) (dCons (dC (.ty "tuple")) dNil))) (dAnd (dBin eqD (dCall (one lenD) (dCons (dVar 1) (dNil))) (dC (.int 2))) (dAnd (dCall sem_is_name (dCons (dBin ixD (dVar 1) (dC (.int 0))) (dNil))) (dCall sem_is_lot_of (dCons (dVar 0) (dCons (dBin ixD (dVar 1) (dC (.int 1))) (dNil)))))))
def sem_is_word : List D → S → R D := semOf 2 2 den_is_word
def den_check_words : Ev → S → RS := sSeq (sIf (tNotD (dTst (dUn (isiT ["list", "tuple"]) (dVar 1)))) (sRaise 5 1 [("at", .par 0), ("code", .txt "InvalidWord")] (dCons (dUn negD (dC (.int 1))) (dNil))) (sNext)) (sSeq (sIf (dTB (dBin gtD (dCall (one lenD) (dCons (dVar 1) (dNil))) (dC (.int 40)))) (sRaise 19 1 [("most", .par 0), ("code", .txt "TooMany")] (dCons (dC (.int 40)) (dNil))) (sNext)) (sSeq (sFor (.tp [3, 4]) (dEnum (dCons (dVar 1) (dNil))) (sIf (tNotD (dTst (dCall sem_is_word (dCons (dVar 0) (dCons (dVar 4) (dNil)))))) (sRaise 5 1 [("at", .par 0), ("code", .txt "InvalidWord")] (dCons (dVar 3) (dNil))) (sNext))) (sSeq (sSet 2 (dLc (.tp [5, 6]) [5, 6] (dItems (dVar 1)) (tTrue) (dVar 5))) (sFor (.tp [3, 5]) (dEnum (dCons (dVar 2) (dNil))) (sIf (dTB (dBin inD (dVar 5) (dSl (dVar 2) (dNoP) (dPart (dVar 3))))) (sRaise 18 1 [("name", .par 0), ("code", .txt "DuplicateName")] (dCons (dVar 5) (dNil))) (sNext))))))
def sem_check_words : List D → S → R D := semOf 2 7 den_check_words
def den_Book_init : Ev → S → RS := sSeq (sDrop (dCall sem_check_finds (dCons (dVar 1) (dNil)))) (sSeq (sDrop (dCall sem_check_words (dCons (dVar 1) (dCons (dVar 2) (dNil))))) (sSeq (sFld 0 38 "own_finds" (dCall (one tupleF) (dCons (dUn setD (dVar 1)) (dNil)))) (sFld 0 38 "own_words" (dCall (one tupleF) (dCons (dVar 2) (dNil))))))
def sem_Book_init : List D → S → R D := semI 38 2 3 den_Book_init
def den_Book_finds : Ev → S → RS := sRet (dCall (one listF) (dCons (dUn (attrD [38] "own_finds") (dVar 0)) (dNil)))
def sem_Book_finds : List D → S → R D := semOf 1 1 den_Book_finds
def den_Book_words : Ev → S → RS := sRet (dCall (one listF) (dCons (dUn (attrD [38] "own_words") (dVar 0)) (dNil)))
def sem_Book_words : List D → S → R D := semOf 1 1 den_Book_words
end Co
set_option maxHeartbeats 4000000
/-! Denotations of defs (printed by wip/tools/gen.py). -/
namespace Co
open PySem L2 DL
def k_ELDERS : List (Str × D) := [("single", (.int (0))), ("all", (.int (0))), ("word", (.int (1))), ("union", (.int (2))), ("common", (.int (2))), ("rest", (.int (2))), ("fact", (.int (1))), ("apart", (.int (3))), ("across", (.int (3))), ("chain", (.int (2))), ("bar", (.int (3))), ("self", (.int (1)))]
end Co
set_option maxHeartbeats 4000000
/-! Denotations of defs (printed by wip/tools/gen.py). -/
namespace Co
open PySem L2 DL
end Co
set_option maxHeartbeats 4000000
/-! Denotations of defs (printed by wip/tools/gen.py). -/
namespace Co
open PySem L2 DL
end Co
set_option maxHeartbeats 4000000
/-! Denotations of defs (printed by wip/tools/gen.py). -/
namespace Co
open PySem L2 DL
def den__law_terms : Ev → S → RS := sSeq (sSet 3 (dCall sem__law_shuffle (dCons (dVar 0) (dCons (dVar 2) (dNil))))) (sSeq (sSet 4 (dCall sem__law_draw (dCons (dVar 0) (dCons (dC (.int 2)) (dNil))))) (sSeq (sSet 5 (dLc (.nm 6) [6] (dItems (dVar 1)) (tTrue) (dIf (tAndD (dTB (dBin gtD (dVar 4) (dC (.int 0)))) (dTB (dBin eqD (dCall sem__law_draw (dCons (dVar 0) (dCons (dC (.int 3)) (dNil)))) (dC (.int 0))))) (dCall sem__law_subset (dCons (dVar 0) (dCons (dVar 2) (dNil)))) (dCall sem__law_stretch (dCons (dVar 0) (dCons (dVar 3) (dNil))))))) (sRet (dLc (.nm 7) [7] (dRange (dCons (dCall (one lenD) (dCons (dVar 1) (dNil))) (dNil))) (tTrue) (dTup (dCons (dBin ixD (dVar 1) (dVar 7)) (dCons (dBin ixD (dVar 5) (dVar 7)) (dNil))))))))
def sem__law_terms : List D → S → R D := semOf 3 8 den__law_terms
def den__law_put : Ev → S → RS := sSeq (sSet 3 (dCall sem__law_draw (dCons (dVar 0) (dCons (dBin addD (dCall (one lenD) (dCons (dVar 1) (dNil))) (dC (.int 1))) (dNil))))) (sRet (dBin addD (dBin addD (dSl (dVar 1) (dNoP) (dPart (dVar 3))) (dLst (dCons (dVar 2) (dNil)))) (dSl (dVar 1) (dPart (dBin addD (dVar 3) (dIf (dTB (dBin eqD (dCall sem__law_draw (dCons (dVar 0) (dCons (dC (.int 2)) (dNil)))) (dC (.int 0)))) (dC (.int 1)) (dC (.int 0))))) (dNoP))))
def sem__law_put : List D → S → R D := semOf 3 4 den__law_put
def den__law_wrong_term : Ev → S → RS := sSeq (sPar [4, 5, 6] (dCons (dCall sem__law_pick (dCons (dVar 0) (dCons (dSl (dVar 2) (dNoP) (dPart (dC (.int 9)))) (dNil)))) (dCons (dCall (one listF) (dCons (dCall sem__law_subset (dCons (dVar 0) (dCons (dVar 1) (dNil)))) (dNil))) (dCons (dCall sem__law_draw (dCons (dVar 0) (dCons (dC (.int 10)) (dNil)))) (dNil))))) (sSeq (sSet 3 (dCall sem__law_put (dCons (dVar 0) (dCons (dVar 5) (dCons (dCall sem__law_pick (dCons (dVar 0) (dCons (dLst (dCons (dCall sem__law_odd (dCons (dVar 0) (dNil))) (dCons (dCall sem__law_word (dCons (dVar 0) (dCons (dC (.int 6)) (dNil)))) (dCons (dBin ixD (dVar 5) (dC (.int 0))) (dNil))))) (dNil)))) (dNil)))))) (sRet (dBin ixD (dLst (dCons (dCall sem__law_odd (dCons (dVar 0) (dNil))) (dCons (dTup (dCons (dVar 4) (dCons (dCall sem__law_odd (dCons (dVar 0) (dNil))) (dNil)))) (dCons (dTup (dCons (dCall sem__law_odd (dCons (dVar 0) (dNil))) (dCons (dCall (one tupleF) (dCons (dVar 5) (dNil))) (dNil)))) (dCons (dLst (dCons (dVar 4) (dCons (dCall (one tupleF) (dCons (dVar 5) (dNil))) (dNil)))) (dCons (dTup (dCons (dVar 4) (dCons (dVar 5) (dNil)))) (dCons (dTup (dCons (dVar 4) (dCons (dCall (one tupleF) (dCons (dUn revD (dVar 5)) (dNil))) (dNil)))) (dCons (dTup (dCons (dVar 4) (dCons (dCall (one tupleF) (dCons (dVar 3) (dNil))) (dNil)))) (dCons (dTup (dCons (dVar 4) (dCons (dCall (one tupleF) (dCons (dVar 5) (dNil))) (dCons (dCall (one tupleF) (dCons (dVar 5) (dNil))) (dNil))))) (dCons (dTup (dCons (dVar 4) (dCons (dCall (one tupleF) (dCons (dVar 5) (dNil))) (dNil)))) (dCons (dTup (dCons (dVar 4) (dNil))) (dNil)))))))))))) (dVar 6))))
def sem__law_wrong_term : List D → S → R D := semOf 3 7 den__law_wrong_term
def den__law_is_term : Ev → S → RS := sRet (dAnd (dCall isiD (dCons (dVar 1) (dCons (dC (.ty "tuple")) dNil))) (dAnd (dBin eqD (dCall (one lenD) (dCons (dVar 1) (dNil))) (dC (.int 2))) (dAnd (dCall sem__law_is_name (dCons (dBin ixD (dVar 1) (dC (.int 0))) (dNil))) (dCall sem__law_is_lot_of (dCons (dVar 0) (dCons (dBin ixD (dVar 1) (dC (.int 1))) (dNil)))))))
def sem__law_is_term : List D → S → R D := semOf 2 2 den__law_is_term
def den__law_words_due : Ev → S → RS := sSeq (sIf (tNotD (dTst (dUn (isiT ["list", "tuple"]) (dVar 1)))) (sRet (dTup (dCons (dC (.str "no")) (dCons (dC (.str "InvalidWord")) (dCons (dUn negD (dC (.int 1))) (dNil)))))) (sNext)) (sSeq (sIf (dTB (dBin gtD (dCall (one lenD) (dCons (dVar 1) (dNil))) (dC (.int 40)))) (sRet (dTup (dCons (dC (.str "no")) (dCons (dC (.str "TooMany")) (dCons (dC (.int 40)) (dNil)))))) (sNext)) (sSeq (sSet 2 (dLc (.nm 5) [5] (dRange (dCons (dCall (one lenD) (dCons (dVar 1) (dNil))) (dNil))) (tNotD (dTst (dCall sem__law_is_term (dCons (dVar 0) (dCons (dBin ixD (dVar 1) (dVar 5)) (dNil)))))) (dVar 5))) (sSeq (sIf (dTB (dBin neD (dVar 2) (dLst (dNil)))) (sRet (dTup (dCons (dC (.str "no")) (dCons (dC (.str "InvalidWord")) (dCons (dBin ixD (dVar 2) (dC (.int 0))) (dNil)))))) (sNext)) (sSeq (sSet 3 (dLc (.nm 6) [6] (dItems (dVar 1)) (tTrue) (dBin ixD (dVar 6) (dC (.int 0))))) (sSeq (sSet 4 (dLc (.nm 5) [5] (dRange (dCons (dCall (one lenD) (dCons (dVar 1) (dNil))) (dNil))) (dTB (dBin inD (dBin ixD (dVar 3) (dVar 5)) (dSl (dVar 3) (dNoP) (dPart (dVar 5))))) (dBin ixD (dVar 3) (dVar 5)))) (sRet (dIf (dTB (dBin neD (dVar 4) (dLst (dNil)))) (dTup (dCons (dC (.str "no")) (dCons (dC (.str "DuplicateName")) (dCons (dBin ixD (dVar 4) (dC (.int 0))) (dNil))))) (dTup (dNil)))))))))
def sem__law_words_due : List D → S → R D := semOf 2 7 den__law_words_due
def den__law_shown : Ev → S → RS := sRet (dLst (dCons (dMeth "finds" [(38, sem_Book_finds)] (dVar 0) (dNil)) (dCons (dMeth "words" [(38, sem_Book_words)] (dVar 0) (dNil)) (dNil))))
def sem__law_shown : List D → S → R D := semOf 1 1 den__law_shown
def den__law_met : Ev → S → RS := sSeq (sIf (dTB (dBin neD (dVar 1) (dTup (dNil)))) (sRet (dCall (sem__law_same 12) (dCons (dVar 0) (dCons (dVar 1) (dNil))))) (sNext)) (sRet (dAnd (dBin eqD (dBin ixD (dVar 0) (dC (.int 0))) (dC (.str "told"))) (dCall (sem__law_same 12) (dCons (dCall sem__law_shown (dCons (dBin ixD (dVar 0) (dC (.int 1))) (dNil))) (dCons (dVar 2) (dNil))))))
def sem__law_met : List D → S → R D := semOf 3 3 den__law_met
def den__law_fields_4 : Ev → S → RS := sSeq (sIf (dTB (dBin eqD (dXf (okC [4, 5, 11, 18, 19, 33]) 0 "code") (dC (.str "InvalidName")))) (sRet (dTup (dCons (dXf (okC [4, 5, 11, 18, 19, 33]) 0 "value") (dNil)))) (sNext)) (sSeq (sIf (dTB (dBin inD (dXf (okC [4, 5, 11, 18, 19, 33]) 0 "code") (dTup (dCons (dC (.str "InvalidLot")) (dCons (dC (.str "InvalidFind")) (dCons (dC (.str "InvalidWord")) (dCons (dC (.str "InvalidFact")) (dNil)))))))) (sRet (dTup (dCons (dXf (okC [4, 5, 11, 18, 19, 33]) 0 "at") (dNil)))) (sNext)) (sSeq (sIf (dTB (dBin inD (dXf (okC [4, 5, 11, 18, 19, 33]) 0 "code") (dTup (dCons (dC (.str "DuplicateName")) (dCons (dC (.str "UnknownName")) (dCons (dC (.str "UnknownFind")) (dNil))))))) (sRet (dTup (dCons (dXf (okC [4, 5, 11, 18, 19, 33]) 0 "name") (dNil)))) (sNext)) (sSeq (sIf (dTB (dBin eqD (dXf (okC [4, 5, 11, 18, 19, 33]) 0 "code") (dC (.str "InvalidText")))) (sRet (dTup (dCons (dXf (okC [4, 5, 11, 18, 19, 33]) 0 "line") (dCons (dXf (okC [4, 5, 11, 18, 19, 33]) 0 "why") (dNil))))) (sNext)) (sRet (dIf (dTB (dBin eqD (dXf (okC [4, 5, 11, 18, 19, 33]) 0 "code") (dC (.str "TooMany")))) (dTup (dCons (dXf (okC [4, 5, 11, 18, 19, 33]) 0 "most") (dNil))) (dTup (dNil)))))))
def sem__law_fields_4 : Exn → S → R D := semX 1 den__law_fields_4
def fE__law_try_4 : Ev → S → R D := dBin addD (dTup (dCons (dC (.str "no")) (dCons (dXf (okC [4, 5, 11, 18, 19, 33]) 1 "code") (dNil)))) (dCallX 1 sem__law_fields_4)
def hF__law_try_4 : Exn → S → R D := fun y st => fE__law_try_4 (exE 2 1 y) st
def den_Book_add : Ev → S → RS := sRet (dCallD sem_Book_init [] (dCons (dUn (attrD [38] "own_finds") (dVar 0)) (dCons (dLst (dStar (dUn (attrD [38] "own_words") (dVar 0)) (dCons (dVar 1) (dNil)))) (dNil))))
def sem_Book_add : List D → S → R D := semOf 2 2 den_Book_add
def den_Book_with_word : Ev → S → RS := sRet (dCallD sem_Book_init [] (dCons (dUn (attrD [38] "own_finds") (dVar 0)) (dCons (dLst (dStar (dUn (attrD [38] "own_words") (dVar 0)) (dCons (dTup (dCons (dVar 1) (dCons (dVar 2) (dNil)))) (dNil)))) (dNil))))
def sem_Book_with_word : List D → S → R D := semOf 3 3 den_Book_with_word
def den__law_grown_so : Ev → S → RS := sSeq (sSet 4 (dCallD sem_Book_init [] (dCons (dVar 1) (dCons (dVar 2) (dNil))))) (sSeq (sFor (.nm 5) (dRange (dCons (dC (.int 5)) (dNil))) (sSeq (sSet 6 (dCall sem__law_wrong_term (dCons (dVar 0) (dCons (dVar 1) (dCons (dVar 3) (dNil)))))) (sSeq (sPar [7, 8] (dCons (dLst (dCons (dCall (one sortedD) (dCons (dVar 1) (dNil))) (dCons (dBin addD (dVar 2) (dLst (dCons (dVar 6) (dNil)))) (dNil)))) (dCons (dCall sem__law_words_due (dCons (dVar 1) (dCons (dBin addD (dVar 2) (dLst (dCons (dVar 6) (dNil)))) (dNil)))) (dNil)))) (sSeq (sIf (tNotD (dTst (dCall sem__law_met (dCons (dTry "told" (okC [4, 5, 11, 18, 19, 33]) hF__law_try_4 (dBin (ownD ((38, sem_Book_add) :: []) addD) (dVar 4) (dVar 6))) (dCons (dVar 8) (dCons (dVar 7) (dNil))))))) (sRet (dC (.bl false))) (sNext)) (sSeq (sIf (tAndD (dTst (dCall isiD (dCons (dVar 6) (dCons (dC (.ty "tuple")) dNil)))) (dTB (dBin eqD (dCall (one lenD) (dCons (dVar 6) (dNil))) (dC (.int 2))))) (sSeq (sSet 9 (dLst (dCons (dTry "told" (okC [4, 5, 11, 18, 19, 33]) hF__law_try_4 (dMeth "with_word" [(38, sem_Book_with_word)] (dVar 4) (dCons (dBin ixD (dVar 6) (dC (.int 0))) (dCons (dBin ixD (dVar 6) (dC (.int 1))) (dNil))))) (dCons (dTry "told" (okC [4, 5, 11, 18, 19, 33]) hF__law_try_4 (dMethK "with_word" [(38, sem_Book_with_word)] 0 2 [1, 0] (dVar 4) (dNil) (dCons (dBin ixD (dVar 6) (dC (.int 1))) (dCons (dBin ixD (dVar 6) (dC (.int 0))) (dNil))))) (dNil))))) (sIf (tOrD (tNotD (dTst (dCall sem__law_met (dCons (dBin ixD (dVar 9) (dC (.int 0))) (dCons (dVar 8) (dCons (dVar 7) (dNil))))))) (tNotD (dTst (dCall sem__law_met (dCons (dBin ixD (dVar 9) (dC (.int 1))) (dCons (dVar 8) (dCons (dVar 7) (dNil)))))))) (sRet (dC (.bl false))) (sNext))) (sNext)) (sIf (tNotD (dTst (dCall (sem__law_same 12) (dCons (dCall sem__law_shown (dCons (dVar 4) (dNil))) (dCons (dLst (dCons (dCall (one sortedD) (dCons (dVar 1) (dNil))) (dCons (dVar 2) (dNil)))) (dNil)))))) (sRet (dC (.bl false))) (sNext))))))) (sRet (dC (.bl true))))
def sem__law_grown_so : List D → S → R D := semOf 4 10 den__law_grown_so
def den__law_finds_due : Ev → S → RS := sSeq (sIf (tOrD (tNotD (dTst (dUn (isiT ["list", "tuple"]) (dVar 0)))) (dTB (dBin eqD (dCall (one lenD) (dCons (dVar 0) (dNil))) (dC (.int 0))))) (sRet (dTup (dCons (dC (.str "no")) (dCons (dC (.str "InvalidFind")) (dCons (dUn negD (dC (.int 1))) (dNil)))))) (sNext)) (sSeq (sIf (dTB (dBin gtD (dCall (one lenD) (dCons (dVar 0) (dNil))) (dC (.int 12)))) (sRet (dTup (dCons (dC (.str "no")) (dCons (dC (.str "TooMany")) (dCons (dC (.int 12)) (dNil)))))) (sNext)) (sSeq (sSet 1 (dLc (.nm 2) [2] (dRange (dCons (dCall (one lenD) (dCons (dVar 0) (dNil))) (dNil))) (tOrD (tNotD (dTst (dCall sem__law_is_name (dCons (dBin ixD (dVar 0) (dVar 2)) (dNil))))) (dTB (dBin inD (dBin ixD (dVar 0) (dVar 2)) (dSl (dVar 0) (dNoP) (dPart (dVar 2)))))) (dVar 2))) (sRet (dIf (dTB (dBin neD (dVar 1) (dLst (dNil)))) (dTup (dCons (dC (.str "no")) (dCons (dC (.str "InvalidFind")) (dCons (dBin ixD (dVar 1) (dC (.int 0))) (dNil))))) (dTup (dNil))))))
def sem__law_finds_due : List D → S → R D := semOf 1 3 den__law_finds_due
def den_law_10 : Ev → S → RS := sSeq (sSet 1 (dCall sem__law_start (dCons (dVar 0) (dCons (dC (.int 120330989)) (dNil))))) (sSeq (sSet 2 (dCall sem__law_names (dCons (dVar 1) (dCons (dC (.int 45)) (dNil))))) (sSeq (sFor (.nm 3) (dRange (dCons (dC (.int 4)) (dNil))) (sSeq (sSet 4 (dCall sem__law_names (dCons (dVar 1) (dCons (dCall sem__law_pick (dCons (dVar 1) (dCons (dLst (dCons (dC (.int 1)) (dCons (dC (.int 2)) (dCons (dC (.int 3)) (dCons (dC (.int 4)) (dCons (dC (.int 5)) (dCons (dC (.int 6)) (dCons (dC (.int 8)) (dCons (dC (.int 12)) (dNil)))))))))) (dNil)))) (dNil))))) (sSeq (sSet 5 (dIf (dTB (dBin eqD (dCall sem__law_draw (dCons (dVar 1) (dCons (dC (.int 3)) (dNil)))) (dC (.int 0)))) (dCall sem__law_pick (dCons (dVar 1) (dCons (dLst (dCons (dC (.int 0)) (dCons (dC (.int 1)) (dCons (dC (.int 2)) (dCons (dC (.int 3)) (dCons (dC (.int 4)) (dCons (dC (.int 6)) (dCons (dC (.int 39)) (dCons (dC (.int 40)) (dCons (dC (.int 41)) (dNil))))))))))) (dNil)))) (dCall sem__law_draw (dCons (dVar 1) (dCons (dC (.int 6)) (dNil)))))) (sSeq (sAsg (.tp [10, 11]) (dTup (dCons (dCall sem__law_terms (dCons (dVar 1) (dCons (dSl (dVar 2) (dNoP) (dPart (dVar 5))) (dCons (dVar 4) (dNil))))) (dCons (dVar 4) (dNil))))) (sSeq (sIf (tAndD (dTB (dBin ltD (dVar 5) (dC (.int 41)))) (tNotD (dTst (dCall sem__law_grown_so (dCons (dVar 1) (dCons (dVar 4) (dCons (dVar 10) (dCons (dVar 2) (dNil))))))))) (sRet (dC (.bl false))) (sNext)) (sSeq (sFor (.nm 6) (dRange (dCons (dCall sem__law_pick (dCons (dVar 1) (dCons (dLst (dCons (dC (.int 0)) (dCons (dC (.int 1)) (dCons (dC (.int 1)) (dCons (dC (.int 2)) (dNil)))))) (dNil)))) (dNil))) (sSet 10 (dCall sem__law_put (dCons (dVar 1) (dCons (dVar 10) (dCons (dCall sem__law_wrong_term (dCons (dVar 1) (dCons (dVar 4) (dCons (dVar 2) (dNil))))) (dNil))))))) (sSeq (sFor (.nm 6) (dRange (dCons (dCall sem__law_pick (dCons (dVar 1) (dCons (dLst (dCons (dC (.int 0)) (dCons (dC (.int 0)) (dCons (dC (.int 0)) (dCons (dC (.int 1)) (dCons (dC (.int 2)) (dNil))))))) (dNil)))) (dNil))) (sSet 11 (dCall sem__law_put (dCons (dVar 1) (dCons (dVar 11) (dCons (dCall sem__law_pick (dCons (dVar 1) (dCons (dLst (dCons (dCall sem__law_odd (dCons (dVar 1) (dNil))) (dCons (dBin ixD (dVar 11) (dC (.int 0))) (dCons (dCall sem__law_word (dCons (dVar 1) (dCons (dC (.int 6)) (dNil)))) (dNil))))) (dNil)))) (dNil))))))) (sSeq (sAsg (.tp [12, 13]) (dTup (dCons (dCall (one listF) (dCons (dVar 10) (dNil))) (dCons (dCall (one listF) (dCons (dVar 11) (dNil))) (dNil))))) (sSeq (sSet 7 (dIf (dTB (dBin neD (dCall sem__law_finds_due (dCons (dVar 11) (dNil))) (dTup (dNil)))) (dCall sem__law_finds_due (dCons (dVar 11) (dNil))) (dCall sem__law_words_due (dCons (dVar 11) (dCons (dVar 10) (dNil)))))) (sSeq (sSet 8 (dLst (dCons (dTry "told" (okC [4, 5, 11, 18, 19, 33]) hF__law_try_4 (dCallD sem_Book_init [] (dCons (dVar 13) (dCons (dVar 12) (dNil))))) (dCons (dTry "told" (okC [4, 5, 11, 18, 19, 33]) hF__law_try_4 (dCallKD sem_Book_init 0 2 [.tup []] [1, 0] dNil (dCons (dCall (one tupleF) (dCons (dVar 10) (dNil))) (dCons (dCall (one tupleF) (dCons (dVar 11) (dNil))) (dNil))))) (dNil))))) (sSeq (sSet 9 (dIf (dTB (dBin eqD (dVar 7) (dTup (dNil)))) (dLst (dCons (dCall (one sortedD) (dCons (dVar 11) (dNil))) (dCons (dCall (one listF) (dCons (dVar 10) (dNil))) (dNil)))) (dLst (dNil)))) (sSeq (sIf (tOrD (tNotD (dTst (dCall sem__law_met (dCons (dBin ixD (dVar 8) (dC (.int 0))) (dCons (dVar 7) (dCons (dVar 9) (dNil))))))) (tNotD (dTst (dCall sem__law_met (dCons (dBin ixD (dVar 8) (dC (.int 1))) (dCons (dVar 7) (dCons (dVar 9) (dNil)))))))) (sRet (dC (.bl false))) (sNext)) (sSeq (sAsg (.tp [14, 15]) (dTup (dCons (dCall sem__law_odd (dCons (dVar 1) (dNil))) (dCons (dCall sem__law_pick (dCons (dVar 1) (dCons (dLst (dCons (dC .non) (dCons (dC (.int 5)) (dCons (dC (.str "ab")) (dCons (dC (.bl true)) (dCons (dCall sem__law_odd (dCons (dVar 1) (dNil))) (dNil))))))) (dNil)))) (dNil))))) (sSeq (sSet 7 (dIf (dTB (dBin neD (dCall sem__law_finds_due (dCons (dVar 14) (dNil))) (dTup (dNil)))) (dCall sem__law_finds_due (dCons (dVar 14) (dNil))) (dCall sem__law_words_due (dCons (dVar 14) (dCons (dVar 10) (dNil)))))) (sSeq (sIf (tNotD (dTst (dCall sem__law_met (dCons (dTry "told" (okC [4, 5, 11, 18, 19, 33]) hF__law_try_4 (dCallD sem_Book_init [] (dCons (dVar 14) (dCons (dVar 12) (dNil))))) (dCons (dVar 7) (dCons (dIf (dTB (dBin eqD (dVar 7) (dTup (dNil)))) (dLst (dCons (dCall (one sortedD) (dCons (dVar 14) (dNil))) (dCons (dCall (one listF) (dCons (dVar 10) (dNil))) (dNil)))) (dLst (dNil))) (dNil))))))) (sRet (dC (.bl false))) (sNext)) (sSeq (sSet 7 (dCall sem__law_words_due (dCons (dVar 4) (dCons (dVar 15) (dNil))))) (sSeq (sIf (tNotD (dTst (dCall sem__law_met (dCons (dTry "told" (okC [4, 5, 11, 18, 19, 33]) hF__law_try_4 (dCallD sem_Book_init [] (dCons (dVar 4) (dCons (dVar 15) (dNil))))) (dCons (dVar 7) (dCons (dIf (dTB (dBin eqD (dVar 7) (dTup (dNil)))) (dLst (dCons (dCall (one sortedD) (dCons (dVar 4) (dNil))) (dCons (dCall (one listF) (dCons (dVar 15) (dNil))) (dNil)))) (dLst (dNil))) (dNil))))))) (sRet (dC (.bl false))) (sNext)) (sIf (tNotD (dTst (dCall (sem__law_same 12) (dCons (dLst (dCons (dVar 12) (dCons (dVar 13) (dNil)))) (dCons (dLst (dCons (dVar 10) (dCons (dVar 11) (dNil)))) (dNil)))))) (sRet (dC (.bl false))) (sNext))))))))))))))))))) (sRet (dC (.bl true)))))
def sem_law_10 : List D → S → R D := semOf 1 16 den_law_10
end Co
namespace DM
section
set_option maxHeartbeats 1000000
/-! Mathematics over denotations: results as wishes. -/

open PySem L2 DL

/-- it ends well, with Q -/
def Ok {α : Type} (r : R α) (Q : α → S → Prop) : Prop := ∃ a s, r = .ok a s ∧ Q a s
@[simp] theorem ok_ok {α : Type} (a : α) (s : S) (Q : α → S → Prop) : Ok (.ok a s) Q ↔ Q a s := ⟨fun ⟨_, _, e, q⟩ => by cases e; exact q, fun q => ⟨a, s, rfl, q⟩⟩
@[simp] theorem ok_bind {α β : Type} (r : R α) (k : α → S → R β) (Q : β → S → Prop) : Ok (r.bind k) Q ↔ Ok r fun a s => Ok (k a s) Q := by
  cases r with
  | stuck => exact ⟨fun ⟨_, _, e, _⟩ => (by cases e), fun ⟨_, _, e, _⟩ => (by cases e)⟩
  | ok a s => simp
  | ex x s => exact ⟨fun ⟨_, _, e, _⟩ => (by cases e), fun ⟨_, _, e, _⟩ => (by cases e)⟩
@[simp] theorem ok_noX {α : Type} (r : R α) (Q : α → S → Prop) : Ok (noX r) Q ↔ Ok r Q := by
  cases r with
  | stuck => rfl
  | ok a s => rfl
  | ex x s => exact ⟨fun ⟨_, _, e, _⟩ => (by cases e), fun ⟨_, _, e, _⟩ => (by cases e)⟩
theorem Ok.mono {α : Type} {r : R α} {Q Q' : α → S → Prop} (h : Ok r Q) (hq : ∀ a s, Q a s → Q' a s) : Ok r Q' := let ⟨a, s, e, q⟩ := h; ⟨a, s, e, hq a s q⟩
theorem ok_eq {α : Type} {r : R α} {a : α} {s : S} {Q : α → S → Prop} (e : r = .ok a s) (q : Q a s) : Ok r Q := ⟨a, s, e, q⟩
/-- a statement's end -/
def Go0 (r : RS) (Q : Ev → S → Prop) (T : D → S → Prop) : Prop := match r with
  | .nx ρ s => Q ρ s
  | .ret d s => T d s
  | _ => False
/-- sealed, so that no check of types runs the code -/
structure Go (r : RS) (Q : Ev → S → Prop) (T : D → S → Prop) : Prop where
  go : Go0 r Q T
@[simp] theorem go_nx (ρ : Ev) (s : S) (Q : Ev → S → Prop) (T : D → S → Prop) : Go (.nx ρ s) Q T ↔ Q ρ s := ⟨fun h => h.go, fun h => ⟨h⟩⟩
@[simp] theorem go_ret (d : D) (s : S) (Q : Ev → S → Prop) (T : D → S → Prop) : Go (.ret d s) Q T ↔ T d s := ⟨fun h => h.go, fun h => ⟨h⟩⟩
@[simp] theorem go_toS {α : Type} (r : R α) (k : α → S → RS) (Q : Ev → S → Prop) (T : D → S → Prop) : Go (r.toS k) Q T ↔ Ok r fun a s => Go (k a s) Q T := by
  cases r with
  | stuck => exact ⟨fun h => h.go.elim, fun ⟨_, _, e, _⟩ => (by cases e)⟩
  | ok a s => simp
  | ex x s => exact ⟨fun h => h.go.elim, fun ⟨_, _, e, _⟩ => (by cases e)⟩
@[simp] theorem go_seq (f g : Ev → S → RS) (ρ : Ev) (st : S) (Q : Ev → S → Prop) (T : D → S → Prop) : Go (sSeq f g ρ st) Q T ↔ Go (f ρ st) (fun ρ s => Go (g ρ s) Q T) T := by
  unfold sSeq
  cases f ρ st with
  | nx ρ s => exact ⟨fun h => ⟨h⟩, fun h => h.go⟩
  | ret d s => exact ⟨fun h => ⟨h.go⟩, fun h => ⟨h.go⟩⟩
  | _ => exact ⟨fun h => h.go.elim, fun h => h.go.elim⟩
theorem Go.mono {r : RS} {Q Q' : Ev → S → Prop} {T T' : D → S → Prop} (h : Go r Q T) (hq : ∀ ρ s, Q ρ s → Q' ρ s) (ht : ∀ d s, T d s → T' d s) : Go r Q' T' := by
  cases r with
  | nx ρ s => exact ⟨hq ρ s h.go⟩
  | ret d s => exact ⟨ht d s h.go⟩
  | _ => exact h.go.elim
theorem ok_sem {n m : Nat} {fb : Ev → S → RS} {ds : List D} {st : S} {Q : D → S → Prop} (hl : ds.length = n) (h : Go (fb (ds.map Sl.sh ++ List.replicate (m - ds.length) .no) st) (fun _ s => Q .non s) Q) : Ok (semOf n m fb ds st) Q := by
  unfold semOf
  rw [if_pos hl]
  revert h
  cases fb (ds.map Sl.sh ++ List.replicate (m - ds.length) .no) st with
  | nx ρ s => exact fun h => ⟨_, _, rfl, h.go⟩
  | ret d s => exact fun h => ⟨_, _, rfl, h.go⟩
  | _ => exact fun h => h.go.elim
/-- a loop: an invariant by what is left -/
theorem go_for {t : Tg} {body : Ev → S → RS} {Q : Ev → S → Prop} {T : D → S → Prop} (I : List D → Ev → S → Prop) : ∀ {ds : List D} {ρ : Ev} {st : S}, I ds ρ st →
    (∀ d ds ρ st, I (d :: ds) ρ st → ∃ ρ', bindT t d ρ = some ρ' ∧ Go (body ρ' st) (I ds) T) → (∀ ρ st, I [] ρ st → Q ρ st) → Go (forD t body ds ρ st) Q T
  | [], ρ, st, h, hs, hd => ⟨hd ρ st h⟩
  | d :: ds, ρ, st, h, hs, hd => by
    obtain ⟨ρ', e, g⟩ := hs d ds ρ st h
    unfold forD
    rw [e]
    dsimp only
    revert g
    cases body ρ' st with
    | nx ρ2 s2 => exact fun g => go_for I g.go hs hd
    | ret d s => exact fun g => ⟨g.go⟩
    | _ => exact fun g => g.go.elim
/-- a comprehension that leaves the store -/
theorem comp_pure {t : Tg} {tt : Ev → S → R Bool} {te : Ev → S → R D} {ρ : Ev} {st : S} (p : D → Bool) (f : D → D) : ∀ {ds : List D}, (∀ d ∈ ds, ∃ ρ', bindT t d ρ = some ρ' ∧ tt ρ' st = .ok (p d) st ∧ (p d = true → te ρ' st = .ok (f d) st)) →
    compD t tt te ρ ds st = .ok ((ds.filter p).map f) st
  | [], h => rfl
  | d :: ds, h => by
    obtain ⟨ρ', e, h1, h2⟩ := h d List.mem_cons_self
    have ih := comp_pure (tt := tt) (te := te) (st := st) p f (ds := ds) fun d hd => h d (List.mem_cons_of_mem _ hd)
    unfold compD
    rw [e]
    dsimp only
    rw [h1]
    dsimp only [noX, R.bind]
    cases hp : p d with
    | false => rw [if_neg Bool.false_ne_true, ih, List.filter_cons_of_neg (by rw [hp]; exact Bool.false_ne_true)]
    | true =>
      rw [if_pos rfl, h2 hp]
      dsimp only
      rw [ih, List.filter_cons_of_pos hp]
      rfl
theorem comp_map {t : Tg} {te : Ev → S → R D} {ρ : Ev} {st : S} {ds : List D} (f : D → D) (h : ∀ d ∈ ds, ∃ ρ', bindT t d ρ = some ρ' ∧ te ρ' st = .ok (f d) st) : compD t tTrue te ρ ds st = .ok (ds.map f) st := by
  have := comp_pure (t := t) (tt := tTrue) (te := te) (ρ := ρ) (st := st) (fun _ => true) f (ds := ds) fun d hd => by
    obtain ⟨ρ', e, h1⟩ := h d hd
    exact ⟨ρ', e, rfl, fun _ => h1⟩
  rw [this, List.filter_eq_self.mpr (fun _ _ => rfl)]
/-- a comprehension with a changing store -/
theorem comp_ok {t : Tg} {te : Ev → S → R D} {ρ : Ev} (I : S → Prop) (P : D → D → Prop) : ∀ {ds : List D} {st : S}, I st → (∀ d ∈ ds, ∀ st, I st → ∃ ρ', bindT t d ρ = some ρ' ∧ Ok (te ρ' st) fun y s => I s ∧ P d y) →
    Ok (compD t tTrue te ρ ds st) fun ys s => I s ∧ Paired P ds ys
  | [], st, h, _ => ⟨_, _, rfl, h, .nil⟩
  | d :: ds, st, h, hs => by
    obtain ⟨ρ', e, y, s1, e1, h1, h2⟩ := hs d List.mem_cons_self st h
    obtain ⟨ys, s2, e2, h3, h4⟩ := comp_ok I P (ds := ds) h1 fun d hd => hs d (List.mem_cons_of_mem _ hd)
    refine ⟨y :: ys, s2, ?_, h3, .cons h2 h4⟩
    unfold compD
    rw [e]
    dsimp only [tTrue, noX, R.bind]
    rw [if_pos rfl, e1]
    dsimp only
    rw [e2]
end
section
set_option maxHeartbeats 1000000
/-! Stepping through denotations: one rule a combinator, to be used backwards. -/

open PySem L2 DL
section
variable {ρ : Ev} {st : S} {Q : D → S → Prop} {QB : Bool → S → Prop} {QL : List D → S → Prop} {QO : Option Int → S → Prop} {fa fb fc f : Ev → S → R D} {g gk : Ev → S → R (List D)} {t u : Ev → S → R Bool} {o o' : D → D → S → R D} {i : Nat} {d : D}
theorem k_var (e : ρ[i]? = some (.sh d)) (q : Q d st) : Ok (dVar i ρ st) Q := by unfold dVar; rw [e]; exact ⟨_, _, rfl, q⟩
theorem k_own {ds : List D} (e : ρ[i]? = some (.own ds)) (q : Q (.lst ds) st) : Ok (dOwn i ρ st) Q := by unfold dOwn; rw [e]; exact ⟨_, _, rfl, q⟩
theorem k_c (q : Q d st) : Ok (dC d ρ st) Q := ⟨_, _, rfl, q⟩
theorem k_bin (h : Ok (fa ρ st) fun x s => Ok (fb ρ s) fun y s => Ok (o x y s) Q) : Ok (dBin o fa fb ρ st) Q := by unfold dBin; rw [ok_bind]; exact h.mono fun x s h => by rw [ok_bind]; exact h
theorem k_un {o : D → S → R D} (h : Ok (fa ρ st) fun x s => Ok (o x s) Q) : Ok (dUn o fa ρ st) Q := by unfold dUn; rw [ok_bind]; exact h
theorem k_nil (q : QL [] st) : Ok (dNil ρ st) QL := ⟨_, _, rfl, q⟩
theorem k_cons (h : Ok (f ρ st) fun x s => Ok (g ρ s) fun xs s => QL (x :: xs) s) : Ok (dCons f g ρ st) QL := by
  unfold dCons; rw [ok_bind]
  exact h.mono fun x s h => by rw [ok_bind]; exact h.mono fun xs s q => ⟨_, _, rfl, q⟩
theorem k_call {F : List D → S → R D} (h : Ok (g ρ st) fun ds s => Ok (F ds s) Q) : Ok (dCall F g ρ st) Q := by unfold dCall; rw [ok_bind]; exact h
theorem k_callK {F : List D → S → R D} {n m : Nat} {pm : List Nat} (h : Ok (g ρ st) fun ds s => Ok (gk ρ s) fun es s => ds.length = n ∧ es.length = m ∧ Ok (F (gath (ds ++ es) pm) s) Q) : Ok (dCallK F n m pm g gk ρ st) Q := by
  unfold dCallK; rw [ok_bind]
  exact h.mono fun ds s h => by
    rw [ok_bind]
    exact h.mono fun es s ⟨h1, h2, h⟩ => by rw [if_pos ⟨h1, h2⟩]; exact h
theorem k_one {F : D → S → R D} {x : D} (h : Ok (F x st) Q) : Ok (one F [x] st) Q := h
theorem k_tup (h : Ok (g ρ st) fun ds s => ds.length ≤ sizeLine ∧ Q (.tup ds) s) : Ok (dTup g ρ st) Q := by
  unfold dTup; rw [ok_bind]; exact h.mono fun ds s ⟨h1, q⟩ => by rw [if_pos h1]; exact ⟨_, _, rfl, q⟩
theorem k_lst (h : Ok (g ρ st) fun ds s => ds.length ≤ sizeLine ∧ Q (.lst ds) s) : Ok (dLst g ρ st) Q := by
  unfold dLst; rw [ok_bind]; exact h.mono fun ds s ⟨h1, q⟩ => by rw [if_pos h1]; exact ⟨_, _, rfl, q⟩
theorem k_lstRef (h : Ok (g ρ st) fun ds s => ds.length ≤ sizeLine ∧ Q (.ref s.length) (s ++ [.lst ds])) : Ok (dLstRef g ρ st) Q := by
  unfold dLstRef; rw [ok_bind]; exact h.mono fun ds s ⟨h1, q⟩ => by rw [if_pos h1]; exact ⟨_, _, rfl, q⟩
theorem k_tst (h : Ok (f ρ st) fun x s => Ok (tstD x s) QB) : Ok (dTst f ρ st) QB := by unfold dTst; rw [ok_bind]; exact h
theorem k_tb (h : Ok (f ρ st) fun x s => ∃ b, x = .bl b ∧ QB b s) : Ok (dTB f ρ st) QB := by
  unfold dTB; rw [ok_bind]; exact h.mono fun x s ⟨b, e, q⟩ => by subst e; exact ⟨_, _, rfl, q⟩
theorem k_tand (h : Ok (t ρ st) fun b s => (b = true → Ok (u ρ s) QB) ∧ (b = false → QB false s)) : Ok (tAndD t u ρ st) QB := by
  unfold tAndD; rw [ok_bind]
  exact h.mono fun b s h => by
    cases b with
    | true => exact h.1 rfl
    | false => exact ⟨_, _, rfl, h.2 rfl⟩
theorem k_tor (h : Ok (t ρ st) fun b s => (b = true → QB true s) ∧ (b = false → Ok (u ρ s) QB)) : Ok (tOrD t u ρ st) QB := by
  unfold tOrD; rw [ok_bind]
  exact h.mono fun b s h => by
    cases b with
    | false => exact h.2 rfl
    | true => exact ⟨_, _, rfl, h.1 rfl⟩
theorem k_tnot (h : Ok (t ρ st) fun b s => QB (!b) s) : Ok (tNotD t ρ st) QB := by
  unfold tNotD; rw [ok_bind]; exact h.mono fun b s q => ⟨_, _, rfl, q⟩
theorem k_and (h : Ok (fa ρ st) fun x s => Ok (tstD x s) fun b s => (b = true → Ok (fb ρ s) Q) ∧ (b = false → Q x s)) : Ok (dAnd fa fb ρ st) Q := by
  unfold dAnd; rw [ok_bind]
  exact h.mono fun x s h => by
    rw [ok_bind]
    exact h.mono fun b s h => by
      cases b with
      | true => exact h.1 rfl
      | false => exact ⟨_, _, rfl, h.2 rfl⟩
theorem k_or (h : Ok (fa ρ st) fun x s => Ok (tstD x s) fun b s => (b = true → Q x s) ∧ (b = false → Ok (fb ρ s) Q)) : Ok (dOr fa fb ρ st) Q := by
  unfold dOr; rw [ok_bind]
  exact h.mono fun x s h => by
    rw [ok_bind]
    exact h.mono fun b s h => by
      cases b with
      | false => exact h.2 rfl
      | true => exact ⟨_, _, rfl, h.1 rfl⟩
theorem k_not (h : Ok (fa ρ st) fun x s => Ok (tstD x s) fun b s => Q (.bl (!b)) s) : Ok (dNot fa ρ st) Q := by
  unfold dNot; rw [ok_bind]
  exact h.mono fun x s h => by rw [ok_bind]; exact h.mono fun b s q => ⟨_, _, rfl, q⟩
theorem k_if (h : Ok (t ρ st) fun b s => (b = true → Ok (fa ρ s) Q) ∧ (b = false → Ok (fb ρ s) Q)) : Ok (dIf t fa fb ρ st) Q := by
  unfold dIf; rw [ok_bind]
  exact h.mono fun b s h => by
    cases b with
    | true => exact h.1 rfl
    | false => exact h.2 rfl
theorem k_chain (h : Ok (fa ρ st) fun x s => Ok (fb ρ s) fun y s => Ok (o x y s) fun z s => ∃ b, z = .bl b ∧ (b = true → Ok (fc ρ s) fun w s => Ok (o' y w s) Q) ∧ (b = false → Q (.bl false) s)) : Ok (dChain o o' fa fb fc ρ st) Q := by
  unfold dChain; rw [ok_bind]
  exact h.mono fun x s h => by
    rw [ok_bind]
    exact h.mono fun y s h => by
      rw [ok_bind]
      exact h.mono fun z s ⟨b, e, h1, h2⟩ => by
        subst e
        cases b with
        | true => dsimp only; rw [ok_bind]; exact h1 rfl
        | false => exact ⟨_, _, rfl, h2 rfl⟩
theorem k_noP (q : QO none st) : Ok (dNoP ρ st) QO := ⟨_, _, rfl, q⟩
theorem k_part (h : Ok (f ρ st) fun x s => ∃ i, x = .int i ∧ QO (some i) s) : Ok (dPart f ρ st) QO := by
  unfold dPart; rw [ok_bind]; exact h.mono fun x s ⟨i, e, q⟩ => by subst e; exact ⟨_, _, rfl, q⟩
theorem k_sl {lo hi : Ev → S → R (Option Int)} (h : Ok (f ρ st) fun x s => Ok (lo ρ s) fun i s => Ok (hi ρ s) fun j s => Ok (slD x i j s) Q) : Ok (dSl f lo hi ρ st) Q := by
  unfold dSl; rw [ok_bind]
  exact h.mono fun x s h => by rw [ok_bind]; exact h.mono fun i s h => by rw [ok_bind]; exact h
theorem k_join (h : Ok (fa ρ st) fun x s => ∃ a, x = .str a ∧ Ok (fb ρ s) fun y s => Ok (joinD a y s) Q) : Ok (dJoin fa fb ρ st) Q := by
  unfold dJoin; rw [ok_bind]
  exact h.mono fun x s ⟨a, e, h⟩ => by subst e; dsimp only; rw [ok_bind]; exact h
theorem k_items (h : Ok (f ρ st) fun x s => Ok (itemsD x s) QL) : Ok (dItems f ρ st) QL := by unfold dItems; rw [ok_bind]; exact h
theorem k_range (h : Ok (g ρ st) fun x s => Ok (range1D x s) QL) : Ok (dRange g ρ st) QL := by unfold dRange; rw [ok_bind]; exact h
theorem k_range2 (h : Ok (g ρ st) fun x s => Ok (range2D x s) QL) : Ok (dRange2 g ρ st) QL := by unfold dRange2; rw [ok_bind]; exact h
theorem k_zip (h : Ok (g ρ st) fun x s => Ok (zipD x s) QL) : Ok (dZip g ρ st) QL := by unfold dZip; rw [ok_bind]; exact h
theorem k_lc {tg : Tg} {vs : List Nat} {fi : Ev → S → R (List D)} {tt : Ev → S → R Bool} {te : Ev → S → R D} (h : Ok (fi ρ st) fun ds s => ds.length ≤ sizeLine ∧ Ok (compD tg tt te (wipeE ρ vs) ds s) fun ys s => Q (.lst ys) s) : Ok (dLc tg vs fi tt te ρ st) Q := by
  unfold dLc; rw [ok_bind]
  exact h.mono fun ds s ⟨h1, h⟩ => by rw [if_pos h1, ok_bind]; exact h.mono fun ys s q => ⟨_, _, rfl, q⟩
end
section
variable {ρ : Ev} {st : S} {Q : Ev → S → Prop} {T : D → S → Prop} {fe f : Ev → S → R D} {fs : Ev → S → R (List D)} {t : Ev → S → R Bool} {a b : Ev → S → RS} {i : Nat} {ds : List D}
theorem g_seq (h : Go (a ρ st) (fun ρ s => Go (b ρ s) Q T) T) : Go (sSeq a b ρ st) Q T := (go_seq a b ρ st Q T).mpr h
theorem g_next (h : Q ρ st) : Go (sNext ρ st) Q T := ⟨h⟩
theorem g_set (h : Ok (fe ρ st) fun d s => Q (ρ.set i (.sh d)) s) : Go (sSet i fe ρ st) Q T := by unfold sSet; rw [go_toS]; exact h.mono fun _ _ q => ⟨q⟩
theorem g_ret (h : Ok (fe ρ st) T) : Go (sRet fe ρ st) Q T := by unfold sRet; rw [go_toS]; exact h.mono fun _ _ q => ⟨q⟩
theorem g_retOwn (e : ρ[i]? = some (.own ds)) (h : T (.lst ds) st) : Go (sRetOwn i ρ st) Q T := by unfold sRetOwn; rw [e]; exact ⟨h⟩
theorem g_drop (h : Ok (fe ρ st) fun _ s => Q ρ s) : Go (sDrop fe ρ st) Q T := by unfold sDrop; rw [go_toS]; exact h.mono fun _ _ q => ⟨q⟩
theorem g_if (h : Ok (t ρ st) fun c s => (c = true → Go (a ρ s) Q T) ∧ (c = false → Go (b ρ s) Q T)) : Go (sIf t a b ρ st) Q T := by
  unfold sIf; rw [go_toS]
  exact h.mono fun c s h => by
    cases c with
    | true => exact h.1 rfl
    | false => exact h.2 rfl
theorem g_own (h : Ok (fs ρ st) fun ds s => ds.length ≤ sizeLine ∧ Q (ρ.set i (.own ds)) s) : Go (sOwn i fs ρ st) Q T := by
  unfold sOwn; rw [go_toS]; exact h.mono fun ds s ⟨h1, q⟩ => by rw [if_pos h1]; exact ⟨q⟩
theorem g_app (e : ρ[i]? = some (.own ds)) (h : Ok (fe ρ st) fun d s => ds.length < sizeLine ∧ Q (ρ.set i (.own (ds ++ [d]))) s) : Go (sApp i fe ρ st) Q T := by
  unfold sApp; rw [e]; dsimp only; rw [go_toS]; exact h.mono fun d s ⟨h1, q⟩ => by rw [if_pos h1]; exact ⟨q⟩
theorem g_ins (e : ρ[i]? = some (.own ds)) (h : Ok (fs ρ st) fun as s => ∃ k d, as = [.int k, d] ∧ ds.length < sizeLine ∧ 0 ≤ k ∧ k < 2 ^ 63 ∧ Q (ρ.set i (.own (insL ds k.toNat d))) s) : Go (sIns i fs ρ st) Q T := by
  unfold sIns; rw [e]; dsimp only; rw [go_toS]
  exact h.mono fun as s ⟨k, d, e1, h1, h2, h3, q⟩ => by
    subst e1
    dsimp only
    rw [if_pos (by simp only [Bool.and_eq_true, decide_eq_true_eq]; exact ⟨h1, h2, h3⟩)]
    exact ⟨q⟩
theorem g_put {fo fi : Ev → S → R D} (h : Ok (fe ρ st) fun d s => Ok (fo ρ s) fun o s => Ok (fi ρ s) fun j s => ∃ k n ds m, o = .ref k ∧ j = .int n ∧ s[k]? = some (.lst ds) ∧ ixN ds.length n = some m ∧ Q ρ (s.set k (.lst (ds.set m d)))) : Go (sPut fo fi fe ρ st) Q T := by
  unfold sPut; rw [go_toS]
  exact h.mono fun d s h => by
    rw [go_toS]
    exact h.mono fun o s h => by
      rw [go_toS]
      exact h.mono fun j s ⟨k, n, ds, m, e1, e2, e3, e4, q⟩ => by
        subst e1 e2
        dsimp only
        rw [e3]
        dsimp only
        rw [e4]
        exact ⟨q⟩
theorem g_asg {tg : Tg} (h : Ok (fe ρ st) fun d s => ∃ ρ', bindT tg d ρ = some ρ' ∧ Q ρ' s) : Go (sAsg tg fe ρ st) Q T := by
  unfold sAsg; rw [go_toS]; exact h.mono fun d s ⟨ρ', e, q⟩ => by rw [e]; exact ⟨q⟩
theorem g_par {is : List Nat} (h : Ok (fs ρ st) fun ds s => ds.length = is.length ∧ Q (setAll is ds ρ) s) : Go (sPar is fs ρ st) Q T := by
  unfold sPar; rw [go_toS]; exact h.mono fun ds s ⟨e, q⟩ => by rw [if_pos e]; exact ⟨q⟩
theorem g_for {tg : Tg} (h : Ok (fs ρ st) fun ds s => Go (forD tg a ds ρ s) Q T) : Go (sFor tg fs a ρ st) Q T := by unfold sFor; rw [go_toS]; exact h
end
/-! operations on data of known kinds -/
section
variable {st : S} {Q : D → S → Prop}
theorem mod_ok {i m : Int} (h : 0 < m) (q : Q (.int (i % m)) st) : Ok (modD (.int i) (.int m) st) Q := by
  refine ⟨_, _, ?_, q⟩
  unfold modD intD
  dsimp only [view]
  rw [if_pos (decide_eq_true h)]
theorem fdiv_ok {i m : Int} (h : 0 < m) (h2 : m < 1073741824) (q : Q (.int (i / m)) st) : Ok (fdivD (.int i) (.int m) st) Q := by
  refine ⟨_, _, ?_, q⟩
  unfold fdivD intD
  dsimp only [view]
  rw [if_pos (by simp only [Bool.and_eq_true, decide_eq_true_eq]; exact ⟨h, h2⟩)]
theorem atI_nat {α : Type} {xs : List α} {n : Nat} {a : α} (h : xs[n]? = some a) : L2.atI xs (n : Int) = some a := by
  have hl : n < xs.length := (List.getElem?_eq_some_iff.mp h).1
  unfold L2.atI L2.ixN
  rw [if_pos (by omega), if_pos (by omega)]
  show xs[(n : Int).toNat]? = some a
  rw [Int.toNat_natCast]
  exact h
theorem atI_z {α : Type} (a : α) (r : List α) : L2.atI (a :: r) 0 = some a := atI_nat rfl
theorem atI_int {α : Type} {xs : List α} {n : Int} {a : α} (h0 : 0 ≤ n) (h : xs[n.toNat]? = some a) : L2.atI xs n = some a := by
  have := atI_nat h
  rwa [Int.toNat_of_nonneg h0] at this
theorem ixL_ok {ds : List D} {n : Int} {d : D} (h : L2.atI ds n = some d) (q : Q d st) : Ok (ixD (.lst ds) (.int n) st) Q := by
  refine ⟨_, _, ?_, q⟩
  unfold ixD
  dsimp only [view]
  rw [h]
theorem ixT_ok {ds : List D} {n : Int} {d : D} (h : L2.atI ds n = some d) (q : Q d st) : Ok (ixD (.tup ds) (.int n) st) Q := by
  refine ⟨_, _, ?_, q⟩
  unfold ixD
  dsimp only [view]
  rw [h]
theorem ixS_ok {x : Str} {n : Int} {c : Nat} (hl : x.length ≤ sizeLine) (h : L2.atI x.cps.toList n = some c) (q : Q (.str ⟨#[c]⟩) st) : Ok (ixD (.str x) (.int n) st) Q := by
  refine ⟨_, _, ?_, q⟩
  unfold ixD
  dsimp only [view]
  rw [if_pos hl, h]
theorem mul_ok {i j : Int} (h : mulC i j = true) (q : Q (.int (i * j)) st) : Ok (mulD (.int i) (.int j) st) Q := by
  refine ⟨_, _, ?_, q⟩
  unfold mulD
  dsimp only [view]
  rw [if_pos h]
theorem mulC_r {i j : Int} (h1 : -2 ^ 64 < j) (h2 : j < 2 ^ 64) : mulC i j = true := by
  unfold mulC
  simp only [Bool.or_eq_true, Bool.and_eq_true, decide_eq_true_eq]
  exact .inr ⟨h1, h2⟩
theorem mulC_l {i j : Int} (h1 : -2 ^ 64 < i) (h2 : i < 2 ^ 64) : mulC i j = true := by
  unfold mulC
  simp only [Bool.or_eq_true, Bool.and_eq_true, decide_eq_true_eq]
  exact .inl ⟨h1, h2⟩
theorem pow_ok {i j : Int} (h0 : 0 ≤ j) (h1 : j ≤ 1000000) (h2 : i.natAbs < 2 ^ 64) (q : Q (.int (i ^ j.toNat)) st) : Ok (powD (.int i) (.int j) st) Q := by
  refine ⟨_, _, ?_, q⟩
  unfold powD intD
  dsimp only [view]
  rw [if_pos (by simp only [Bool.and_eq_true, decide_eq_true_eq]; exact ⟨h0, h1, h2⟩)]
theorem addS_ok {x y : Str} (h : x.length + y.length ≤ sizeLine) (q : Q (.str (x ++ y)) st) : Ok (addD (.str x) (.str y) st) Q := by
  refine ⟨_, _, ?_, q⟩
  unfold addD
  dsimp only [view]
  rw [if_pos h]
theorem addL_ok {x y : List D} (h : x.length + y.length ≤ sizeLine) (q : Q (.lst (x ++ y)) st) : Ok (addD (.lst x) (.lst y) st) Q := by
  refine ⟨_, _, ?_, q⟩
  unfold addD
  dsimp only [view]
  rw [if_pos h]
theorem lenS_ok {x : Str} (h : x.length ≤ sizeLine) (q : Q (.int x.length) st) : Ok (lenD (.str x) st) Q := by
  refine ⟨_, _, ?_, q⟩
  unfold lenD
  dsimp only [view]
  rw [if_pos h]
theorem range1_ok {n : Int} {QL : List D → S → Prop} (h : n < 2 ^ 62) (h0 : -(2 ^ 62) ≤ n) (q : QL ((List.range n.toNat).map fun (i : Nat) => .int i) st) : Ok (range1D [.int n] st) QL := by
  refine ⟨_, _, ?_, q⟩
  unfold range1D
  dsimp only
  rw [if_pos (by simp only [Bool.and_eq_true, decide_eq_true_eq]; exact ⟨h0, h⟩)]
end
end
section
set_option maxHeartbeats 1000000
/-! Operations on data of known kinds, backwards. -/

open PySem L2 DL
section
variable {st : S} {Q : D → S → Prop} {QB : Bool → S → Prop} {QL : List D → S → Prop}
theorem o_addI {i j : Int} (q : Q (.int (i + j)) st) : Ok (addD (.int i) (.int j) st) Q := ⟨_, _, rfl, q⟩
theorem o_subI {i j : Int} (q : Q (.int (i - j)) st) : Ok (subD (.int i) (.int j) st) Q := ⟨_, _, rfl, q⟩
theorem o_ltI {i j : Int} (q : Q (.bl (decide (i < j))) st) : Ok (ltD (.int i) (.int j) st) Q := ⟨_, _, rfl, q⟩
theorem o_leI {i j : Int} (q : Q (.bl (decide (i ≤ j))) st) : Ok (leD (.int i) (.int j) st) Q := ⟨_, _, rfl, q⟩
theorem o_gtI {i j : Int} (q : Q (.bl (decide (j < i))) st) : Ok (gtD (.int i) (.int j) st) Q := ⟨_, _, rfl, q⟩
theorem o_geI {i j : Int} (q : Q (.bl (decide (j ≤ i))) st) : Ok (geD (.int i) (.int j) st) Q := ⟨_, _, rfl, q⟩
theorem o_eqI {i j : Int} (q : Q (.bl (decide (i = j))) st) : Ok (eqD (.int i) (.int j) st) Q := ⟨_, _, rfl, q⟩
theorem o_neI {i j : Int} (q : Q (.bl (!decide (i = j))) st) : Ok (neD (.int i) (.int j) st) Q := ⟨_, _, rfl, q⟩
theorem o_ltS {x y : Str} (q : Q (.bl (ltS x y)) st) : Ok (ltD (.str x) (.str y) st) Q := ⟨_, _, rfl, q⟩
theorem o_leS {x y : Str} (q : Q (.bl (!ltS y x)) st) : Ok (leD (.str x) (.str y) st) Q := ⟨_, _, rfl, q⟩
theorem o_eqS {x y : Str} (q : Q (.bl (decide (x = y))) st) : Ok (eqD (.str x) (.str y) st) Q := ⟨_, _, rfl, q⟩
theorem o_neS {x y : Str} (q : Q (.bl (!decide (x = y))) st) : Ok (neD (.str x) (.str y) st) Q := ⟨_, _, rfl, q⟩
theorem okd_bl (b : Bool) : okd (.bl b) = true := by cases b <;> decide
theorem o_eqB {a b : Bool} (q : Q (.bl (a == b)) st) : Ok (eqD (.bl a) (.bl b) st) Q := by
  refine ⟨_, _, ?_, q⟩
  unfold eqD
  dsimp only [view]
  rw [okd_bl, okd_bl]
  simp only [Bool.and_self, if_true]
  unfold eqd
  simp only [py, PyData.eqv]
theorem o_neB {a b : Bool} (q : Q (.bl (a != b)) st) : Ok (neD (.bl a) (.bl b) st) Q := by
  refine ⟨_, _, ?_, q⟩
  unfold neD
  dsimp only [view]
  rw [okd_bl, okd_bl]
  simp only [Bool.and_self, if_true]
  unfold eqd
  simp only [py, PyData.eqv, bne]
/-- == in general -/
theorem o_eq {a b : D} (h1 : okd a = true) (h2 : okd b = true) (h3 : ∀ i, a ≠ .ref i) (h4 : ∀ i, b ≠ .ref i) (q : Q (.bl (eqd a b)) st) : Ok (eqD a b st) Q := by
  have e1 : view a st = a := by cases a <;> first | rfl | exact absurd rfl (h3 _)
  have e2 : view b st = b := by cases b <;> first | rfl | exact absurd rfl (h4 _)
  unfold eqD
  rw [e1, e2]
  split
  · refine ⟨_, _, rfl, ?_⟩
    unfold eqd at q
    simp only [py, PyData.eqv] at q
    rw [Bool.beq_eq_decide_eq] at q
    exact q
  · refine ⟨_, _, rfl, ?_⟩
    unfold eqd at q
    simp only [py, PyData.eqv] at q
    rw [Bool.beq_eq_decide_eq] at q
    exact q
  · rw [h1, h2]
    exact ⟨_, _, rfl, q⟩
theorem o_ne {a b : D} (h1 : okd a = true) (h2 : okd b = true) (h3 : ∀ i, a ≠ .ref i) (h4 : ∀ i, b ≠ .ref i) (q : Q (.bl (!eqd a b)) st) : Ok (neD a b st) Q := by
  have e1 : view a st = a := by cases a <;> first | rfl | exact absurd rfl (h3 _)
  have e2 : view b st = b := by cases b <;> first | rfl | exact absurd rfl (h4 _)
  unfold neD
  rw [e1, e2]
  split
  · refine ⟨_, _, rfl, ?_⟩
    unfold eqd at q
    simp only [py, PyData.eqv] at q
    rw [Bool.beq_eq_decide_eq] at q
    exact q
  · refine ⟨_, _, rfl, ?_⟩
    unfold eqd at q
    simp only [py, PyData.eqv] at q
    rw [Bool.beq_eq_decide_eq] at q
    exact q
  · rw [h1, h2]
    exact ⟨_, _, rfl, q⟩
def isNon : D → Bool
  | .non => true
  | _ => false
theorem o_isN {d : D} (q : Q (.bl (isNon d)) st) : Ok (isND d .non st) Q := by
  cases d <;> exact ⟨_, _, rfl, q⟩
theorem o_isNN {d : D} (q : Q (.bl (!isNon d)) st) : Ok (isNND d .non st) Q := by
  cases d <;> exact ⟨_, _, rfl, q⟩
theorem o_lenL {ds : List D} (q : Q (.int ds.length) st) : Ok (lenD (.lst ds) st) Q := ⟨_, _, rfl, q⟩
theorem o_lenT {ds : List D} (q : Q (.int ds.length) st) : Ok (lenD (.tup ds) st) Q := ⟨_, _, rfl, q⟩
theorem o_intF {i : Int} (q : Q (.int i) st) : Ok (intF (.int i) st) Q := ⟨_, _, rfl, q⟩
theorem o_abs {i : Int} (q : Q (.int (if i < 0 then -i else i)) st) : Ok (absD (.int i) st) Q := ⟨_, _, rfl, q⟩
theorem o_neg {i : Int} (q : Q (.int (-i)) st) : Ok (negD (.int i) st) Q := ⟨_, _, rfl, q⟩
theorem o_tupL {ds : List D} (q : Q (.tup ds) st) : Ok (tupleF (.lst ds) st) Q := ⟨_, _, rfl, q⟩
theorem o_tupT {ds : List D} (q : Q (.tup ds) st) : Ok (tupleF (.tup ds) st) Q := ⟨_, _, rfl, q⟩
theorem o_lstL {ds : List D} (q : Q (.lst ds) st) : Ok (listF (.lst ds) st) Q := ⟨_, _, rfl, q⟩
theorem o_lstT {ds : List D} (q : Q (.lst ds) st) : Ok (listF (.tup ds) st) Q := ⟨_, _, rfl, q⟩
theorem o_revL {ds : List D} (q : Q (.lst ds.reverse) st) : Ok (revD (.lst ds) st) Q := ⟨_, _, rfl, q⟩
theorem o_revT {ds : List D} (q : Q (.tup ds.reverse) st) : Ok (revD (.tup ds) st) Q := ⟨_, _, rfl, q⟩
theorem o_slL {ds : List D} {i j : Option Int} (q : Q (.lst (cutL ds i j)) st) : Ok (slD (.lst ds) i j st) Q := ⟨_, _, rfl, q⟩
theorem o_slT {ds : List D} {i j : Option Int} (q : Q (.tup (cutL ds i j)) st) : Ok (slD (.tup ds) i j st) Q := ⟨_, _, rfl, q⟩
theorem o_slScr {ns : List Int} {i j : Option Int} (q : Q (.lst (cutL (ns.map .int) i j)) st) : Ok (slD (.scr ns) i j st) Q := ⟨_, _, rfl, q⟩
theorem o_slS {x : Str} {i j : Option Int} (h : x.length ≤ sizeLine) (q : Q (.str (cutS x i j)) st) : Ok (slD (.str x) i j st) Q := by
  refine ⟨_, _, ?_, q⟩
  unfold slD
  dsimp only [view]
  rw [if_pos h]
theorem o_itemsL {ds : List D} (q : QL ds st) : Ok (itemsD (.lst ds) st) QL := ⟨_, _, rfl, q⟩
theorem o_itemsT {ds : List D} (q : QL ds st) : Ok (itemsD (.tup ds) st) QL := ⟨_, _, rfl, q⟩
theorem o_itemsS {x : Str} (q : QL (x.cps.toList.map fun c => .str ⟨#[c]⟩) st) : Ok (itemsD (.str x) st) QL := ⟨_, _, rfl, q⟩
theorem o_zipL {a b : List D} (q : QL ((a.zip b).map fun p => .pr p.1 p.2) st) : Ok (zipD [.lst a, .lst b] st) QL := ⟨_, _, rfl, q⟩
theorem o_zipT {a b : List D} (q : QL ((a.zip b).map fun p => .pr p.1 p.2) st) : Ok (zipD [.tup a, .tup b] st) QL := ⟨_, _, rfl, q⟩
theorem o_tstB {b : Bool} (q : QB b st) : Ok (tstD (.bl b) st) QB := ⟨_, _, rfl, q⟩
theorem o_tstL {ds : List D} (q : QB (!ds.isEmpty) st) : Ok (tstD (.lst ds) st) QB := ⟨_, _, rfl, q⟩
theorem o_tstT {ds : List D} (q : QB (!ds.isEmpty) st) : Ok (tstD (.tup ds) st) QB := ⟨_, _, rfl, q⟩
theorem o_tstI {i : Int} (q : QB (i != 0) st) : Ok (tstD (.int i) st) QB := ⟨_, _, rfl, q⟩
theorem o_tstN (q : QB false st) : Ok (tstD .non st) QB := ⟨_, _, rfl, q⟩
theorem o_allB {bs : List Bool} (q : Q (.bl (bs.all id)) st) : Ok (allD (.lst (bs.map .bl)) st) Q := by
  refine ⟨_, _, ?_, q⟩
  unfold allD
  dsimp only [view]
  rw [blsOf_map]
theorem view_tyOk {d : D} (h : tyOk d = true) : view d st = d := by cases d <;> first | rfl | (simp [tyOk] at h)
theorem o_isi {d : D} {n : String} (h : tyOk d = true) (hn : tyNames.contains n = true) (q : Q (.bl (isI d n)) st) : Ok (isiD [d, .ty n] st) Q := by
  refine ⟨_, _, ?_, q⟩
  unfold isiD
  dsimp only
  rw [view_tyOk h, h, hn]
  rfl
theorem o_isiT {d : D} {ts : List String} (h : tyOk d = true) (hn : (ts.all tyNames.contains && decide (ts.length ≤ sizeLine)) = true) (q : Q (.bl (ts.any fun n => isI d n)) st) : Ok (isiT ts d st) Q := by
  refine ⟨_, _, ?_, q⟩
  unfold isiT
  rw [view_tyOk h, h, hn]
  rfl
theorem o_sortS {xs : List Str} (h : xs.length < 64) (q : Q (.lst ((sortS xs).map .str)) st) : Ok (sortedD (.lst (xs.map .str)) st) Q := by
  refine ⟨_, _, ?_, q⟩
  unfold sortedD
  dsimp only [view]
  rw [strsOf_map]
  dsimp only
  rw [if_pos h]
theorem o_sortT {xs : List Str} (q : Q (.lst ((sortS xs).map .str)) st) : Ok (sortedD (.tup (xs.map .str)) st) Q := by
  unfold sortedD
  rw [show view (.tup (xs.map .str)) st = .tup (xs.map .str) from rfl]
  dsimp only
  rw [strsOf_map]
  exact ⟨_, _, rfl, q⟩
theorem o_join {a : Str} {xs : List Str} (h : (xs.map (·.length)).sum + xs.length * a.length ≤ 16777216) (q : Q (.str (Txt.join a xs)) st) : Ok (joinD a (.lst (xs.map .str)) st) Q := by
  refine ⟨_, _, ?_, q⟩
  unfold joinD
  dsimp only [view]
  rw [strsOf_map]
  dsimp only
  rw [if_pos h]
/-- a list of the store, item by item -/
theorem o_ixR {k : Nat} {n : Int} {ds : List D} {d : D} (e : st[k]? = some (.lst ds)) (h : L2.atI ds n = some d) (q : Q d st) : Ok (ixD (.ref k) (.int n) st) Q := by
  refine ⟨_, _, ?_, q⟩
  have ev : view (.ref k) st = .lst ds := by
    unfold view
    dsimp only
    rw [e]
  unfold ixD
  rw [ev]
  dsimp only [view_int]
  rw [h]
theorem o_inL {d : D} {ds : List D} (h : ((flatD d && ds.all flatD) || (okd d && okd (.lst ds))) = true) (hr : ∀ i, d ≠ .ref i) (q : Q (.bl (ds.any fun z => eqd z d)) st) : Ok (inD d (.lst ds) st) Q := by
  have e : view d st = d := by cases d <;> first | rfl | exact absurd rfl (hr _)
  refine ⟨_, _, ?_, q⟩
  unfold inD
  dsimp only [view_lst]
  rw [e, h, if_pos rfl]
theorem o_nInL {d : D} {ds : List D} (h : ((flatD d && ds.all flatD) || (okd d && okd (.lst ds))) = true) (hr : ∀ i, d ≠ .ref i) (q : Q (.bl (!ds.any fun z => eqd z d)) st) : Ok (nInD d (.lst ds) st) Q := by
  have e : view d st = d := by cases d <;> first | rfl | exact absurd rfl (hr _)
  refine ⟨_, _, ?_, q⟩
  unfold nInD inD
  dsimp only [view_lst]
  rw [e, h, if_pos rfl]
  rfl
theorem o_inT {d : D} {ds : List D} (h : (flatD d && ds.all flatD) = true) (q : Q (.bl (ds.any fun z => eqd z d)) st) : Ok (inD d (.tup ds) st) Q := by
  refine ⟨_, _, ?_, q⟩
  unfold inD
  dsimp only [view_tup]
  rw [h, if_pos rfl]
theorem o_nInT {d : D} {ds : List D} (h : (flatD d && ds.all flatD) = true) (q : Q (.bl (!ds.any fun z => eqd z d)) st) : Ok (nInD d (.tup ds) st) Q := by
  refine ⟨_, _, ?_, q⟩
  unfold nInD inD
  dsimp only [view_tup]
  rw [h, if_pos rfl]
  rfl
theorem o_inS {x z : Str} (q : Q (.bl (inS x z)) st) : Ok (inD (.str x) (.str z) st) Q := ⟨_, _, rfl, q⟩
end
/-- texts among texts -/
theorem eqd_str (a b : Str) : eqd (.str a) (.str b) = decide (a = b) := by
  unfold eqd
  simp only [py, PyData.eqv]
  rw [Bool.beq_eq_decide_eq]
theorem any_str (xs : List Str) (x : Str) : ((xs.map D.str).any fun z => eqd z (.str x)) = decide (x ∈ xs) := by
  induction xs with
  | nil => simp
  | cons y ys ih =>
    rw [List.map_cons, List.any_cons, ih, eqd_str]
    by_cases h : y = x
    · subst h; simp
    · have : ¬ x = y := fun e => h e.symm
      simp [h, this]
theorem flat_strs (xs : List Str) : (xs.map D.str).all flatD = true := by
  rw [List.all_map]
  exact List.all_eq_true.mpr fun _ _ => rfl
/-- an object in the midst of the store -/
theorem st_at (a : S) (x : MO) (b : S) : (a ++ x :: b)[a.length]? = some x := by
  rw [List.getElem?_append_right (Nat.le_refl _), Nat.sub_self]
  rfl
theorem st_set (a : S) (x y : MO) (b : S) : (a ++ x :: b).set a.length y = a ++ y :: b := by
  rw [List.set_append_right _ _ (Nat.le_refl _), Nat.sub_self]
  rfl
end
section
set_option maxHeartbeats 1000000
/-! Backward rules for index, max, min, comprehensions and appends of the store. -/

open PySem L2 DL
section
variable {st : S} {Q : D → S → Prop}
theorem o_max2 {i j : Int} (q : Q (.int (if j > i then j else i)) st) : Ok (maxD [.int i, .int j] st) Q := ⟨_, _, rfl, q⟩
theorem o_min2 {i j : Int} (q : Q (.int (if j < i then j else i)) st) : Ok (minD [.int i, .int j] st) Q := ⟨_, _, rfl, q⟩
end
section
variable {st : S} {ρ : Ev} {fa fb : Ev → S → R D} {Q : D → S → Prop}
end
end
section
set_option maxHeartbeats 1000000
/-! Wishes with two ends: it ends well, or an exception leaves. -/

open PySem L2 DL
def OkE0 {α : Type} (r : R α) (Q : α → S → Prop) (X : Exn → S → Prop) : Prop := match r with
  | .stuck => False
  | .ok a s => Q a s
  | .ex x s => X x s
structure OkE {α : Type} (r : R α) (Q : α → S → Prop) (X : Exn → S → Prop) : Prop where
  go : OkE0 r Q X
def GoE0 (r : RS) (Q : Ev → S → Prop) (T : D → S → Prop) (X : Exn → S → Prop) : Prop := match r with
  | .nx ρ s => Q ρ s
  | .ret d s => T d s
  | .ex x s => X x s
  | _ => False
structure GoE (r : RS) (Q : Ev → S → Prop) (T : D → S → Prop) (X : Exn → S → Prop) : Prop where
  go : GoE0 r Q T X
section
variable {α β : Type} {r : R α} {Q Q' : α → S → Prop} {X X' : Exn → S → Prop}
theorem Ok.e (h : Ok r Q) : OkE r Q X := by
  obtain ⟨a, s, e, q⟩ := h
  exact ⟨by rw [e]; exact q⟩
theorem OkE.mono (h : OkE r Q X) (hq : ∀ a s, Q a s → Q' a s) (hx : ∀ x s, X x s → X' x s) : OkE r Q' X' := by
  obtain ⟨h⟩ := h
  revert h
  cases r with
  | stuck => exact fun h => h.elim
  | ok a s => exact fun h => ⟨hq a s h⟩
  | ex x s => exact fun h => ⟨hx x s h⟩
theorem OkE.ok (h : OkE r Q fun _ _ => False) : Ok r Q := by
  obtain ⟨h⟩ := h
  revert h
  cases r with
  | stuck => exact fun h => h.elim
  | ok a s => exact fun h => ⟨a, s, rfl, h⟩
  | ex x s => exact fun h => h.elim
theorem OkE.ex (h : OkE r (fun _ _ => False) X) : ∃ x s, r = .ex x s ∧ X x s := by
  obtain ⟨h⟩ := h
  revert h
  cases r with
  | stuck => exact fun h => h.elim
  | ok a s => exact fun h => h.elim
  | ex x s => exact fun h => ⟨x, s, rfl, h⟩
theorem oke_bind {k : α → S → R β} {P : β → S → Prop} (h : OkE r (fun a s => OkE (k a s) P X) X) : OkE (r.bind k) P X := by
  obtain ⟨h⟩ := h
  revert h
  cases r with
  | stuck => exact fun h => h.elim
  | ok a s => exact fun h => h
  | ex x s => exact fun h => ⟨h⟩
end
section
variable {ρ : Ev} {st : S} {Q : Ev → S → Prop} {T : D → S → Prop} {X : Exn → S → Prop} {fe f : Ev → S → R D} {fs : Ev → S → R (List D)} {t : Ev → S → R Bool} {a b : Ev → S → RS} {i : Nat} {ds : List D} {P : D → S → Prop}
theorem Go.e {r : RS} (h : Go r Q T) : GoE r Q T X := by
  obtain ⟨h⟩ := h
  revert h
  cases r with
  | nx ρ s => exact fun h => ⟨h⟩
  | ret d s => exact fun h => ⟨h⟩
  | _ => exact fun h => h.elim
theorem GoE.mono {r : RS} {Q' : Ev → S → Prop} {T' : D → S → Prop} {X' : Exn → S → Prop} (h : GoE r Q T X) (hq : ∀ ρ s, Q ρ s → Q' ρ s) (ht : ∀ d s, T d s → T' d s) (hx : ∀ x s, X x s → X' x s) : GoE r Q' T' X' := by
  obtain ⟨h⟩ := h
  revert h
  cases r with
  | nx ρ s => exact fun h => ⟨hq ρ s h⟩
  | ret d s => exact fun h => ⟨ht d s h⟩
  | ex x s => exact fun h => ⟨hx x s h⟩
  | _ => exact fun h => h.elim
theorem goe_toS {α : Type} {r : R α} {k : α → S → RS} (h : OkE r (fun a s => GoE (k a s) Q T X) X) : GoE (r.toS k) Q T X := by
  obtain ⟨h⟩ := h
  revert h
  cases r with
  | stuck => exact fun h => h.elim
  | ok a s => exact fun h => h
  | ex x s => exact fun h => ⟨h⟩
theorem oke_sem {n m : Nat} {fb : Ev → S → RS} (hl : ds.length = n) (h : GoE (fb (ds.map Sl.sh ++ List.replicate (m - ds.length) .no) st) (fun _ s => P .non s) P X) : OkE (semOf n m fb ds st) P X := by
  unfold semOf
  rw [if_pos hl]
  obtain ⟨h⟩ := h
  revert h
  cases fb (ds.map Sl.sh ++ List.replicate (m - ds.length) .no) st with
  | nx ρ s => exact fun h => ⟨h⟩
  | ret d s => exact fun h => ⟨h⟩
  | ex x s => exact fun h => ⟨h⟩
  | _ => exact fun h => h.elim
theorem e_seq (h : GoE (a ρ st) (fun ρ s => GoE (b ρ s) Q T X) T X) : GoE (sSeq a b ρ st) Q T X := by
  unfold sSeq
  obtain ⟨h⟩ := h
  revert h
  cases a ρ st with
  | nx ρ s => exact fun h => h
  | ret d s => exact fun h => ⟨h⟩
  | ex x s => exact fun h => ⟨h⟩
  | _ => exact fun h => h.elim
theorem e_next (h : Q ρ st) : GoE (sNext ρ st) Q T X := ⟨h⟩
theorem e_set (h : Ok (fe ρ st) fun d s => Q (ρ.set i (.sh d)) s) : GoE (sSet i fe ρ st) Q T X := (g_set h).e
theorem e_retX (h : OkE (fe ρ st) T X) : GoE (sRet fe ρ st) Q T X := goe_toS (h.mono (fun _ _ q => ⟨q⟩) fun _ _ q => q)
theorem e_drop (h : Ok (fe ρ st) fun _ s => Q ρ s) : GoE (sDrop fe ρ st) Q T X := (g_drop h).e
theorem e_dropX (h : OkE (fe ρ st) (fun _ s => Q ρ s) X) : GoE (sDrop fe ρ st) Q T X := goe_toS (h.mono (fun _ _ q => ⟨q⟩) fun _ _ q => q)
theorem e_if (h : Ok (t ρ st) fun c s => (c = true → GoE (a ρ s) Q T X) ∧ (c = false → GoE (b ρ s) Q T X)) : GoE (sIf t a b ρ st) Q T X := goe_toS (Ok.e (h.mono fun c s h => by
    cases c with
    | true => exact h.1 rfl
    | false => exact h.2 rfl))
theorem e_own (h : Ok (fs ρ st) fun ds s => ds.length ≤ sizeLine ∧ Q (ρ.set i (.own ds)) s) : GoE (sOwn i fs ρ st) Q T X := (g_own h).e
theorem e_asg {tg : Tg} (h : Ok (fe ρ st) fun d s => ∃ ρ', bindT tg d ρ = some ρ' ∧ Q ρ' s) : GoE (sAsg tg fe ρ st) Q T X := (g_asg h).e
theorem e_par {is : List Nat} (h : Ok (fs ρ st) fun ds s => ds.length = is.length ∧ Q (setAll is ds ρ) s) : GoE (sPar is fs ρ st) Q T X := (g_par h).e
theorem e_for {tg : Tg} (h : Ok (fs ρ st) fun ds s => GoE (forD tg a ds ρ s) Q T X) : GoE (sFor tg fs a ρ st) Q T X := goe_toS h.e
theorem e_raise {c n : Nat} {fl : List (Str × Src)} (h : Ok (fs ρ st) fun ds s => ds.length = n ∧ ∃ vs, putF (srcD ds) fl [] = some vs ∧ X ⟨c, vs⟩ s) : GoE (sRaise c n fl fs ρ st) Q T X := goe_toS (Ok.e (h.mono fun ds s ⟨h1, vs, h2, h3⟩ => by
    rw [if_pos h1, h2]
    exact ⟨h3⟩))
/-- a loop that may raise -/
theorem goe_for {t : Tg} {body : Ev → S → RS} (I : List D → Ev → S → Prop) : ∀ {ds : List D} {ρ : Ev} {st : S}, I ds ρ st →
    (∀ d ds ρ st, I (d :: ds) ρ st → ∃ ρ', bindT t d ρ = some ρ' ∧ GoE (body ρ' st) (I ds) T X) → (∀ ρ st, I [] ρ st → Q ρ st) → GoE (forD t body ds ρ st) Q T X
  | [], ρ, st, h, hs, hd => ⟨hd ρ st h⟩
  | d :: ds, ρ, st, h, hs, hd => by
    obtain ⟨ρ', e, g⟩ := hs d ds ρ st h
    unfold forD
    rw [e]
    dsimp only
    revert g
    cases body ρ' st with
    | nx ρ2 s2 => exact fun g => goe_for I g.go hs hd
    | ret d s => exact fun g => ⟨g.go⟩
    | ex x s => exact fun g => ⟨g.go⟩
    | _ => exact fun g => g.go.elim
end
section
variable {ρ : Ev} {st : S} {Q : D → S → Prop} {X : Exn → S → Prop} {g gk : Ev → S → R (List D)}
theorem x_call {F : List D → S → R D} (h : Ok (g ρ st) fun ds s => OkE (F ds s) Q X) : OkE (dCall F g ρ st) Q X := by unfold dCall; exact oke_bind h.e
theorem x_callK {F : List D → S → R D} {n m : Nat} {pm : List Nat} (h : Ok (g ρ st) fun ds s => Ok (gk ρ s) fun es s => ds.length = n ∧ es.length = m ∧ OkE (F (gath (ds ++ es) pm) s) Q X) : OkE (dCallK F n m pm g gk ρ st) Q X := by
  unfold dCallK
  refine oke_bind (Ok.e (h.mono fun ds s h => oke_bind (Ok.e (h.mono fun es s ⟨h1, h2, h3⟩ => ?_))))
  rw [if_pos ⟨h1, h2⟩]
  exact h3
/-- what is tried -/
theorem k_tryE {c : Str} {ok : Nat → Bool} {hF : Exn → S → R D} {fl : Ev → S → R D} (h : OkE (fl ρ st) (fun d s => Q (.tup [.str c, d]) s) fun x s => ok x.c = true ∧ Ok (hF x s) Q) : Ok (dTry c ok hF fl ρ st) Q := by
  unfold dTry tryD
  obtain ⟨h⟩ := h
  revert h
  cases fl ρ st with
  | stuck => exact fun h => h.elim
  | ok a s => exact fun h => ⟨_, _, rfl, h⟩
  | ex x s =>
    intro h
    have h : ok x.c = true ∧ Ok (hF x s) Q := h
    dsimp only
    rw [if_pos h.1, ok_noX]
    exact h.2
end
end
section
set_option maxHeartbeats 1000000
/-! Backward rules: objects, dicts, scans. -/

open PySem L2 DL
section
variable {ρ : Ev} {st : S} {Q : D → S → Prop} {X : Exn → S → Prop} {fo fe fx fa : Ev → S → R D} {g gk : Ev → S → R (List D)} {F : List D → S → R D} {m : Str} {tbl : MT}
theorem o_attr {cs : List Nat} {f : Str} {c : Nat} {ns : List Str} {ds : List D} {d : D} (hc : cs.contains c = true) (hl : (ns.zip ds).lookup f = some d) (q : Q d st) : Ok (attrD cs f (.ob c ns ds) st) Q := by
  unfold attrD fldsOf
  dsimp only
  rw [if_pos hc, hl]
  exact ⟨_, _, rfl, q⟩
theorem k_meth (h : Ok (fo ρ st) fun d s => ∃ F, methOf m tbl d s = some F ∧ Ok (g ρ s) fun ds s => Ok (F (d :: ds) s) Q) : Ok (dMeth m tbl fo g ρ st) Q := by
  unfold dMeth
  rw [ok_bind]
  refine h.mono fun d s ⟨F, e, h⟩ => ?_
  rw [e]
  dsimp only
  rw [ok_bind]
  exact h
theorem x_meth (h : Ok (fo ρ st) fun d s => ∃ F, methOf m tbl d s = some F ∧ Ok (g ρ s) fun ds s => OkE (F (d :: ds) s) Q X) : OkE (dMeth m tbl fo g ρ st) Q X := by
  unfold dMeth
  refine oke_bind (Ok.e (h.mono fun d s ⟨F, e, h⟩ => ?_))
  rw [e]
  exact oke_bind h.e
theorem x_methK {n l : Nat} {pm : List Nat} (h : Ok (fo ρ st) fun d s => ∃ F, methOf m tbl d s = some F ∧ Ok (g ρ s) fun ds s => Ok (gk ρ s) fun es s => ds.length = n ∧ es.length = l ∧ OkE (F (d :: gath (ds ++ es) pm) s) Q X) : OkE (dMethK m tbl n l pm fo g gk ρ st) Q X := by
  unfold dMethK
  refine oke_bind (Ok.e (h.mono fun d s ⟨F, e, h⟩ => ?_))
  rw [e]
  refine oke_bind (Ok.e (h.mono fun ds s h => oke_bind (Ok.e (h.mono fun es s ⟨h1, h2, h3⟩ => ?_))))
  rw [if_pos ⟨h1, h2⟩]
  exact h3
theorem k_callD {dds : List D} (h : Ok (g ρ st) fun ds s => Ok (F (ds ++ dds) s) Q) : Ok (dCallD F dds g ρ st) Q := by unfold dCallD; rw [ok_bind]; exact h
theorem x_callD {dds : List D} (h : Ok (g ρ st) fun ds s => OkE (F (ds ++ dds) s) Q X) : OkE (dCallD F dds g ρ st) Q X := by unfold dCallD; exact oke_bind h.e
theorem x_callKD {n l : Nat} {dds : List D} {pm : List Nat} (h : Ok (g ρ st) fun ds s => Ok (gk ρ s) fun es s => ds.length = n ∧ es.length = l ∧ OkE (F (gath (ds ++ (es ++ dds)) pm) s) Q X) : OkE (dCallKD F n l dds pm g gk ρ st) Q X := by
  unfold dCallKD
  refine oke_bind (Ok.e (h.mono fun ds s h => oke_bind (Ok.e (h.mono fun es s ⟨h1, h2, h3⟩ => ?_))))
  rw [if_pos ⟨h1, h2⟩]
  exact h3
end
section
variable {ρ : Ev} {st : S} {Q : Ev → S → Prop} {T : D → S → Prop} {X : Exn → S → Prop} {fe : Ev → S → R D} {f : Ev → S → RS}
theorem g_fld {i c0 : Nat} {a : Str} {fs : List (Str × D)} (e : ρ[i]? = some (.hd (.ins c0 fs))) (hl : fs.length < 1000) (h : Ok (fe ρ st) fun d s => Q (ρ.set i (.hd (.ins c0 (setF a d fs)))) s) : Go (DL.sFld i c0 a fe ρ st) Q T := by
  unfold DL.sFld
  rw [e]
  dsimp only
  rw [if_pos ⟨rfl, hl⟩, go_toS]
  exact h.mono fun _ _ q => ⟨q⟩
theorem e_fld {i c0 : Nat} {a : Str} {fs : List (Str × D)} (e : ρ[i]? = some (.hd (.ins c0 fs))) (hl : fs.length < 1000) (h : Ok (fe ρ st) fun d s => Q (ρ.set i (.hd (.ins c0 (setF a d fs)))) s) : GoE (DL.sFld i c0 a fe ρ st) Q T X := (g_fld e hl h).e
theorem oke_init {c n m : Nat} {fb : Ev → S → RS} {ds : List D} {P : D → S → Prop} (hl : ds.length = n) (h : GoE (fb (.hd (.ins c []) :: (ds.map Sl.sh ++ List.replicate (m - 1 - ds.length) .no)) st) (fun ρ s => ∃ c' fs, ρ[0]? = some (.hd (.ins c' fs)) ∧ P (.ob c' (fs.map (·.1)) (fs.map (·.2))) s) (fun _ _ => False) X) : OkE (semI c n m fb ds st) P X := by
  unfold semI
  rw [if_pos hl]
  revert h
  cases fb (.hd (.ins c []) :: (ds.map Sl.sh ++ List.replicate (m - 1 - ds.length) .no)) st with
  | nx ρ s =>
    intro h
    obtain ⟨c', fs, e, p⟩ := h.go
    refine ⟨?_⟩
    unfold retI
    dsimp only
    rw [e]
    exact p
  | ret d s => exact fun h => h.go.elim
  | ex x s => exact fun h => ⟨h.go⟩
  | _ => exact fun h => h.go.elim
/-- a scan: each item is let by, or the way out is taken -/
theorem goe_scan {t : Tg} {body : Ev → S → RS} (Fr : Ev → Prop) (p : D → Bool) (Y : D → Exn → Prop) (Z : D → D → Prop) : ∀ {ds : List D} {ρ : Ev}, Fr ρ →
    (∀ d ∈ ds, ∀ ρ, Fr ρ → ∃ ρ', bindT t d ρ = some ρ' ∧ GoE (body ρ' st) (fun ρ2 s => p d = true ∧ Fr ρ2 ∧ s = st) (fun z s => p d = false ∧ Z d z ∧ s = st) (fun x s => p d = false ∧ Y d x ∧ s = st)) →
    ((∀ d ∈ ds, p d = true) → ∀ ρ, Fr ρ → Q ρ st) → (∀ a d b x, ds = a ++ d :: b → (∀ e ∈ a, p e = true) → p d = false → Y d x → X x st) → (∀ a d b z, ds = a ++ d :: b → (∀ e ∈ a, p e = true) → p d = false → Z d z → T z st) →
    GoE (forD t body ds ρ st) Q T X
  | [], ρ, f, hs, hq, hx, hz => ⟨hq (fun _ z => by cases z) ρ f⟩
  | d :: ds, ρ, f, hs, hq, hx, hz => by
    obtain ⟨ρ', e, gg⟩ := hs d List.mem_cons_self ρ f
    unfold forD
    rw [e]
    dsimp only
    revert gg
    cases body ρ' st with
    | nx ρ2 s2 =>
      intro gg
      obtain ⟨h1, h2, h3⟩ := gg.go
      rw [h3]
      exact goe_scan Fr p Y Z h2 (fun d hd => hs d (List.mem_cons_of_mem _ hd)) (fun ha => hq fun e he => by rcases List.mem_cons.mp he with rfl | he; exact h1; exact ha e he)
        (fun a d' b x ee ha hd hy => hx (d :: a) d' b x (by rw [ee]; rfl) (fun e he => by rcases List.mem_cons.mp he with rfl | he; exact h1; exact ha e he) hd hy)
        (fun a d' b x ee ha hd hy => hz (d :: a) d' b x (by rw [ee]; rfl) (fun e he => by rcases List.mem_cons.mp he with rfl | he; exact h1; exact ha e he) hd hy)
    | ret z s =>
      intro gg
      obtain ⟨h1, h2, h3⟩ := gg.go
      rw [h3]
      exact ⟨hz [] d ds z rfl (fun _ z => by cases z) h1 h2⟩
    | ex x s =>
      intro gg
      obtain ⟨h1, h2, h3⟩ := gg.go
      rw [h3]
      exact ⟨hx [] d ds x rfl (fun _ z => by cases z) h1 h2⟩
    | _ => exact fun gg => gg.go.elim
end
end
section
set_option maxHeartbeats 1000000
/-! The laws' drawing helpers. -/

open PySem L2 DL Co
end
open PySem L2 DL Co
local macro_rules | `(tactic| walk_at "s") => `(tactic| repeat walk_at "s_1")
local macro_rules | `(tactic| walk_at "s_1") => `(tactic| with_reducible refine ⟨_, rfl, ?_⟩)
local macro_rules | `(tactic| walk_at "s_1") => `(tactic| ((with_reducible refine' o_ixR ?ev ?hv ?_); (case ev => first | exact st_at _ _ _ | rfl); (case hv => rfl)))
local macro_rules | `(tactic| walk_at "s_1") => `(tactic| ((with_reducible refine o_isiT ?ty ?nm ?_); (case ty => first | rfl | assumption); (case nm => decide)))
local macro_rules | `(tactic| walk_at "s_1") => `(tactic| ((with_reducible refine o_isi ?ty ?nm ?_); (case ty => first | rfl | assumption); (case nm => rfl)))
local macro_rules | `(tactic| walk_at "s_1") => `(tactic| with_reducible refine o_inS ?_)
local macro_rules | `(tactic| walk_at "s_1") => `(tactic| with_reducible refine o_tstN ?_)
local macro_rules | `(tactic| walk_at "s_1") => `(tactic| with_reducible refine o_tstI ?_)
local macro_rules | `(tactic| walk_at "s_1") => `(tactic| with_reducible refine o_tstT ?_)
local macro_rules | `(tactic| walk_at "s_1") => `(tactic| with_reducible refine o_tstL ?_)
local macro_rules | `(tactic| walk_at "s_1") => `(tactic| with_reducible refine o_tstB ?_)
local macro_rules | `(tactic| walk_at "s_1") => `(tactic| with_reducible refine o_zipT ?_)
local macro_rules | `(tactic| walk_at "s_1") => `(tactic| with_reducible refine o_zipL ?_)
local macro_rules | `(tactic| walk_at "s_1") => `(tactic| with_reducible refine o_itemsS ?_)
local macro_rules | `(tactic| walk_at "s_1") => `(tactic| with_reducible refine o_itemsT ?_)
local macro_rules | `(tactic| walk_at "s_1") => `(tactic| with_reducible refine o_itemsL ?_)
local macro_rules | `(tactic| walk_at "s_1") => `(tactic| with_reducible refine o_slScr ?_)
local macro_rules | `(tactic| walk_at "s_1") => `(tactic| with_reducible refine o_slT ?_)
local macro_rules | `(tactic| walk_at "s_1") => `(tactic| with_reducible refine o_slL ?_)
local macro_rules | `(tactic| walk_at "s_1") => `(tactic| with_reducible refine o_revL ?_)
local macro_rules | `(tactic| walk_at "s_1") => `(tactic| with_reducible refine o_lstT ?_)
local macro_rules | `(tactic| walk_at "s_1") => `(tactic| with_reducible refine o_lstL ?_)
local macro_rules | `(tactic| walk_at "s_1") => `(tactic| with_reducible refine o_tupT ?_)
local macro_rules | `(tactic| walk_at "s_1") => `(tactic| with_reducible refine o_tupL ?_)
local macro_rules | `(tactic| walk_at "s_1") => `(tactic| with_reducible refine o_neg ?_)
local macro_rules | `(tactic| walk_at "s_1") => `(tactic| with_reducible refine o_abs ?_)
local macro_rules | `(tactic| walk_at "s_1") => `(tactic| with_reducible refine o_intF ?_)
local macro_rules | `(tactic| walk_at "s_1") => `(tactic| with_reducible refine o_lenT ?_)
local macro_rules | `(tactic| walk_at "s_1") => `(tactic| with_reducible refine o_lenL ?_)
local macro_rules | `(tactic| walk_at "s_1") => `(tactic| with_reducible refine o_isNN ?_)
local macro_rules | `(tactic| walk_at "s_1") => `(tactic| with_reducible refine o_isN ?_)
local macro_rules | `(tactic| walk_at "s_1") => `(tactic| with_reducible refine o_neB ?_)
local macro_rules | `(tactic| walk_at "s_1") => `(tactic| with_reducible refine o_eqB ?_)
local macro_rules | `(tactic| walk_at "s_1") => `(tactic| with_reducible refine o_neS ?_)
local macro_rules | `(tactic| walk_at "s_1") => `(tactic| with_reducible refine o_eqS ?_)
local macro_rules | `(tactic| walk_at "s_1") => `(tactic| with_reducible refine o_leS ?_)
local macro_rules | `(tactic| walk_at "s_1") => `(tactic| with_reducible refine o_ltS ?_)
local macro_rules | `(tactic| walk_at "s_1") => `(tactic| with_reducible refine o_neI ?_)
local macro_rules | `(tactic| walk_at "s_1") => `(tactic| with_reducible refine o_eqI ?_)
local macro_rules | `(tactic| walk_at "s_1") => `(tactic| with_reducible refine o_geI ?_)
local macro_rules | `(tactic| walk_at "s_1") => `(tactic| with_reducible refine o_gtI ?_)
local macro_rules | `(tactic| walk_at "s_1") => `(tactic| with_reducible refine o_leI ?_)
local macro_rules | `(tactic| walk_at "s_1") => `(tactic| with_reducible refine o_ltI ?_)
local macro_rules | `(tactic| walk_at "s_1") => `(tactic| with_reducible refine o_subI ?_)
local macro_rules | `(tactic| walk_at "s_1") => `(tactic| with_reducible refine o_addI ?_)
local macro_rules | `(tactic| walk_at "s_1") => `(tactic| with_reducible refine k_lc ?_)
local macro_rules | `(tactic| walk_at "s_1") => `(tactic| with_reducible refine k_zip ?_)
local macro_rules | `(tactic| walk_at "s_1") => `(tactic| with_reducible refine k_range2 ?_)
local macro_rules | `(tactic| walk_at "s_1") => `(tactic| with_reducible refine k_range ?_)
local macro_rules | `(tactic| walk_at "s_1") => `(tactic| with_reducible refine k_items ?_)
local macro_rules | `(tactic| walk_at "s_1") => `(tactic| with_reducible refine k_join ?_)
local macro_rules | `(tactic| walk_at "s_1") => `(tactic| with_reducible refine k_sl ?_)
local macro_rules | `(tactic| walk_at "s_1") => `(tactic| with_reducible refine k_part ?_)
local macro_rules | `(tactic| walk_at "s_1") => `(tactic| with_reducible refine k_noP ?_)
local macro_rules | `(tactic| walk_at "s_1") => `(tactic| with_reducible refine k_chain ?_)
local macro_rules | `(tactic| walk_at "s_1") => `(tactic| with_reducible refine k_if ?_)
local macro_rules | `(tactic| walk_at "s_1") => `(tactic| with_reducible refine k_not ?_)
local macro_rules | `(tactic| walk_at "s_1") => `(tactic| with_reducible refine k_or ?_)
local macro_rules | `(tactic| walk_at "s_1") => `(tactic| with_reducible refine k_and ?_)
local macro_rules | `(tactic| walk_at "s_1") => `(tactic| with_reducible refine k_tnot ?_)
local macro_rules | `(tactic| walk_at "s_1") => `(tactic| with_reducible refine k_tor ?_)
local macro_rules | `(tactic| walk_at "s_1") => `(tactic| with_reducible refine k_tand ?_)
local macro_rules | `(tactic| walk_at "s_1") => `(tactic| with_reducible refine k_tb ?_)
local macro_rules | `(tactic| walk_at "s_1") => `(tactic| with_reducible refine k_tst ?_)
local macro_rules | `(tactic| walk_at "s_1") => `(tactic| with_reducible refine k_lstRef ?_)
local macro_rules | `(tactic| walk_at "s_1") => `(tactic| with_reducible refine k_lst ?_)
local macro_rules | `(tactic| walk_at "s_1") => `(tactic| with_reducible refine k_tup ?_)
local macro_rules | `(tactic| walk_at "s_1") => `(tactic| with_reducible refine k_one ?_)
local macro_rules | `(tactic| walk_at "s_1") => `(tactic| with_reducible refine k_callK ?_)
local macro_rules | `(tactic| walk_at "s_1") => `(tactic| with_reducible refine k_call ?_)
local macro_rules | `(tactic| walk_at "s_1") => `(tactic| with_reducible refine k_cons ?_)
local macro_rules | `(tactic| walk_at "s_1") => `(tactic| with_reducible refine k_nil ?_)
local macro_rules | `(tactic| walk_at "s_1") => `(tactic| with_reducible refine k_un ?_)
local macro_rules | `(tactic| walk_at "s_1") => `(tactic| with_reducible refine k_bin ?_)
local macro_rules | `(tactic| walk_at "s_1") => `(tactic| ((with_reducible refine' k_own ?ev ?_); (case ev => rfl)))
local macro_rules | `(tactic| walk_at "s_1") => `(tactic| ((with_reducible refine' k_var ?ev ?_); (case ev => rfl)))
local macro_rules | `(tactic| walk_at "s_1") => `(tactic| with_reducible refine k_c ?_)
local macro_rules | `(tactic| walk_at "s_1") => `(tactic| with_reducible refine g_drop ?_)
local macro_rules | `(tactic| walk_at "s_1") => `(tactic| with_reducible refine g_put ?_)
local macro_rules | `(tactic| walk_at "s_1") => `(tactic| with_reducible refine g_own ?_)
local macro_rules | `(tactic| walk_at "s_1") => `(tactic| with_reducible refine g_for ?_)
local macro_rules | `(tactic| walk_at "s_1") => `(tactic| with_reducible refine g_par ?_)
local macro_rules | `(tactic| walk_at "s_1") => `(tactic| with_reducible refine g_asg ?_)
local macro_rules | `(tactic| walk_at "s_1") => `(tactic| with_reducible refine g_next ?_)
local macro_rules | `(tactic| walk_at "s_1") => `(tactic| with_reducible refine g_ret ?_)
local macro_rules | `(tactic| walk_at "s_1") => `(tactic| with_reducible refine g_set ?_)
local macro_rules | `(tactic| walk_at "s_1") => `(tactic| with_reducible refine g_if ?_)
local macro_rules | `(tactic| walk_at "s_1") => `(tactic| with_reducible refine g_seq ?_)
section
set_option maxHeartbeats 1000000
open PySem L2 DL Co
/-- the law's state stands first in the store -/
def St (tl : S × S) (st : S) : Prop := ∃ (cells : List Int) (idx rest mixed cnt : Int), st = tl.1 ++ .lst [.lst (cells.map .int), .int idx, .int rest, .int mixed, .int cnt] :: tl.2 ∧ 0 ≤ idx ∧ 0 ≤ rest
theorem draw_ok {tl : S × S} {st : S} {m : Int} (h : St tl st) (h1 : 0 < m) (h2 : m < 1073741824) : Ok (sem__law_draw [.ref tl.1.length, .int m] st) fun d s => St tl s ∧ ∃ n : Int, d = .int n ∧ 0 ≤ n ∧ n < m := by
  obtain ⟨cells, idx, rest, mixed, cnt, rfl, hi, hr⟩ := h
  refine ok_sem rfl ?_
  unfold den__law_draw
  refine g_seq ?_
  refine Go.mono (Q := fun ρ s => St tl s ∧ ∃ x, ρ = [.sh (.ref tl.1.length), .sh (.int m), .no, x, .no]) (T := fun _ _ => False) ?_ ?_ (fun _ _ z => z.elim)
  · walk_at "s"
    refine ⟨fun hb => ?_, fun hb => ?_⟩
    · walk_at "s"
      refine ⟨fun hc => ?_, fun hc => ?_⟩
      · have hc := of_decide_eq_true hc
        rw [List.length_map] at hc
        have hx : idx.toNat < cells.length := by omega
        have hg : (cells.map D.int)[idx.toNat]? = some (.int cells[idx.toNat]) := by rw [List.getElem?_map, List.getElem?_eq_getElem hx]; rfl
        walk_at "s"
        refine ixL_ok (atI_int hi hg) ?_
        walk_at "s"
        refine ⟨_, 1, _, _, rfl, rfl, st_at _ _ _, rfl, ?_⟩
        rw [st_set]
        walk_at "s"
        refine pow_ok (by decide) (by decide) (by decide) ?_
        walk_at "s"
        refine ⟨fun hd => ?_, fun hd => ?_⟩
        · have hd := of_decide_eq_true hd
          walk_at "s"
          refine ⟨_, 2, _, _, rfl, rfl, st_at _ _ _, rfl, ?_⟩
          rw [st_set]
          refine ⟨⟨cells, idx + 1, _, mixed, cnt, rfl, by omega, ?_⟩, _, rfl⟩
          split <;> omega
        · exact ⟨⟨cells, idx + 1, rest, mixed, cnt, rfl, by omega, hr⟩, _, rfl⟩
      · exact ⟨⟨cells, idx, rest, mixed, cnt, rfl, hi, hr⟩, _, rfl⟩
    · refine ⟨fun z => (by cases z), fun _ => ?_⟩
      exact ⟨⟨cells, idx, rest, mixed, cnt, rfl, hi, hr⟩, _, rfl⟩
  · rintro ρ s ⟨⟨cells, idx, rest, mixed, cnt, rfl, hi, hr⟩, x, rfl⟩
    refine g_seq ?_
    walk_at "s"
    refine ⟨fun hb => ?_, fun hb => ?_⟩
    · have hb := of_decide_eq_true hb
      walk_at "s"
      refine mod_ok h1 ?_
      walk_at "s"
      refine fdiv_ok h1 h2 ?_
      walk_at "s"
      refine ⟨_, 2, _, _, rfl, rfl, st_at _ _ _, rfl, ?_⟩
      rw [st_set]
      walk_at "s"
      exact ⟨⟨cells, idx, rest / m, mixed, cnt, rfl, hi, Int.ediv_nonneg hr (by omega)⟩, _, rfl, Int.emod_nonneg _ (by omega), Int.emod_lt_of_pos _ h1⟩
    · walk_at "s"
      refine ⟨_, 4, _, _, rfl, rfl, st_at _ _ _, rfl, ?_⟩
      rw [st_set]
      walk_at "s"
      refine mul_ok (mulC_r (by decide) (by decide)) ?_
      walk_at "s"
      refine mod_ok (by decide) ?_
      generalize hbase : (mixed + (cnt + 1) * 7919) % 2147483563 = base
      have hb1 : 0 ≤ base := by rw [← hbase]; exact Int.emod_nonneg _ (by decide)
      have hb2 : base < 2147483563 := by rw [← hbase]; exact Int.emod_lt_of_pos _ (by decide)
      walk_at "s"
      refine pow_ok (by decide) (by decide) (by omega) ?_
      walk_at "s"
      refine mul_ok (mulC_l (by decide) (by decide)) ?_
      walk_at "s"
      refine mod_ok (by decide) ?_
      generalize (base ^ (5 : Int).toNat + 30323 * base + 4099) % 2147483563 = mix
      walk_at "s"
      refine ⟨_, 3, _, _, rfl, rfl, st_at _ _ _, rfl, ?_⟩
      rw [st_set]
      walk_at "s"
      refine fdiv_ok (by decide) (by decide) ?_
      walk_at "s"
      refine mod_ok (by decide) ?_
      walk_at "s"
      refine mul_ok (mulC_r (by decide) (by decide)) ?_
      walk_at "s"
      refine mod_ok h1 ?_
      exact ⟨⟨cells, idx, rest, _, _, rfl, hi, hr⟩, _, rfl, Int.emod_nonneg _ (by omega), Int.emod_lt_of_pos _ h1⟩
/-! ### beginning -/
theorem cutL_map {α β : Type} (f : α → β) (xs : List α) (lo hi : Option Int) : cutL (xs.map f) lo hi = (cutL xs lo hi).map f := by
  unfold cutL
  rw [List.length_map, ← List.map_drop, ← List.map_take]
theorem cutL_len {α : Type} (xs : List α) (lo hi : Option Int) : (cutL xs lo hi).length ≤ xs.length := by
  unfold cutL
  rw [List.length_take, List.length_drop]
  omega
theorem small {n : Nat} (h : n ≤ 1000000) : n ≤ sizeLine := Nat.le_trans h (by decide)
theorem small' {n : Nat} (h : n ≤ 1000000) : n < sizeLine := Nat.lt_of_le_of_lt h (by decide)
theorem start_ok {ns : List Int} {own : Int} {pre : S} (hl : ns.length ≤ 63) : Ok (sem__law_start [.scr ns, .int own] pre) fun d s => d = .ref pre.length ∧ St (pre, []) s := by
  refine ok_sem rfl ?_
  unfold den__law_start
  walk_at "s"
  refine go_for (fun ds ρ st => st = pre ∧ (∀ d ∈ ds, ∃ i, d = .int i) ∧ ∃ mixed y, ρ = [.sh (.scr ns), .sh (.int own), .sh (.int mixed), y]) ⟨rfl, ?_, own, .no, rfl⟩ ?_ ?_
  · intro d hd
    rw [cutL_map] at hd
    obtain ⟨i, _, e⟩ := List.mem_map.mp hd
    exact ⟨i, e.symm⟩
  · rintro d ds ρ st ⟨rfl, hd, mixed, y, rfl⟩
    obtain ⟨i, rfl⟩ := hd d List.mem_cons_self
    refine ⟨_, rfl, ?_⟩
    walk_at "s"
    refine mul_ok (mulC_r (by decide) (by decide)) ?_
    walk_at "s"
    refine mod_ok (by decide) ?_
    walk_at "s"
    refine mod_ok (by decide) ?_
    exact ⟨rfl, fun d h => hd d (List.mem_cons_of_mem _ h), _, _, rfl⟩
  · rintro ρ st ⟨rfl, _, mixed, y, rfl⟩
    walk_at "s"
    have hlen : (cutL (ns.map D.int) none (some 63)).length ≤ 63 := by
      have := cutL_len (ns.map D.int) none (some 63)
      rw [List.length_map] at this
      omega
    refine ⟨small (by omega), ?_⟩
    refine ok_eq (comp_map id fun d hd => ?_) ?_
    · rw [cutL_map] at hd
      obtain ⟨i, _, rfl⟩ := List.mem_map.mp hd
      exact ⟨_, rfl, rfl⟩
    · walk_at "s"
      refine ⟨small (by simp only [List.length_cons, List.length_nil]; decide), rfl, ?_⟩
      refine ⟨cutL ns none (some 63), 0, 0, mixed, 0, ?_, by decide, by decide⟩
      rw [List.map_id, cutL_map]
/-! ### picking -/
theorem get_mem {ds : List D} {n : Int} (h0 : 0 ≤ n) (h : n < ds.length) : ∃ d, L2.atI ds n = some d ∧ d ∈ ds := by
  have hx : n.toNat < ds.length := by omega
  exact ⟨ds[n.toNat], atI_int h0 (List.getElem?_eq_getElem hx), List.getElem_mem hx⟩
theorem pick_ok {tl : S × S} {st : S} {ds : List D} (h : St tl st) (h1 : 0 < ds.length) (h2 : ds.length < 1073741824) : Ok (sem__law_pick [.ref tl.1.length, .lst ds] st) fun d s => St tl s ∧ d ∈ ds := by
  refine ok_sem rfl ?_
  unfold den__law_pick
  walk_at "s"
  refine (draw_ok h (by omega) (by omega)).mono ?_
  rintro d s ⟨h', n, rfl, hn, hm⟩
  obtain ⟨d, e, hd⟩ := get_mem hn hm
  exact ixL_ok e ⟨h', hd⟩
theorem insL_perm (ds : List D) (k : Nat) (d : D) : (insL ds k d).Perm (d :: ds) := by
  unfold insL
  rw [List.append_assoc]
  refine List.perm_append_comm_assoc _ _ _ |>.trans ?_
  rw [List.singleton_append, List.take_append_drop]
theorem shuffle_ok {tl : S × S} {st : S} {ds : List D} (h : St tl st) (h2 : ds.length < 1000000) : Ok (sem__law_shuffle [.ref tl.1.length, .lst ds] st) fun d s => St tl s ∧ ∃ es, d = .lst es ∧ es.Perm ds := by
  refine ok_sem rfl ?_
  unfold den__law_shuffle
  walk_at "s"
  refine ⟨by decide, ?_⟩
  walk_at "s"
  refine go_for (fun l ρ st => St tl st ∧ ∃ acc y, ρ = [.sh (.ref tl.1.length), .sh (.lst ds), .own acc, y] ∧ (acc ++ l).Perm ds) ⟨h, [], .no, rfl, List.Perm.refl _⟩ ?_ ?_
  · rintro d l ρ st ⟨hs, acc, y, rfl, hp⟩
    have hlen : acc.length + (l.length + 1) = ds.length := by
      have := hp.length_eq
      rw [List.length_append, List.length_cons] at this
      exact this
    refine ⟨_, rfl, g_ins rfl ?_⟩
    walk_at "s"
    refine (draw_ok hs (by omega) (by omega)).mono ?_
    rintro e s ⟨h', n, rfl, hn, hm⟩
    walk_at "s"
    refine ⟨n, d, rfl, small' (by omega), hn, by omega, h', insL acc n.toNat d, _, rfl, ?_⟩
    refine List.Perm.trans ?_ hp
    refine ((insL_perm acc n.toNat d).append_right l).trans ?_
    exact List.perm_middle.symm
  · rintro ρ st ⟨hs, acc, y, rfl, hp⟩
    rw [List.append_nil] at hp
    exact g_retOwn rfl ⟨hs, acc, rfl, hp⟩
end
section
set_option maxHeartbeats 1000000
/-! Words and names; plain data. -/

open PySem L2 DL Co

/-! ### texts as lists of codes -/
def T (l : List Nat) : Str := ⟨l.toArray⟩
@[simp] theorem T_list (l : List Nat) : (T l).cps.toList = l := rfl
@[simp] theorem T_len (l : List Nat) : (T l).length = l.length := by simp [T, Str.length]
theorem T_inj {a b : List Nat} (h : T a = T b) : a = b := by
  have := congrArg (fun s : Str => s.cps.toList) h
  simpa using this
theorem T_of (x : Str) : x = T x.cps.toList := by cases x; rfl
theorem T_app (a b : List Nat) : T a ++ T b = T (a ++ b) := by
  show Str.append _ _ = _
  simp [Str.append, T]
theorem len_list (x : Str) : x.length = x.cps.toList.length := by simp [Str.length]
theorem join_T : ∀ ls : List (List Nat), Txt.join (Str.ofString "") (ls.map T) = T ls.flatten := by
  intro ls
  rw [TL.join_eq]
  have e0 : Str.ofString "" = T [] := by decide
  rw [e0]
  induction ls with
  | nil => rfl
  | cons a as ih =>
    cases as with
    | nil => simp [Str.join]
    | cons b bs =>
      have : Str.join (T []) ((a :: b :: bs).map T) = T a ++ T [] ++ Str.join (T []) ((b :: bs).map T) := rfl
      rw [this, ih, T_app, T_app]
      simp
/-! ### words -/
def Low (l : List Nat) : Prop := ∀ c ∈ l, 97 ≤ c ∧ c ≤ 122
/-- a name -/
def Nm (x : Str) : Prop := Low x.cps.toList ∧ 1 ≤ x.length ∧ x.length ≤ 6
def lts : List Nat := [97, 98, 99, 100, 101, 102, 103, 104, 105, 106, 107, 108, 109, 110, 111, 112, 113, 114, 115, 116, 117, 118, 119, 120, 121, 122]
theorem lts_eq : Str.ofString "abcdefghijklmnopqrstuvwxyz" = T lts := by decide
theorem lts_at {n : Int} (h0 : 0 ≤ n) (h : n < 26) : L2.atI lts n = some (97 + n.toNat) := by
  refine atI_int h0 ?_
  have h26 : ∀ k, k < 26 → lts[k]? = some (97 + k) := by decide
  exact h26 _ (by omega)
theorem letters_ok {st : S} : sem__law_letters [] st = .ok (.str (T lts)) st := by
  rw [← lts_eq]; rfl
theorem k_letters {st : S} {Q : D → S → Prop} (q : Q (.str (T lts)) st) : Ok (sem__law_letters [] st) Q := ⟨_, _, letters_ok, q⟩
/-- one letter -/
theorem letter_ok {st : S} {Q : D → S → Prop} {n : Int} (h0 : 0 ≤ n) (h : n < 26) (q : Q (.str (T [97 + n.toNat])) st) : Ok (ixD (.str (T lts)) (.int n) st) Q := ixS_ok (by decide) (by exact lts_at h0 h) q
theorem paired_low {a : List D} {b : List D} (h : Paired (fun _ y => ∃ c, 97 ≤ c ∧ c ≤ 122 ∧ y = D.str (T [c])) a b) : ∃ l : List Nat, Low l ∧ l.length = a.length ∧ b = l.map fun c => D.str (T [c]) := by
  induction h with
  | nil => exact ⟨[], fun _ h => absurd h List.not_mem_nil, rfl, rfl⟩
  | cons h r ih =>
    obtain ⟨c, h1, h2, rfl⟩ := h
    obtain ⟨l, h3, h4, rfl⟩ := ih
    refine ⟨c :: l, ?_, by rw [List.length_cons, List.length_cons, h4], rfl⟩
    intro x hx
    rcases List.mem_cons.mp hx with rfl | hx
    · exact ⟨h1, h2⟩
    · exact h3 x hx
theorem word_ok {tl : S × S} {st : S} {n : Int} (h : St tl st) (h1 : 0 < n) (h2 : n ≤ 1000) : Ok (sem__law_word [.ref tl.1.length, .int n] st) fun d s => St tl s ∧ ∃ l, d = .str (T l) ∧ Low l ∧ 1 ≤ l.length ∧ (l.length : Int) ≤ n := by
  refine ok_sem rfl ?_
  unfold den__law_word
  walk_at "s"
  refine (draw_ok h h1 (by omega)).mono ?_
  rintro d s ⟨h', m, rfl, hm, hn⟩
  walk_at "s"
  refine range1_ok (by omega) (by omega) ?_
  refine ⟨small (by rw [List.length_map, List.length_range]; omega), ?_⟩
  refine (comp_ok (St tl) (fun _ y => ∃ c, 97 ≤ c ∧ c ≤ 122 ∧ y = D.str (T [c])) h' ?_).mono ?_
  · intro d _ st hs
    refine ⟨_, rfl, ?_⟩
    walk_at "s"
    refine k_letters ?_
    walk_at "s"
    refine (draw_ok hs (by decide) (by decide)).mono ?_
    rintro d s ⟨hs, k, rfl, hk, hk2⟩
    exact letter_ok hk hk2 ⟨hs, _, by omega, by omega, rfl⟩
  · rintro ys s ⟨hs, hp⟩
    obtain ⟨l, hl, hlen, rfl⟩ := paired_low hp
    rw [List.length_map, List.length_range] at hlen
    have e : (l.map fun c => D.str (T [c])) = (l.map fun c => T [c]).map D.str := by rw [List.map_map]; rfl
    rw [e]
    refine o_join ?_ ?_
    · rw [List.map_map]
      have e2 : (l.map ((fun x : Str => x.length) ∘ fun c => T [c])) = l.map fun _ => 1 := by
        refine List.map_congr_left fun c _ => ?_
        simp
      rw [e2]
      have e3 : (Str.ofString "").length = 0 := by decide
      rw [e3, List.map_const', List.sum_replicate_nat]
      simp only [Nat.mul_one, Nat.mul_zero, Nat.add_zero]
      omega
    · refine ⟨hs, l, ?_, hl, by omega, by omega⟩
      have e4 : (l.map fun c => T [c]) = (l.map fun c => [c]).map T := by rw [List.map_map]; rfl
      rw [e4, join_T]
      have e5 : ∀ l : List Nat, (l.map fun c => [c]).flatten = l := by
        intro l
        induction l with
        | nil => rfl
        | cons a as ih => rw [List.map_cons, List.flatten_cons, ih]; rfl
      rw [e5]
end
section
set_option maxHeartbeats 1000000
/-! Names. -/

open PySem L2 DL Co

def sgn (f s : Int) (k : Nat) : List Nat := (97 + ((f + s * (k : Int) % 26) % 26).toNat) :: (if k < 26 then [] else [97 + k / 26])
def strides : List Int := [1, 3, 5, 7, 9, 11, 25]
theorem sgn_inj {f s : Int} (hf : 0 ≤ f) (hf2 : f < 26) (hs : s ∈ strides) {j k : Nat} (h : sgn f s j = sgn f s k) : j = k := by
  unfold sgn at h
  rw [List.cons.injEq] at h
  obtain ⟨h1, h2⟩ := h
  have h3 : j % 26 = k % 26 := by
    simp only [strides, List.mem_cons, List.not_mem_nil, or_false] at hs
    rcases hs with rfl | rfl | rfl | rfl | rfl | rfl | rfl <;> omega
  split at h2 <;> split at h2
  · omega
  · cases h2
  · cases h2
  · rw [List.cons.injEq] at h2
    omega
theorem sgn_low {f s : Int} {k : Nat} (hk : k < 64) : Low (sgn f s k) ∧ 1 ≤ (sgn f s k).length ∧ (sgn f s k).length ≤ 2 := by
  unfold sgn
  refine ⟨?_, ?_⟩
  · intro c hc
    rcases List.mem_cons.mp hc with rfl | hc
    · omega
    · split at hc
      · cases hc
      · rw [List.mem_singleton] at hc
        omega
  · split <;> simp
def sgns (f s : Int) (n : Nat) : List (List Nat) := (List.range n).map (sgn f s)
theorem sgns_nodup {f s : Int} (hf : 0 ≤ f) (hf2 : f < 26) (hs : s ∈ strides) (n : Nat) : (sgns f s n).Nodup := by
  unfold sgns
  exact List.Pairwise.map _ (fun a b hab e => hab (sgn_inj hf hf2 hs e)) List.nodup_range
/-- more than they have room for -/
theorem nodup_le {α : Type} [DecidableEq α] : ∀ {l1 l2 : List α}, l1.Nodup → (∀ x ∈ l1, x ∈ l2) → l1.length ≤ l2.length
  | [], _, _, _ => Nat.zero_le _
  | a :: l1, l2, hn, h => by
    have ha := h a List.mem_cons_self
    have hn' := List.nodup_cons.mp hn
    have := nodup_le (l1 := l1) (l2 := l2.erase a) hn'.2 fun x hx => (List.mem_erase_of_ne (fun e : x = a => hn'.1 (e ▸ hx))).mpr (h x (List.mem_cons_of_mem _ hx))
    rw [List.length_erase_of_mem ha] at this
    have : 0 < l2.length := List.length_pos_of_mem ha
    rw [List.length_cons]
    omega
theorem cutS_hi (l : List Nat) (n : Nat) : cutS (T l) none (some (n : Int)) = T (l.take n) := by
  unfold cutS
  rw [HT.sIx_none, HT.sIx_nat, T_list, T_len]
  simp only [List.drop_zero, Nat.sub_zero]
  congr 2
  by_cases h : n ≤ l.length
  · rw [Nat.min_eq_left h]
  · rw [Nat.min_eq_right (by omega), List.take_of_length_le (Nat.le_refl _), List.take_of_length_le (by omega)]
theorem cutS_lo (l : List Nat) (n : Nat) : cutS (T l) (some (n : Int)) none = T (l.drop n) := by
  unfold cutS
  rw [HT.sIx_none, HT.sIx_nat, T_list, T_len]
  unfold T
  congr 2
  by_cases h : n ≤ l.length
  · rw [Nat.min_eq_left h, List.take_of_length_le (by rw [List.length_drop]; omega)]
  · rw [Nat.min_eq_right (by omega), List.drop_eq_nil_of_le (Nat.le_refl _), List.drop_eq_nil_of_le (by omega), List.take_nil]
theorem cutL_hi {α : Type} (l : List α) (n : Nat) : cutL l none (some (n : Int)) = l.take n := by
  unfold cutL
  rw [HT.sIx_none, HT.sIx_nat]
  simp only [List.drop_zero, Nat.sub_zero]
  by_cases h : n ≤ l.length
  · rw [Nat.min_eq_left h]
  · rw [Nat.min_eq_right (by omega), List.take_of_length_le (Nat.le_refl _), List.take_of_length_le (by omega)]
theorem cutL_lo {α : Type} (l : List α) (n : Nat) : cutL l (some (n : Int)) none = l.drop n := by
  unfold cutL
  rw [HT.sIx_none, HT.sIx_nat]
  by_cases h : n ≤ l.length
  · rw [Nat.min_eq_left h, List.take_of_length_le (by rw [List.length_drop]; omega)]
  · rw [Nat.min_eq_right (by omega), List.drop_eq_nil_of_le (Nat.le_refl _), List.drop_eq_nil_of_le (by omega), List.take_nil]
theorem Low.app {a b : List Nat} (h1 : Low a) (h2 : Low b) : Low (a ++ b) := fun c hc => (List.mem_append.mp hc).elim (h1 c) (h2 c)
theorem Low.take {a : List Nat} (h : Low a) (n : Nat) : Low (a.take n) := fun c hc => h c (List.mem_of_mem_take hc)
theorem Low.drop {a : List Nat} (h : Low a) (n : Nat) : Low (a.drop n) := fun c hc => h c (List.mem_of_mem_drop hc)
/-- names told apart -/
structure Nms (n : Nat) (xs : List Str) : Prop where
  len : xs.length = n
  nd : xs.Nodup
  nm : ∀ x ∈ xs, Nm x
theorem perm_strs {es : List D} {xs : List Str} (h : es.Perm (xs.map .str)) : ∃ ys : List Str, es = ys.map .str ∧ ys.Perm xs := by
  have : ∀ e ∈ es, ∃ x, e = D.str x := fun e he => by
    obtain ⟨x, _, hx⟩ := List.mem_map.mp (h.subset he)
    exact ⟨x, hx.symm⟩
  have : ∃ ys : List Str, es = ys.map .str := by
    clear h
    induction es with
    | nil => exact ⟨[], rfl⟩
    | cons e es ih =>
      obtain ⟨x, rfl⟩ := this e List.mem_cons_self
      obtain ⟨ys, rfl⟩ := ih fun e he => this e (List.mem_cons_of_mem _ he)
      exact ⟨x :: ys, rfl⟩
  obtain ⟨ys, rfl⟩ := this
  refine ⟨ys, rfl, ?_⟩
  have h2 := h.map (fun d => match d with | D.str x => x | _ => T [])
  rw [List.map_map, List.map_map] at h2
  have e : ∀ l : List Str, l.map ((fun d => match d with | D.str x => x | _ => T []) ∘ D.str) = l := fun l => by
    conv => rhs; rw [← List.map_id l]
    rfl
  rw [e, e] at h2
  exact h2
theorem Nms.perm {n : Nat} {xs ys : List Str} (h : Nms n xs) (p : ys.Perm xs) : Nms n ys := ⟨p.length_eq.trans h.len, p.nodup_iff.mpr h.nd, fun x hx => h.nm x (p.subset hx)⟩
def knowns : List Str := ["find", "finds", "word", "fact", "before", "first", "last", "lot", "never", "all", "rest", "self"]
theorem Nm_T {l : List Nat} (h : Low l) (h1 : 1 ≤ l.length) (h2 : l.length ≤ 6) : Nm (T l) := ⟨h, by rw [T_len]; exact h1, by rw [T_len]; exact h2⟩
theorem range_drop {N k : Nat} {d : D} {ds : List D} (e : d :: ds = ((List.range N).drop k).map fun (i : Nat) => D.int i) : k < N ∧ d = .int k ∧ ds = ((List.range N).drop (k + 1)).map fun (i : Nat) => D.int i := by
  by_cases h : k < N
  · rw [List.drop_eq_getElem_cons (by rw [List.length_range]; exact h), List.map_cons, List.cons.injEq] at e
    refine ⟨h, ?_, e.2⟩
    rw [e.1, List.getElem_range]
  · rw [List.drop_eq_nil_of_le (by rw [List.length_range]; omega)] at e
    cases e
theorem eq_of {α : Type} {r : R α} {a : α} {st : S} (h : Ok r fun x s => x = a ∧ s = st) : r = .ok a st := by
  obtain ⟨x, s, e, rfl, rfl⟩ := h
  exact e
/-- one turn of the names' loop -/
def namesI (tl : S × S) (N : Nat) (sg : List Str) (a2 a6 a7 a8 a9 : D) (ds : List D) (ρ : Ev) (st : S) : Prop :=
  St tl st ∧ ∃ (xs : List Str) (y5 y12 y13 y14 : Sl), ρ = [.sh (.ref tl.1.length), .sh (.int N), .sh a2, .sh (.lst (sg.map .str)), .own (xs.map .str), y5, .sh a6, .sh a7, .sh a8, .sh a9, .no, .no, y12, y13, y14, .no] ∧ xs.length ≤ N ∧ xs.Nodup ∧ (∀ x ∈ xs, Nm x) ∧ ds = ((List.range N).drop xs.length).map fun (i : Nat) => D.int i
theorem Nm.low {x : Str} (h : Nm x) : x = T x.cps.toList ∧ Low x.cps.toList ∧ 1 ≤ x.cps.toList.length ∧ x.cps.toList.length ≤ 6 := ⟨T_of x, h.1, by rw [← len_list]; exact h.2.1, by rw [← len_list]; exact h.2.2⟩
theorem names_loop {tl : S × S} {N : Nat} {sg : List Str} {a2 a6 a7 a8 a9 : D} (hN : N ≤ 60) (hg : Nms N sg) {st : S} (hs : St tl st) {ρ0 : Ev} (hρ : ρ0 = [.sh (.ref tl.1.length), .sh (.int N), .sh a2, .sh (.lst (sg.map .str)), .own [], .no, .sh a6, .sh a7, .sh a8, .sh a9, .no, .no, .no, .no, .no, .no]) {Q : Ev → S → Prop} {T0 : D → S → Prop} (k : ∀ ρ s, (St tl s ∧ ∃ xs, Nms N xs ∧ ρ[4]? = some (.own (xs.map .str))) → Q ρ s) : Go (sFor (.nm 5) (dRange (dCons (dVar 1) (dNil))) (sSeq (sSet 12 (dAnd (dBin gtD (dVar 5) (dC (.int 0))) (dBin eqD (dCall sem__law_draw (dCons (dVar 0) (dCons (dC (.int 3)) (dNil)))) (dC (.int 0))))) (sSeq (sSet 13 (dIf (dTst (dVar 12)) (dSl (dBin addD (dBin ixD (dOwn 4) (dCall sem__law_draw (dCons (dVar 0) (dCons (dVar 5) (dNil))))) (dCall sem__law_word (dCons (dVar 0) (dCons (dC (.int 1)) (dNil))))) (dNoP) (dPart (dC (.int 6)))) (dCall sem__law_word (dCons (dVar 0) (dCons (dC (.int 6)) (dNil)))))) (sSeq (sSet 14 (dLc (.nm 15) [15] (dItems (dVar 3)) (dTB (dBin nInD (dVar 15) (dOwn 4))) (dVar 15))) (sApp 4 (dIf (dTB (dBin inD (dVar 13) (dOwn 4))) (dBin ixD (dVar 14) (dC (.int 0))) (dVar 13)))))) ρ0 st) Q T0 := by
  subst hρ
  walk_at "s"
  refine range1_ok (by omega) (by omega) ?_
  rw [Int.toNat_natCast]
  refine go_for (namesI tl N sg a2 a6 a7 a8 a9) ⟨hs, [], _, _, _, _, rfl, Nat.zero_le _, List.nodup_nil, fun _ h => absurd h List.not_mem_nil, by rw [List.length_nil, List.drop_zero]⟩ ?_ ?_
  · rintro d ds ρ st ⟨hs, xs, y5, y12, y13, y14, rfl, _, hnd, hnm, e⟩
    obtain ⟨hk, rfl, rfl⟩ := range_drop e
    refine ⟨_, rfl, ?_⟩
    refine g_seq ?_
    refine Go.mono (Q := fun ρ s => St tl s ∧ ∃ b : Bool, (b = true → 0 < xs.length) ∧ ρ = [.sh (.ref tl.1.length), .sh (.int N), .sh a2, .sh (.lst (sg.map .str)), .own (xs.map .str), .sh (.int xs.length), .sh a6, .sh a7, .sh a8, .sh a9, .no, .no, .sh (.bl b), y13, y14, .no]) (T := T0) ?_ ?_ (fun _ _ z => z)
    · walk_at "s"
      refine ⟨fun hb => ?_, fun hb => ?_⟩
      · have hb := of_decide_eq_true hb
        walk_at "s"
        refine (draw_ok hs (by decide) (by decide)).mono ?_
        rintro d s ⟨hs, n, rfl, _, _⟩
        walk_at "s"
        exact ⟨hs, _, fun _ => by omega, rfl⟩
      · exact ⟨hs, _, fun h => absurd (h.symm.trans hb) (by decide), rfl⟩
    rintro ρ st ⟨hs, b, hb, rfl⟩
    refine g_seq ?_
    refine Go.mono (Q := fun ρ s => St tl s ∧ ∃ l, Low l ∧ 1 ≤ l.length ∧ l.length ≤ 6 ∧ ρ = [.sh (.ref tl.1.length), .sh (.int N), .sh a2, .sh (.lst (sg.map .str)), .own (xs.map .str), .sh (.int xs.length), .sh a6, .sh a7, .sh a8, .sh a9, .no, .no, .sh (.bl b), .sh (.str (T l)), y14, .no]) (T := T0) ?_ ?_ (fun _ _ z => z)
    · walk_at "s"
      refine ⟨fun hc => ?_, fun hc => ?_⟩
      · walk_at "s"
        refine (draw_ok hs (by have := hb hc; omega) (by omega)).mono ?_
        rintro d s ⟨hs, n, rfl, hn1, hn2⟩
        have hx : n.toNat < xs.length := by omega
        refine ixL_ok (atI_int hn1 (show (xs.map D.str)[n.toNat]? = some (.str xs[n.toNat]) by rw [List.getElem?_map, List.getElem?_eq_getElem hx]; rfl)) ?_
        obtain ⟨e1, l1, l2, l3⟩ := (hnm _ (List.getElem_mem hx)).low
        revert e1 l1 l2 l3
        generalize (xs[n.toNat]).cps.toList = l
        intro e1 l1 l2 l3
        rw [e1]
        walk_at "s"
        refine (word_ok hs (by decide) (by decide)).mono ?_
        rintro d s ⟨hs, m, rfl, m1, m2, m3⟩
        refine addS_ok (small (by rw [T_len, T_len]; omega)) ?_
        walk_at "s"
        refine o_slS (small (by rw [T_app, T_len, List.length_append]; omega)) ?_
        rw [T_app]
        refine ⟨hs, (l ++ m).take 6, (l1.app m1).take 6, ?_, ?_, ?_⟩
        · rw [List.length_take, List.length_append]; omega
        · rw [List.length_take]; omega
        · rw [← cutS_hi]; rfl
      · walk_at "s"
        refine (word_ok hs (by decide) (by decide)).mono ?_
        rintro d s ⟨hs, m, rfl, m1, m2, m3⟩
        exact ⟨hs, m, m1, m2, by omega, rfl⟩
    rintro ρ st ⟨hs, l, l1, l2, l3, rfl⟩
    walk_at "s"
    refine ⟨small (by rw [List.length_map, hg.len]; omega), ?_⟩
    refine ok_eq (comp_pure (fun d => match d with | .str x => decide (x ∉ xs) | _ => false) id fun d hd => ?_) ?_
    · obtain ⟨x, _, rfl⟩ := List.mem_map.mp hd
      refine ⟨_, rfl, ?_, fun _ => rfl⟩
      obtain ⟨b, s, e, rfl, rfl⟩ : Ok (dTB (dBin nInD (dVar 15) (dOwn 4)) ([.sh (.ref tl.1.length), .sh (.int N), .sh a2, .sh (.lst (sg.map .str)), .own (xs.map .str), .sh (.int xs.length), .sh a6, .sh a7, .sh a8, .sh a9, .no, .no, .sh (.bl b), .sh (.str (T l)), y14, .sh (.str x)]) st) fun r s => r = decide (x ∉ xs) ∧ s = st := by
        walk_at "s"
        refine o_nInL (by rw [flat_strs]; rfl) (fun i z => by cases z) ?_
        refine ⟨_, rfl, ?_, rfl⟩
        rw [any_str, decide_not]
      exact e
    · rw [List.map_id]
      have ef : (sg.map D.str).filter (fun d => match d with | .str x => decide (x ∉ xs) | _ => false) = (sg.filter fun x => decide (x ∉ xs)).map .str := by
        rw [List.filter_map]; rfl
      rw [ef]
      refine g_app rfl ?_
      walk_at "s"
      refine o_inL (by rw [flat_strs]; rfl) (fun i z => by cases z) ?_
      rw [any_str]
      walk_at "s"
      have go : ∀ (x : Str), x ∉ xs → Nm x → namesI tl N sg a2 a6 a7 a8 a9 (((List.range N).drop (xs.length + 1)).map fun (i : Nat) => D.int i) [.sh (.ref tl.1.length), .sh (.int N), .sh a2, .sh (.lst (sg.map .str)), .own (xs.map .str ++ [.str x]), .sh (.int xs.length), .sh a6, .sh a7, .sh a8, .sh a9, .no, .no, .sh (.bl b), .sh (.str (T l)), .sh (.lst ((sg.filter fun x => decide (x ∉ xs)).map .str)), .no] st := by
        intro x hx hn
        refine ⟨hs, xs ++ [x], _, _, _, _, by rw [List.map_append]; rfl, by rw [List.length_append]; exact hk, ?_, ?_, by rw [List.length_append]; rfl⟩
        · rw [List.nodup_append]
          refine ⟨hnd, List.pairwise_singleton _ _, ?_⟩
          intro a ha b hb e
          rw [List.mem_singleton] at hb
          exact hx (hb ▸ e ▸ ha)
        · intro z hz
          rcases List.mem_append.mp hz with hz | hz
          · exact hnm z hz
          · rw [List.mem_singleton] at hz
            exact hz ▸ hn
      refine ⟨fun hc => ?_, fun hc => ?_⟩
      · walk_at "s"
        have hne : (sg.filter fun x => decide (x ∉ xs)) ≠ [] := by
          intro e
          have : ∀ x ∈ sg, x ∈ xs := by
            intro x hx
            have := List.filter_eq_nil_iff.mp e x hx
            simpa using this
          have := nodup_le hg.nd this
          rw [hg.len] at this
          omega
        obtain ⟨x, ws, ew⟩ := List.exists_cons_of_ne_nil hne
        have hx : x ∈ sg.filter fun x => decide (x ∉ xs) := by rw [ew]; exact List.mem_cons_self
        have hx' := List.mem_filter.mp hx
        refine ixL_ok (d := .str x) (by rw [ew]; exact atI_int (by decide) rfl) ⟨small' (by rw [List.length_map]; omega), ?_⟩
        exact go x (of_decide_eq_true hx'.2) (hg.nm x hx'.1)
      · walk_at "s"
        refine ⟨small' (by rw [List.length_map]; omega), ?_⟩
        exact go (T l) (of_decide_eq_false hc) (Nm_T l1 l2 l3)
  · rintro ρ st ⟨hs, xs, y5, y12, y13, y14, rfl, hle, hnd, hnm, e⟩
    have hl := congrArg List.length e
    rw [List.length_map, List.length_drop, List.length_range, List.length_nil] at hl
    exact k _ _ ⟨hs, xs, ⟨by omega, hnd, hnm⟩, rfl⟩
theorem Nms_knowns {f s : Int} (hf : 0 ≤ f) (hf2 : f < 26) (hs : s ∈ strides) {ys : List Str} (hp : ys.Perm knowns) {N : Nat} (hN : N ≤ 60) : Nms N ((ys ++ (sgns f s N).map T).take N) := by
  have hk : ∀ x ∈ knowns, Nm x ∧ 3 ≤ x.length := by
    intro x hx
    have h : ∀ x ∈ knowns, (x.cps.toList.all (fun c => decide (97 ≤ c) && decide (c ≤ 122)) && decide (1 ≤ x.length) && decide (x.length ≤ 6) && decide (3 ≤ x.length)) = true := by decide
    have := h x hx
    simp only [Bool.and_eq_true, decide_eq_true_eq, List.all_eq_true] at this
    exact ⟨⟨this.1.1.1, this.1.1.2, this.1.2⟩, this.2⟩
  have hd : (ys ++ (sgns f s N).map T).Nodup := by
    rw [List.nodup_append]
    refine ⟨hp.nodup_iff.mpr (by decide), List.Pairwise.map _ (fun a b hab e => hab (T_inj e)) (sgns_nodup hf hf2 hs N), ?_⟩
    intro a ha b hb e
    have h1 := (hk a (hp.subset ha)).2
    obtain ⟨l, hl, rfl⟩ := List.mem_map.mp hb
    obtain ⟨k, hk', rfl⟩ := List.mem_map.mp hl
    rw [List.mem_range] at hk'
    have := (sgn_low (f := f) (s := s) (k := k) (by omega)).2.2
    rw [e, T_len] at h1
    omega
  refine ⟨?_, hd.sublist (List.take_sublist _ _), ?_⟩
  · rw [List.length_take, List.length_append, List.length_map]
    unfold sgns
    rw [List.length_map, List.length_range]
    omega
  · intro x hx
    rcases List.mem_append.mp (List.mem_of_mem_take hx) with h | h
    · exact (hk x (hp.subset h)).1
    · obtain ⟨l, hl, rfl⟩ := List.mem_map.mp h
      obtain ⟨k, hk', rfl⟩ := List.mem_map.mp hl
      rw [List.mem_range] at hk'
      obtain ⟨h1, h2, h3⟩ := sgn_low (f := f) (s := s) (k := k) (by omega)
      exact Nm_T h1 h2 (by omega)
theorem Nms_stem {f s : Int} (hf : 0 ≤ f) (hf2 : f < 26) (hs : s ∈ strides) {l : List Nat} (hl : Low l) (hl4 : l.length ≤ 4) {N : Nat} (hN : N ≤ 60) (k : Nat) : Nms N ((sgns f s N).map fun g => T (l.take k ++ g ++ l.drop k)) := by
  refine ⟨by unfold sgns; rw [List.length_map, List.length_map, List.length_range], ?_, ?_⟩
  · refine List.Pairwise.map _ (fun a b hab e => hab ?_) (sgns_nodup hf hf2 hs N)
    have e := T_inj e
    rw [List.append_assoc, List.append_assoc] at e
    exact List.append_cancel_right (List.append_cancel_left e)
  · intro x hx
    obtain ⟨g, hg, rfl⟩ := List.mem_map.mp hx
    obtain ⟨j, hj, rfl⟩ := List.mem_map.mp hg
    rw [List.mem_range] at hj
    obtain ⟨h1, h2, h3⟩ := sgn_low (f := f) (s := s) (k := j) (by omega)
    refine Nm_T (((hl.take k).app h1).app (hl.drop k)) ?_ ?_
    · rw [List.length_append, List.length_append]; omega
    · rw [List.length_append, List.length_append, List.length_take, List.length_drop]; omega
def ltD1 (f sd : Int) : D → D
  | .int k => .str (T [97 + ((f + sd * k % 26) % 26).toNat])
  | _ => .non
def sgD (f s : Int) : D → D
  | .int k => .str (T (sgn f s k.toNat))
  | _ => .non
theorem names_ok {tl : S × S} {st : S} {N : Nat} (h : St tl st) (h1 : 0 < N) (hN : N ≤ 60) : Ok (sem__law_names [.ref tl.1.length, .int N] st) fun d s => St tl s ∧ ∃ xs, d = .lst (xs.map .str) ∧ Nms N xs := by
  refine ok_sem rfl ?_
  unfold den__law_names
  walk_at "s"
  refine (draw_ok h (by decide) (by decide)).mono ?_
  rintro d s ⟨h, f, rfl, hf, hf2⟩
  walk_at "s"
  refine ⟨by decide, ?_⟩
  walk_at "s"
  refine (pick_ok h (by decide) (by decide)).mono ?_
  rintro d s ⟨h, hd⟩
  have hd : d ∈ strides.map D.int := hd
  obtain ⟨sd, hsd, rfl⟩ := List.mem_map.mp hd
  walk_at "s"
  refine ⟨small (by simp), ?_⟩
  refine ⟨_, rfl, ?_⟩
  walk_at "s"
  refine range1_ok (by omega) (by omega) ?_
  rw [Int.toNat_natCast]
  refine ⟨small (by rw [List.length_map, List.length_range]; omega), ?_⟩
  refine ok_eq (comp_map (ltD1 f sd) fun d hd => ?_) ?_
  · obtain ⟨k, hk, rfl⟩ := List.mem_map.mp hd
    rw [List.mem_range] at hk
    refine ⟨_, rfl, eq_of ?_⟩
    walk_at "s"
    refine k_letters ?_
    walk_at "s"
    refine mul_ok (mulC_r (by omega) (by omega)) ?_
    walk_at "s"
    refine mod_ok (by decide) ?_
    walk_at "s"
    refine mod_ok (by decide) ?_
    exact letter_ok (Int.emod_nonneg _ (by decide)) (Int.emod_lt_of_pos _ (by decide)) ⟨rfl, rfl⟩
  walk_at "s"
  refine range1_ok (by omega) (by omega) ?_
  rw [Int.toNat_natCast]
  refine ⟨small (by rw [List.length_map, List.length_range]; omega), ?_⟩
  refine ok_eq (comp_map (sgD f sd) fun d hd => ?_) ?_
  · obtain ⟨k, hk, rfl⟩ := List.mem_map.mp hd
    rw [List.mem_range] at hk
    refine ⟨_, rfl, eq_of ?_⟩
    walk_at "s"
    refine ixL_ok (d := .str (T [97 + ((f + sd * (k : Int) % 26) % 26).toNat])) (atI_nat (by rw [List.map_map, List.getElem?_map, List.getElem?_range hk]; rfl)) ?_
    walk_at "s"
    refine ⟨fun hc => ?_, fun hc => ?_⟩
    · have hc := of_decide_eq_true hc
      walk_at "s"
      have e0 : Str.ofString "" = T [] := by decide
      rw [e0]
      refine addS_ok (small (by rw [T_len, T_len]; simp)) ⟨?_, rfl⟩
      rw [T_app]
      unfold sgD sgn
      dsimp only
      rw [Int.toNat_natCast, if_pos (by omega)]
      rfl
    · have hc := of_decide_eq_false hc
      walk_at "s"
      refine k_letters ?_
      walk_at "s"
      refine fdiv_ok (by decide) (by decide) ?_
      refine letter_ok (by omega) (by omega) ?_
      refine addS_ok (small (by rw [T_len, T_len]; simp)) ⟨?_, rfl⟩
      rw [T_app]
      unfold sgD sgn
      dsimp only
      rw [Int.toNat_natCast, if_neg (by omega)]
      have : ((k : Int) / 26).toNat = k / 26 := by omega
      rw [this]
      rfl
  have eS : ((List.range N).map fun (i : Nat) => D.int i).map (sgD f sd) = ((sgns f sd N).map T).map D.str := by
    unfold sgns
    rw [List.map_map, List.map_map, List.map_map]
    rfl
  rw [eS]
  walk_at "s"
  refine (draw_ok h (by decide) (by decide)).mono ?_
  rintro d s ⟨h, way, rfl, hw, hw2⟩
  walk_at "s"
  refine (word_ok h (by decide) (by decide)).mono ?_
  rintro d s ⟨h, l, rfl, l1, l2, l3⟩
  walk_at "s"
  refine ⟨small (by simp), ?_⟩
  refine ⟨_, rfl, ?_⟩
  walk_at "s"
  refine ⟨fun hc => ?_, fun hc => ?_⟩
  · walk_at "s"
    refine lenS_ok (small (by rw [T_len]; omega)) ?_
    walk_at "s"
    refine (draw_ok h (by rw [T_len]; omega) (by rw [T_len]; omega)).mono ?_
    rintro d s ⟨h, n, rfl, hn1, hn2⟩
    obtain ⟨n, rfl⟩ := Int.eq_ofNat_of_zero_le hn1
    walk_at "s"
    refine ⟨small (by rw [List.length_map, List.length_map]; unfold sgns; rw [List.length_map, List.length_range]; omega), ?_⟩
    refine ok_eq (comp_map (fun d => match d with | .str g => .str (T (l.take n ++ g.cps.toList ++ l.drop n)) | _ => .non) fun d hd => ?_) ?_
    · obtain ⟨g, hg, rfl⟩ := List.mem_map.mp hd
      obtain ⟨g, hg2, rfl⟩ := List.mem_map.mp hg
      obtain ⟨j, hj, rfl⟩ := List.mem_map.mp hg2
      rw [List.mem_range] at hj
      obtain ⟨h1, h2, h3⟩ := sgn_low (f := f) (s := sd) (k := j) (by omega)
      refine ⟨_, rfl, eq_of ?_⟩
      walk_at "s"
      refine o_slS (small (by rw [T_len]; omega)) ?_
      rw [cutS_hi]
      walk_at "s"
      refine addS_ok (small (by rw [T_len, T_len, List.length_take]; omega)) ?_
      walk_at "s"
      refine o_slS (small (by rw [T_len]; omega)) ?_
      rw [cutS_lo, T_app]
      refine addS_ok (small (by rw [T_len, T_len, List.length_append, List.length_take, List.length_drop]; omega)) ⟨?_, rfl⟩
      rw [T_app]
      rfl
    · refine ⟨h, _, ?_, Nms_stem hf hf2 hsd l1 (by omega) hN n⟩
      rw [List.map_map, List.map_map, List.map_map]
      rfl
  · walk_at "s"
    refine ⟨fun hc => ?_, fun hc => ?_⟩
    · walk_at "s"
      refine ⟨by decide, ?_⟩
      walk_at "s"
      refine (shuffle_ok h (by decide)).mono ?_
      rintro d s ⟨h, es, rfl, hp⟩
      have hp : es.Perm (knowns.map D.str) := hp
      obtain ⟨ys, rfl, hp2⟩ := perm_strs hp
      walk_at "s"
      refine addL_ok (small (by rw [List.length_map, List.length_map, List.length_map, hp2.length_eq]; unfold sgns; rw [List.length_map, List.length_range]; have : knowns.length = 12 := (by decide); omega)) ?_
      walk_at "s"
      rw [cutL_hi, ← List.map_append, ← List.map_take]
      have hk := Nms_knowns hf hf2 hsd hp2 hN
      refine (shuffle_ok h (by rw [List.length_map, hk.len]; omega)).mono ?_
      rintro d s ⟨h, es, rfl, hp⟩
      obtain ⟨zs, rfl, hp3⟩ := perm_strs hp
      exact ⟨h, zs, rfl, hk.perm hp3⟩
    · walk_at "s"
      refine ⟨by decide, ?_⟩
      with_reducible refine g_seq ?_
      (with_reducible refine' names_loop (sg := (sgns f sd N).map T) hN ⟨?_, ?_, ?_⟩ h ?hr ?_); (case hr => rfl)
      · rw [List.length_map]; unfold sgns; rw [List.length_map, List.length_range]
      · exact List.Pairwise.map _ (fun a b hab e => hab (T_inj e)) (sgns_nodup hf hf2 hsd N)
      · intro x hx
        obtain ⟨g, hg, rfl⟩ := List.mem_map.mp hx
        obtain ⟨j, hj, rfl⟩ := List.mem_map.mp hg
        rw [List.mem_range] at hj
        obtain ⟨h1, h2, h3⟩ := sgn_low (f := f) (s := sd) (k := j) (by omega)
        exact Nm_T h1 h2 (by omega)
      · rintro ρ s ⟨h, xs, hx, e⟩
        exact g_retOwn e ⟨h, xs, rfl, hx⟩
end
section
set_option maxHeartbeats 1000000
/-! Plain data; the laws' own sameness. -/

open PySem L2 DL Co

def plS (x : Str) : Bool := decide (x.length ≤ 1000) && x.cps.toList.all fun c => decide (c < 1114112)
/-- plain data, no deeper than n -/
def pl : Nat → D → Bool
  | 0, .lst _ => false
  | 0, .tup _ => false
  | n + 1, .lst ds => decide (ds.length ≤ 1000) && ds.all (pl n)
  | n + 1, .tup ds => decide (ds.length ≤ 1000) && ds.all (pl n)
  | _, .str x => plS x
  | _, .non => true
  | _, .bl _ => true
  | _, .int _ => true
  | _, .pr _ _ => false
  | _, .ref _ => false
  | _, .ty _ => false
  | _, .cls _ => false
  | _, .scr _ => false
  | _, .dic _ _ => false
  | _, .ob _ _ _ => false
theorem pl_non {n : Nat} : pl n .non = true := by cases n <;> rfl
theorem pl_bl {n : Nat} {b : Bool} : pl n (.bl b) = true := by cases n <;> rfl
theorem pl_int {n : Nat} {b : Int} : pl n (.int b) = true := by cases n <;> rfl
theorem pl_str {n : Nat} {x : Str} : pl n (.str x) = plS x := by cases n <;> rfl
theorem pl_pr {n : Nat} {a b : D} : pl n (.pr a b) = false := by cases n <;> rfl
theorem pl_ref {n i : Nat} : pl n (.ref i) = false := by cases n <;> rfl
theorem pl_ty {n : Nat} {i : String} : pl n (.ty i) = false := by cases n <;> rfl
theorem pl_cls {n i : Nat} : pl n (.cls i) = false := by cases n <;> rfl
theorem pl_scr {n : Nat} {i : List Int} : pl n (.scr i) = false := by cases n <;> rfl
theorem pl_dic {n : Nat} {ks : List Key} {ds : List D} : pl n (.dic ks ds) = false := by cases n <;> rfl
theorem pl_ob {n c : Nat} {ns : List Str} {ds : List D} : pl n (.ob c ns ds) = false := by cases n <;> rfl
theorem pl_tup {n : Nat} {ds : List D} : pl (n + 1) (.tup ds) = true ↔ ds.length ≤ 1000 ∧ ∀ d ∈ ds, pl n d = true := by
  show (decide (ds.length ≤ 1000) && ds.all (pl n)) = true ↔ _
  rw [Bool.and_eq_true, decide_eq_true_eq, List.all_eq_true]
theorem pl_lst {n : Nat} {ds : List D} : pl (n + 1) (.lst ds) = true ↔ ds.length ≤ 1000 ∧ ∀ d ∈ ds, pl n d = true := by
  show (decide (ds.length ≤ 1000) && ds.all (pl n)) = true ↔ _
  rw [Bool.and_eq_true, decide_eq_true_eq, List.all_eq_true]
theorem pl_succ : ∀ {n : Nat} {d : D}, pl n d = true → pl (n + 1) d = true
  | n, .non, _ => pl_non
  | n, .bl _, _ => pl_bl
  | n, .int _, _ => pl_int
  | n, .str x, h => by rw [pl_str] at h ⊢; exact h
  | 0, .lst _, h => by cases h
  | 0, .tup _, h => by cases h
  | n + 1, .lst ds, h => by rw [pl_lst] at h ⊢; exact ⟨h.1, fun d hd => pl_succ (h.2 d hd)⟩
  | n + 1, .tup ds, h => by rw [pl_tup] at h ⊢; exact ⟨h.1, fun d hd => pl_succ (h.2 d hd)⟩
  | n, .pr _ _, h => by rw [pl_pr] at h; cases h
  | n, .ref _, h => by rw [pl_ref] at h; cases h
  | n, .ty _, h => by rw [pl_ty] at h; cases h
  | n, .cls _, h => by rw [pl_cls] at h; cases h
  | n, .scr _, h => by rw [pl_scr] at h; cases h
  | n, .dic _ _, h => by rw [pl_dic] at h; cases h
  | n, .ob _ _ _, h => by rw [pl_ob] at h; cases h
theorem pl_le {m n : Nat} (hmn : m ≤ n) {d : D} (h : pl m d = true) : pl n d = true := by
  induction hmn with
  | refl => exact h
  | step _ ih => exact pl_succ ih
theorem plS_ok {x : Str} (h : plS x = true) : x.length ≤ 1000 ∧ PyData.canLay0 (.str x) = true := by
  unfold plS at h
  rw [Bool.and_eq_true, decide_eq_true_eq] at h
  refine ⟨h.1, ?_⟩
  simp only [PyData.canLay0]
  unfold PyData.strOk
  rw [← Array.all_toList]
  exact h.2
theorem pls_py {n : Nat} : ∀ {ds : List D}, (∀ d ∈ ds, pur d = true ∧ PyData.canLay0 (py d) = true ∧ PyData.depth (py d) ≤ n) → purs ds = true ∧ PyData.canLayAll0 (pys ds) = true ∧ PyData.depthAll (pys ds) ≤ n
  | [], _ => ⟨rfl, rfl, Nat.zero_le _⟩
  | d :: ds, h => by
    obtain ⟨h1, h2, h3⟩ := h d List.mem_cons_self
    obtain ⟨h4, h5, h6⟩ := pls_py (ds := ds) fun d hd => h d (List.mem_cons_of_mem _ hd)
    unfold purs pys PyData.canLayAll0 PyData.depthAll
    rw [Bool.and_eq_true, Bool.and_eq_true]
    exact ⟨⟨h1, h4⟩, ⟨h2, h5⟩, Nat.max_le.mpr ⟨h3, h6⟩⟩
theorem pl_py : ∀ {n : Nat} {d : D}, pl n d = true → pur d = true ∧ PyData.canLay0 (py d) = true ∧ PyData.depth (py d) ≤ n
  | n, .non, _ => ⟨rfl, rfl, Nat.zero_le _⟩
  | n, .bl _, _ => ⟨rfl, rfl, Nat.zero_le _⟩
  | n, .int _, _ => ⟨rfl, rfl, Nat.zero_le _⟩
  | n, .str x, h => by rw [pl_str] at h; exact ⟨rfl, (plS_ok h).2, Nat.zero_le _⟩
  | 0, .lst _, h => by cases h
  | 0, .tup _, h => by cases h
  | n + 1, .lst ds, h => by
    rw [pl_lst] at h
    obtain ⟨h1, h2, h3⟩ := pls_py fun d hd => pl_py (h.2 d hd)
    refine ⟨by unfold pur; exact h1, by unfold py PyData.canLay0; exact h2, by unfold py PyData.depth; omega⟩
  | n + 1, .tup ds, h => by
    rw [pl_tup] at h
    obtain ⟨h1, h2, h3⟩ := pls_py fun d hd => pl_py (h.2 d hd)
    refine ⟨by unfold pur; exact h1, by unfold py PyData.canLay0; exact h2, by unfold py PyData.depth; omega⟩
  | n, .pr _ _, h => by rw [pl_pr] at h; cases h
  | n, .ref _, h => by rw [pl_ref] at h; cases h
  | n, .ty _, h => by rw [pl_ty] at h; cases h
  | n, .cls _, h => by rw [pl_cls] at h; cases h
  | n, .scr _, h => by rw [pl_scr] at h; cases h
  | n, .dic _ _, h => by rw [pl_dic] at h; cases h
  | n, .ob _ _ _, h => by rw [pl_ob] at h; cases h
theorem pl_okd {n : Nat} {d : D} (h : pl n d = true) (hn : n ≤ 64) : okd d = true := by
  obtain ⟨h1, h2, h3⟩ := pl_py h
  unfold okd SeqAt.shaped
  rw [h1, h2, decide_eq_true (by omega : PyData.depth (py d) ≤ 64)]
  rfl
theorem pl_ty_ok {n : Nat} {d : D} (h : pl n d = true) : tyOk d = true := by
  cases d <;> first | rfl | (rw [pl_pr] at h; cases h) | (rw [pl_ref] at h; cases h) | (rw [pl_ty] at h; cases h) | (rw [pl_cls] at h; cases h) | (rw [pl_scr] at h; cases h) | (rw [pl_dic] at h; cases h) | (rw [pl_ob] at h; cases h)
theorem comp_true {n : Nat} {F : List D → S → R D} {ds : List D} {st : S} {ρ : Ev} {A : D} {Q : List D → S → Prop} (ho : ∀ d ∈ ds, F [d, d] st = .ok (.bl true) st) (e0 : ρ[0]? = some (.sh A)) (e1 : ρ[1]? = some (.sh A)) (e2 : 2 < ρ.length) (hA : A = .lst ds ∨ A = .tup ds) (q : Q ((List.replicate ds.length true).map .bl) st) : Ok (compD (.nm 2) tTrue (dCall F (dCons (dBin ixD (dVar 0) (dVar 2)) (dCons (dBin ixD (dVar 1) (dVar 2)) (dNil)))) ρ ((List.range ds.length).map fun (i : Nat) => .int i) st) Q := by
  refine ok_eq (comp_map (fun _ => .bl true) fun d hd => ?_) ?_
  · obtain ⟨k, hk, rfl⟩ := List.mem_map.mp hd
    rw [List.mem_range] at hk
    refine ⟨_, rfl, eq_of ?_⟩
    refine k_call ?_
    have x0 : (ρ.set 2 (Sl.sh (D.int k)))[0]? = some (.sh A) := by rw [List.getElem?_set_ne (by decide)]; exact e0
    have x1 : (ρ.set 2 (Sl.sh (D.int k)))[1]? = some (.sh A) := by rw [List.getElem?_set_ne (by decide)]; exact e1
    have x2 : (ρ.set 2 (Sl.sh (D.int k)))[2]? = some (.sh (.int k)) := by rw [List.getElem?_set_self e2]
    have ha : ∀ {Q : D → S → Prop}, Q ds[k] st → Ok (ixD A (.int k) st) Q := by
      intro Q q
      rcases hA with rfl | rfl
      · exact ixL_ok (atI_nat (List.getElem?_eq_getElem hk)) q
      · exact ixT_ok (atI_nat (List.getElem?_eq_getElem hk)) q
    refine k_cons (k_bin (k_var x0 (k_var x2 (ha ?_))))
    refine k_cons (k_bin (k_var x1 (k_var x2 (ha ?_))))
    refine k_nil ?_
    exact ⟨_, _, ho _ (List.getElem_mem hk), rfl, rfl⟩
  · rw [List.map_map]
    have : List.map ((fun _ => D.bl true) ∘ fun (i : Nat) => D.int i) (List.range ds.length) = (List.replicate ds.length true).map .bl := by
      rw [List.map_replicate]
      have : ((fun _ => D.bl true) ∘ fun (i : Nat) => D.int i) = fun _ => D.bl true := rfl
      rw [this, List.map_const', List.length_range]
    rw [this]
    exact q
theorem all_rep (n : Nat) : (List.replicate n true).all id = true := by
  rw [List.all_eq_true]
  intro b hb
  exact (List.mem_replicate.mp hb).2
theorem same_body {n : Nat} {F : List D → S → R D} {d : D} {st : S} (h : pl n d = true) (hn : n ≤ 60) (hF : ∀ ds, (d = .lst ds ∨ d = .tup ds) → ∀ e ∈ ds, F [e, e] st = .ok (.bl true) st) : semOf 2 3 (den__law_same F) [d, d] st = .ok (.bl true) st := by
  refine eq_of ?_
  refine ok_sem rfl ?_
  unfold den__law_same
  have ht := pl_ty_ok h
  have hk := pl_okd h (by omega)
  cases d with
  | lst ds =>
    walk_at "s"
    refine ⟨fun _ => ?_, fun z => by simp [isI] at z⟩
    walk_at "s"
    refine ⟨fun z => by simp [isI] at z, fun _ => ?_⟩
    walk_at "s"
    refine ⟨fun z => by simp [isI] at z, fun _ => ?_⟩
    walk_at "s"
    refine ⟨fun _ => ?_, fun z => by simp at z⟩
    walk_at "s"
    have hl : ds.length ≤ 1000 := by
      cases n with
      | zero => cases h
      | succ n => exact (pl_lst.mp h).1
    refine range1_ok (by omega) (by omega) ?_
    rw [Int.toNat_natCast]
    refine ⟨small (by rw [List.length_map, List.length_range]; omega), ?_⟩
    refine comp_true (n := 0) (A := .lst ds) (hF ds (by simp)) rfl rfl (Nat.lt_succ_self 2) (by simp) ?_
    walk_at "s"
    refine o_allB ?_
    rw [all_rep]
    exact ⟨rfl, rfl⟩
  | tup ds =>
    walk_at "s"
    refine ⟨fun _ => ?_, fun z => by simp [isI] at z⟩
    walk_at "s"
    refine ⟨fun z => by simp [isI] at z, fun _ => ?_⟩
    walk_at "s"
    refine ⟨fun z => by simp [isI] at z, fun _ => ?_⟩
    walk_at "s"
    refine ⟨fun _ => ?_, fun z => by simp at z⟩
    walk_at "s"
    have hl : ds.length ≤ 1000 := by
      cases n with
      | zero => cases h
      | succ n => exact (pl_tup.mp h).1
    refine range1_ok (by omega) (by omega) ?_
    rw [Int.toNat_natCast]
    refine ⟨small (by rw [List.length_map, List.length_range]; omega), ?_⟩
    refine comp_true (n := 0) (A := .tup ds) (hF ds (by simp)) rfl rfl (Nat.lt_succ_self 2) (by simp) ?_
    walk_at "s"
    refine o_allB ?_
    rw [all_rep]
    exact ⟨rfl, rfl⟩
  | non =>
    walk_at "s"
    refine ⟨fun z => by simp [isI, isNon] at z, fun _ => ?_⟩
    walk_at "s"
    refine ⟨fun _ => ?_, fun z => by simp [isI, isNon] at z⟩
    walk_at "s"
    refine ⟨fun _ => ?_, fun z => by simp [isI, isNon] at z⟩
    walk_at "s"
    refine ⟨fun _ => ?_, fun z => by simp [isI, isNon] at z⟩
    walk_at "s"
    exact ⟨rfl, rfl⟩
  | bl b =>
    walk_at "s"
    refine ⟨fun z => by simp [isI, isNon] at z, fun _ => ?_⟩
    walk_at "s"
    refine ⟨fun z => by simp [isI, isNon] at z, fun _ => ?_⟩
    walk_at "s"
    refine ⟨fun z => by simp [isI, isNon] at z, fun _ => ?_⟩
    walk_at "s"
    refine ⟨fun _ => ?_, fun z => by simp [isI, isNon] at z⟩
    walk_at "s"
    refine ⟨fun _ => ?_, fun z => by simp [isI, isNon] at z⟩
    walk_at "s"
    refine ⟨fun _ => ?_, fun z => by simp [isI, isNon] at z⟩
    walk_at "s"
    refine ⟨fun _ => ?_, fun z => by simp [isI, isNon] at z⟩
    walk_at "s"
    refine ⟨?_, rfl⟩
    simp
  | int i =>
    walk_at "s"
    refine ⟨fun z => by simp [isI, isNon] at z, fun _ => ?_⟩
    walk_at "s"
    refine ⟨fun z => by simp [isI, isNon] at z, fun _ => ?_⟩
    walk_at "s"
    refine ⟨fun z => by simp [isI, isNon] at z, fun _ => ?_⟩
    walk_at "s"
    refine ⟨fun z => by simp [isI, isNon] at z, fun _ => ?_⟩
    walk_at "s"
    refine ⟨fun z => by simp [isI, isNon] at z, fun _ => ?_⟩
    walk_at "s"
    refine ⟨fun _ => ?_, fun z => by simp [isI, isNon] at z⟩
    walk_at "s"
    refine ⟨fun _ => ?_, fun z => by simp [isI, isNon] at z⟩
    walk_at "s"
    exact ⟨by simp, rfl⟩
  | str x =>
    walk_at "s"
    refine ⟨fun z => by simp [isI, isNon] at z, fun _ => ?_⟩
    walk_at "s"
    refine ⟨fun z => by simp [isI, isNon] at z, fun _ => ?_⟩
    walk_at "s"
    refine ⟨fun z => by simp [isI, isNon] at z, fun _ => ?_⟩
    walk_at "s"
    refine ⟨fun z => by simp [isI, isNon] at z, fun _ => ?_⟩
    walk_at "s"
    refine ⟨fun z => by simp [isI, isNon] at z, fun _ => ?_⟩
    walk_at "s"
    refine ⟨fun z => by simp [isI, isNon] at z, fun _ => ?_⟩
    walk_at "s"
    refine ⟨fun _ => ?_, fun z => by simp [isI, isNon] at z⟩
    walk_at "s"
    refine ⟨fun _ => ?_, fun z => by simp [isI, isNon] at z⟩
    walk_at "s"
    exact ⟨by simp, rfl⟩
  | _ => cases ht
theorem same_refl : ∀ {n : Nat} {d : D}, pl n d = true → n ≤ 60 → ∀ st, sem__law_same (n + 1) [d, d] st = .ok (.bl true) st
  | 0, d, h, hn, st => same_body h hn fun ds e => by rcases e with rfl | rfl <;> cases h
  | n + 1, d, h, hn, st => same_body h hn fun ds e x hx => same_refl (n := n) (by rcases e with rfl | rfl; exact (pl_lst.mp h).2 x hx; exact (pl_tup.mp h).2 x hx) (by omega) st
theorem k_same {n : Nat} {d : D} {st : S} {Q : D → S → Prop} (h : pl n d = true) (hn : n ≤ 11) (q : Q (.bl true) st) : Ok (sem__law_same 12 [d, d] st) Q := ⟨_, _, same_refl (pl_le hn h) (by decide) st, q⟩
end
section
set_option maxHeartbeats 1000000
/-! Odd things, subsets, facts, things like statements. -/

open PySem L2 DL Co

def oddL : List D := [.non, .bl true, .bl false, .int 0, .int 1, .int (-1), .int 30, .int 999999999, .str "", .str "a", .str "A", .str "ab1", .str "abcdefg", .str "a b", .str "a\n", .str "{", .tup [], .lst [], .tup [.str "a"], .lst [.str "a"], .tup [.str "b", .str "a"], .tup [.str "a", .str "a"], .tup [.str "a", .int 1], .tup [.non], .tup [.bl true], .tup [.tup [.str "a"]], .lst [.lst [.str "a"]], .tup [.str "a", .lst [.str "a"]], .tup [.str "a", .str ""], .tup [.str "a", .str "B"], .lst [.str "a", .tup [.str "a"]], .tup [.str "a", .tup [.str "b", .str "a"]], .tup [.str "a", .tup []], .tup [.str "a", .lst []], .tup [.int 1, .tup [.str "a"]]]
theorem oddL_pl : ∀ d ∈ oddL, pl 2 d = true := by decide
theorem odd_ok {tl : S × S} {st : S} (h : St tl st) : Ok (sem__law_odd [.ref tl.1.length] st) fun d s => St tl s ∧ pl 2 d = true := by
  refine ok_sem rfl ?_
  unfold den__law_odd
  refine g_ret (k_call ?_)
  refine ok_eq (a := [.ref tl.1.length, .lst oddL]) (s := st) rfl ?_
  refine (pick_ok h (by decide) (by decide)).mono ?_
  rintro d s ⟨h, hd⟩
  exact ⟨h, oddL_pl d hd⟩
theorem Nm.plS {x : Str} (h : Nm x) : plS x = true := by
  unfold DM.plS
  rw [Bool.and_eq_true, decide_eq_true_eq, List.all_eq_true]
  refine ⟨by have := h.2.2; omega, fun c hc => decide_eq_true ?_⟩
  have := h.1 c hc
  omega
theorem strs_get {xs : List Str} {i : Nat} (h : i < xs.length) : (xs.map D.str)[i]? = some (.str xs[i]) := by rw [List.getElem?_map, List.getElem?_eq_getElem h]; rfl
/-- a pool of names, a pick -/
theorem pickN_ok {tl : S × S} {st : S} {xs : List Str} (h : St tl st) (h1 : 0 < xs.length) (h2 : xs.length ≤ 1000) : Ok (sem__law_pick [.ref tl.1.length, .lst (xs.map .str)] st) fun d s => St tl s ∧ ∃ x ∈ xs, d = .str x := by
  refine (pick_ok h (by rw [List.length_map]; exact h1) (by rw [List.length_map]; omega)).mono ?_
  rintro d s ⟨h, hd⟩
  obtain ⟨x, hx, rfl⟩ := List.mem_map.mp hd
  exact ⟨h, x, hx, rfl⟩
theorem eqd_nil (xs : List Str) : eqd (.lst (xs.map .str)) (.lst []) = xs.isEmpty := by
  unfold eqd
  cases xs <;> rfl
theorem okd_strs {xs : List Str} (h : ∀ x ∈ xs, plS x = true) (hl : xs.length ≤ 1000) : okd (.lst (xs.map .str)) = true := pl_okd (n := 1) (pl_lst.mpr ⟨by rw [List.length_map]; exact hl, fun d hd => by obtain ⟨x, hx, rfl⟩ := List.mem_map.mp hd; rw [pl_str]; exact h x hx⟩) (by decide)
theorem sortS_perm (xs : List Str) : (sortS xs).Perm xs := List.mergeSort_perm xs _
theorem paired_len {α β : Type} {P : α → β → Prop} : ∀ {a : List α} {b : List β}, Paired P a b → a.length = b.length
  | _, _, .nil => rfl
  | _, _, .cons _ r => by rw [List.length_cons, List.length_cons, paired_len r]
theorem paired_r {α β : Type} {P : β → Prop} : ∀ {a : List α} {b : List β}, Paired (fun _ y => P y) a b → ∀ y ∈ b, P y
  | _, _, .nil => fun _ h => absurd h List.not_mem_nil
  | _, _, .cons h r => fun y hy => (List.mem_cons.mp hy).elim (fun e => e ▸ h) (paired_r r y)
theorem range_getD (xs : List Str) : (List.range xs.length).map (fun i => xs.getD i (T [])) = xs := by
  refine List.ext_getElem (by rw [List.length_map, List.length_range]) fun i h1 h2 => ?_
  rw [List.getElem_map, List.getElem_range, List.getD_eq_getElem?_getD, List.getElem?_eq_getElem h2]
  rfl
def bitP (bits : List D) (lim : Int) (k : Nat) : Bool := match bits[k]? with
  | some (.int n) => decide (n < lim)
  | _ => false
def bitD (bits : List D) (lim : Int) : D → Bool
  | .int k => bitP bits lim k.toNat
  | _ => false
def getX (xs : List Str) : D → D
  | .int k => .str (xs.getD k.toNat (T []))
  | _ => .non
/-- some of a pool, sorted -/
theorem subset_ok {tl : S × S} {st : S} {xs : List Str} (h : St tl st) (hx : ∀ x ∈ xs, Nm x) (h1 : 0 < xs.length) (h2 : xs.length ≤ 60) : Ok (sem__law_subset [.ref tl.1.length, .lst (xs.map .str)] st) fun d s => St tl s ∧ ∃ ys : List Str, ys ≠ [] ∧ ys.length ≤ 60 ∧ (∀ y ∈ ys, y ∈ xs) ∧ (ys.Sublist xs ∨ ys.length = 1) ∧ d = .tup ((sortS ys).map .str) := by
  refine ok_sem rfl ?_
  unfold den__law_subset
  walk_at "s"
  refine (draw_ok h (by decide) (by decide)).mono ?_
  rintro d s ⟨h, lim, rfl, _, _⟩
  walk_at "s"
  refine (pickN_ok h h1 (by omega)).mono ?_
  rintro d s ⟨h, sp, hsp, rfl⟩
  walk_at "s"
  refine ⟨small (by simp), ?_⟩
  refine ⟨_, rfl, ?_⟩
  walk_at "s"
  refine ⟨small (by rw [List.length_map]; omega), ?_⟩
  refine (comp_ok (St tl) (fun _ y => ∃ n : Int, y = .int n) h fun d hd st hs => ⟨_, rfl, ?_⟩).mono ?_
  · walk_at "s"
    refine (draw_ok hs (by decide) (by decide)).mono ?_
    rintro d s ⟨h, n, rfl, _, _⟩
    exact ⟨h, n, rfl⟩
  rintro bits s ⟨h, hb⟩
  have hbl : bits.length = xs.length := by
    have := paired_len hb
    rw [List.length_map] at this
    omega
  walk_at "s"
  refine range1_ok (by rw [List.length_map]; omega) (by omega) ?_
  have hl0 : (xs.map D.str).length = xs.length := List.length_map _
  rw [hl0, Int.toNat_natCast]
  refine ⟨small (by rw [List.length_map, List.length_range]; omega), ?_⟩
  refine ok_eq (comp_pure (bitD bits (1 + lim)) (getX xs) fun d hd => ?_) ?_
  · obtain ⟨k, hk, rfl⟩ := List.mem_map.mp hd
    rw [List.mem_range] at hk
    have hk' : k < bits.length := by omega
    obtain ⟨n, hn⟩ := paired_r hb _ (List.getElem_mem hk')
    refine ⟨_, rfl, eq_of ?_, fun _ => eq_of ?_⟩
    · walk_at "s"
      refine ixL_ok (d := .int n) (atI_nat (by rw [List.getElem?_eq_getElem hk', hn])) ?_
      walk_at "s"
      refine ⟨?_, rfl⟩
      unfold bitD bitP
      dsimp only
      rw [Int.toNat_natCast, List.getElem?_eq_getElem hk', hn]
    · walk_at "s"
      refine ixL_ok (atI_nat (strs_get hk)) ⟨?_, rfl⟩
      unfold getX
      dsimp only
      rw [Int.toNat_natCast, List.getD_eq_getElem?_getD, List.getElem?_eq_getElem hk]
      rfl
  have ey : ((((List.range xs.length).map fun (i : Nat) => D.int i).filter (bitD bits (1 + lim))).map (getX xs)) = (((List.range xs.length).filter (bitP bits (1 + lim))).map fun i => xs.getD i (T [])).map D.str := by
    rw [List.filter_map, List.map_map, List.map_map]
    rfl
  rw [ey]
  have hsub : (((List.range xs.length).filter (bitP bits (1 + lim))).map fun i => xs.getD i (T [])).Sublist xs := by
    have := (List.filter_sublist (p := bitP bits (1 + lim)) (l := List.range xs.length)).map fun i => xs.getD i (T [])
    rw [range_getD] at this
    exact this
  revert hsub
  generalize (((List.range xs.length).filter (bitP bits (1 + lim))).map fun i => xs.getD i (T [])) = ys
  intro hsub
  have hlen := hsub.length_le
  walk_at "s"
  refine ⟨by decide, ?_⟩
  refine o_ne (okd_strs (fun y hy => (hx y (hsub.subset hy)).plS) (by omega)) (by decide) (fun i z => by cases z) (fun i z => by cases z) ?_
  rw [eqd_nil]
  walk_at "s"
  refine ⟨fun hc => ?_, fun hc => ?_⟩
  · walk_at "s"
    refine o_sortS (by omega) ?_
    walk_at "s"
    refine ⟨h, ys, ?_, by omega, fun y hy => hsub.subset hy, .inl hsub, rfl⟩
    intro e
    subst e
    cases hc
  · walk_at "s"
    refine ⟨small (by simp), ?_⟩
    walk_at "s"
    refine o_sortS (xs := [sp]) (by simp) ?_
    walk_at "s"
    exact ⟨h, [sp], by simp, by simp, fun y hy => by rw [List.mem_singleton] at hy; exact hy ▸ hsp, .inr rfl, rfl⟩
end
section
set_option maxHeartbeats 1000000
/-! Facts, things like statements. -/

open PySem L2 DL Co

theorem cutL_mem {α : Type} {ds : List α} {i j : Option Int} {d : α} (h : d ∈ cutL ds i j) : d ∈ ds := by
  unfold cutL at h
  exact List.mem_of_mem_drop (List.mem_of_mem_take h)
end
section
set_option maxHeartbeats 1000000
/-! Things like statements. -/

open PySem L2 DL Co

theorem pl_strs {zs : List Str} {n : Nat} (h : ∀ z ∈ zs, plS z = true) (hl : zs.length ≤ 1000) : pl (n + 1) (.tup (zs.map .str)) = true := pl_tup.mpr ⟨by rw [List.length_map]; exact hl, fun d hd => by obtain ⟨z, hz, rfl⟩ := List.mem_map.mp hd; rw [pl_str]; exact h z hz⟩
theorem pl_strsL {zs : List Str} {n : Nat} (h : ∀ z ∈ zs, plS z = true) (hl : zs.length ≤ 1000) : pl (n + 1) (.lst (zs.map .str)) = true := pl_lst.mpr ⟨by rw [List.length_map]; exact hl, fun d hd => by obtain ⟨z, hz, rfl⟩ := List.mem_map.mp hd; rw [pl_str]; exact h z hz⟩
end
section
set_option maxHeartbeats 1000000
/-! Names, lots, statements: two judges, one answer. -/

open PySem L2 DL Co

def isName : D → Bool
  | .str x => decide (1 ≤ x.length) && decide (x.length ≤ 6) && x.cps.toList.all fun c => decide (c ∈ lts)
  | _ => false
/-- the signs of a text, each among the letters -/
theorem comp_signs {i : Nat} {ρ : Ev} {st : S} {x : Str} {te : Ev → S → R D} {Q : List D → S → Prop} (he : ∀ c, te (ρ.set i (.sh (.str ⟨#[c]⟩))) st = .ok (.bl (decide (c ∈ lts))) st) (q : Q ((x.cps.toList.map fun c => decide (c ∈ lts)).map .bl) st) : Ok (compD (.nm i) tTrue te ρ (x.cps.toList.map fun c => .str ⟨#[c]⟩) st) Q := by
  refine ok_eq (comp_map (fun d => match d with | .str y => .bl (inS y (T lts)) | _ => .non) fun d hd => ?_) ?_
  · obtain ⟨c, _, rfl⟩ := List.mem_map.mp hd
    refine ⟨_, rfl, ?_⟩
    exact he c
  · rw [List.map_map]
    rw [List.map_map] at q
    exact q
theorem all_map_id (l : List Nat) (p : Nat → Bool) : ((l.map p).all id) = l.all p := by
  rw [List.all_map]
  rfl
theorem plS_len {n : Nat} {x : Str} (h : pl n (.str x) = true) : x.length ≤ 1000 := by rw [pl_str] at h; exact (plS_ok h).1
theorem yes {p : Bool} {A B : Prop} (h : p = true) (a : A) : (p = true → A) ∧ (p = false → B) := ⟨fun _ => a, fun z => by rw [h] at z; cases z⟩
theorem no {p : Bool} {A B : Prop} (h : p = false) (b : B) : (p = true → A) ∧ (p = false → B) := ⟨fun z => (by rw [h] at z; cases z), fun _ => b⟩
theorem isI_str {d : D} (h : ¬ ∃ x, d = .str x) : isI d "str" = false ∧ isName d = false := by cases d <;> first | exact ⟨rfl, rfl⟩ | exact absurd ⟨_, rfl⟩ h
theorem is_name_eq {n : Nat} {d : D} (h : pl n d = true) (st : S) : sem_is_name [d] st = .ok (.bl (isName d)) st := by
  refine eq_of ?_
  refine ok_sem rfl ?_
  unfold den_is_name
  have ht := pl_ty_ok h
  by_cases hs : ∃ x, d = .str x
  · obtain ⟨x, rfl⟩ := hs
    have hl := plS_len h
    walk_at "s"
    refine no rfl ?_
    walk_at "s"
    refine lenS_ok (small (by omega)) ?_
    walk_at "s"
    refine ⟨fun hc => ?_, fun hc => ?_⟩
    · have hc := of_decide_eq_true hc
      walk_at "s"
      refine ⟨fun hd => ?_, fun hd => ?_⟩
      · have hd : ¬ ((x.length : Int) ≤ 6) := by simpa using hd
        walk_at "s"
        refine ⟨?_, rfl⟩
        unfold isName
        dsimp only
        rw [decide_eq_false (show ¬ x.length ≤ 6 by omega)]
        simp
      · have hd : ((x.length : Int) ≤ 6) := by simpa using hd
        walk_at "s"
        rw [lts_eq]
        refine ⟨small (by rw [List.length_map, ← len_list]; omega), ?_⟩
        refine comp_signs (fun c => eq_of ?_) ?_
        · walk_at "s"
          exact ⟨rfl, rfl⟩
        · walk_at "s"
          refine o_allB ⟨?_, rfl⟩
          rw [all_map_id]
          unfold isName
          dsimp only
          rw [decide_eq_true (show 1 ≤ x.length by omega), decide_eq_true (show x.length ≤ 6 by omega)]
          rfl
    · have hc := of_decide_eq_false hc
      refine ⟨_, rfl, yes rfl ?_⟩
      walk_at "s"
      refine ⟨?_, rfl⟩
      unfold isName
      dsimp only
      rw [decide_eq_false (show ¬ 1 ≤ x.length by omega)]
      rfl
  · obtain ⟨hn, hm⟩ := isI_str hs
    walk_at "s"
    refine yes (by rw [hn]; rfl) (yes rfl ?_)
    walk_at "s"
    rw [hm]
    exact ⟨rfl, rfl⟩
theorem len16 {n : Nat} (h : n ≤ 1000) : ([D.int 1, .int 2, .int 3, .int 4, .int 5, .int 6].any fun z => eqd z (.int n)) = (decide (1 ≤ n) && decide (n ≤ 6)) := by
  have e : ∀ i : Int, eqd (.int i) (.int n) = decide (i = n) := fun i => by
    unfold eqd
    simp only [py, PyData.eqv]
    rw [Bool.beq_eq_decide_eq]
  simp only [List.any_cons, List.any_nil, e, Bool.or_false]
  rw [← Bool.decide_and]
  simp only [← Bool.decide_or]
  refine decide_eq_decide.mpr ?_
  omega
theorem law_is_name_eq {n : Nat} {d : D} (h : pl n d = true) (st : S) : sem__law_is_name [d] st = .ok (.bl (isName d)) st := by
  refine eq_of ?_
  refine ok_sem rfl ?_
  unfold den__law_is_name
  have ht := pl_ty_ok h
  by_cases hs : ∃ x, d = .str x
  · obtain ⟨x, rfl⟩ := hs
    have hl := plS_len h
    walk_at "s"
    refine yes rfl ?_
    walk_at "s"
    refine lenS_ok (small (by omega)) ?_
    walk_at "s"
    refine ⟨small (by simp), ?_⟩
    refine o_inT (by rfl) ?_
    rw [len16 hl]
    walk_at "s"
    refine ⟨fun hc => ?_, fun hc => ?_⟩
    · walk_at "s"
      refine ⟨small (by rw [List.length_map, ← len_list]; omega), ?_⟩
      refine comp_signs (fun c => eq_of ?_) ?_
      · walk_at "s"
        refine k_letters ?_
        walk_at "s"
        exact ⟨rfl, rfl⟩
      · walk_at "s"
        refine o_allB ⟨?_, rfl⟩
        rw [all_map_id]
        unfold isName
        dsimp only
        rw [hc]
        rfl
    · refine ⟨?_, rfl⟩
      unfold isName
      dsimp only
      rw [hc]
      rfl
  · obtain ⟨hn, hm⟩ := isI_str hs
    walk_at "s"
    refine no hn ?_
    rw [hn, hm]
    exact ⟨rfl, rfl⟩
/-! ### lots -/
def ltDD : D → D → Bool
  | .str a, .str b => ltS a b
  | _, _ => false
def ltP : D → D
  | .pr a b => .bl (ltDD a b)
  | _ => .non
def asc (ds : List D) : Bool := (ds.zip (ds.drop 1)).all fun p => ltDD p.1 p.2
def isLot : D → Bool
  | .tup ds => !ds.isEmpty && ds.all isName && asc ds
  | _ => false
theorem isI_tup {d : D} (h : ¬ ∃ x, d = .tup x) : isI d "tuple" = false ∧ isLot d = false := by cases d <;> first | exact ⟨rfl, rfl⟩ | exact absurd ⟨_, rfl⟩ h
theorem isName_str {d : D} (h : isName d = true) : ∃ x, d = .str x := by
  cases d <;> first | exact ⟨_, rfl⟩ | cases h
theorem zip_mem {ds : List D} {p : D × D} (h : p ∈ ds.zip (ds.drop 1)) : p.1 ∈ ds ∧ p.2 ∈ ds := ⟨(List.of_mem_zip h).1, List.mem_of_mem_drop (List.of_mem_zip h).2⟩
theorem len_nil (ds : List D) : decide ((ds.length : Int) = 0) = ds.isEmpty := by
  cases ds with
  | nil => rfl
  | cons d ds => exact decide_eq_false (by rw [List.length_cons]; omega)
theorem is_lot_eq {n : Nat} {d : D} (h : pl n d = true) (st : S) : sem_is_lot [d] st = .ok (.bl (isLot d)) st := by
  refine eq_of ?_
  refine ok_sem rfl ?_
  unfold den_is_lot
  have ht := pl_ty_ok h
  by_cases hs : ∃ x, d = .tup x
  · obtain ⟨ds, rfl⟩ := hs
    cases n with
    | zero => cases h
    | succ n =>
    obtain ⟨hl, hp⟩ := pl_tup.mp h
    walk_at "s"
    refine no rfl ?_
    walk_at "s"
    rw [len_nil]
    refine ⟨fun hc => ?_, fun hc => ?_⟩
    · refine yes rfl ?_
      walk_at "s"
      refine ⟨?_, rfl⟩
      unfold isLot
      dsimp only
      rw [hc]
      rfl
    · walk_at "s"
      refine ⟨small (by omega), ?_⟩
      refine ok_eq (comp_map (fun d => .bl (isName d)) fun d hd => ⟨_, rfl, eq_of ?_⟩) ?_
      · walk_at "s"
        exact ⟨_, _, is_name_eq (hp d hd) _, rfl, rfl⟩
      · have e : (ds.map fun d => D.bl (isName d)) = (ds.map isName).map .bl := by rw [List.map_map]; rfl
        rw [e]
        walk_at "s"
        refine o_allB ?_
        walk_at "s"
        have e2 : (ds.map isName).all id = ds.all isName := by rw [List.all_map]; rfl
        rw [e2]
        refine ⟨fun hd => ?_, fun hd => ?_⟩
        · walk_at "s"
          refine ⟨?_, rfl⟩
          unfold isLot
          dsimp only
          rw [hc, (by simpa using hd : ds.all isName = false)]
          rfl
        · have hd : ds.all isName = true := by simpa using hd
          walk_at "s"
          rw [show ((1 : Int)) = ((1 : Nat) : Int) from rfl, cutL_lo]
          refine ⟨small (by rw [List.length_map, List.length_zip]; omega), ?_⟩
          refine ok_eq (comp_map ltP fun d hz => ?_) ?_
          · obtain ⟨⟨a, b⟩, hz2, rfl⟩ := List.mem_map.mp hz
            obtain ⟨ha, hb⟩ := zip_mem hz2
            obtain ⟨a, rfl⟩ := isName_str (List.all_eq_true.mp hd _ ha)
            obtain ⟨b, rfl⟩ := isName_str (List.all_eq_true.mp hd _ hb)
            refine ⟨_, rfl, eq_of ?_⟩
            walk_at "s"
            exact ⟨rfl, rfl⟩
          · have e3 : ((ds.zip (ds.drop 1)).map fun p => D.pr p.1 p.2).map ltP = ((ds.zip (ds.drop 1)).map fun p => ltDD p.1 p.2).map D.bl := by rw [List.map_map, List.map_map]; rfl
            rw [e3]
            walk_at "s"
            refine o_allB ⟨?_, rfl⟩
            unfold isLot asc
            dsimp only
            rw [hc, hd, List.all_map]
            rfl
  · obtain ⟨hn, hm⟩ := isI_tup hs
    walk_at "s"
    refine yes (by rw [hn]; rfl) (yes rfl ?_)
    walk_at "s"
    rw [hm]
    exact ⟨rfl, rfl⟩
def ltK (ds : List D) : D → D
  | .int k => .bl (ltDD (ds.getD k.toNat .non) (ds.getD (k.toNat + 1) .non))
  | _ => .non
theorem asc_range (ds : List D) : ((List.range (ds.length - 1)).map fun k => ltDD (ds.getD k .non) (ds.getD (k + 1) .non)).all id = asc ds := by
  unfold asc
  have e : ((List.range (ds.length - 1)).map fun k => ltDD (ds.getD k .non) (ds.getD (k + 1) .non)) = (ds.zip (ds.drop 1)).map fun p => ltDD p.1 p.2 := by
    refine List.ext_getElem ?_ fun i h1 h2 => ?_
    · rw [List.length_map, List.length_map, List.length_range, List.length_zip, List.length_drop]
      omega
    · rw [List.length_map, List.length_range] at h1
      rw [List.getElem_map, List.getElem_map, List.getElem_range, List.getElem_zip]
      dsimp only
      rw [List.getElem_drop, List.getD_eq_getElem?_getD, List.getD_eq_getElem?_getD, List.getElem?_eq_getElem (by omega), List.getElem?_eq_getElem (by omega)]
      simp only [Option.getD_some, Nat.add_comm]
  rw [e, List.all_map]
  rfl
theorem rising_eq {ds : List D} (hd : ds.all isName = true) (h1 : 0 < ds.length) (hl : ds.length ≤ 1000) (st : S) : sem__law_rising [.tup ds] st = .ok (.bl (asc ds)) st := by
  refine eq_of ?_
  refine ok_sem rfl ?_
  unfold den__law_rising
  walk_at "s"
  refine range1_ok (by omega) (by omega) ?_
  have e0 : ((ds.length : Int) - 1).toNat = ds.length - 1 := by omega
  rw [e0]
  refine ⟨small (by rw [List.length_map, List.length_range]; omega), ?_⟩
  refine ok_eq (comp_map (ltK ds) fun d hm => ?_) ?_
  · obtain ⟨k, hk, rfl⟩ := List.mem_map.mp hm
    rw [List.mem_range] at hk
    have g1 : ds[k]? = some ds[k] := List.getElem?_eq_getElem (by omega)
    have g2 : ds[k + 1]? = some ds[k + 1] := List.getElem?_eq_getElem (by omega)
    obtain ⟨a, ea⟩ := isName_str (List.all_eq_true.mp hd _ (List.getElem_mem (show k < ds.length by omega)))
    obtain ⟨b, eb⟩ := isName_str (List.all_eq_true.mp hd _ (List.getElem_mem (show k + 1 < ds.length by omega)))
    rw [ea] at g1
    rw [eb] at g2
    refine ⟨_, rfl, eq_of ?_⟩
    walk_at "s"
    refine ixT_ok (atI_nat g1) ?_
    walk_at "s"
    refine ixT_ok (atI_int (by omega) (by rw [show ((k : Int) + 1).toNat = k + 1 by omega]; exact g2)) ?_
    walk_at "s"
    refine ⟨?_, rfl⟩
    unfold ltK
    dsimp only
    rw [Int.toNat_natCast, List.getD_eq_getElem?_getD, List.getD_eq_getElem?_getD, g1, g2]
    rfl
  · have e3 : ((List.range (ds.length - 1)).map fun (i : Nat) => D.int i).map (ltK ds) = ((List.range (ds.length - 1)).map fun k => ltDD (ds.getD k .non) (ds.getD (k + 1) .non)).map D.bl := by rw [List.map_map, List.map_map]; rfl
    rw [e3]
    walk_at "s"
    refine o_allB ⟨?_, rfl⟩
    rw [asc_range]
theorem law_is_lot_eq {n : Nat} {d : D} (h : pl n d = true) (st : S) : sem__law_is_lot [d] st = .ok (.bl (isLot d)) st := by
  refine eq_of ?_
  refine ok_sem rfl ?_
  unfold den__law_is_lot
  have ht := pl_ty_ok h
  by_cases hs : ∃ x, d = .tup x
  · obtain ⟨ds, rfl⟩ := hs
    cases n with
    | zero => cases h
    | succ n =>
    obtain ⟨hl, hp⟩ := pl_tup.mp h
    walk_at "s"
    refine no rfl ?_
    walk_at "s"
    rw [len_nil]
    refine ⟨fun hc => ?_, fun hc => ?_⟩
    · refine yes rfl ?_
      walk_at "s"
      refine ⟨?_, rfl⟩
      unfold isLot
      dsimp only
      rw [hc]
      rfl
    · walk_at "s"
      refine ⟨small (by omega), ?_⟩
      refine ok_eq (comp_map (fun d => .bl (isName d)) fun d hd => ⟨_, rfl, eq_of ?_⟩) ?_
      · walk_at "s"
        exact ⟨_, _, law_is_name_eq (hp d hd) _, rfl, rfl⟩
      · have e : (ds.map fun d => D.bl (isName d)) = (ds.map isName).map .bl := by rw [List.map_map]; rfl
        rw [e]
        walk_at "s"
        refine o_allB ?_
        walk_at "s"
        have e2 : (ds.map isName).all id = ds.all isName := by rw [List.all_map]; rfl
        rw [e2]
        refine ⟨fun hd => ?_, fun hd => ?_⟩
        · walk_at "s"
          refine ⟨?_, rfl⟩
          unfold isLot
          dsimp only
          rw [hc, (by simpa using hd : ds.all isName = false)]
          rfl
        · have hd : ds.all isName = true := by simpa using hd
          walk_at "s"
          refine ⟨_, _, rising_eq hd (by cases ds with | nil => cases hc | cons _ _ => rw [List.length_cons]; omega) hl st, ?_, rfl⟩
          unfold isLot
          dsimp only
          rw [hc, hd]
          rfl
  · obtain ⟨hn, hm⟩ := isI_tup hs
    walk_at "s"
    refine yes (by rw [hn]; rfl) (yes rfl ?_)
    walk_at "s"
    rw [hm]
    exact ⟨rfl, rfl⟩
end
section
set_option maxHeartbeats 1000000
/-! Statements judged: k14. -/

open PySem L2 DL Co

def said1 (x : Str) (ds : List D) : Bool :=
  if x = Str.ofString "lot" then (match ds with | [d] => isLot d | _ => false)
  else if x = Str.ofString "before" then (match ds with | [a, b] => isName a && isName b | _ => false)
  else decide (x = Str.ofString "never") && ds.isEmpty
def said : D → Bool
  | .tup (.str x :: ds) => said1 x ds
  | _ => false
end
section
set_option maxHeartbeats 1000000
/-! k01: strings, numbers. -/

open PySem L2 DL Co

/-! ### numbers -/
def num (lo hi : Int) : D → Bool
  | .int i => decide (lo ≤ i) && decide (i ≤ hi)
  | _ => false
def whole : D → Bool
  | .int _ => true
  | _ => false
end
section
set_option maxHeartbeats 1000000
/-! k01: things like lots. -/

open PySem L2 DL Co

/-! ### lots of a pool -/
def inX (xs : List Str) : D → Bool
  | .str x => decide (x ∈ xs)
  | _ => false
def lotOf (xs : List Str) (d : D) : Bool := isLot d && (match d with | .tup ds => ds.all (inX xs) | _ => true)
theorem lotOf_no {xs : List Str} {d : D} (h : isLot d = false) : lotOf xs d = false := by unfold lotOf; rw [h]; rfl
theorem isLot_tup {d : D} (h : isLot d = true) : ∃ ds, d = .tup ds ∧ ds.all isName = true := by
  cases d <;> try (cases h; done)
  rename_i ds
  unfold isLot at h
  simp only [Bool.and_eq_true] at h
  exact ⟨ds, rfl, h.1.2⟩
theorem in_comp {ds : List D} {xs : List Str} {ρ : Ev} {st : S} {A : D} {Q : D → S → Prop} (hd : ds.all isName = true) (e0 : ρ[0]? = some (.sh A)) (h2 : 2 < ρ.length) (hA : A = .lst (xs.map .str) ∨ A = .tup (xs.map .str)) (hl : ds.length ≤ 1000) (e1 : ρ[1]? = some (.sh (.tup ds))) (q : Q (.bl (ds.all (inX xs))) st) : Ok (dCall (one allD) (dCons (dLc (.nm 2) [2] (dItems (dVar 1)) (tTrue) (dBin inD (dVar 2) (dVar 0))) (dNil)) ρ st) Q := by
  have hw : wipeE ρ [2] = ρ.set 2 .no := rfl
  refine k_call (k_cons (k_lc (k_items (k_var e1 (o_itemsT ⟨small (by omega), ?_⟩)))))
  rw [hw]
  refine ok_eq (comp_map (fun d => .bl (inX xs d)) fun d hm => ⟨_, rfl, eq_of ?_⟩) ?_
  · obtain ⟨x, rfl⟩ := isName_str (List.all_eq_true.mp hd d hm)
    have x0 : ((ρ.set 2 Sl.no).set 2 (Sl.sh (D.str x)))[0]? = some (.sh A) := by rw [List.getElem?_set_ne (by decide), List.getElem?_set_ne (by decide)]; exact e0
    have x2 : ((ρ.set 2 Sl.no).set 2 (Sl.sh (D.str x)))[2]? = some (.sh (.str x)) := by rw [List.getElem?_set_self (by rw [List.length_set]; exact h2)]
    refine k_bin (k_var x2 (k_var x0 ?_))
    rcases hA with rfl | rfl
    · refine o_inL (by rw [flat_strs]; rfl) (fun i z => by cases z) ⟨?_, rfl⟩
      rw [any_str]; rfl
    · refine o_inT (by rw [flat_strs]; rfl) ⟨?_, rfl⟩
      rw [any_str]; rfl
  · refine k_nil (k_one ?_)
    have e : (ds.map fun d => D.bl (inX xs d)) = (ds.map (inX xs)).map .bl := by rw [List.map_map]; rfl
    rw [e]
    refine o_allB ?_
    rw [List.all_map]
    exact q
theorem lot_of_eq {n : Nat} {d A : D} {xs : List Str} (h : pl n d = true) (hA : A = .lst (xs.map .str) ∨ A = .tup (xs.map .str)) (st : S) : sem_is_lot_of [A, d] st = .ok (.bl (lotOf xs d)) st := by
  refine eq_of ?_
  refine ok_sem rfl ?_
  unfold den_is_lot_of
  walk_at "s"
  refine ok_eq (is_lot_eq h _) ?_
  walk_at "s"
  refine ⟨fun hc => ?_, fun hc => ?_⟩
  · obtain ⟨ds, rfl, hd⟩ := isLot_tup hc
    have hl : ds.length ≤ 1000 := by
      cases n with
      | zero => cases h
      | succ n => exact (pl_tup.mp h).1
    refine in_comp (A := A) hd rfl (Nat.lt_succ_self 2) hA hl rfl ⟨?_, rfl⟩
    unfold lotOf
    rw [hc]
    rfl
  · rw [hc, lotOf_no hc]
    exact ⟨rfl, rfl⟩
theorem law_lot_of_eq {n : Nat} {d A : D} {xs : List Str} (h : pl n d = true) (hA : A = .lst (xs.map .str) ∨ A = .tup (xs.map .str)) (st : S) : sem__law_is_lot_of [A, d] st = .ok (.bl (lotOf xs d)) st := by
  refine eq_of ?_
  refine ok_sem rfl ?_
  unfold den__law_is_lot_of
  walk_at "s"
  refine ok_eq (law_is_lot_eq h _) ?_
  walk_at "s"
  refine ⟨fun hc => ?_, fun hc => ?_⟩
  · obtain ⟨ds, rfl, hd⟩ := isLot_tup hc
    have hl : ds.length ≤ 1000 := by
      cases n with
      | zero => cases h
      | succ n => exact (pl_tup.mp h).1
    refine in_comp (A := A) hd rfl (Nat.lt_succ_self 2) hA hl rfl ⟨?_, rfl⟩
    unfold lotOf
    rw [hc]
    rfl
  · rw [hc, lotOf_no hc]
    exact ⟨rfl, rfl⟩
end
section
set_option maxHeartbeats 1000000
/-! k01: wide lots, the law. -/

open PySem L2 DL Co

theorem ltS_irrefl (a : Str) : ltS a a = false := decide_eq_false (List.lt_irrefl _)
theorem ltS_trans {a b c : Str} (h1 : ltS a b = true) (h2 : ltS b c = true) : ltS a c = true := decide_eq_true (List.lt_trans (of_decide_eq_true h1) (of_decide_eq_true h2))
theorem asc_cons (x y : D) (r : List D) : asc (x :: y :: r) = (ltDD x y && asc (y :: r)) := rfl
theorem asc_pw : ∀ {xs : List Str}, asc (xs.map .str) = true ↔ xs.Pairwise fun a b => ltS a b = true
  | [] => ⟨fun _ => .nil, fun _ => rfl⟩
  | [x] => ⟨fun _ => List.pairwise_singleton _ _, fun _ => rfl⟩
  | x :: y :: r => by
    have ih := asc_pw (xs := y :: r)
    rw [List.map_cons, List.map_cons, asc_cons, Bool.and_eq_true]
    have ih' : asc (.str y :: r.map .str) = true ↔ (y :: r).Pairwise fun a b => ltS a b = true := ih
    rw [ih']
    constructor
    · rintro ⟨h1, h2⟩
      have h1 : ltS x y = true := h1
      refine List.pairwise_cons.mpr ⟨fun z hz => ?_, h2⟩
      rcases List.mem_cons.mp hz with rfl | hz
      · exact h1
      · exact ltS_trans h1 (List.rel_of_pairwise_cons h2 hz)
    · intro h
      exact ⟨List.rel_of_pairwise_cons h List.mem_cons_self, (List.pairwise_cons.mp h).2⟩
theorem sortS_pw {xs : List Str} (hn : xs.Nodup) : (sortS xs).Pairwise fun a b => ltS a b = true := by
  have h2 : (sortS xs).Pairwise fun a b => (!ltS b a) = true := List.pairwise_mergeSort (le := fun a b => !ltS b a) (fun a b c h1 h2 => leS_trans (a := a) (b := b) (c := c) h1 h2) (fun a b => ltS_total a b) xs
  have h3 : (sortS xs).Pairwise fun a b => a ≠ b := (sortS_perm xs).nodup_iff.mpr hn
  refine (h2.and h3).imp fun {a b} h => ?_
  obtain ⟨h4, h5⟩ := h
  rw [Bool.not_eq_true'] at h4
  cases h : ltS a b with
  | true => rfl
  | false => exact absurd (ltS_antisymm h4 h) h5
theorem Nm.isName {x : Str} (h : Nm x) : isName (.str x) = true := by
  unfold DM.isName
  dsimp only
  rw [decide_eq_true h.2.1, decide_eq_true h.2.2]
  simp only [Bool.and_self, Bool.true_and]
  rw [List.all_eq_true]
  intro c hc
  have hl := h.1 c hc
  have : ∀ c, c < 123 → 97 ≤ c → c ∈ lts := by decide
  exact decide_eq_true (this c (by omega) hl.1)
theorem isLot_strs {zs : List Str} (h0 : zs ≠ []) (hn : ∀ z ∈ zs, Nm z) : isLot (.tup (zs.map .str)) = asc (zs.map .str) := by
  unfold isLot
  dsimp only
  have e1 : (zs.map D.str).isEmpty = false := by cases zs with
    | nil => exact absurd rfl h0
    | cons _ _ => rfl
  have e2 : (zs.map D.str).all isName = true := by
    rw [List.all_eq_true]
    intro d hd
    obtain ⟨z, hz, rfl⟩ := List.mem_map.mp hd
    exact (hn z hz).isName
  rw [e1, e2]
  rfl
end
section
set_option maxHeartbeats 1000000
/-! k02: two lots. -/

open PySem L2 DL Co

/-- names as a tuple -/
def tupS (xs : List Str) : D := .tup (xs.map .str)
def bothS (p q : List Str) : List Str := p.filter fun x => decide (x ∈ q)
def lessS (p q : List Str) : List Str := p.filter fun x => !decide (x ∈ q)
def unionS (p q : List Str) : List Str := sortS (p ++ lessS q p)
section
variable {p q : List Str} {st : S} {Q : D → S → Prop}
theorem sortS_congr {xs ys : List Str} (h : xs.Perm ys) : sortS xs = sortS ys := by
  have h1 : (sortS xs).Pairwise fun a b => (!ltS b a) = true := List.pairwise_mergeSort (le := fun a b => !ltS b a) (fun a b c h1 h2 => leS_trans (a := a) (b := b) (c := c) h1 h2) (fun a b => ltS_total a b) xs
  have h2 : (sortS ys).Pairwise fun a b => (!ltS b a) = true := List.pairwise_mergeSort (le := fun a b => !ltS b a) (fun a b c h1 h2 => leS_trans (a := a) (b := b) (c := c) h1 h2) (fun a b => ltS_total a b) ys
  refine List.Perm.eq_of_pairwise (fun a b _ _ h3 h4 => ?_) h1 h2 (((sortS_perm xs).trans h).trans (sortS_perm ys).symm)
  rw [Bool.not_eq_true'] at h3 h4
  exact ltS_antisymm h3 h4
theorem both_len (hp : p.Nodup) (hq : q.Nodup) : (bothS p q).length = (bothS q p).length := by
  refine ((List.perm_ext_iff_of_nodup (hp.filter _) (hq.filter _)).mpr fun x => ?_).length_eq
  rw [List.mem_filter, List.mem_filter]
  simp only [decide_eq_true_eq]
  exact And.comm
end
end
section
set_option maxHeartbeats 1000000
/-! k02: what is told of two lots. -/

open PySem L2 DL Co

section
variable {p q : List Str} {st : S} {Q : D → S → Prop}
def crossB (p q : List Str) : Bool := !(bothS p q).isEmpty && (!(lessS p q).isEmpty && !(lessS q p).isEmpty)
theorem emp_len {α : Type} (l : List α) : l.isEmpty = decide (l.length = 0) := by cases l <;> simp
theorem pl_tupS {xs : List Str} (hx : ∀ x ∈ xs, Nm x) (hl : xs.length ≤ 1000) : pl 1 (tupS xs) = true := pl_tup.mpr ⟨by rw [List.length_map]; exact hl, fun d hd => by obtain ⟨x, h, rfl⟩ := List.mem_map.mp hd; rw [pl_str]; exact (hx x h).plS⟩
theorem Nm.less (hx : ∀ x ∈ p, Nm x) : ∀ x ∈ lessS p q, Nm x := fun x h => hx x (List.mem_filter.mp h).1
/-- a lot: names, ascending -/
structure Lot (p : List Str) : Prop where
  ne : p ≠ []
  nm : ∀ x ∈ p, Nm x
  pw : p.Pairwise fun a b => ltS a b = true
theorem Lot.nd (h : Lot p) : p.Nodup := h.pw.imp fun {a b} hab e => by
  rw [e, ltS_irrefl] at hab
  cases hab
theorem Nm.union (hx : ∀ x ∈ p, Nm x) (hy : ∀ x ∈ q, Nm x) : ∀ x ∈ unionS p q, Nm x := fun x h => by
  rcases List.mem_append.mp ((sortS_perm _).mem_iff.mp h) with h | h
  · exact hx x h
  · exact Nm.less hy x h
end
end
section
set_option maxHeartbeats 1000000
/-! k02: lot_of and what it raises. -/

open PySem L2 DL Co

/-! ### the first wrong item -/
/-- all are names -/
theorem names_of {ds : List D} (h : ds.all isName = true) : ∃ xs : List Str, ds = xs.map .str ∧ ∀ x ∈ xs, isName (.str x) = true := by
  induction ds with
  | nil => exact ⟨[], rfl, fun _ z => by cases z⟩
  | cons d r ih =>
    rw [List.all_cons, Bool.and_eq_true] at h
    obtain ⟨x, rfl⟩ := isName_str h.1
    obtain ⟨xs, rfl, hx⟩ := ih h.2
    refine ⟨x :: xs, rfl, fun y hy => ?_⟩
    rcases List.mem_cons.mp hy with rfl | hy
    · exact h.1
    · exact hx y hy
theorem Nm_of {x : Str} (h : isName (.str x) = true) : Nm x := by
  unfold isName at h
  dsimp only at h
  simp only [Bool.and_eq_true, decide_eq_true_eq] at h
  obtain ⟨⟨h1, h2⟩, h3⟩ := h
  refine ⟨fun c hc => ?_, h1, h2⟩
  have := List.all_eq_true.mp h3 c hc
  have hm := of_decide_eq_true this
  have : ∀ c ∈ lts, 97 ≤ c ∧ c ≤ 122 := by decide
  exact this c hm
end
section
set_option maxHeartbeats 1000000
/-! k02: what is due of lot_of; drawing. -/

open PySem L2 DL Co

/-! ### first occurrences -/
theorem ed_len (xs : List Str) : xs.eraseDups.length ≤ xs.length := nodup_le (nodup_ed _ xs (Nat.le_refl _)) fun x h => List.mem_eraseDups.mp h
/-! ### what is due -/
end
section
set_option maxHeartbeats 1000000
/-! k02: the law. -/

open PySem L2 DL Co

/-! ### drawing -/
/-- a drawn lot -/
theorem lot_sub {xs ys : List Str} (hx : ∀ x ∈ xs, Nm x) (hn : xs.Nodup) (h0 : ys ≠ []) (hs : ∀ y ∈ ys, y ∈ xs) (hc : ys.Sublist xs ∨ ys.length = 1) : Lot (sortS ys) ∧ ∀ y ∈ sortS ys, y ∈ xs := by
  have nd : ys.Nodup := by
    rcases hc with hc | hc
    · exact hc.nodup hn
    · match ys, hc with
      | [y], _ => simp
  refine ⟨⟨fun z => h0 ?_, fun x h => hx x (hs x ((sortS_perm ys).mem_iff.mp h)), sortS_pw nd⟩, fun y h => hs y ((sortS_perm ys).mem_iff.mp h)⟩
  have := (sortS_perm ys).length_eq
  rw [z] at this
  exact List.length_eq_zero_iff.mp this.symm
theorem Lot.len {p xs : List Str} (h : Lot p) (hs : ∀ x ∈ p, x ∈ xs) : p.length ≤ xs.length := nodup_le h.nd hs
theorem Lot.pos {p : List Str} (h : Lot p) : 0 < p.length := List.length_pos_iff.mpr h.ne
theorem set_same {xs ys : List Str} (h : ∀ x, x ∈ xs ↔ x ∈ ys) : setS xs = setS ys := sortS_congr ((List.perm_ext_iff_of_nodup (nodup_ed _ xs (Nat.le_refl _)) (nodup_ed _ ys (Nat.le_refl _))).mpr fun x => by rw [List.mem_eraseDups, List.mem_eraseDups]; exact h x)
end
section
set_option maxHeartbeats 1000000
/-! The laws' own sameness, where what is told lies in the store. -/

open PySem L2 DL Co

/-- what is told, seen through the store -/
def See (st : S) (e d : D) : Prop := (e = d ∧ pl 9 d = true) ∨ ∃ i ds, e = .ref i ∧ d = .lst ds ∧ st[i]? = some (.lst ds) ∧ pl 9 (.lst ds) = true
end
section
set_option maxHeartbeats 1000000
/-! Stretches of an order. -/

open PySem L2 DL Co

theorem k_lcRef {t : Tg} {vs : List Nat} {fi : Ev → S → R (List D)} {tt : Ev → S → R Bool} {te : Ev → S → R D} {ρ : Ev} {st : S} {Q : D → S → Prop} (h : Ok (fi ρ st) fun ds s => ds.length ≤ sizeLine ∧ Ok (compD t tt te (wipeE ρ vs) ds s) fun ys s => Q (.ref s.length) (s ++ [.lst ys])) : Ok (dLcRef t vs fi tt te ρ st) Q := by
  obtain ⟨ds, s, e, hl, ys, s', e2, q⟩ := h
  unfold dLcRef dLcG
  rw [e, R.bind_ok, if_pos hl, e2, R.bind_ok]
  exact ⟨_, _, rfl, q⟩
/-- the stretch of an order -/
def strS (xs : List Str) (i j : Nat) : List Str := cutL xs (some (i : Int)) (some ((xs.length : Int) - j))
end
section
set_option maxHeartbeats 1000000
/-! k03: gaps of a lot in an order, by the first and the last of its finds. -/

open PySem L2 DL Co

/-- a list cut at the first and the last of some of its items -/
structure Cut {α : Type} (p : α → Bool) (a m b : List α) : Prop where
  na : ∀ x ∈ a, p x = false
  nb : ∀ x ∈ b, p x = false
  hd : ∃ y r, m = y :: r ∧ p y = true
  lt : ∃ r z, m = r ++ [z] ∧ p z = true
section
variable {α : Type} {p : α → Bool}
theorem Cut.rev {a m b : List α} (h : Cut p a m b) : Cut p b.reverse m.reverse a.reverse := by
  obtain ⟨y, r, e1, e2⟩ := h.hd
  obtain ⟨s, z, f1, f2⟩ := h.lt
  refine ⟨fun x hx => h.nb x (List.mem_reverse.mp hx), fun x hx => h.na x (List.mem_reverse.mp hx), ⟨z, s.reverse, by rw [f1]; simp, f2⟩, ⟨r.reverse, y, by rw [e1]; simp, e2⟩⟩
theorem Cut.first {a m b : List α} (h : Cut p a m b) : ((a ++ m ++ b).map p).findIdx? id = some a.length := by
  obtain ⟨y, r, e1, e2⟩ := h.hd
  have hna := h.na
  rw [e1]
  clear h
  induction a with
  | nil => simp [List.findIdx?_cons, e2]
  | cons x a ih =>
    have := ih (fun w hw => hna w (List.mem_cons_of_mem _ hw))
    rw [List.cons_append, List.cons_append, List.map_cons, List.findIdx?_cons, hna x List.mem_cons_self, this]
    rfl
theorem Cut.last {a m b : List α} (h : Cut p a m b) : ((a ++ m ++ b).map p).reverse.findIdx? id = some b.length := by
  have := h.rev.first
  rw [List.length_reverse] at this
  rw [← this, ← List.map_reverse]
  congr 2
  simp
theorem filt_none {a : List α} (h : ∀ x ∈ a, p x = false) : a.filter p = [] := by
  rw [List.filter_eq_nil_iff]
  intro x hx
  rw [h x hx]
  decide
theorem Cut.inn {a m b : List α} (h : Cut p a m b) : (a ++ m ++ b).filter p = m.filter p := by
  rw [List.filter_append, List.filter_append, filt_none h.na, filt_none h.nb, List.nil_append, List.append_nil]
theorem Cut.out {a m b r : List α} {z : α} (e : m = r ++ [z]) (hz : p z = true) : m.filter (fun x => !p x) = r.filter fun x => !p x := by
  rw [e, List.filter_append]
  simp [hz]
theorem filt_len (m : List α) : (m.filter p).length + (m.filter fun x => !p x).length = m.length := by
  induction m with
  | nil => rfl
  | cons x m ih =>
    rw [List.filter_cons, List.filter_cons]
    cases p x <;> simp <;> omega
end
theorem small_and {n : Nat} {P : Prop} (h : n ≤ 1000000) (p : P) : n ≤ sizeLine ∧ P := ⟨small h, p⟩
theorem len3 {α β : Type} {ds : List α} {es : List β} {n m : Nat} {P : Prop} (h1 : ds.length = n) (h2 : es.length = m) (p : P) : ds.length = n ∧ es.length = m ∧ P := ⟨h1, h2, p⟩
theorem cT {A B : Prop} (h : A) : (true = true → A) ∧ (true = false → B) := ⟨fun _ => h, fun z => by cases z⟩
theorem cF {A B : Prop} (h : B) : (false = true → A) ∧ (false = false → B) := ⟨fun z => (by cases z), fun _ => h⟩
theorem cNT {A B : Prop} (h : B) : ((!true) = true → A) ∧ ((!true) = false → B) := ⟨fun z => (by cases z), fun _ => h⟩
theorem cNF {A B : Prop} (h : A) : ((!false) = true → A) ∧ ((!false) = false → B) := ⟨fun _ => h, fun z => by cases z⟩
theorem len2 {α β : Type} {ds : List α} {es : List β} {P : Prop} (h1 : ds.length = es.length) (p : P) : ds.length = es.length ∧ P := ⟨h1, p⟩
def inP (ls : List Str) : Str → Bool := fun x => decide (x ∈ ls)
theorem cut_mid {α : Type} (a m b : List α) : cutL (a ++ m ++ b) (some (a.length : Int)) (some (((a ++ m ++ b).length : Int) - b.length)) = m := by
  have e : (((a ++ m ++ b).length : Int) - b.length) = ((a.length + m.length : Nat) : Int) := by simp only [List.length_append]; omega
  rw [e]
  unfold cutL
  rw [HT.sIx_nat, HT.sIx_nat, Nat.min_eq_left (by simp only [List.length_append]; omega), Nat.min_eq_left (by simp only [List.length_append]; omega), List.append_assoc, List.drop_left, Nat.add_sub_cancel_left, List.take_left]

/-- an order cut by a lot -/
structure OC (xs ls a m b : List Str) : Prop where
  e : xs = a ++ m ++ b
  c : Cut (inP ls) a m b
theorem OC.fst {xs ls a m b : List Str} (h : OC xs ls a m b) : (xs.map fun x => decide (x ∈ ls)).findIdx? id = some a.length := by rw [h.e]; exact h.c.first
theorem OC.lst {xs ls a m b : List Str} (h : OC xs ls a m b) : (xs.map fun x => decide (x ∈ ls)).reverse.findIdx? id = some b.length := by rw [h.e]; exact h.c.last
theorem OC.str {xs ls a m b : List Str} (h : OC xs ls a m b) : strS xs a.length b.length = m := by rw [h.e]; exact cut_mid a m b
theorem OC.rev {xs ls a m b : List Str} (h : OC xs ls a m b) : OC xs.reverse ls b.reverse m.reverse a.reverse := ⟨by rw [h.e]; simp, h.c.rev⟩
/-- the gaps -/
def gapS (ls m : List Str) : List Str := m.filter fun x => !decide (x ∈ ls)
theorem OC.len {xs ls a m b : List Str} (h : OC xs ls a m b) (nx : xs.Nodup) (nl : ls.Nodup) (hs : ∀ x ∈ ls, x ∈ xs) : m.length = ls.length + (gapS ls m).length := by
  have h1 := filt_len (p := inP ls) m
  have h2 : (m.filter (inP ls)).length = ls.length := by
    rw [← h.c.inn, ← h.e]
    have := both_len (p := xs) (q := ls) nx nl
    unfold bothS at this
    unfold inP
    rw [this, List.filter_eq_self.mpr]
    intro x hx
    exact decide_eq_true (hs x hx)
  have h3 : (gapS ls m).length = (m.filter fun x => !inP ls x).length := rfl
  omega
theorem OC.keep {xs ls a m b : List Str} (h : OC xs ls a m b) (nx : xs.Nodup) (nl : ls.Nodup) (hs : ∀ x ∈ ls, x ∈ xs) : decide (((strS xs a.length b.length).length : Int) = ls.length) = (gapS ls m).isEmpty := by
  rw [h.str, h.len nx nl hs, emp_len]
  congr 1
  apply propext
  constructor <;> intro h <;> omega
section
variable {xs ls a m b : List Str} {st : S} {Q : D → S → Prop}
end
/-! ### the law's own gaps -/
def spP (xs ls : List Str) (k : Nat) : Bool := decide (xs.getD k (T []) ∈ ls)
def spots (xs ls : List Str) : List Int := ((List.range xs.length).filter (spP xs ls)).map fun (k : Nat) => (k : Int)
theorem getD_mid {a m b : List Str} {i : Nat} (h : i < m.length) : (a ++ m ++ b).getD (a.length + i) (T []) = m.getD i (T []) := by
  rw [List.getD_eq_getElem?_getD, List.getD_eq_getElem?_getD, List.append_assoc, List.getElem?_append_right (by omega), Nat.add_sub_cancel_left, List.getElem?_append_left h]
theorem mem_spots {xs ls : List Str} {j : Int} : j ∈ spots xs ls ↔ ∃ k : Nat, k < xs.length ∧ xs.getD k (T []) ∈ ls ∧ j = k := by
  unfold spots spP
  rw [List.mem_map]
  constructor
  · rintro ⟨k, hk, rfl⟩
    rw [List.mem_filter, List.mem_range, decide_eq_true_eq] at hk
    exact ⟨k, hk.1, hk.2, rfl⟩
  · rintro ⟨k, h1, h2, rfl⟩
    exact ⟨k, by rw [List.mem_filter, List.mem_range, decide_eq_true_eq]; exact ⟨h1, h2⟩, rfl⟩
theorem getD_lo {a c : List Str} {i : Nat} (h : i < a.length) : (a ++ c).getD i (T []) ∈ a := by
  rw [List.getD_eq_getElem?_getD, List.getElem?_append_left h, List.getElem?_eq_getElem h]
  exact List.getElem_mem h
theorem getD_hi {a c : List Str} {i : Nat} (h : a.length ≤ i) (h2 : i < (a ++ c).length) : (a ++ c).getD i (T []) ∈ c := by
  rw [List.length_append] at h2
  rw [List.getD_eq_getElem?_getD, List.getElem?_append_right h, List.getElem?_eq_getElem (by omega)]
  exact List.getElem_mem _
theorem OC.min {xs ls a m b : List Str} (h : OC xs ls a m b) : (spots xs ls).min? = some (a.length : Int) := by
  rw [List.min?_eq_some_iff]
  obtain ⟨y, r, e1, e2⟩ := h.c.hd
  have hm : 0 < m.length := by rw [e1]; simp
  refine ⟨mem_spots.mpr ⟨a.length, ?_, ?_, rfl⟩, fun j hj => ?_⟩
  · rw [h.e]; simp only [List.length_append]; omega
  · have := getD_mid (a := a) (b := b) hm
    rw [Nat.add_zero, ← h.e] at this
    rw [this, e1]
    exact of_decide_eq_true e2
  · obtain ⟨k, h1, h2, rfl⟩ := mem_spots.mp hj
    by_cases hk : k < a.length
    · have h3 : xs.getD k (T []) ∈ a := by rw [h.e, List.append_assoc]; exact getD_lo hk
      have := h.c.na _ h3
      unfold inP at this
      rw [decide_eq_false_iff_not] at this
      exact absurd h2 this
    · omega
theorem OC.max {xs ls a m b : List Str} (h : OC xs ls a m b) : (spots xs ls).max? = some ((a.length + (m.length - 1) : Nat) : Int) := by
  rw [List.max?_eq_some_iff]
  obtain ⟨r, z, e1, e2⟩ := h.c.lt
  have hm : m.length = r.length + 1 := by rw [e1]; simp
  refine ⟨mem_spots.mpr ⟨a.length + (m.length - 1), ?_, ?_, rfl⟩, fun j hj => ?_⟩
  · rw [h.e]; simp only [List.length_append]; omega
  · rw [h.e, getD_mid (by omega), hm, Nat.add_sub_cancel, e1, List.getD_eq_getElem?_getD, List.getElem?_append_right (Nat.le_refl _), Nat.sub_self]
    exact of_decide_eq_true e2
  · obtain ⟨k, h1, h2, rfl⟩ := mem_spots.mp hj
    by_cases hk : a.length + m.length ≤ k
    · have h3 : xs.getD k (T []) ∈ b := by rw [h.e]; exact getD_hi (by rw [List.length_append]; exact hk) (by rw [← h.e]; exact h1)
      have := h.c.nb _ h3
      unfold inP at this
      rw [decide_eq_false_iff_not] at this
      exact absurd h2 this
    · omega
end
section
set_option maxHeartbeats 1000000
/-! k03: all about a lot in an order is told as it is. -/

open PySem L2 DL Co
end
open PySem L2 DL Co
local macro_rules | `(tactic| walk_at "t") => `(tactic| repeat walk_at "t_1")
local macro_rules | `(tactic| walk_at "t_1") => `(tactic| with_reducible refine ⟨_, rfl, ?_⟩)
local macro_rules | `(tactic| walk_at "t_1") => `(tactic| with_reducible refine cNF ?_)
local macro_rules | `(tactic| walk_at "t_1") => `(tactic| with_reducible refine cF ?_)
local macro_rules | `(tactic| walk_at "t_1") => `(tactic| with_reducible refine cT ?_)
local macro_rules | `(tactic| walk_at "t_1") => `(tactic| with_reducible refine cNT ?_)
local macro_rules | `(tactic| walk_at "t_1") => `(tactic| ((with_reducible refine' len2 ?l1 ?_); (case l1 => rfl)))
local macro_rules | `(tactic| walk_at "t_1") => `(tactic| ((with_reducible refine' len3 ?l1 ?l2 ?_); (case l1 => rfl); (case l2 => rfl)))
local macro_rules | `(tactic| walk_at "t_1") => `(tactic| ((with_reducible refine' small_and ?l1 ?_); (case l1 => first | (simp; done) | (simp only [List.length_map]; omega))))
local macro_rules | `(tactic| walk_at "t_1") => `(tactic| with_reducible refine k_lcRef ?_)
local macro_rules | `(tactic| walk_at "t_1") => `(tactic| with_reducible refine o_max2 ?_)
local macro_rules | `(tactic| walk_at "t_1") => `(tactic| with_reducible refine o_min2 ?_)
local macro_rules | `(tactic| walk_at "t_1") => `(tactic| with_reducible refine o_revT ?_)
local macro_rules | `(tactic| walk_at "t_1") => `(tactic| ((with_reducible refine' o_ixR ?ev ?hv ?_); (case ev => first | exact st_at _ _ _ | rfl); (case hv => rfl)))
local macro_rules | `(tactic| walk_at "t_1") => `(tactic| ((with_reducible refine o_isiT ?ty ?nm ?_); (case ty => first | rfl | assumption); (case nm => decide)))
local macro_rules | `(tactic| walk_at "t_1") => `(tactic| ((with_reducible refine o_isi ?ty ?nm ?_); (case ty => first | rfl | assumption); (case nm => rfl)))
local macro_rules | `(tactic| walk_at "t_1") => `(tactic| with_reducible refine o_inS ?_)
local macro_rules | `(tactic| walk_at "t_1") => `(tactic| with_reducible refine o_tstN ?_)
local macro_rules | `(tactic| walk_at "t_1") => `(tactic| with_reducible refine o_tstI ?_)
local macro_rules | `(tactic| walk_at "t_1") => `(tactic| with_reducible refine o_tstT ?_)
local macro_rules | `(tactic| walk_at "t_1") => `(tactic| with_reducible refine o_tstL ?_)
local macro_rules | `(tactic| walk_at "t_1") => `(tactic| with_reducible refine o_tstB ?_)
local macro_rules | `(tactic| walk_at "t_1") => `(tactic| with_reducible refine o_zipT ?_)
local macro_rules | `(tactic| walk_at "t_1") => `(tactic| with_reducible refine o_zipL ?_)
local macro_rules | `(tactic| walk_at "t_1") => `(tactic| with_reducible refine o_itemsS ?_)
local macro_rules | `(tactic| walk_at "t_1") => `(tactic| with_reducible refine o_itemsT ?_)
local macro_rules | `(tactic| walk_at "t_1") => `(tactic| with_reducible refine o_itemsL ?_)
local macro_rules | `(tactic| walk_at "t_1") => `(tactic| with_reducible refine o_slScr ?_)
local macro_rules | `(tactic| walk_at "t_1") => `(tactic| with_reducible refine o_slT ?_)
local macro_rules | `(tactic| walk_at "t_1") => `(tactic| with_reducible refine o_slL ?_)
local macro_rules | `(tactic| walk_at "t_1") => `(tactic| with_reducible refine o_revL ?_)
local macro_rules | `(tactic| walk_at "t_1") => `(tactic| with_reducible refine o_lstT ?_)
local macro_rules | `(tactic| walk_at "t_1") => `(tactic| with_reducible refine o_lstL ?_)
local macro_rules | `(tactic| walk_at "t_1") => `(tactic| with_reducible refine o_tupT ?_)
local macro_rules | `(tactic| walk_at "t_1") => `(tactic| with_reducible refine o_tupL ?_)
local macro_rules | `(tactic| walk_at "t_1") => `(tactic| with_reducible refine o_neg ?_)
local macro_rules | `(tactic| walk_at "t_1") => `(tactic| with_reducible refine o_abs ?_)
local macro_rules | `(tactic| walk_at "t_1") => `(tactic| with_reducible refine o_intF ?_)
local macro_rules | `(tactic| walk_at "t_1") => `(tactic| with_reducible refine o_lenT ?_)
local macro_rules | `(tactic| walk_at "t_1") => `(tactic| with_reducible refine o_lenL ?_)
local macro_rules | `(tactic| walk_at "t_1") => `(tactic| with_reducible refine o_isNN ?_)
local macro_rules | `(tactic| walk_at "t_1") => `(tactic| with_reducible refine o_isN ?_)
local macro_rules | `(tactic| walk_at "t_1") => `(tactic| with_reducible refine o_neB ?_)
local macro_rules | `(tactic| walk_at "t_1") => `(tactic| with_reducible refine o_eqB ?_)
local macro_rules | `(tactic| walk_at "t_1") => `(tactic| with_reducible refine o_neS ?_)
local macro_rules | `(tactic| walk_at "t_1") => `(tactic| with_reducible refine o_eqS ?_)
local macro_rules | `(tactic| walk_at "t_1") => `(tactic| with_reducible refine o_leS ?_)
local macro_rules | `(tactic| walk_at "t_1") => `(tactic| with_reducible refine o_ltS ?_)
local macro_rules | `(tactic| walk_at "t_1") => `(tactic| with_reducible refine o_neI ?_)
local macro_rules | `(tactic| walk_at "t_1") => `(tactic| with_reducible refine o_eqI ?_)
local macro_rules | `(tactic| walk_at "t_1") => `(tactic| with_reducible refine o_geI ?_)
local macro_rules | `(tactic| walk_at "t_1") => `(tactic| with_reducible refine o_gtI ?_)
local macro_rules | `(tactic| walk_at "t_1") => `(tactic| with_reducible refine o_leI ?_)
local macro_rules | `(tactic| walk_at "t_1") => `(tactic| with_reducible refine o_ltI ?_)
local macro_rules | `(tactic| walk_at "t_1") => `(tactic| with_reducible refine o_subI ?_)
local macro_rules | `(tactic| walk_at "t_1") => `(tactic| with_reducible refine o_addI ?_)
local macro_rules | `(tactic| walk_at "t_1") => `(tactic| with_reducible refine k_lc ?_)
local macro_rules | `(tactic| walk_at "t_1") => `(tactic| with_reducible refine k_zip ?_)
local macro_rules | `(tactic| walk_at "t_1") => `(tactic| with_reducible refine k_range2 ?_)
local macro_rules | `(tactic| walk_at "t_1") => `(tactic| with_reducible refine k_range ?_)
local macro_rules | `(tactic| walk_at "t_1") => `(tactic| with_reducible refine k_items ?_)
local macro_rules | `(tactic| walk_at "t_1") => `(tactic| with_reducible refine k_join ?_)
local macro_rules | `(tactic| walk_at "t_1") => `(tactic| with_reducible refine k_sl ?_)
local macro_rules | `(tactic| walk_at "t_1") => `(tactic| with_reducible refine k_part ?_)
local macro_rules | `(tactic| walk_at "t_1") => `(tactic| with_reducible refine k_noP ?_)
local macro_rules | `(tactic| walk_at "t_1") => `(tactic| with_reducible refine k_chain ?_)
local macro_rules | `(tactic| walk_at "t_1") => `(tactic| with_reducible refine k_if ?_)
local macro_rules | `(tactic| walk_at "t_1") => `(tactic| with_reducible refine k_not ?_)
local macro_rules | `(tactic| walk_at "t_1") => `(tactic| with_reducible refine k_or ?_)
local macro_rules | `(tactic| walk_at "t_1") => `(tactic| with_reducible refine k_and ?_)
local macro_rules | `(tactic| walk_at "t_1") => `(tactic| with_reducible refine k_tnot ?_)
local macro_rules | `(tactic| walk_at "t_1") => `(tactic| with_reducible refine k_tor ?_)
local macro_rules | `(tactic| walk_at "t_1") => `(tactic| with_reducible refine k_tand ?_)
local macro_rules | `(tactic| walk_at "t_1") => `(tactic| with_reducible refine k_tb ?_)
local macro_rules | `(tactic| walk_at "t_1") => `(tactic| with_reducible refine k_tst ?_)
local macro_rules | `(tactic| walk_at "t_1") => `(tactic| with_reducible refine k_lstRef ?_)
local macro_rules | `(tactic| walk_at "t_1") => `(tactic| with_reducible refine k_lst ?_)
local macro_rules | `(tactic| walk_at "t_1") => `(tactic| with_reducible refine k_tup ?_)
local macro_rules | `(tactic| walk_at "t_1") => `(tactic| with_reducible refine k_one ?_)
local macro_rules | `(tactic| walk_at "t_1") => `(tactic| with_reducible refine k_callK ?_)
local macro_rules | `(tactic| walk_at "t_1") => `(tactic| with_reducible refine k_call ?_)
local macro_rules | `(tactic| walk_at "t_1") => `(tactic| with_reducible refine k_cons ?_)
local macro_rules | `(tactic| walk_at "t_1") => `(tactic| with_reducible refine k_nil ?_)
local macro_rules | `(tactic| walk_at "t_1") => `(tactic| with_reducible refine k_un ?_)
local macro_rules | `(tactic| walk_at "t_1") => `(tactic| with_reducible refine k_bin ?_)
local macro_rules | `(tactic| walk_at "t_1") => `(tactic| ((with_reducible refine' k_own ?ev ?_); (case ev => rfl)))
local macro_rules | `(tactic| walk_at "t_1") => `(tactic| ((with_reducible refine' k_var ?ev ?_); (case ev => rfl)))
local macro_rules | `(tactic| walk_at "t_1") => `(tactic| with_reducible refine k_c ?_)
local macro_rules | `(tactic| walk_at "t_1") => `(tactic| with_reducible refine g_drop ?_)
local macro_rules | `(tactic| walk_at "t_1") => `(tactic| with_reducible refine g_put ?_)
local macro_rules | `(tactic| walk_at "t_1") => `(tactic| with_reducible refine g_own ?_)
local macro_rules | `(tactic| walk_at "t_1") => `(tactic| with_reducible refine g_for ?_)
local macro_rules | `(tactic| walk_at "t_1") => `(tactic| with_reducible refine g_par ?_)
local macro_rules | `(tactic| walk_at "t_1") => `(tactic| with_reducible refine g_asg ?_)
local macro_rules | `(tactic| walk_at "t_1") => `(tactic| with_reducible refine g_next ?_)
local macro_rules | `(tactic| walk_at "t_1") => `(tactic| with_reducible refine g_ret ?_)
local macro_rules | `(tactic| walk_at "t_1") => `(tactic| with_reducible refine g_set ?_)
local macro_rules | `(tactic| walk_at "t_1") => `(tactic| with_reducible refine g_if ?_)
local macro_rules | `(tactic| walk_at "t_1") => `(tactic| with_reducible refine g_seq ?_)
local macro_rules | `(tactic| walk_at "t_1") => `(tactic| with_reducible refine x_callK ?_)
local macro_rules | `(tactic| walk_at "t_1") => `(tactic| with_reducible refine x_call ?_)
local macro_rules | `(tactic| walk_at "t_1") => `(tactic| with_reducible refine e_raise ?_)
local macro_rules | `(tactic| walk_at "t_1") => `(tactic| with_reducible refine e_own ?_)
local macro_rules | `(tactic| walk_at "t_1") => `(tactic| with_reducible refine e_for ?_)
local macro_rules | `(tactic| walk_at "t_1") => `(tactic| with_reducible refine e_par ?_)
local macro_rules | `(tactic| walk_at "t_1") => `(tactic| with_reducible refine e_asg ?_)
local macro_rules | `(tactic| walk_at "t_1") => `(tactic| with_reducible refine e_next ?_)
local macro_rules | `(tactic| walk_at "t_1") => `(tactic| with_reducible refine e_if ?_)
local macro_rules | `(tactic| walk_at "t_1") => `(tactic| with_reducible refine e_seq ?_)
section
set_option maxHeartbeats 1000000
open PySem L2 DL Co
theorem OC.mem {xs ls a m b : List Str} (h : OC xs ls a m b) {x : Str} (hx : x ∈ m) : x ∈ xs := by rw [h.e]; simp [hx]
theorem See.pl {st : S} {d : D} (h : DM.pl 9 d = true) : See st d d := .inl ⟨rfl, h⟩
end
section
set_option maxHeartbeats 1000000
/-! k03: places, orders judged, things like orders. -/

open PySem L2 DL Co

/-! ### places -/
/-! ### orders -/
end
section
set_option maxHeartbeats 1000000
/-! k03: the law. -/

open PySem L2 DL Co

theorem St.app {a b t s : S} (h : St (a, b) s) : St (a, b ++ t) (s ++ t) := by
  obtain ⟨c, i, r, m, n, e, h1, h2⟩ := h
  exact ⟨c, i, r, m, n, by rw [e]; simp, h1, h2⟩
/-! ### a drawn stretch -/
theorem cut_lot {xs : List Str} {sp lg : Nat} (hx : ∀ x ∈ xs, Nm x) (nd : xs.Nodup) (h0 : 0 < lg) (h1 : sp + lg ≤ xs.length) : Lot (sortS (cutL xs (some (sp : Int)) (some (((sp + lg : Nat)) : Int)))) ∧ ∀ y ∈ sortS (cutL xs (some (sp : Int)) (some (((sp + lg : Nat)) : Int))), y ∈ xs := by
  have e : cutL xs (some (sp : Int)) (some (((sp + lg : Nat)) : Int)) = (xs.drop sp).take lg := by
    unfold cutL
    rw [HT.sIx_nat, HT.sIx_nat, Nat.min_eq_left (by omega), Nat.min_eq_left (by omega), Nat.add_sub_cancel_left]
  rw [e]
  have sb : ((xs.drop sp).take lg).Sublist xs := (List.take_sublist _ _).trans (List.drop_sublist _ _)
  refine lot_sub hx nd (fun z => ?_) (fun y hy => sb.subset hy) (.inl sb)
  have := congrArg List.length z
  rw [List.length_take, List.length_drop, List.length_nil] at this
  omega
/-! ### a thing like an order -/
end
section
set_option maxHeartbeats 1000000
/-! k03: the law. -/

open PySem L2 DL Co

end
section
set_option maxHeartbeats 1000000
/-! k04: facts. -/

open PySem L2 DL Co
end
open PySem L2 DL Co
local macro_rules | `(tactic| walk_at "u") => `(tactic| repeat walk_at "u_1")
local macro_rules | `(tactic| walk_at "u_1") => `(tactic| with_reducible refine ⟨_, rfl, ?_⟩)
local macro_rules | `(tactic| walk_at "u_1") => `(tactic| ((with_reducible refine' yes ?dd ?_); (case dd => decide)))
local macro_rules | `(tactic| walk_at "u_1") => `(tactic| ((with_reducible refine' no ?dd ?_); (case dd => decide)))
local macro_rules | `(tactic| walk_at "u_1") => `(tactic| ((with_reducible refine' ixL_ok ?ix ?_); (case ix => first | rfl | exact atI_z _ _)))
local macro_rules | `(tactic| walk_at "u_1") => `(tactic| ((with_reducible refine' ixT_ok ?ix ?_); (case ix => first | rfl | exact atI_z _ _)))
local macro_rules | `(tactic| walk_at "u_1") => `(tactic| with_reducible refine cNF ?_)
local macro_rules | `(tactic| walk_at "u_1") => `(tactic| with_reducible refine cF ?_)
local macro_rules | `(tactic| walk_at "u_1") => `(tactic| with_reducible refine cT ?_)
local macro_rules | `(tactic| walk_at "u_1") => `(tactic| with_reducible refine cNT ?_)
local macro_rules | `(tactic| walk_at "u_1") => `(tactic| ((with_reducible refine' len2 ?l1 ?_); (case l1 => rfl)))
local macro_rules | `(tactic| walk_at "u_1") => `(tactic| ((with_reducible refine' len3 ?l1 ?l2 ?_); (case l1 => rfl); (case l2 => rfl)))
local macro_rules | `(tactic| walk_at "u_1") => `(tactic| ((with_reducible refine' small_and ?l1 ?_); (case l1 => first | (simp; done) | (simp only [List.length_map]; omega))))
local macro_rules | `(tactic| walk_at "u_1") => `(tactic| with_reducible refine k_lcRef ?_)
local macro_rules | `(tactic| walk_at "u_1") => `(tactic| with_reducible refine o_max2 ?_)
local macro_rules | `(tactic| walk_at "u_1") => `(tactic| with_reducible refine o_min2 ?_)
local macro_rules | `(tactic| walk_at "u_1") => `(tactic| with_reducible refine o_revT ?_)
local macro_rules | `(tactic| walk_at "u_1") => `(tactic| ((with_reducible refine' o_ixR ?ev ?hv ?_); (case ev => first | exact st_at _ _ _ | rfl); (case hv => rfl)))
local macro_rules | `(tactic| walk_at "u_1") => `(tactic| ((with_reducible refine o_isiT ?ty ?nm ?_); (case ty => first | rfl | assumption); (case nm => decide)))
local macro_rules | `(tactic| walk_at "u_1") => `(tactic| ((with_reducible refine o_isi ?ty ?nm ?_); (case ty => first | rfl | assumption); (case nm => rfl)))
local macro_rules | `(tactic| walk_at "u_1") => `(tactic| with_reducible refine o_inS ?_)
local macro_rules | `(tactic| walk_at "u_1") => `(tactic| with_reducible refine o_tstN ?_)
local macro_rules | `(tactic| walk_at "u_1") => `(tactic| with_reducible refine o_tstI ?_)
local macro_rules | `(tactic| walk_at "u_1") => `(tactic| with_reducible refine o_tstT ?_)
local macro_rules | `(tactic| walk_at "u_1") => `(tactic| with_reducible refine o_tstL ?_)
local macro_rules | `(tactic| walk_at "u_1") => `(tactic| with_reducible refine o_tstB ?_)
local macro_rules | `(tactic| walk_at "u_1") => `(tactic| with_reducible refine o_zipT ?_)
local macro_rules | `(tactic| walk_at "u_1") => `(tactic| with_reducible refine o_zipL ?_)
local macro_rules | `(tactic| walk_at "u_1") => `(tactic| with_reducible refine o_itemsS ?_)
local macro_rules | `(tactic| walk_at "u_1") => `(tactic| with_reducible refine o_itemsT ?_)
local macro_rules | `(tactic| walk_at "u_1") => `(tactic| with_reducible refine o_itemsL ?_)
local macro_rules | `(tactic| walk_at "u_1") => `(tactic| with_reducible refine o_slScr ?_)
local macro_rules | `(tactic| walk_at "u_1") => `(tactic| with_reducible refine o_slT ?_)
local macro_rules | `(tactic| walk_at "u_1") => `(tactic| with_reducible refine o_slL ?_)
local macro_rules | `(tactic| walk_at "u_1") => `(tactic| with_reducible refine o_revL ?_)
local macro_rules | `(tactic| walk_at "u_1") => `(tactic| with_reducible refine o_lstT ?_)
local macro_rules | `(tactic| walk_at "u_1") => `(tactic| with_reducible refine o_lstL ?_)
local macro_rules | `(tactic| walk_at "u_1") => `(tactic| with_reducible refine o_tupT ?_)
local macro_rules | `(tactic| walk_at "u_1") => `(tactic| with_reducible refine o_tupL ?_)
local macro_rules | `(tactic| walk_at "u_1") => `(tactic| with_reducible refine o_neg ?_)
local macro_rules | `(tactic| walk_at "u_1") => `(tactic| with_reducible refine o_abs ?_)
local macro_rules | `(tactic| walk_at "u_1") => `(tactic| with_reducible refine o_intF ?_)
local macro_rules | `(tactic| walk_at "u_1") => `(tactic| with_reducible refine o_lenT ?_)
local macro_rules | `(tactic| walk_at "u_1") => `(tactic| with_reducible refine o_lenL ?_)
local macro_rules | `(tactic| walk_at "u_1") => `(tactic| with_reducible refine o_isNN ?_)
local macro_rules | `(tactic| walk_at "u_1") => `(tactic| with_reducible refine o_isN ?_)
local macro_rules | `(tactic| walk_at "u_1") => `(tactic| with_reducible refine o_neB ?_)
local macro_rules | `(tactic| walk_at "u_1") => `(tactic| with_reducible refine o_eqB ?_)
local macro_rules | `(tactic| walk_at "u_1") => `(tactic| with_reducible refine o_neS ?_)
local macro_rules | `(tactic| walk_at "u_1") => `(tactic| with_reducible refine o_eqS ?_)
local macro_rules | `(tactic| walk_at "u_1") => `(tactic| with_reducible refine o_leS ?_)
local macro_rules | `(tactic| walk_at "u_1") => `(tactic| with_reducible refine o_ltS ?_)
local macro_rules | `(tactic| walk_at "u_1") => `(tactic| with_reducible refine o_neI ?_)
local macro_rules | `(tactic| walk_at "u_1") => `(tactic| with_reducible refine o_eqI ?_)
local macro_rules | `(tactic| walk_at "u_1") => `(tactic| with_reducible refine o_geI ?_)
local macro_rules | `(tactic| walk_at "u_1") => `(tactic| with_reducible refine o_gtI ?_)
local macro_rules | `(tactic| walk_at "u_1") => `(tactic| with_reducible refine o_leI ?_)
local macro_rules | `(tactic| walk_at "u_1") => `(tactic| with_reducible refine o_ltI ?_)
local macro_rules | `(tactic| walk_at "u_1") => `(tactic| with_reducible refine o_subI ?_)
local macro_rules | `(tactic| walk_at "u_1") => `(tactic| with_reducible refine o_addI ?_)
local macro_rules | `(tactic| walk_at "u_1") => `(tactic| with_reducible refine k_lc ?_)
local macro_rules | `(tactic| walk_at "u_1") => `(tactic| with_reducible refine k_zip ?_)
local macro_rules | `(tactic| walk_at "u_1") => `(tactic| with_reducible refine k_range2 ?_)
local macro_rules | `(tactic| walk_at "u_1") => `(tactic| with_reducible refine k_range ?_)
local macro_rules | `(tactic| walk_at "u_1") => `(tactic| with_reducible refine k_items ?_)
local macro_rules | `(tactic| walk_at "u_1") => `(tactic| with_reducible refine k_join ?_)
local macro_rules | `(tactic| walk_at "u_1") => `(tactic| with_reducible refine k_sl ?_)
local macro_rules | `(tactic| walk_at "u_1") => `(tactic| with_reducible refine k_part ?_)
local macro_rules | `(tactic| walk_at "u_1") => `(tactic| with_reducible refine k_noP ?_)
local macro_rules | `(tactic| walk_at "u_1") => `(tactic| with_reducible refine k_chain ?_)
local macro_rules | `(tactic| walk_at "u_1") => `(tactic| with_reducible refine k_if ?_)
local macro_rules | `(tactic| walk_at "u_1") => `(tactic| with_reducible refine k_not ?_)
local macro_rules | `(tactic| walk_at "u_1") => `(tactic| with_reducible refine k_or ?_)
local macro_rules | `(tactic| walk_at "u_1") => `(tactic| with_reducible refine k_and ?_)
local macro_rules | `(tactic| walk_at "u_1") => `(tactic| with_reducible refine k_tnot ?_)
local macro_rules | `(tactic| walk_at "u_1") => `(tactic| with_reducible refine k_tor ?_)
local macro_rules | `(tactic| walk_at "u_1") => `(tactic| with_reducible refine k_tand ?_)
local macro_rules | `(tactic| walk_at "u_1") => `(tactic| with_reducible refine k_tb ?_)
local macro_rules | `(tactic| walk_at "u_1") => `(tactic| with_reducible refine k_tst ?_)
local macro_rules | `(tactic| walk_at "u_1") => `(tactic| with_reducible refine k_lstRef ?_)
local macro_rules | `(tactic| walk_at "u_1") => `(tactic| with_reducible refine k_lst ?_)
local macro_rules | `(tactic| walk_at "u_1") => `(tactic| with_reducible refine k_tup ?_)
local macro_rules | `(tactic| walk_at "u_1") => `(tactic| with_reducible refine k_one ?_)
local macro_rules | `(tactic| walk_at "u_1") => `(tactic| with_reducible refine k_callK ?_)
local macro_rules | `(tactic| walk_at "u_1") => `(tactic| with_reducible refine k_call ?_)
local macro_rules | `(tactic| walk_at "u_1") => `(tactic| with_reducible refine k_cons ?_)
local macro_rules | `(tactic| walk_at "u_1") => `(tactic| with_reducible refine k_nil ?_)
local macro_rules | `(tactic| walk_at "u_1") => `(tactic| with_reducible refine k_un ?_)
local macro_rules | `(tactic| walk_at "u_1") => `(tactic| with_reducible refine k_bin ?_)
local macro_rules | `(tactic| walk_at "u_1") => `(tactic| ((with_reducible refine' k_own ?ev ?_); (case ev => rfl)))
local macro_rules | `(tactic| walk_at "u_1") => `(tactic| ((with_reducible refine' k_var ?ev ?_); (case ev => rfl)))
local macro_rules | `(tactic| walk_at "u_1") => `(tactic| with_reducible refine k_c ?_)
local macro_rules | `(tactic| walk_at "u_1") => `(tactic| with_reducible refine g_drop ?_)
local macro_rules | `(tactic| walk_at "u_1") => `(tactic| with_reducible refine g_put ?_)
local macro_rules | `(tactic| walk_at "u_1") => `(tactic| with_reducible refine g_own ?_)
local macro_rules | `(tactic| walk_at "u_1") => `(tactic| with_reducible refine g_for ?_)
local macro_rules | `(tactic| walk_at "u_1") => `(tactic| with_reducible refine g_par ?_)
local macro_rules | `(tactic| walk_at "u_1") => `(tactic| with_reducible refine g_asg ?_)
local macro_rules | `(tactic| walk_at "u_1") => `(tactic| with_reducible refine g_next ?_)
local macro_rules | `(tactic| walk_at "u_1") => `(tactic| with_reducible refine g_ret ?_)
local macro_rules | `(tactic| walk_at "u_1") => `(tactic| with_reducible refine g_set ?_)
local macro_rules | `(tactic| walk_at "u_1") => `(tactic| with_reducible refine g_if ?_)
local macro_rules | `(tactic| walk_at "u_1") => `(tactic| with_reducible refine g_seq ?_)
local macro_rules | `(tactic| walk_at "u_1") => `(tactic| with_reducible refine x_callK ?_)
local macro_rules | `(tactic| walk_at "u_1") => `(tactic| with_reducible refine x_call ?_)
local macro_rules | `(tactic| walk_at "u_1") => `(tactic| with_reducible refine e_raise ?_)
local macro_rules | `(tactic| walk_at "u_1") => `(tactic| with_reducible refine e_own ?_)
local macro_rules | `(tactic| walk_at "u_1") => `(tactic| with_reducible refine e_for ?_)
local macro_rules | `(tactic| walk_at "u_1") => `(tactic| with_reducible refine e_par ?_)
local macro_rules | `(tactic| walk_at "u_1") => `(tactic| with_reducible refine e_asg ?_)
local macro_rules | `(tactic| walk_at "u_1") => `(tactic| with_reducible refine e_next ?_)
local macro_rules | `(tactic| walk_at "u_1") => `(tactic| with_reducible refine e_if ?_)
local macro_rules | `(tactic| walk_at "u_1") => `(tactic| with_reducible refine e_seq ?_)
section
set_option maxHeartbeats 1000000
open PySem L2 DL Co
section
variable {ρ : Ev} {st : S} {Q : D → S → Prop} {kvs : List (Str × D)} {fe fx : Ev → S → R D}
end
/-! ### is it a fact? -/
theorem tup_pl {n : Nat} {ds : List D} (h : pl n (.tup ds) = true) : ds.length ≤ 1000 ∧ ∀ e ∈ ds, pl n e = true := by
  cases n with
  | zero => cases h
  | succ n => exact ⟨(pl_tup.mp h).1, fun e he => pl_succ ((pl_tup.mp h).2 e he)⟩
end
section
set_option maxHeartbeats 1000000
/-! k04: things like facts; facts told. -/

open PySem L2 DL Co

/-- a fact about some finds -/
inductive Fa where
  | first (x : Str) | last (x : Str) | before (x y : Str)
def Fa.ss : Fa → List Str
  | .first x => ["first", x]
  | .last x => ["last", x]
  | .before x y => ["before", x, y]
def Fa.d (f : Fa) : D := .tup (f.ss.map .str)
def Fa.ns : Fa → List Str
  | .first x => [x]
  | .last x => [x]
  | .before x y => [x, y]
def Fa.turn : Fa → Fa
  | .first x => .last x
  | .last x => .first x
  | .before x y => .before y x
theorem Fa.nm {f : Fa} {xs : List Str} (hx : ∀ x ∈ xs, Nm x) (hf : ∀ x ∈ f.ns, x ∈ xs) : ∀ x ∈ f.ss, Nm x := by
  have k1 : Nm "first" := by refine ⟨?_, by decide, by decide⟩; unfold Low; decide
  have k2 : Nm "last" := by refine ⟨?_, by decide, by decide⟩; unfold Low; decide
  have k3 : Nm "before" := by refine ⟨?_, by decide, by decide⟩; unfold Low; decide
  intro x hm
  cases f with
  | first y =>
    simp only [Fa.ss, List.mem_cons, List.not_mem_nil, or_false] at hm
    rcases hm with rfl | rfl
    · exact k1
    · exact hx _ (hf _ (by simp [Fa.ns]))
  | last y =>
    simp only [Fa.ss, List.mem_cons, List.not_mem_nil, or_false] at hm
    rcases hm with rfl | rfl
    · exact k2
    · exact hx _ (hf _ (by simp [Fa.ns]))
  | before y z =>
    simp only [Fa.ss, List.mem_cons, List.not_mem_nil, or_false] at hm
    rcases hm with rfl | rfl | rfl
    · exact k3
    · exact hx _ (hf _ (by simp [Fa.ns]))
    · exact hx _ (hf _ (by simp [Fa.ns]))
theorem Fa.len (f : Fa) : f.ss.length ≤ 3 ∧ 0 < f.ss.length := by cases f <;> simp [Fa.ss]
end
section
set_option maxHeartbeats 1000000
/-! k04: the law. -/

open PySem L2 DL Co

/-! ### what a fact tells -/
section
variable {f : Fa} {st : S} {Q : D → S → Prop}
def Fa.txt (f : Fa) : Str := Txt.join " " f.ss
theorem Fa.pl {k : Nat} (hn : ∀ x ∈ f.ss, Nm x) : DM.pl (k + 1) f.d = true := pl_strs (fun z hz => (hn z hz).plS) (by have := f.len; omega)
end
/-! ### truth -/
theorem nd_inj {xs : List Str} (nd : xs.Nodup) {i j : Nat} (hi : i < xs.length) (hj : j < xs.length) (e : xs[i] = xs[j]) : i = j := by
  have h := List.pairwise_iff_getElem.mp nd
  by_cases h1 : i < j
  · exact absurd e (h i j hi hj h1)
  · by_cases h2 : j < i
    · exact absurd e.symm (h j i hj hi h2)
    · omega
/-- a fact about an order, by places -/
inductive Pl (xs : List Str) : Fa → Bool → Prop where
  | first {i : Nat} {x : Str} (h : i < xs.length) (e : xs[i] = x) : Pl xs (.first x) (decide (i = 0))
  | last {i : Nat} {x : Str} (h : i < xs.length) (e : xs[i] = x) : Pl xs (.last x) (decide (i + 1 = xs.length))
  | before {i j : Nat} {x y : Str} (h : i < xs.length) (e : xs[i] = x) (h2 : j < xs.length) (e2 : xs[j] = y) : Pl xs (.before x y) (decide (i < j))
theorem rev_at {xs : List Str} {i : Nat} (h : i < xs.length) : ∃ h2 : xs.length - 1 - i < xs.reverse.length, xs.reverse[xs.length - 1 - i] = xs[i] := by
  refine ⟨by rw [List.length_reverse]; omega, ?_⟩
  rw [List.getElem_reverse]
  congr 1
  omega
theorem Pl.rev {xs : List Str} {f : Fa} {b : Bool} (p : Pl xs f b) : Pl xs.reverse f.turn b := by
  cases p with
  | first h e =>
    rename_i i x
    obtain ⟨h2, e2⟩ := rev_at h
    have := Pl.last (x := x) h2 (e2.trans e)
    rw [List.length_reverse] at this
    rw [decide_eq_decide.mpr (show i = 0 ↔ xs.length - 1 - i + 1 = xs.length by omega)]
    exact this
  | last h e =>
    rename_i i x
    obtain ⟨h2, e2⟩ := rev_at h
    have := Pl.first (x := x) h2 (e2.trans e)
    rw [decide_eq_decide.mpr (show i + 1 = xs.length ↔ xs.length - 1 - i = 0 by omega)]
    exact this
  | before h e h3 e3 =>
    rename_i i j x y
    obtain ⟨h2, e2⟩ := rev_at h
    obtain ⟨h4, e4⟩ := rev_at h3
    have := Pl.before h4 (e4.trans e3) h2 (e2.trans e)
    rw [decide_eq_decide.mpr (show i < j ↔ xs.length - 1 - j < xs.length - 1 - i by omega)]
    exact this
section
variable {xs : List Str} {f : Fa} {b : Bool} {st : S} {Q : D → S → Prop}
end
end
section
set_option maxHeartbeats 1000000
/-! k04: the law. -/

open PySem L2 DL Co

end
section
set_option maxHeartbeats 1000000
/-! k05: the errors of a list of facts. -/

open PySem L2 DL Co

/-- an error: its class, its code, its attribute, the value -/
structure Er where
  c : Nat
  code : Str
  at_ : Str
  v : D
def Er.x (e : Er) : Exn := ⟨e.c, [("code", .str e.code), (e.at_, e.v)]⟩
def Er.due (e : Er) : D := .tup [.str "no", .str e.code, e.v]
/-- a list, a tuple -/
def itemsOf : D → Option (List D)
  | .lst ds => some ds
  | .tup ds => some ds
  | _ => none
theorem items_some {d : D} {ds : List D} (h : itemsOf d = some ds) : d = .lst ds ∨ d = .tup ds := by
  cases d with
  | lst es => cases h; exact .inl rfl
  | tup es => cases h; exact .inr rfl
  | _ => cases h
theorem items_lt {d : D} : (["list", "tuple"].any fun n => isI d n) = (itemsOf d).isSome := by cases d <;> rfl
theorem items_pl {n : Nat} {d : D} {ds : List D} (h : pl n d = true) (e : itemsOf d = some ds) : ds.length ≤ 1000 ∧ ∀ x ∈ ds, pl n x = true := by
  rcases items_some e with rfl | rfl
  · cases n with
    | zero => cases h
    | succ n => exact ⟨(pl_lst.mp h).1, fun x hx => pl_succ ((pl_lst.mp h).2 x hx)⟩
  · exact tup_pl h
section
variable {A : D} {ds : List D} {st : S} {Q : D → S → Prop} {QL : List D → S → Prop}
theorem a_len (hA : itemsOf A = some ds) (q : Q (.int ds.length) st) : Ok (lenD A st) Q := by rcases items_some hA with rfl | rfl <;> exact ⟨_, _, rfl, q⟩
theorem a_enum (hA : itemsOf A = some ds) (q : QL (ds.zipIdx.map fun p => .pr (.int p.2) p.1) st) : Ok (enumD [A] st) QL := by rcases items_some hA with rfl | rfl <;> exact ⟨_, _, rfl, q⟩
theorem a_items (hA : itemsOf A = some ds) (q : QL ds st) : Ok (itemsD A st) QL := by rcases items_some hA with rfl | rfl <;> exact ⟨_, _, rfl, q⟩
theorem a_ix {k : Nat} (hA : itemsOf A = some ds) (hk : k < ds.length) (q : Q ds[k] st) : Ok (ixD A (.int (k : Int)) st) Q := by
  rcases items_some hA with rfl | rfl
  · exact ixL_ok (atI_nat (List.getElem?_eq_getElem hk)) q
  · exact ixT_ok (atI_nat (List.getElem?_eq_getElem hk)) q
theorem k_enum {g : Ev → S → R (List D)} {ρ : Ev} (h : Ok (g ρ st) fun x s => Ok (enumD x s) QL) : Ok (dEnum g ρ st) QL := by unfold dEnum; rw [ok_bind]; exact h
end
/-- enumerated -/
theorem zipIdx_range (ds : List D) : ds.zipIdx = (List.range ds.length).map fun k => (ds.getD k .non, k) := by
  apply List.ext_getElem?
  intro i
  rw [List.getElem?_zipIdx, List.getElem?_map]
  by_cases h : i < ds.length
  · rw [List.getElem?_eq_getElem h, List.getElem?_range h]
    simp [List.getD_eq_getElem?_getD, List.getElem?_eq_getElem h]
  · rw [List.getElem?_eq_none (by omega), List.getElem?_eq_none (by rw [List.length_range]; omega)]
    rfl
theorem enum_range (ds : List D) : (ds.zipIdx.map fun p => D.pr (.int p.2) p.1) = (List.range ds.length).map fun k => D.pr (.int (k : Nat)) (ds.getD k .non) := by
  rw [zipIdx_range, List.map_map]
  rfl
theorem getD_at {ds : List D} {k : Nat} (h : k < ds.length) : ds.getD k .non = ds[k] := by rw [List.getD_eq_getElem?_getD, List.getElem?_eq_getElem h]; rfl
/-- the first of a range -/
theorem range_first {n : Nat} {p : Nat → Bool} {a b : List D} {f : Nat → D} {d : D} (hf : ∀ i j, f i = f j → i = j) (e : (List.range n).map f = a ++ d :: b) (ha : ∀ k < n, f k ∈ a → p k = true) (hd : ∀ k, d = f k → p k = false) : ∃ k, k < n ∧ d = f k ∧ (List.range n).find? (fun k => !p k) = some k := by
  obtain ⟨l1, l2, e1, e2, e3⟩ := List.map_eq_append_iff.mp e
  obtain ⟨k, l3, e4, e5, e6⟩ := List.map_eq_cons_iff.mp e3
  subst e4
  have hk : k ∈ List.range n := by rw [e1]; simp
  refine ⟨k, List.mem_range.mp hk, e5.symm, ?_⟩
  rw [List.find?_eq_some_iff_append]
  refine ⟨by rw [hd k e5.symm]; rfl, l1, l3, e1, fun j hj => ?_⟩
  have hj2 : j ∈ List.range n := by rw [e1]; exact List.mem_append_left _ hj
  rw [ha j (List.mem_range.mp hj2) (by rw [← e2]; exact List.mem_map.mpr ⟨j, hj, rfl⟩)]
  rfl
/-! ### facts with marks -/
def markOf : D → Str
  | .tup (.str x :: _) => x
  | _ => T []
def badK (p : D → Bool) (ds : List D) : Option Nat := (List.range ds.length).find? fun k => !p (ds.getD k .non)
def dupK (xs : List Str) : Option Nat := (List.range xs.length).find? fun k => !!decide (xs.getD k (T []) ∈ xs.take k)
theorem bad_all {p : D → Bool} {ds : List D} : badK p ds = none ↔ ∀ d ∈ ds, p d = true := by
  unfold badK
  rw [List.find?_eq_none]
  constructor
  · intro h d hd
    obtain ⟨k, hk, rfl⟩ := List.getElem_of_mem hd
    have := h k (List.mem_range.mpr hk)
    rw [getD_at hk] at this
    simpa using this
  · intro h k hk
    rw [getD_at (List.mem_range.mp hk), h _ (List.getElem_mem _)]
    decide
end
section
set_option maxHeartbeats 1000000
/-! k05: check_facts. -/

open PySem L2 DL Co

theorem pr_inj {f : Nat → D} : ∀ i j : Nat, D.pr (.int (i : Nat)) (f i) = .pr (.int (j : Nat)) (f j) → i = j := fun i j h => by
  injection h with h _
  injection h with h
  exact Int.ofNat.inj h
theorem k_inS {xs : List Str} {x : Str} {st : S} {Q : D → S → Prop} (q : Q (.bl (decide (x ∈ xs))) st) : Ok (inD (.str x) (.lst (xs.map .str)) st) Q := o_inL (by rw [flat_strs]; rfl) (fun _ z => nomatch z) (by rw [any_str]; exact q)
theorem k_ninS {xs : List Str} {x : Str} {st : S} {Q : D → S → Prop} (q : Q (.bl (!decide (x ∈ xs))) st) : Ok (nInD (.str x) (.lst (xs.map .str)) st) Q := o_nInL (by rw [flat_strs]; rfl) (fun _ z => nomatch z) (by rw [any_str]; exact q)
end
section
set_option maxHeartbeats 1000000
/-! k05: the law's own look at a list of facts. -/

open PySem L2 DL Co

theorem comp_rng {i n : Nat} {tt : Ev → S → R Bool} {te : Ev → S → R D} {ρ : Ev} {st : S} (P : Nat → Bool) (f : Nat → D) (h : ∀ k, k < n → tt (ρ.set i (.sh (.int (k : Nat)))) st = .ok (P k) st ∧ (P k = true → te (ρ.set i (.sh (.int (k : Nat)))) st = .ok (f k) st)) :
    compD (.nm i) tt te ρ ((List.range n).map fun (k : Nat) => .int k) st = .ok (((List.range n).filter P).map f) st := by
  have hh := comp_pure (t := .nm i) (tt := tt) (te := te) (ρ := ρ) (st := st) (fun d => match d with | .int k => P k.toNat | _ => false) (fun d => match d with | .int k => f k.toNat | _ => .non) (ds := (List.range n).map fun (k : Nat) => .int k) fun d hd => by
    obtain ⟨k, hk, rfl⟩ := List.mem_map.mp hd
    obtain ⟨h1, h2⟩ := h k (List.mem_range.mp hk)
    refine ⟨_, rfl, ?_, ?_⟩
    · dsimp only
      rw [Int.toNat_natCast]
      exact h1
    · dsimp only
      rw [Int.toNat_natCast]
      exact h2
  rw [hh]
  congr 1
  rw [List.filter_map, List.map_map]
  congr 1
theorem o_neN {l : List Nat} {st : S} {Q : D → S → Prop} (hl : l.length ≤ 1000) (q : Q (.bl (!l.isEmpty)) st) : Ok (neD (.lst (l.map fun (k : Nat) => .int k)) (.lst []) st) Q := by
  refine o_ne (pl_okd (n := 1) (pl_lst.mpr ⟨by rw [List.length_map]; exact hl, fun d hd => by obtain ⟨k, _, rfl⟩ := List.mem_map.mp hd; exact pl_int⟩) (by decide)) (by decide) (fun _ z => nomatch z) (fun _ z => nomatch z) ?_
  have eE : eqd (.lst (l.map fun (k : Nat) => D.int k)) (.lst []) = l.isEmpty := by cases l <;> rfl
  rw [eE]
  exact q
theorem o_neSs {l : List Str} {st : S} {Q : D → S → Prop} (hn : ∀ x ∈ l, Nm x) (hl : l.length ≤ 1000) (q : Q (.bl (!l.isEmpty)) st) : Ok (neD (.lst (l.map .str)) (.lst []) st) Q := by
  refine o_ne (okd_strs (fun x hx => (hn x hx).plS) hl) (by decide) (fun _ z => nomatch z) (fun _ z => nomatch z) ?_
  rw [eqd_nil]
  exact q
theorem filt_find {α : Type} {p : α → Bool} {l : List α} : (l.filter p).head? = l.find? p := List.head?_filter
end
section
set_option maxHeartbeats 1000000
/-! k05: books without words, records, first_fault. -/

open PySem L2 DL Co

/-- a book -/
def bookD (p : List Str) (ws : List D) : D := .ob 38 ["own_finds", "own_words"] [.tup ((setS p).map .str), .tup ws]
theorem check_finds_ok {n : Nat} {p : List Str} (hp : Nms n p) (h1 : 0 < n) (h2 : n ≤ 12) (st : S) : Ok (sem_check_finds [.lst (p.map .str)] st) fun r s => r = .non ∧ s = st := by
  have lp := hp.len
  refine OkE.ok ?_
  refine oke_sem rfl ?_
  unfold den_check_finds
  walk_at "u"
  refine no rfl ?_
  walk_at "u"
  rw [List.length_map]
  refine no (decide_eq_false (by omega)) ?_
  walk_at "u"
  rw [List.length_map]
  refine no (decide_eq_false (by omega)) ?_
  walk_at "u"
  refine k_enum ?_
  walk_at "u"
  refine a_enum rfl ?_
  rw [enum_range, List.length_map]
  have gd : ∀ k (hk : k < p.length), (p.map D.str).getD k .non = .str p[k] := fun k hk => by
    rw [List.getD_eq_getElem?_getD, List.getElem?_map, List.getElem?_eq_getElem hk]
    rfl
  refine goe_scan (fun ρ => ∃ a b, ρ = [.sh (.lst (p.map .str)), a, b]) (fun _ => true) (fun _ _ => False) (fun _ _ => False) ⟨_, _, rfl⟩ ?b1 ?d1 (fun _ _ _ _ _ _ _ h => h.elim) fun _ _ _ _ _ _ _ h => h.elim
  case b1 =>
    intro z hz
    obtain ⟨k, hk, rfl⟩ := List.mem_map.mp hz
    have hk := List.mem_range.mp hk
    rw [gd k hk]
    rintro _ ⟨a, b, rfl⟩
    refine ⟨_, rfl, ?_⟩
    walk_at "u"
    have hx := hp.nm _ (List.getElem_mem hk)
    refine ok_eq (is_name_eq (n := 0) (by rw [pl_str]; exact hx.plS) st) ?_
    walk_at "u"
    refine no (by rw [hx.isName]; rfl) ?_
    walk_at "u"
    rw [cutL_hi, ← List.map_take]
    refine k_inS ?_
    walk_at "u"
    have hni : p[k] ∉ p.take k := fun hm => by
      obtain ⟨j, hj, e⟩ := List.getElem_of_mem hm
      rw [List.length_take] at hj
      rw [List.getElem_take] at e
      have := nd_inj hp.nd (i := j) (j := k) (by omega) hk e
      omega
    refine no (decide_eq_false hni) ?_
    walk_at "u"
    exact ⟨rfl, ⟨_, _, rfl⟩, rfl⟩
  case d1 =>
    rintro _ _ ⟨a, b, rfl⟩
    exact ⟨rfl, rfl⟩
theorem k_setL {xs : List Str} {st : S} {Q : D → S → Prop} (h1 : xs.length < 64) (q : Q (.lst ((setS xs).map .str)) st) : Ok (setD (.lst (xs.map .str)) st) Q := by
  unfold setD
  dsimp only [view]
  rw [strsOf_map]
  dsimp only
  rw [if_pos ⟨by omega, Nat.lt_of_le_of_lt (ed_len xs) h1⟩]
  exact ⟨_, _, rfl, q⟩
theorem setF_lt {f : Str} {d : D} {k : Nat} : ∀ {fs : List (Str × D)}, fs.length < k → (setF f d fs).length < k + 1
  | [], _ => by unfold setF; exact Nat.succ_lt_succ (by simp at *; omega)
  | (g, x) :: r, h => by
    unfold setF
    split
    · exact Nat.lt_succ_of_lt h
    · cases k with
      | zero => cases h
      | succ k => exact Nat.succ_lt_succ (setF_lt (Nat.lt_of_succ_lt_succ h))
theorem finds_ok {p : List Str} {ws : List D} {st : S} {Q : D → S → Prop} (q : Q (.lst ((setS p).map .str)) st) : Ok (sem_Book_finds [bookD p ws] st) Q := by
  refine ok_sem rfl ?_
  unfold den_Book_finds
  walk_at "u"
  refine o_attr rfl rfl ?_
  walk_at "u"
  exact q
theorem words_ok {p : List Str} {ws : List D} {st : S} {Q : D → S → Prop} (q : Q (.lst ws) st) : Ok (sem_Book_words [bookD p ws] st) Q := by
  refine ok_sem rfl ?_
  unfold den_Book_words
  walk_at "u"
  refine o_attr rfl rfl ?_
  walk_at "u"
  exact q
section
variable {ρ : Ev} {st : S} {Q : Ev → S → Prop} {T : D → S → Prop} {X : Exn → S → Prop} {t u : Ev → S → R Bool} {a b : Ev → S → RS} {QB : Bool → S → Prop} {QD : D → S → Prop} {f fa fb : Ev → S → R D} {o : D → D → S → R D}
end
end
section
set_option maxHeartbeats 1000000
/-! k05: what is told; a spoilt list. -/

open PySem L2 DL Co

/-- what is told of a call -/
def told (r : D) (o : Option Er) : D := match o with
  | none => .tup [.str "told", r]
  | some e => e.due
theorem pl_t1 {n : Nat} {a : D} (ha : pl n a = true) : pl (n + 1) (.tup [a]) = true := pl_tup.mpr ⟨by simp, fun z hz => by rw [List.mem_singleton.mp hz]; exact ha⟩
theorem pl_t2 {n : Nat} {a b : D} (ha : pl n a = true) (hb : pl n b = true) : pl (n + 1) (.tup [a, b]) = true := pl_tup.mpr ⟨by simp, fun z hz => by
  simp only [List.mem_cons, List.not_mem_nil, or_false] at hz
  rcases hz with rfl | rfl
  · exact ha
  · exact hb⟩
theorem pl_t3 {n : Nat} {a b c : D} (ha : pl n a = true) (hb : pl n b = true) (hc : pl n c = true) : pl (n + 1) (.tup [a, b, c]) = true := pl_tup.mpr ⟨by simp, fun z hz => by
  simp only [List.mem_cons, List.not_mem_nil, or_false] at hz
  rcases hz with rfl | rfl | rfl
  · exact ha
  · exact hb
  · exact hc⟩
theorem pl_s {n : Nat} {x : Str} (h : plS x = true) : pl n (.str x) = true := by rw [pl_str]; exact h
end
section
set_option maxHeartbeats 1000000
/-! k05: the law. -/

open PySem L2 DL Co

end
section
set_option maxHeartbeats 1000000
/-! k15 to k19: statements; equality of trees of texts. -/

open PySem L2 DL Co

/-- texts and tuples of such -/
inductive Tx : D → Prop
  | str (x : Str) : Tx (.str x)
  | tup {ds : List D} : (∀ d ∈ ds, Tx d) → Tx (.tup ds)
theorem eqv_tup (xs ys : List D) : eqd (.tup xs) (.tup ys) = PyData.eqvAll (pys xs) (pys ys) := by
  unfold eqd py PyData.eqv
  rfl
theorem eqvAll_cons (x y : D) (xs ys : List D) : PyData.eqvAll (pys (x :: xs)) (pys (y :: ys)) = (eqd x y && PyData.eqvAll (pys xs) (pys ys)) := by
  unfold eqd
  conv => lhs; unfold pys PyData.eqvAll
theorem Tx.eqs : ∀ {a : D}, Tx a → ∀ {b : D}, Tx b → (eqd a b = true ↔ a = b) := by
  intro a ha
  induction ha with
  | str x =>
    intro b hb
    cases hb with
    | str y => rw [eqd_str, decide_eq_true_eq]; exact ⟨fun h => by rw [h], fun h => by injection h⟩
    | tup h => exact ⟨fun h => (by unfold eqd py PyData.eqv at h; cases h), fun h => nomatch h⟩
  | @tup ds h ih =>
    intro b hb
    cases hb with
    | str y => exact ⟨fun h => (by unfold eqd py PyData.eqv at h; cases h), fun h => nomatch h⟩
    | @tup es h2 =>
      rw [eqv_tup]
      clear h
      induction ds generalizing es with
      | nil =>
        cases es with
        | nil => exact ⟨fun _ => rfl, fun _ => rfl⟩
        | cons e es => exact ⟨fun h => (by cases h), fun h => (by injection h with h; cases h)⟩
      | cons d ds ihl =>
        cases es with
        | nil => exact ⟨fun h => (by cases h), fun h => (by injection h with h; cases h)⟩
        | cons e es =>
          rw [eqvAll_cons, Bool.and_eq_true, ih d List.mem_cons_self (h2 e List.mem_cons_self), ihl (fun d hd => ih d (List.mem_cons_of_mem _ hd)) (fun e he => h2 e (List.mem_cons_of_mem _ he))]
          constructor
          · rintro ⟨rfl, h⟩
            injection h with h
            rw [h]
          · intro h
            injection h with h
            injection h with h1 h2
            exact ⟨h1, by rw [h2]⟩
theorem tx_strs (xs : List Str) : Tx (tupS xs) := .tup fun d hd => by obtain ⟨x, _, rfl⟩ := List.mem_map.mp hd; exact .str x
inductive Sg | lot (p : List Str) | bef (x y : Str) | nev
deriving DecidableEq
def Sg.d : Sg → D
  | .lot p => .tup [.str (Str.ofString "lot"), tupS p]
  | .bef x y => .tup [.str (Str.ofString "before"), .str x, .str y]
  | .nev => .tup [.str (Str.ofString "never")]
def Sg.ok : Sg → Prop
  | .lot p => Lot p ∧ p.length ≤ 1000
  | .bef x y => Nm x ∧ Nm y
  | .nev => True
theorem Sg.tx (s : Sg) : Tx s.d := by
  cases s with
  | lot p =>
    refine .tup fun d hd => ?_
    simp only [List.mem_cons, List.not_mem_nil, or_false] at hd
    rcases hd with rfl | rfl
    · exact .str _
    · exact tx_strs p
  | bef x y =>
    refine .tup fun d hd => ?_
    simp only [List.mem_cons, List.not_mem_nil, or_false] at hd
    rcases hd with rfl | rfl | rfl <;> exact .str _
  | nev =>
    refine .tup fun d hd => ?_
    simp only [List.mem_cons, List.not_mem_nil, or_false] at hd
    rcases hd with rfl
    exact .str _
theorem strs_inj : ∀ {p q : List Str}, p.map D.str = q.map D.str → p = q
  | [], [], _ => rfl
  | [], _ :: _, h => by cases h
  | _ :: _, [], h => by cases h
  | a :: p, b :: q, h => by
    rw [List.map_cons, List.map_cons] at h
    injection h with h1 h2
    injection h1 with h1
    rw [h1, strs_inj h2]
theorem tupS_inj {p q : List Str} (h : tupS p = tupS q) : p = q := by
  unfold tupS at h
  injection h with h
  exact strs_inj h
theorem Sg.inj {s t : Sg} (h : s.d = t.d) : s = t := by
  cases s <;> cases t <;> unfold Sg.d at h <;> injection h with h <;> simp only [List.cons.injEq, reduceCtorEq, and_false, false_and, List.nil_eq, List.cons_ne_nil, and_true] at h
  · rw [tupS_inj h.2]
  · obtain ⟨_, h1, h2⟩ := h
    injection h1 with h1
    injection h2 with h2
    rw [h1, h2]
  · rfl
theorem Sg.eqd (s t : Sg) : DL.eqd s.d t.d = decide (s = t) := by
  rw [Bool.eq_iff_iff, decide_eq_true_eq, Tx.eqs s.tx t.tx]
  exact ⟨Sg.inj, fun h => by rw [h]⟩
theorem Sg.pl {s : Sg} (h : s.ok) {n : Nat} : DM.pl (n + 2) s.d = true := by
  cases s with
  | lot p => exact pl_t2 (pl_s (by decide)) (pl_le (by omega) (pl_tupS h.1.nm h.2))
  | bef x y => exact pl_t3 (pl_s (by decide)) (pl_s h.1.plS) (pl_s h.2.plS)
  | nev => exact pl_t1 (pl_s (by decide))
theorem Sg.okd {s : Sg} (h : s.ok) : DL.okd s.d = true := pl_okd (Sg.pl (n := 0) h) (by decide)
/-- what is said is a statement -/
theorem isLot_Lot {d : D} (h : isLot d = true) : ∃ p, d = tupS p ∧ Lot p := by
  obtain ⟨ds, rfl, ha⟩ := isLot_tup h
  obtain ⟨p, rfl, hn⟩ := names_of ha
  have hn2 : ∀ x ∈ p, Nm x := fun x hx => Nm_of (hn x hx)
  unfold isLot at h
  rw [Bool.and_eq_true, Bool.and_eq_true] at h
  refine ⟨p, rfl, fun z => ?_, hn2, asc_pw.mp h.2⟩
  rw [z] at h
  cases h.1.1
theorem said_form {n : Nat} {d : D} (h : said d = true) (hp : pl n d = true) : ∃ s : Sg, d = s.d ∧ s.ok := by
  have hl : ∀ p : List Str, d = .tup [.str (Str.ofString "lot"), tupS p] → p.length ≤ 1000 := fun p e => by
    subst e
    cases n with
    | zero => cases hp
    | succ n =>
      have h1 := (pl_tup.mp hp).2 (tupS p) (by simp)
      cases n with
      | zero => cases h1
      | succ n =>
        have h2 := (pl_tup.mp h1).1
        rw [List.length_map] at h2
        exact h2
  unfold said at h
  split at h
  · rename_i x ds
    unfold said1 at h
    split at h
    · rename_i e
      subst e
      split at h
      · rename_i a
        obtain ⟨p, rfl, hL⟩ := isLot_Lot h
        exact ⟨.lot p, rfl, hL, hl p rfl⟩
      · cases h
    split at h
    · rename_i e
      subst e
      split at h
      · rename_i a b
        rw [Bool.and_eq_true] at h
        obtain ⟨y, rfl⟩ := isName_str h.1
        obtain ⟨z, rfl⟩ := isName_str h.2
        exact ⟨.bef y z, rfl, Nm_of h.1, Nm_of h.2⟩
      · cases h
    · rw [Bool.and_eq_true, decide_eq_true_eq] at h
      obtain ⟨rfl, h⟩ := h
      cases ds with
      | nil => exact ⟨.nev, rfl, trivial⟩
      | cons _ _ => cases h
  · cases h
theorem Sg.said {s : Sg} (h : s.ok) : DM.said s.d = true := by
  cases s with
  | lot p =>
    show isLot (tupS p) = true
    unfold tupS
    rw [isLot_strs h.1.ne h.1.nm]
    exact asc_pw.mpr h.1.pw
  | bef x y =>
    show (isName (.str x) && isName (.str y)) = true
    rw [h.1.isName, h.2.isName]
    rfl
  | nev => rfl
end
section
set_option maxHeartbeats 1000000
/-! k15 to k19: a record, the rules. -/

open PySem L2 DL Co

/-- a case: its finds, its words, its facts -/
structure Cs where
  F : List Str
  W : List (Str × List Str)
  A : List (Str × Fa)
structure Cs.ok (C : Cs) : Prop where
  f : Lot C.F
  fl : C.F.length ≤ 60
  w : ∀ p ∈ C.W, Lot p.2 ∧ ∀ x ∈ p.2, x ∈ C.F
  a : ∀ p ∈ C.A, ∀ x ∈ p.2.ns, Nm x
def Sg.ls : Sg → List Str
  | .lot p => p
  | _ => []
def Sg.w : Sg → Str
  | .lot _ => "lot"
  | .bef _ _ => "before"
  | .nev => "never"
/-- what was shown -/
structure Shw (C : Cs) (st : S) (k : Nat) (sh : List Sg) : Prop where
  c : C.ok
  e : st[k]? = some (.lst (sh.map Sg.d))
  ok : ∀ s ∈ sh, s.ok ∧ ∀ x ∈ s.ls, x ∈ C.F
theorem Cs.ok.len {C : Cs} (h : C.ok) {p : List Str} (hp : Lot p) (hs : ∀ x ∈ p, x ∈ C.F) : p.length ≤ 60 := Nat.le_trans (nodup_le hp.nd hs) h.fl
theorem comp_of {α : Type} {t : Tg} {te : Ev → S → R D} {ρ : Ev} {st : S} (g f : α → D) : ∀ {l : List α}, (∀ a ∈ l, ∃ ρ', bindT t (g a) ρ = some ρ' ∧ te ρ' st = .ok (f a) st) → compD t tTrue te ρ (l.map g) st = .ok (l.map f) st
  | [], _ => rfl
  | a :: l, h => by
    obtain ⟨ρ', e, h1⟩ := h a List.mem_cons_self
    have ih := comp_of (t := t) (te := te) (ρ := ρ) (st := st) g f (l := l) fun d hd => h d (List.mem_cons_of_mem _ hd)
    rw [List.map_cons]
    unfold compD
    rw [e]
    dsimp only [tTrue, noX, R.bind]
    rw [if_pos rfl, h1]
    dsimp only
    rw [ih]
    rfl
section
variable {C : Cs} {k : Nat} {sh : List Sg} {st : S} {Q : D → S → Prop}
theorem sg_ix0 {s : Sg} (q : Q (.str s.w) st) : Ok (ixD s.d (.int 0) st) Q := by
  cases s <;> exact ⟨_, _, rfl, q⟩
theorem getD_mem {sh : List Sg} {i : Nat} (hi : i < sh.length) : sh.getD i .nev ∈ sh := by
  rw [List.getD_eq_getElem?_getD, List.getElem?_eq_getElem hi]
  exact List.getElem_mem hi
def lots2 (sh : List Sg) (i j : Nat) : Option (List Str × List Str) := match sh.getD i .nev, sh.getD j .nev with
  | .lot p, .lot q => some (p, q)
  | _, _ => none
def over2 (sh : List Sg) (i j : Nat) : Option (List Str × List Str) := match lots2 sh i j with
  | some (p, q) => if crossB p q then some (p, q) else none
  | none => none
theorem lots2_ok (h : Shw C st k sh) {i j : Nat} (hi : i < sh.length) (hj : j < sh.length) {p q : List Str} (e : lots2 sh i j = some (p, q)) : (Lot p ∧ ∀ x ∈ p, x ∈ C.F) ∧ (Lot q ∧ ∀ x ∈ q, x ∈ C.F) := by
  have h1 := h.ok _ (getD_mem hi)
  have h2 := h.ok _ (getD_mem hj)
  unfold lots2 at e
  generalize sh.getD i .nev = s at h1 e
  generalize sh.getD j .nev = t at h2 e
  cases s <;> cases t <;> cases e
  exact ⟨⟨h1.1.1, h1.2⟩, h2.1.1, h2.2⟩
def pair1 (sh : List Sg) (i : Nat) : Option (Str × Str) := match sh.getD i .nev with
  | .bef x y => some (x, y)
  | _ => none
/-! equality with a lot -/
theorem k_inT {xs : List Str} {x : Str} (q : Q (.bl (decide (x ∈ xs))) st) : Ok (inD (.str x) (tupS xs) st) Q := o_inT (by rw [flat_strs]; rfl) (by rw [any_str]; exact q)
def rSingle (F : List Str) : Sg → Bool
  | .lot [x] => decide (x ∈ F)
  | _ => false
def rWord (W : List (Str × List Str)) (m : Str) (s : Sg) : Bool := match W.lookup m with
  | some p => decide (s = .lot p)
  | none => false
theorem lookup_in {α : Type} : ∀ {l : List (Str × α)} {m : Str} {a : α}, l.lookup m = some a → (m, a) ∈ l
  | [], _, _, h => by cases h
  | (x, b) :: l, m, a, h => by
    rw [List.lookup_cons] at h
    split at h
    · rename_i e
      cases h
      rw [eq_of_beq e]
      exact List.mem_cons_self
    · exact List.mem_cons_of_mem _ (lookup_in h)
end
end
section
set_option maxHeartbeats 1000000
/-! k15 to k19: the rules over earlier statements. -/

open PySem L2 DL Co

section
variable {C : Cs} {k : Nat} {sh : List Sg} {st : S} {Q : D → S → Prop}
def rTwo (f : List Str → List Str → List Str) (sh : List Sg) (i j : Nat) (s : Sg) : Bool := match over2 sh i j with
  | some (p, q) => decide (s = .lot (f p q))
  | none => false
theorem over2_ok (h : Shw C st k sh) {i j : Nat} (hi : i < sh.length) (hj : j < sh.length) {p q : List Str} (e : over2 sh i j = some (p, q)) : lots2 sh i j = some (p, q) ∧ crossB p q = true ∧ (Lot p ∧ ∀ x ∈ p, x ∈ C.F) ∧ (Lot q ∧ ∀ x ∈ q, x ∈ C.F) := by
  unfold over2 at e
  cases e2 : lots2 sh i j with
  | none => rw [e2] at e; cases e
  | some pq =>
    obtain ⟨a, b⟩ := pq
    rw [e2] at e
    dsimp only at e
    split at e
    · rename_i hc
      cases e
      exact ⟨rfl, hc, lots2_ok h hi hj e2⟩
    · cases e
/-! facts -/
def rFact (C : Cs) (m : Str) (s : Sg) : Bool := match C.A.lookup m, s with
  | some f, .bef x y => (match f with
    | .before u v => decide (x = u) && decide (y = v)
    | .first u => decide (x = u) && (!decide (y = x) && decide (y ∈ C.F))
    | .last u => decide (y = u) && (!decide (x = y) && decide (x ∈ C.F)))
  | _, _ => false
end
end
section
set_option maxHeartbeats 1000000
/-! k15 to k19: apart, across, chain, bar, self. -/

open PySem L2 DL Co

section
variable {C : Cs} {k : Nat} {sh : List Sg} {st : S} {Q : D → S → Prop}
/-- a statement about two names -/
def Sg.pr : Sg → Option (Str × Str)
  | .bef x y => some (x, y)
  | _ => none
def rApart (sh : List Sg) (i j l : Nat) (s : Sg) : Bool := match lots2 sh i j, pair1 sh l, s with
  | some (p, q), some (u, v), .bef x y => (bothS p q).isEmpty && ((decide (u ∈ p) && decide (x ∈ p)) && (decide (v ∈ q) && decide (y ∈ q)))
  | _, _, _ => false
/-! across -/
def partS (p q : List Str) (x : Str) : Int := if x ∈ p then (if x ∈ q then 1 else 0) else (if x ∈ q then 2 else -1)
def rAcross (sh : List Sg) (i j l : Nat) (s : Sg) : Bool := match over2 sh i j, pair1 sh l, s with
  | some (p, q), some (u, v), .bef x y => !decide (partS p q u = -1 ∨ partS p q v = -1 ∨ partS p q x = -1 ∨ partS p q y = -1) && (!decide (partS p q u = partS p q v) && (!decide (partS p q x = partS p q y) && (decide (partS p q x < partS p q y) == decide (partS p q u < partS p q v))))
  | _, _, _ => false
theorem k_star {fe : Ev → S → R D} {g : Ev → S → R (List D)} {ρ : Ev} {QL : List D → S → Prop} (h : Ok (fe ρ st) fun y s => ∃ xs, y = .tup xs ∧ Ok (g ρ s) fun ys s => QL (xs ++ ys) s) : Ok (dStar fe g ρ st) QL := by
  unfold dStar
  rw [ok_bind]
  refine h.mono fun y s ⟨xs, e, h⟩ => ?_
  subst e
  dsimp only [view_tup]
  rw [ok_bind]
  exact h.mono fun ys s q => ⟨_, _, rfl, q⟩
end
end
section
set_option maxHeartbeats 1000000
/-! k15 to k19: chain, bar, self. -/

open PySem L2 DL Co

section
variable {C : Cs} {k : Nat} {sh : List Sg} {st : S} {Q : D → S → Prop}
/-! chain -/
def rChain (sh : List Sg) (i j : Nat) (s : Sg) : Bool := match pair1 sh i, pair1 sh j with
  | some (u, v), some (y, z) => decide (v = y) && decide (s = .bef u z)
  | _, _ => false
/-! bar -/
def rBar (sh : List Sg) (i j l : Nat) (s : Sg) : Bool := match over2 sh i j, sh.getD l .nev with
  | some (p, q), .lot r => decide (s = .nev) && decide (r = unionS (lessS p q) (lessS q p))
  | _, _ => false
/-! self -/
def rSelf (sh : List Sg) (i : Nat) (s : Sg) : Bool := decide (s = .nev) && (match pair1 sh i with
  | some (x, y) => decide (x = y)
  | none => false)
end
end
section
set_option maxHeartbeats 1000000
/-! k15 to k19: follows_by. -/

open PySem L2 DL Co

/-- a rule with its elders -/
inductive Rl
  | single | all | word (m : Str) | union (i j : Nat) | common (i j : Nat) | rest (i j : Nat) | fact (m : Str) | apart (i j l : Nat) | across (i j l : Nat) | chain (i j : Nat) | bar (i j l : Nat) | self (i : Nat)
def Rl.name : Rl → Str
  | .single => "single" | .all => "all" | .word _ => "word" | .union _ _ => "union" | .common _ _ => "common" | .rest _ _ => "rest" | .fact _ => "fact" | .apart _ _ _ => "apart" | .across _ _ _ => "across" | .chain _ _ => "chain" | .bar _ _ _ => "bar" | .self _ => "self"
def nI (i : Nat) : D := .int (i : Nat)
def Rl.el : Rl → List D
  | .single => [] | .all => [] | .word m => [.str m] | .union i j => [nI i, nI j] | .common i j => [nI i, nI j] | .rest i j => [nI i, nI j] | .fact m => [.str m] | .apart i j l => [nI i, nI j, nI l] | .across i j l => [nI i, nI j, nI l] | .chain i j => [nI i, nI j] | .bar i j l => [nI i, nI j, nI l] | .self i => [nI i]
def Rl.bel (n : Nat) : Rl → Prop
  | .union i j => i < n ∧ j < n | .common i j => i < n ∧ j < n | .rest i j => i < n ∧ j < n | .apart i j l => i < n ∧ j < n ∧ l < n | .across i j l => i < n ∧ j < n ∧ l < n | .chain i j => i < n ∧ j < n | .bar i j l => i < n ∧ j < n ∧ l < n | .self i => i < n | _ => True
def rR (C : Cs) (sh : List Sg) : Rl → Sg → Bool
  | .single, s => rSingle C.F s
  | .all, s => decide (s = .lot C.F)
  | .word m, s => rWord C.W m s
  | .union i j, s => rTwo unionS sh i j s
  | .common i j, s => rTwo bothS sh i j s
  | .rest i j, s => rTwo lessS sh i j s
  | .fact m, s => rFact C m s
  | .apart i j l, s => rApart sh i j l s
  | .across i j l, s => rAcross sh i j l s
  | .chain i j, s => rChain sh i j s
  | .bar i j l, s => rBar sh i j l s
  | .self i, s => rSelf sh i s
section
variable {C : Cs} {k : Nat} {sh : List Sg} {st : S} {Q : D → S → Prop}
end
end
section
set_option maxHeartbeats 1000000
/-! k15 to k19: has_form. -/

open PySem L2 DL Co

def isMk (r : Str) : Bool := decide (r = Str.ofString "word") || decide (r = Str.ofString "fact")
def formB (at_ : Nat) : D → Bool
  | .tup [a, .str r, .tup es] => said a && (match k_ELDERS.lookup r with
    | some (.int m) => decide ((es.length : Int) = m) && (if isMk r then isName (es.getD 0 .non) else es.all (num 0 ((at_ : Int) - 1)))
    | _ => false)
  | _ => false
section
variable {st : S} {Q : D → S → Prop}
end
end
section
set_option maxHeartbeats 1000000
/-! k15 to k19: entries read. -/

open PySem L2 DL Co

def Rl.mk_ : Rl → Prop
  | .word m => Nm m
  | .fact m => Nm m
  | _ => True
def sgOf : D → Sg
  | .tup [_, .tup ds] => .lot ((strsOf ds).getD [])
  | .tup [_, .str x, .str y] => .bef x y
  | _ => .nev
theorem sgOf_d (s : Sg) : sgOf s.d = s := by
  cases s with
  | lot p =>
    show Sg.lot ((strsOf (p.map .str)).getD []) = _
    rw [strsOf_map]
    rfl
  | bef x y => rfl
  | nev => rfl
def natOf : D → Nat
  | .int i => i.toNat
  | _ => 0
def strOf : D → Str
  | .str m => m
  | _ => T []
def rlOf (r : Str) (es : List D) : Rl :=
  let n := fun k => natOf (es.getD k .non)
  let m := strOf (es.getD 0 .non)
  if r = "single" then .single else if r = "all" then .all else if r = "word" then .word m else if r = "union" then .union (n 0) (n 1) else if r = "common" then .common (n 0) (n 1) else if r = "rest" then .rest (n 0) (n 1)
  else if r = "fact" then .fact m else if r = "apart" then .apart (n 0) (n 1) (n 2) else if r = "across" then .across (n 0) (n 1) (n 2) else if r = "chain" then .chain (n 0) (n 1) else if r = "bar" then .bar (n 0) (n 1) (n 2) else .self (n 0)
theorem rlOf_el (rl : Rl) : rlOf rl.name rl.el = rl := by
  cases rl <;> rfl
theorem num_nI {d : D} {n : Nat} (h : num 0 ((n : Int) - 1) d = true) : ∃ i, d = nI i ∧ i < n := by
  unfold num at h
  split at h
  · rename_i i
    rw [Bool.and_eq_true, decide_eq_true_eq, decide_eq_true_eq] at h
    obtain ⟨i, rfl⟩ := Int.eq_ofNat_of_zero_le h.1
    exact ⟨i, rfl, by omega⟩
  · cases h
theorem nI_num {i n : Nat} (h : i < n) : num 0 ((n : Int) - 1) (nI i) = true := by
  unfold num nI
  rw [Bool.and_eq_true, decide_eq_true_eq, decide_eq_true_eq]
  omega
/-- an entry by its form -/
structure Ent (n : Nat) (d : D) (s : Sg) (rl : Rl) : Prop where
  e : d = .tup [s.d, .str rl.name, .tup rl.el]
  s : s.ok
  b : rl.bel n
  m : rl.mk_
theorem form_parse {n k : Nat} {d : D} (h : formB n d = true) (hp : pl k d = true) : ∃ s rl, Ent n d s rl := by
  unfold formB at h
  split at h
  · rename_i a r es
    rw [Bool.and_eq_true] at h
    obtain ⟨ha, h⟩ := h
    have hpa : pl k a = true := (tup_pl hp).2 a (by simp)
    obtain ⟨s, rfl, hs⟩ := said_form ha hpa
    split at h
    · rename_i m el
      rw [Bool.and_eq_true, decide_eq_true_eq] at h
      obtain ⟨hl, h⟩ := h
      have el2 := lookup_in el
      unfold k_ELDERS at el2
      simp only [List.mem_cons, Prod.mk.injEq, D.int.injEq, List.not_mem_nil, or_false] at el2
      have l0 : ∀ {es : List D}, (es.length : Int) = 0 → es = [] := fun h => List.eq_nil_of_length_eq_zero (by omega)
      have l1 : ∀ {es : List D}, (es.length : Int) = 1 → ∃ a, es = [a] := fun {es} h => by
        match es, (show es.length = 1 by omega) with
        | [a], _ => exact ⟨a, rfl⟩
      have l2 : ∀ {es : List D}, (es.length : Int) = 2 → ∃ a b, es = [a, b] := fun {es} h => by
        match es, (show es.length = 2 by omega) with
        | [a, b], _ => exact ⟨a, b, rfl⟩
      have l3 : ∀ {es : List D}, (es.length : Int) = 3 → ∃ a b c, es = [a, b, c] := fun {es} h => by
        match es, (show es.length = 3 by omega) with
        | [a, b, c], _ => exact ⟨a, b, c, rfl⟩
      have n1 : ∀ {a : D}, [a].all (num 0 ((n : Int) - 1)) = true → ∃ i, a = nI i ∧ i < n := fun h => num_nI (List.all_eq_true.mp h _ List.mem_cons_self)
      have n2 : ∀ {a b : D}, [a, b].all (num 0 ((n : Int) - 1)) = true → ∃ i j, a = nI i ∧ b = nI j ∧ i < n ∧ j < n := fun h => by
        obtain ⟨i, e1, h1⟩ := num_nI (List.all_eq_true.mp h _ List.mem_cons_self)
        obtain ⟨j, e2, h2⟩ := num_nI (List.all_eq_true.mp h _ (List.mem_cons_of_mem _ List.mem_cons_self))
        exact ⟨i, j, e1, e2, h1, h2⟩
      have n3 : ∀ {a b c : D}, [a, b, c].all (num 0 ((n : Int) - 1)) = true → ∃ i j l, a = nI i ∧ b = nI j ∧ c = nI l ∧ i < n ∧ j < n ∧ l < n := fun h => by
        obtain ⟨i, e1, h1⟩ := num_nI (List.all_eq_true.mp h _ List.mem_cons_self)
        obtain ⟨j, e2, h2⟩ := num_nI (List.all_eq_true.mp h _ (List.mem_cons_of_mem _ List.mem_cons_self))
        obtain ⟨l, e3, h3⟩ := num_nI (List.all_eq_true.mp h _ (List.mem_cons_of_mem _ (List.mem_cons_of_mem _ List.mem_cons_self)))
        exact ⟨i, j, l, e1, e2, e3, h1, h2, h3⟩
      rcases el2 with ⟨rfl, rfl⟩ | ⟨rfl, rfl⟩ | ⟨rfl, rfl⟩ | ⟨rfl, rfl⟩ | ⟨rfl, rfl⟩ | ⟨rfl, rfl⟩ | ⟨rfl, rfl⟩ | ⟨rfl, rfl⟩ | ⟨rfl, rfl⟩ | ⟨rfl, rfl⟩ | ⟨rfl, rfl⟩ | ⟨rfl, rfl⟩
      · exact ⟨s, .single, by rw [l0 hl]; rfl, hs, trivial, trivial⟩
      · exact ⟨s, .all, by rw [l0 hl]; rfl, hs, trivial, trivial⟩
      · obtain ⟨a, rfl⟩ := l1 hl
        have h : isName a = true := h
        obtain ⟨m, rfl⟩ := isName_str h
        exact ⟨s, .word m, rfl, hs, trivial, Nm_of h⟩
      · obtain ⟨a, b, rfl⟩ := l2 hl
        obtain ⟨i, j, rfl, rfl, h1, h2⟩ := n2 h
        exact ⟨s, .union i j, rfl, hs, ⟨h1, h2⟩, trivial⟩
      · obtain ⟨a, b, rfl⟩ := l2 hl
        obtain ⟨i, j, rfl, rfl, h1, h2⟩ := n2 h
        exact ⟨s, .common i j, rfl, hs, ⟨h1, h2⟩, trivial⟩
      · obtain ⟨a, b, rfl⟩ := l2 hl
        obtain ⟨i, j, rfl, rfl, h1, h2⟩ := n2 h
        exact ⟨s, .rest i j, rfl, hs, ⟨h1, h2⟩, trivial⟩
      · obtain ⟨a, rfl⟩ := l1 hl
        have h : isName a = true := h
        obtain ⟨m, rfl⟩ := isName_str h
        exact ⟨s, .fact m, rfl, hs, trivial, Nm_of h⟩
      · obtain ⟨a, b, c, rfl⟩ := l3 hl
        obtain ⟨i, j, l, rfl, rfl, rfl, h1, h2, h3⟩ := n3 h
        exact ⟨s, .apart i j l, rfl, hs, ⟨h1, h2, h3⟩, trivial⟩
      · obtain ⟨a, b, c, rfl⟩ := l3 hl
        obtain ⟨i, j, l, rfl, rfl, rfl, h1, h2, h3⟩ := n3 h
        exact ⟨s, .across i j l, rfl, hs, ⟨h1, h2, h3⟩, trivial⟩
      · obtain ⟨a, b, rfl⟩ := l2 hl
        obtain ⟨i, j, rfl, rfl, h1, h2⟩ := n2 h
        exact ⟨s, .chain i j, rfl, hs, ⟨h1, h2⟩, trivial⟩
      · obtain ⟨a, b, c, rfl⟩ := l3 hl
        obtain ⟨i, j, l, rfl, rfl, rfl, h1, h2, h3⟩ := n3 h
        exact ⟨s, .bar i j l, rfl, hs, ⟨h1, h2, h3⟩, trivial⟩
      · obtain ⟨a, rfl⟩ := l1 hl
        obtain ⟨i, rfl, h1⟩ := n1 h
        exact ⟨s, .self i, rfl, hs, h1, trivial⟩
    · cases h
  · cases h
theorem Ent.form {n : Nat} {d : D} {s : Sg} {rl : Rl} (h : Ent n d s rl) : formB n d = true := by
  obtain ⟨rfl, hs, hb, hm⟩ := h
  have h1 := Sg.said hs
  have n2 : ∀ {i j : Nat}, i < n ∧ j < n → [nI i, nI j].all (num 0 ((n : Int) - 1)) = true := fun h => by
    rw [List.all_cons, List.all_cons, nI_num h.1, nI_num h.2]
    rfl
  have n3 : ∀ {i j l : Nat}, i < n ∧ j < n ∧ l < n → [nI i, nI j, nI l].all (num 0 ((n : Int) - 1)) = true := fun h => by
    rw [List.all_cons, List.all_cons, List.all_cons, nI_num h.1, nI_num h.2.1, nI_num h.2.2]
    rfl
  unfold formB
  dsimp only
  rw [h1, Bool.true_and]
  cases rl with
  | single => rfl
  | all => rfl
  | word m => exact Nm.isName hm
  | union i j => exact n2 hb
  | common i j => exact n2 hb
  | rest i j => exact n2 hb
  | fact m => exact Nm.isName hm
  | apart i j l => exact n3 hb
  | across i j l => exact n3 hb
  | chain i j => exact n2 hb
  | bar i j l => exact n3 hb
  | self i =>
    show [nI i].all (num 0 ((n : Int) - 1)) = true
    rw [List.all_cons, nI_num hb]
    rfl
/-- what a rule gives is of the case -/
theorem rR_sub {C : Cs} {st : S} {k : Nat} {sh : List Sg} (h : Shw C st k sh) {rl : Rl} (hb : rl.bel sh.length) {s : Sg} (hr : rR C sh rl s = true) : ∀ x ∈ s.ls, x ∈ C.F := by
  have two : ∀ (f : List Str → List Str → List Str) (i j : Nat), (∀ p q x, x ∈ f p q → x ∈ p ∨ x ∈ q) → i < sh.length → j < sh.length → rTwo f sh i j s = true → ∀ x ∈ s.ls, x ∈ C.F := fun f i j hf hi hj hr x hx => by
    unfold rTwo at hr
    split at hr
    · rename_i p q e
      obtain ⟨_, _, ha, hb⟩ := over2_ok h hi hj e
      rw [of_decide_eq_true hr] at hx
      rcases hf p q x hx with h1 | h1
      · exact ha.2 x h1
      · exact hb.2 x h1
    · cases hr
  cases s with
  | bef x y => exact fun x hx => nomatch hx
  | nev => exact fun x hx => nomatch hx
  | lot p =>
    cases rl with
    | single =>
      intro x hx
      have hr : rSingle C.F (.lot p) = true := hr
      unfold rSingle at hr
      split at hr
      · rename_i y e
        injection e with e
        rw [show (Sg.lot p).ls = p from rfl, e] at hx
        rw [List.mem_singleton.mp hx]
        exact of_decide_eq_true hr
      · cases hr
    | all =>
      have := of_decide_eq_true hr
      injection this with this
      intro x hx
      rw [← this]
      exact hx
    | word m =>
      have hr : rWord C.W m (.lot p) = true := hr
      unfold rWord at hr
      split at hr
      · rename_i q e
        have := of_decide_eq_true hr
        injection this with this
        intro x hx
        exact (h.c.w _ (lookup_in e)).2 x (this ▸ hx)
      · cases hr
    | union i j => exact two unionS i j (fun p q x hx => (List.mem_append.mp ((sortS_perm _).mem_iff.mp hx)).imp id fun h => (List.mem_filter.mp h).1) hb.1 hb.2 hr
    | common i j => exact two bothS i j (fun p q x hx => .inl (List.mem_filter.mp hx).1) hb.1 hb.2 hr
    | rest i j => exact two lessS i j (fun p q x hx => .inl (List.mem_filter.mp hx).1) hb.1 hb.2 hr
    | fact m =>
      have hr : rFact C m (.lot p) = true := hr
      unfold rFact at hr
      split at hr
      · rename_i e; cases e
      · cases hr
    | apart i j l =>
      have hr : rApart sh i j l (.lot p) = true := hr
      unfold rApart at hr
      split at hr
      · rename_i e; cases e
      · cases hr
    | across i j l =>
      have hr : rAcross sh i j l (.lot p) = true := hr
      unfold rAcross at hr
      split at hr
      · rename_i e; cases e
      · cases hr
    | chain i j =>
      have hr : rChain sh i j (.lot p) = true := hr
      unfold rChain at hr
      split at hr
      · rw [Bool.and_eq_true, decide_eq_true_eq, decide_eq_true_eq] at hr
        cases hr.2
      · cases hr
    | bar i j l =>
      have hr : rBar sh i j l (.lot p) = true := hr
      unfold rBar at hr
      split at hr
      · rw [Bool.and_eq_true, decide_eq_true_eq] at hr
        cases hr.1
      · cases hr
    | self i =>
      have hr : rSelf sh i (.lot p) = true := hr
      unfold rSelf at hr
      rw [Bool.and_eq_true, decide_eq_true_eq] at hr
      cases hr.1
end
section
set_option maxHeartbeats 1000000
/-! k15 to k19: a record of a book and facts. -/

open PySem L2 DL Co

def wordD (w : Str × List Str) : D := .tup [.str w.1, tupS w.2]
def factD (a : Str × Fa) : D := .tup [.str a.1, a.2.d]
/-- the case of a book and facts -/
structure CsOf (p : List Str) (C : Cs) : Prop where
  f : C.F = setS p
  ok : C.ok
  wn : (C.W.map (·.1)).Nodup
  an : (C.A.map (·.1)).Nodup
  wl : C.W.length ≤ 1000
  al : C.A.length ≤ 1000
section
variable {st : S} {Q : D → S → Prop}
end
end
section
set_option maxHeartbeats 1000000
/-! k15 to k19: first_fault. -/

open PySem L2 DL Co

/-- the first entry that is not right, behind right ones -/
def faultF (C : Cs) : List Sg → List D → Option Nat
  | _, [] => none
  | sh, d :: r => if formB sh.length d then (match d with
    | .tup [a, .str x, .tup es] => if rR C sh (rlOf x es) (sgOf a) then faultF C (sh ++ [sgOf a]) r else some sh.length
    | _ => some sh.length) else some sh.length
theorem faultF_no {C : Cs} {sh : List Sg} {d : D} {r : List D} (h : formB sh.length d = false) : faultF C sh (d :: r) = some sh.length := by
  unfold faultF
  rw [h, if_neg Bool.false_ne_true]
theorem faultF_ent {C : Cs} {sh : List Sg} {d : D} {r : List D} {s : Sg} {rl : Rl} (h : Ent sh.length d s rl) : faultF C sh (d :: r) = if rR C sh rl s then faultF C (sh ++ [s]) r else some sh.length := by
  have hf := h.form
  obtain ⟨rfl, _, _, _⟩ := h
  conv => lhs; unfold faultF
  rw [hf, if_pos rfl]
  dsimp only
  rw [sgOf_d, rlOf_el]
section
variable {st : S} {Q : D → S → Prop}
end
end
section
set_option maxHeartbeats 1000000
/-! k15 to k19: shows. -/

open PySem L2 DL Co

def fstD : D → D
  | .tup (a :: _) => a
  | _ => .non
end
section
set_option maxHeartbeats 1000000
/-! k17: two lots, the law's own judges. -/

open PySem L2 DL Co

section
variable {tl : S × S} {st : S} {Q : D → S → Prop}
def oD : Option Int → D
  | some i => .int i
  | none => .non
theorem k_ninT {xs : List Str} {x : Str} (q : Q (.bl (!decide (x ∈ xs))) st) : Ok (nInD (.str x) (tupS xs) st) Q := o_nInT (by rw [flat_strs]; rfl) (by rw [any_str]; exact q)
end
end
section
set_option maxHeartbeats 1000000
/-! k17: judges compared. -/

open PySem L2 DL Co

end
section
set_option maxHeartbeats 1000000
/-! Books with words. -/

open PySem L2 DL Co

structure Wds (pool : List Str) (W : List (Str × List Str)) : Prop where
  nm : ∀ w ∈ W, Nm w.1
  lot : ∀ w ∈ W, Lot w.2 ∧ ∀ x ∈ w.2, x ∈ pool
  nd : (W.map (·.1)).Nodup
  len : W.length ≤ 40
theorem lotOf_ok {pool p : List Str} (hp : Lot p) (hs : ∀ x ∈ p, x ∈ pool) : lotOf pool (tupS p) = true := by
  unfold lotOf
  have h1 : isLot (tupS p) = true := by
    unfold tupS
    rw [isLot_strs hp.ne hp.nm]
    exact asc_pw.mpr hp.pw
  rw [h1]
  show (p.map D.str).all (inX pool) = true
  rw [List.all_map, List.all_eq_true]
  exact fun x hx => decide_eq_true (hs x hx)
theorem is_word_ok {pool : List Str} {w : Str × List Str} {st : S} {Q : D → S → Prop} (hn : Nm w.1) (hl : Lot w.2) (hs : ∀ x ∈ w.2, x ∈ pool) (h6 : w.2.length ≤ 1000) (q : Q (.bl true) st) : Ok (sem_is_word [.lst (pool.map .str), wordD w] st) Q := by
  refine ok_sem rfl ?_
  unfold den_is_word
  unfold wordD
  walk_at "u"
  refine yes rfl ?_
  walk_at "u"
  refine yes rfl ?_
  walk_at "u"
  refine ok_eq (is_name_eq (n := 0) (by rw [pl_str]; exact hn.plS) st) ?_
  walk_at "u"
  rw [hn.isName]
  refine yes rfl ?_
  walk_at "u"
  refine ok_eq (lot_of_eq (n := 1) (xs := pool) (pl_tupS hl.nm h6) (.inl rfl) st) ?_
  rw [lotOf_ok hl hs]
  exact q
theorem check_words_ok {pool : List Str} {W : List (Str × List Str)} (hW : Wds pool W) (h6 : ∀ w ∈ W, w.2.length ≤ 1000) (st : S) : Ok (sem_check_words [.lst (pool.map .str), .lst (W.map wordD)] st) fun r s => r = .non ∧ s = st := by
  have lw := hW.len
  refine OkE.ok ?_
  refine oke_sem rfl ?_
  unfold den_check_words
  walk_at "u"
  refine no rfl ?_
  walk_at "u"
  rw [List.length_map]
  refine no (decide_eq_false (by omega)) ?_
  walk_at "u"
  refine k_enum ?_
  walk_at "u"
  refine a_enum rfl ?_
  refine goe_scan (fun ρ => ∃ a b, ρ = [.sh (.lst (pool.map .str)), .sh (.lst (W.map wordD)), .no, a, b, .no, .no]) (fun _ => true) (fun _ _ => False) (fun _ _ => False) ⟨_, _, rfl⟩ ?b1 ?d1 (fun _ _ _ _ _ _ _ h => h.elim) fun _ _ _ _ _ _ _ h => h.elim
  case b1 =>
    intro z hz
    obtain ⟨⟨e, k⟩, hk, rfl⟩ := List.mem_map.mp hz
    have he : e ∈ W.map wordD := by
      have := List.fst_mem_of_mem_zipIdx hk
      exact this
    obtain ⟨w, hw, rfl⟩ := List.mem_map.mp he
    rintro _ ⟨a, b, rfl⟩
    refine ⟨_, rfl, ?_⟩
    walk_at "u"
    refine is_word_ok (hW.nm w hw) (hW.lot w hw).1 (hW.lot w hw).2 (h6 w hw) ?_
    walk_at "u"
    exact ⟨rfl, ⟨_, _, rfl⟩, rfl⟩
  case d1 =>
    rintro _ _ ⟨a, b, rfl⟩
    walk_at "u"
    refine e_set (k_lc ?_)
    walk_at "u"
    refine ok_eq (comp_of (l := W) wordD (fun w => .str w.1) fun w hw => ⟨_, rfl, rfl⟩) ?_
    rw [show (W.map fun w => D.str w.1) = (W.map (·.1)).map D.str by rw [List.map_map]; rfl]
    generalize hms : W.map (·.1) = ms
    have nd := hW.nd
    rw [hms] at nd
    walk_at "u"
    refine k_enum ?_
    walk_at "u"
    refine a_enum rfl ?_
    rw [enum_range, List.length_map]
    have gd : ∀ k (hk : k < ms.length), (ms.map D.str).getD k .non = .str ms[k] := fun k hk => by
      rw [List.getD_eq_getElem?_getD, List.getElem?_map, List.getElem?_eq_getElem hk]
      rfl
    refine goe_scan (fun ρ => ∃ a b c, ρ = [.sh (.lst (pool.map .str)), .sh (.lst (W.map wordD)), .sh (.lst (ms.map .str)), a, b, c, .no]) (fun _ => true) (fun _ _ => False) (fun _ _ => False) ⟨_, _, _, rfl⟩ ?b2 ?d2 (fun _ _ _ _ _ _ _ h => h.elim) fun _ _ _ _ _ _ _ h => h.elim
    case b2 =>
      intro z hz
      obtain ⟨k, hk, rfl⟩ := List.mem_map.mp hz
      have hk := List.mem_range.mp hk
      rw [gd k hk]
      rintro _ ⟨a, b, c, rfl⟩
      refine ⟨_, rfl, ?_⟩
      walk_at "u"
      rw [cutL_hi, ← List.map_take]
      refine k_inS ?_
      walk_at "u"
      have hni : ms[k] ∉ ms.take k := fun hm => by
        obtain ⟨j, hj, e⟩ := List.getElem_of_mem hm
        rw [List.length_take] at hj
        rw [List.getElem_take] at e
        have := nd_inj nd (i := j) (j := k) (by omega) hk e
        omega
      refine no (decide_eq_false hni) ?_
      walk_at "u"
      exact ⟨rfl, ⟨_, _, _, rfl⟩, rfl⟩
    case d2 =>
      rintro _ _ ⟨a, b, c, rfl⟩
      exact ⟨rfl, rfl⟩
end
section
set_option maxHeartbeats 1000000
/-! k17: the case of the law. -/

open PySem L2 DL Co

theorem bookW_ok {n : Nat} {pool : List Str} {W : List (Str × List Str)} (hp : Nms n pool) (h1 : 0 < n) (h2 : n ≤ 12) (hW : Wds pool W) (st : S) : Ok (sem_Book_init [.lst (pool.map .str), .lst (W.map wordD)] st) fun r s => r = bookD pool (W.map wordD) ∧ s = st := by
  have lp := hp.len
  have h6 : ∀ w ∈ W, w.2.length ≤ 1000 := fun w hw => by
    have := nodup_le (hW.lot w hw).1.nd (hW.lot w hw).2
    omega
  refine OkE.ok ?_
  refine oke_init rfl ?_
  unfold den_Book_init
  refine e_seq (e_drop ?_)
  walk_at "u"
  refine (check_finds_ok hp h1 h2 st).mono ?_
  rintro _ s1 ⟨rfl, es⟩
  subst es
  refine e_seq (e_drop ?_)
  walk_at "u"
  refine (check_words_ok hW h6 _).mono ?_
  rintro _ s2 ⟨rfl, es⟩
  subst es
  refine e_seq (e_fld rfl (by repeat (first | exact Nat.zero_lt_succ _ | refine setF_lt ?_)) ?_)
  walk_at "u"
  refine k_setL (by omega) ?_
  walk_at "u"
  refine e_fld rfl (by repeat (first | exact Nat.zero_lt_succ _ | refine setF_lt ?_)) ?_
  walk_at "u"
  exact ⟨_, _, rfl, rfl, rfl⟩
end
section
set_option maxHeartbeats 1000000
/-! k17: the law. -/

open PySem L2 DL Co

/-- the entries of the law -/
def en (s : Sg) (rl : Rl) : D := .tup [s.d, .str rl.name, .tup rl.el]
theorem en_pl {s : Sg} {rl : Rl} (hs : s.ok) (hm : rl.mk_) : pl 4 (en s rl) = true := by
  refine pl_t3 (n := 3) (Sg.pl (n := 1) hs) (pl_s (by cases rl <;> simp only [Rl.name] <;> decide)) ?_
  cases rl with
  | single => exact pl_tup.mpr ⟨by simp [Rl.el], fun d hd => by cases hd⟩
  | all => exact pl_tup.mpr ⟨by simp [Rl.el], fun d hd => by cases hd⟩
  | word m => exact pl_t1 (pl_s (Nm.plS hm))
  | fact m => exact pl_t1 (pl_s (Nm.plS hm))
  | self i => exact pl_t1 pl_int
  | union i j => exact pl_t2 pl_int pl_int
  | common i j => exact pl_t2 pl_int pl_int
  | rest i j => exact pl_t2 pl_int pl_int
  | chain i j => exact pl_t2 pl_int pl_int
  | apart i j l => exact pl_t3 pl_int pl_int pl_int
  | across i j l => exact pl_t3 pl_int pl_int pl_int
  | bar i j l => exact pl_t3 pl_int pl_int pl_int
end
section
set_option maxHeartbeats 1000000
/-! k15: the law's own judge of words and facts. -/

open PySem L2 DL Co

def caseD (C : Cs) : D := .tup [.lst (C.F.map .str), .lst (C.W.map wordD), .lst (C.A.map factD)]
section
variable {C : Cs} {st : S} {Q : D → S → Prop}
theorem Fa.tx (f : Fa) : Tx f.d := tx_strs f.ss
theorem bef_ix1 {x y : Str} (q : Q (.str x) st) : Ok (ixD (Sg.bef x y).d (.int 1) st) Q := ixT_ok rfl q
theorem bef_ix2 {x y : Str} (q : Q (.str y) st) : Ok (ixD (Sg.bef x y).d (.int 2) st) Q := ixT_ok rfl q
theorem lot_ix1 {p : List Str} (q : Q (tupS p) st) : Ok (ixD (Sg.lot p).d (.int 1) st) Q := ixT_ok rfl q
theorem wd_ix0 {w : Str × List Str} (q : Q (.str w.1) st) : Ok (ixD (wordD w) (.int 0) st) Q := ixT_ok rfl q
theorem wd_ix1 {w : Str × List Str} (q : Q (tupS w.2) st) : Ok (ixD (wordD w) (.int 1) st) Q := ixT_ok rfl q
theorem fd_ix0 {w : Str × Fa} (q : Q (.str w.1) st) : Ok (ixD (factD w) (.int 0) st) Q := ixT_ok rfl q
theorem fd_ix1 {w : Str × Fa} (q : Q w.2.d st) : Ok (ixD (factD w) (.int 1) st) Q := ixT_ok rfl q
theorem cs_ix0 (q : Q (.lst (C.F.map .str)) st) : Ok (ixD (caseD C) (.int 0) st) Q := ixT_ok rfl q
theorem cs_ix1 (q : Q (.lst (C.W.map wordD)) st) : Ok (ixD (caseD C) (.int 1) st) Q := ixT_ok rfl q
theorem cs_ix2 (q : Q (.lst (C.A.map factD)) st) : Ok (ixD (caseD C) (.int 2) st) Q := ixT_ok rfl q
theorem en_ix0 {s : Sg} {rl : Rl} (q : Q s.d st) : Ok (ixD (en s rl) (.int 0) st) Q := ixT_ok rfl q
theorem en_ix1 {s : Sg} {rl : Rl} (q : Q (.str rl.name) st) : Ok (ixD (en s rl) (.int 1) st) Q := ixT_ok rfl q
theorem en_ix2 {s : Sg} {rl : Rl} (q : Q (.tup rl.el) st) : Ok (ixD (en s rl) (.int 2) st) Q := ixT_ok rfl q
theorem o_lenS {p : List Str} (q : Q (.int p.length) st) : Ok (lenD (tupS p) st) Q := by
  refine ⟨_, _, rfl, ?_⟩
  rw [List.length_map]
  exact q
end
open PySem L2 DL Co
local macro_rules | `(tactic| walk_at "v") => `(tactic| repeat walk_at "v_1")
local macro_rules | `(tactic| walk_at "v_1") => `(tactic| with_reducible refine ⟨_, rfl, ?_⟩)
local macro_rules | `(tactic| walk_at "v_1") => `(tactic| with_reducible refine k_ninS ?_)
local macro_rules | `(tactic| walk_at "v_1") => `(tactic| with_reducible refine k_inS ?_)
local macro_rules | `(tactic| walk_at "v_1") => `(tactic| with_reducible refine k_ninT ?_)
local macro_rules | `(tactic| walk_at "v_1") => `(tactic| with_reducible refine k_inT ?_)
local macro_rules | `(tactic| walk_at "v_1") => `(tactic| with_reducible refine o_lenS ?_)
local macro_rules | `(tactic| walk_at "v_1") => `(tactic| with_reducible refine en_ix2 ?_)
local macro_rules | `(tactic| walk_at "v_1") => `(tactic| with_reducible refine en_ix1 ?_)
local macro_rules | `(tactic| walk_at "v_1") => `(tactic| with_reducible refine en_ix0 ?_)
local macro_rules | `(tactic| walk_at "v_1") => `(tactic| with_reducible refine cs_ix2 ?_)
local macro_rules | `(tactic| walk_at "v_1") => `(tactic| with_reducible refine cs_ix1 ?_)
local macro_rules | `(tactic| walk_at "v_1") => `(tactic| with_reducible refine cs_ix0 ?_)
local macro_rules | `(tactic| walk_at "v_1") => `(tactic| with_reducible refine fd_ix1 ?_)
local macro_rules | `(tactic| walk_at "v_1") => `(tactic| with_reducible refine fd_ix0 ?_)
local macro_rules | `(tactic| walk_at "v_1") => `(tactic| with_reducible refine wd_ix1 ?_)
local macro_rules | `(tactic| walk_at "v_1") => `(tactic| with_reducible refine wd_ix0 ?_)
local macro_rules | `(tactic| walk_at "v_1") => `(tactic| with_reducible refine lot_ix1 ?_)
local macro_rules | `(tactic| walk_at "v_1") => `(tactic| with_reducible refine bef_ix2 ?_)
local macro_rules | `(tactic| walk_at "v_1") => `(tactic| with_reducible refine bef_ix1 ?_)
local macro_rules | `(tactic| walk_at "v_1") => `(tactic| with_reducible refine sg_ix0 ?_)
local macro_rules | `(tactic| walk_at "v_1") => `(tactic| ((with_reducible refine' yes ?dd ?_); (case dd => decide)))
local macro_rules | `(tactic| walk_at "v_1") => `(tactic| ((with_reducible refine' no ?dd ?_); (case dd => decide)))
local macro_rules | `(tactic| walk_at "v_1") => `(tactic| ((with_reducible refine' ixL_ok ?ix ?_); (case ix => first | rfl | exact atI_z _ _)))
local macro_rules | `(tactic| walk_at "v_1") => `(tactic| ((with_reducible refine' ixT_ok ?ix ?_); (case ix => first | rfl | exact atI_z _ _)))
local macro_rules | `(tactic| walk_at "v_1") => `(tactic| with_reducible refine cNF ?_)
local macro_rules | `(tactic| walk_at "v_1") => `(tactic| with_reducible refine cF ?_)
local macro_rules | `(tactic| walk_at "v_1") => `(tactic| with_reducible refine cT ?_)
local macro_rules | `(tactic| walk_at "v_1") => `(tactic| with_reducible refine cNT ?_)
local macro_rules | `(tactic| walk_at "v_1") => `(tactic| ((with_reducible refine' len2 ?l1 ?_); (case l1 => rfl)))
local macro_rules | `(tactic| walk_at "v_1") => `(tactic| ((with_reducible refine' len3 ?l1 ?l2 ?_); (case l1 => rfl); (case l2 => rfl)))
local macro_rules | `(tactic| walk_at "v_1") => `(tactic| ((with_reducible refine' small_and ?l1 ?_); (case l1 => first | (simp; done) | (simp only [List.length_map]; omega))))
local macro_rules | `(tactic| walk_at "v_1") => `(tactic| with_reducible refine k_lcRef ?_)
local macro_rules | `(tactic| walk_at "v_1") => `(tactic| with_reducible refine o_max2 ?_)
local macro_rules | `(tactic| walk_at "v_1") => `(tactic| with_reducible refine o_min2 ?_)
local macro_rules | `(tactic| walk_at "v_1") => `(tactic| with_reducible refine o_revT ?_)
local macro_rules | `(tactic| walk_at "v_1") => `(tactic| ((with_reducible refine' o_ixR ?ev ?hv ?_); (case ev => first | exact st_at _ _ _ | rfl); (case hv => rfl)))
local macro_rules | `(tactic| walk_at "v_1") => `(tactic| ((with_reducible refine o_isiT ?ty ?nm ?_); (case ty => first | rfl | assumption); (case nm => decide)))
local macro_rules | `(tactic| walk_at "v_1") => `(tactic| ((with_reducible refine o_isi ?ty ?nm ?_); (case ty => first | rfl | assumption); (case nm => rfl)))
local macro_rules | `(tactic| walk_at "v_1") => `(tactic| with_reducible refine o_inS ?_)
local macro_rules | `(tactic| walk_at "v_1") => `(tactic| with_reducible refine o_tstN ?_)
local macro_rules | `(tactic| walk_at "v_1") => `(tactic| with_reducible refine o_tstI ?_)
local macro_rules | `(tactic| walk_at "v_1") => `(tactic| with_reducible refine o_tstT ?_)
local macro_rules | `(tactic| walk_at "v_1") => `(tactic| with_reducible refine o_tstL ?_)
local macro_rules | `(tactic| walk_at "v_1") => `(tactic| with_reducible refine o_tstB ?_)
local macro_rules | `(tactic| walk_at "v_1") => `(tactic| with_reducible refine o_zipT ?_)
local macro_rules | `(tactic| walk_at "v_1") => `(tactic| with_reducible refine o_zipL ?_)
local macro_rules | `(tactic| walk_at "v_1") => `(tactic| with_reducible refine o_itemsS ?_)
local macro_rules | `(tactic| walk_at "v_1") => `(tactic| with_reducible refine o_itemsT ?_)
local macro_rules | `(tactic| walk_at "v_1") => `(tactic| with_reducible refine o_itemsL ?_)
local macro_rules | `(tactic| walk_at "v_1") => `(tactic| with_reducible refine o_slScr ?_)
local macro_rules | `(tactic| walk_at "v_1") => `(tactic| with_reducible refine o_slT ?_)
local macro_rules | `(tactic| walk_at "v_1") => `(tactic| with_reducible refine o_slL ?_)
local macro_rules | `(tactic| walk_at "v_1") => `(tactic| with_reducible refine o_revL ?_)
local macro_rules | `(tactic| walk_at "v_1") => `(tactic| with_reducible refine o_lstT ?_)
local macro_rules | `(tactic| walk_at "v_1") => `(tactic| with_reducible refine o_lstL ?_)
local macro_rules | `(tactic| walk_at "v_1") => `(tactic| with_reducible refine o_tupT ?_)
local macro_rules | `(tactic| walk_at "v_1") => `(tactic| with_reducible refine o_tupL ?_)
local macro_rules | `(tactic| walk_at "v_1") => `(tactic| with_reducible refine o_neg ?_)
local macro_rules | `(tactic| walk_at "v_1") => `(tactic| with_reducible refine o_abs ?_)
local macro_rules | `(tactic| walk_at "v_1") => `(tactic| with_reducible refine o_intF ?_)
local macro_rules | `(tactic| walk_at "v_1") => `(tactic| with_reducible refine o_lenT ?_)
local macro_rules | `(tactic| walk_at "v_1") => `(tactic| with_reducible refine o_lenL ?_)
local macro_rules | `(tactic| walk_at "v_1") => `(tactic| with_reducible refine o_isNN ?_)
local macro_rules | `(tactic| walk_at "v_1") => `(tactic| with_reducible refine o_isN ?_)
local macro_rules | `(tactic| walk_at "v_1") => `(tactic| with_reducible refine o_neB ?_)
local macro_rules | `(tactic| walk_at "v_1") => `(tactic| with_reducible refine o_eqB ?_)
local macro_rules | `(tactic| walk_at "v_1") => `(tactic| with_reducible refine o_neS ?_)
local macro_rules | `(tactic| walk_at "v_1") => `(tactic| with_reducible refine o_eqS ?_)
local macro_rules | `(tactic| walk_at "v_1") => `(tactic| with_reducible refine o_leS ?_)
local macro_rules | `(tactic| walk_at "v_1") => `(tactic| with_reducible refine o_ltS ?_)
local macro_rules | `(tactic| walk_at "v_1") => `(tactic| with_reducible refine o_neI ?_)
local macro_rules | `(tactic| walk_at "v_1") => `(tactic| with_reducible refine o_eqI ?_)
local macro_rules | `(tactic| walk_at "v_1") => `(tactic| with_reducible refine o_geI ?_)
local macro_rules | `(tactic| walk_at "v_1") => `(tactic| with_reducible refine o_gtI ?_)
local macro_rules | `(tactic| walk_at "v_1") => `(tactic| with_reducible refine o_leI ?_)
local macro_rules | `(tactic| walk_at "v_1") => `(tactic| with_reducible refine o_ltI ?_)
local macro_rules | `(tactic| walk_at "v_1") => `(tactic| with_reducible refine o_subI ?_)
local macro_rules | `(tactic| walk_at "v_1") => `(tactic| with_reducible refine o_addI ?_)
local macro_rules | `(tactic| walk_at "v_1") => `(tactic| with_reducible refine k_lc ?_)
local macro_rules | `(tactic| walk_at "v_1") => `(tactic| with_reducible refine k_zip ?_)
local macro_rules | `(tactic| walk_at "v_1") => `(tactic| with_reducible refine k_range2 ?_)
local macro_rules | `(tactic| walk_at "v_1") => `(tactic| with_reducible refine k_range ?_)
local macro_rules | `(tactic| walk_at "v_1") => `(tactic| with_reducible refine k_items ?_)
local macro_rules | `(tactic| walk_at "v_1") => `(tactic| with_reducible refine k_join ?_)
local macro_rules | `(tactic| walk_at "v_1") => `(tactic| with_reducible refine k_sl ?_)
local macro_rules | `(tactic| walk_at "v_1") => `(tactic| with_reducible refine k_part ?_)
local macro_rules | `(tactic| walk_at "v_1") => `(tactic| with_reducible refine k_noP ?_)
local macro_rules | `(tactic| walk_at "v_1") => `(tactic| with_reducible refine k_chain ?_)
local macro_rules | `(tactic| walk_at "v_1") => `(tactic| with_reducible refine k_if ?_)
local macro_rules | `(tactic| walk_at "v_1") => `(tactic| with_reducible refine k_not ?_)
local macro_rules | `(tactic| walk_at "v_1") => `(tactic| with_reducible refine k_or ?_)
local macro_rules | `(tactic| walk_at "v_1") => `(tactic| with_reducible refine k_and ?_)
local macro_rules | `(tactic| walk_at "v_1") => `(tactic| with_reducible refine k_tnot ?_)
local macro_rules | `(tactic| walk_at "v_1") => `(tactic| with_reducible refine k_tor ?_)
local macro_rules | `(tactic| walk_at "v_1") => `(tactic| with_reducible refine k_tand ?_)
local macro_rules | `(tactic| walk_at "v_1") => `(tactic| with_reducible refine k_tb ?_)
local macro_rules | `(tactic| walk_at "v_1") => `(tactic| with_reducible refine k_tst ?_)
local macro_rules | `(tactic| walk_at "v_1") => `(tactic| with_reducible refine k_lstRef ?_)
local macro_rules | `(tactic| walk_at "v_1") => `(tactic| with_reducible refine k_lst ?_)
local macro_rules | `(tactic| walk_at "v_1") => `(tactic| with_reducible refine k_tup ?_)
local macro_rules | `(tactic| walk_at "v_1") => `(tactic| with_reducible refine k_one ?_)
local macro_rules | `(tactic| walk_at "v_1") => `(tactic| with_reducible refine k_callK ?_)
local macro_rules | `(tactic| walk_at "v_1") => `(tactic| with_reducible refine k_call ?_)
local macro_rules | `(tactic| walk_at "v_1") => `(tactic| with_reducible refine k_cons ?_)
local macro_rules | `(tactic| walk_at "v_1") => `(tactic| with_reducible refine k_nil ?_)
local macro_rules | `(tactic| walk_at "v_1") => `(tactic| with_reducible refine k_un ?_)
local macro_rules | `(tactic| walk_at "v_1") => `(tactic| with_reducible refine k_bin ?_)
local macro_rules | `(tactic| walk_at "v_1") => `(tactic| ((with_reducible refine' k_own ?ev ?_); (case ev => rfl)))
local macro_rules | `(tactic| walk_at "v_1") => `(tactic| ((with_reducible refine' k_var ?ev ?_); (case ev => rfl)))
local macro_rules | `(tactic| walk_at "v_1") => `(tactic| with_reducible refine k_c ?_)
local macro_rules | `(tactic| walk_at "v_1") => `(tactic| with_reducible refine g_drop ?_)
local macro_rules | `(tactic| walk_at "v_1") => `(tactic| with_reducible refine g_put ?_)
local macro_rules | `(tactic| walk_at "v_1") => `(tactic| with_reducible refine g_own ?_)
local macro_rules | `(tactic| walk_at "v_1") => `(tactic| with_reducible refine g_for ?_)
local macro_rules | `(tactic| walk_at "v_1") => `(tactic| with_reducible refine g_par ?_)
local macro_rules | `(tactic| walk_at "v_1") => `(tactic| with_reducible refine g_asg ?_)
local macro_rules | `(tactic| walk_at "v_1") => `(tactic| with_reducible refine g_next ?_)
local macro_rules | `(tactic| walk_at "v_1") => `(tactic| with_reducible refine g_ret ?_)
local macro_rules | `(tactic| walk_at "v_1") => `(tactic| with_reducible refine g_set ?_)
local macro_rules | `(tactic| walk_at "v_1") => `(tactic| with_reducible refine g_if ?_)
local macro_rules | `(tactic| walk_at "v_1") => `(tactic| ((with_reducible refine g_seq ?_); (try simp only [setAll, List.set_cons_zero, List.set_cons_succ, List.map_cons, List.map_nil, List.length_cons, List.length_nil, List.replicate_succ, List.replicate_zero, Nat.reduceAdd, Nat.reduceSub, List.cons_append, List.nil_append])))
local macro_rules | `(tactic| walk_at "v_1") => `(tactic| with_reducible refine x_callK ?_)
local macro_rules | `(tactic| walk_at "v_1") => `(tactic| with_reducible refine x_call ?_)
local macro_rules | `(tactic| walk_at "v_1") => `(tactic| with_reducible refine e_raise ?_)
local macro_rules | `(tactic| walk_at "v_1") => `(tactic| with_reducible refine e_own ?_)
local macro_rules | `(tactic| walk_at "v_1") => `(tactic| with_reducible refine e_for ?_)
local macro_rules | `(tactic| walk_at "v_1") => `(tactic| with_reducible refine e_par ?_)
local macro_rules | `(tactic| walk_at "v_1") => `(tactic| with_reducible refine e_asg ?_)
local macro_rules | `(tactic| walk_at "v_1") => `(tactic| with_reducible refine e_next ?_)
local macro_rules | `(tactic| walk_at "v_1") => `(tactic| with_reducible refine e_if ?_)
local macro_rules | `(tactic| walk_at "v_1") => `(tactic| with_reducible refine e_seq ?_)
section
set_option maxHeartbeats 1000000
open PySem L2 DL Co
end
end
section
set_option maxHeartbeats 1000000
/-! k15: the law's own judge of entries by their elders. -/

open PySem L2 DL Co


section
variable {C : Cs} {st : S} {Q : D → S → Prop}
/-! apart, across -/
end
end
section
set_option maxHeartbeats 1000000
/-! k15: the law's own judge of entries by their elders: the rules. -/

open PySem L2 DL Co

local macro_rules | `(tactic| walk_at "v") => `(tactic| repeat walk_at "v_1")
local macro_rules | `(tactic| walk_at "v_1") => `(tactic| with_reducible refine ⟨_, rfl, ?_⟩)
local macro_rules | `(tactic| walk_at "v_1") => `(tactic| with_reducible refine k_ninS ?_)
local macro_rules | `(tactic| walk_at "v_1") => `(tactic| with_reducible refine k_inS ?_)
local macro_rules | `(tactic| walk_at "v_1") => `(tactic| with_reducible refine k_ninT ?_)
local macro_rules | `(tactic| walk_at "v_1") => `(tactic| with_reducible refine k_inT ?_)
local macro_rules | `(tactic| walk_at "v_1") => `(tactic| with_reducible refine o_lenS ?_)
local macro_rules | `(tactic| walk_at "v_1") => `(tactic| with_reducible refine en_ix2 ?_)
local macro_rules | `(tactic| walk_at "v_1") => `(tactic| with_reducible refine en_ix1 ?_)
local macro_rules | `(tactic| walk_at "v_1") => `(tactic| with_reducible refine en_ix0 ?_)
local macro_rules | `(tactic| walk_at "v_1") => `(tactic| with_reducible refine cs_ix2 ?_)
local macro_rules | `(tactic| walk_at "v_1") => `(tactic| with_reducible refine cs_ix1 ?_)
local macro_rules | `(tactic| walk_at "v_1") => `(tactic| with_reducible refine cs_ix0 ?_)
local macro_rules | `(tactic| walk_at "v_1") => `(tactic| with_reducible refine fd_ix1 ?_)
local macro_rules | `(tactic| walk_at "v_1") => `(tactic| with_reducible refine fd_ix0 ?_)
local macro_rules | `(tactic| walk_at "v_1") => `(tactic| with_reducible refine wd_ix1 ?_)
local macro_rules | `(tactic| walk_at "v_1") => `(tactic| with_reducible refine wd_ix0 ?_)
local macro_rules | `(tactic| walk_at "v_1") => `(tactic| with_reducible refine lot_ix1 ?_)
local macro_rules | `(tactic| walk_at "v_1") => `(tactic| with_reducible refine bef_ix2 ?_)
local macro_rules | `(tactic| walk_at "v_1") => `(tactic| with_reducible refine bef_ix1 ?_)
local macro_rules | `(tactic| walk_at "v_1") => `(tactic| with_reducible refine sg_ix0 ?_)
local macro_rules | `(tactic| walk_at "v_1") => `(tactic| ((with_reducible refine' yes ?dd ?_); (case dd => decide)))
local macro_rules | `(tactic| walk_at "v_1") => `(tactic| ((with_reducible refine' no ?dd ?_); (case dd => decide)))
local macro_rules | `(tactic| walk_at "v_1") => `(tactic| ((with_reducible refine' ixL_ok ?ix ?_); (case ix => first | rfl | exact atI_z _ _)))
local macro_rules | `(tactic| walk_at "v_1") => `(tactic| ((with_reducible refine' ixT_ok ?ix ?_); (case ix => first | rfl | exact atI_z _ _)))
local macro_rules | `(tactic| walk_at "v_1") => `(tactic| with_reducible refine cNF ?_)
local macro_rules | `(tactic| walk_at "v_1") => `(tactic| with_reducible refine cF ?_)
local macro_rules | `(tactic| walk_at "v_1") => `(tactic| with_reducible refine cT ?_)
local macro_rules | `(tactic| walk_at "v_1") => `(tactic| with_reducible refine cNT ?_)
local macro_rules | `(tactic| walk_at "v_1") => `(tactic| ((with_reducible refine' len2 ?l1 ?_); (case l1 => rfl)))
local macro_rules | `(tactic| walk_at "v_1") => `(tactic| ((with_reducible refine' len3 ?l1 ?l2 ?_); (case l1 => rfl); (case l2 => rfl)))
local macro_rules | `(tactic| walk_at "v_1") => `(tactic| ((with_reducible refine' small_and ?l1 ?_); (case l1 => first | (simp; done) | (simp only [List.length_map]; omega))))
local macro_rules | `(tactic| walk_at "v_1") => `(tactic| with_reducible refine k_lcRef ?_)
local macro_rules | `(tactic| walk_at "v_1") => `(tactic| with_reducible refine o_max2 ?_)
local macro_rules | `(tactic| walk_at "v_1") => `(tactic| with_reducible refine o_min2 ?_)
local macro_rules | `(tactic| walk_at "v_1") => `(tactic| with_reducible refine o_revT ?_)
local macro_rules | `(tactic| walk_at "v_1") => `(tactic| ((with_reducible refine' o_ixR ?ev ?hv ?_); (case ev => first | exact st_at _ _ _ | rfl); (case hv => rfl)))
local macro_rules | `(tactic| walk_at "v_1") => `(tactic| ((with_reducible refine o_isiT ?ty ?nm ?_); (case ty => first | rfl | assumption); (case nm => decide)))
local macro_rules | `(tactic| walk_at "v_1") => `(tactic| ((with_reducible refine o_isi ?ty ?nm ?_); (case ty => first | rfl | assumption); (case nm => rfl)))
local macro_rules | `(tactic| walk_at "v_1") => `(tactic| with_reducible refine o_inS ?_)
local macro_rules | `(tactic| walk_at "v_1") => `(tactic| with_reducible refine o_tstN ?_)
local macro_rules | `(tactic| walk_at "v_1") => `(tactic| with_reducible refine o_tstI ?_)
local macro_rules | `(tactic| walk_at "v_1") => `(tactic| with_reducible refine o_tstT ?_)
local macro_rules | `(tactic| walk_at "v_1") => `(tactic| with_reducible refine o_tstL ?_)
local macro_rules | `(tactic| walk_at "v_1") => `(tactic| with_reducible refine o_tstB ?_)
local macro_rules | `(tactic| walk_at "v_1") => `(tactic| with_reducible refine o_zipT ?_)
local macro_rules | `(tactic| walk_at "v_1") => `(tactic| with_reducible refine o_zipL ?_)
local macro_rules | `(tactic| walk_at "v_1") => `(tactic| with_reducible refine o_itemsS ?_)
local macro_rules | `(tactic| walk_at "v_1") => `(tactic| with_reducible refine o_itemsT ?_)
local macro_rules | `(tactic| walk_at "v_1") => `(tactic| with_reducible refine o_itemsL ?_)
local macro_rules | `(tactic| walk_at "v_1") => `(tactic| with_reducible refine o_slScr ?_)
local macro_rules | `(tactic| walk_at "v_1") => `(tactic| with_reducible refine o_slT ?_)
local macro_rules | `(tactic| walk_at "v_1") => `(tactic| with_reducible refine o_slL ?_)
local macro_rules | `(tactic| walk_at "v_1") => `(tactic| with_reducible refine o_revL ?_)
local macro_rules | `(tactic| walk_at "v_1") => `(tactic| with_reducible refine o_lstT ?_)
local macro_rules | `(tactic| walk_at "v_1") => `(tactic| with_reducible refine o_lstL ?_)
local macro_rules | `(tactic| walk_at "v_1") => `(tactic| with_reducible refine o_tupT ?_)
local macro_rules | `(tactic| walk_at "v_1") => `(tactic| with_reducible refine o_tupL ?_)
local macro_rules | `(tactic| walk_at "v_1") => `(tactic| with_reducible refine o_neg ?_)
local macro_rules | `(tactic| walk_at "v_1") => `(tactic| with_reducible refine o_abs ?_)
local macro_rules | `(tactic| walk_at "v_1") => `(tactic| with_reducible refine o_intF ?_)
local macro_rules | `(tactic| walk_at "v_1") => `(tactic| with_reducible refine o_lenT ?_)
local macro_rules | `(tactic| walk_at "v_1") => `(tactic| with_reducible refine o_lenL ?_)
local macro_rules | `(tactic| walk_at "v_1") => `(tactic| with_reducible refine o_isNN ?_)
local macro_rules | `(tactic| walk_at "v_1") => `(tactic| with_reducible refine o_isN ?_)
local macro_rules | `(tactic| walk_at "v_1") => `(tactic| with_reducible refine o_neB ?_)
local macro_rules | `(tactic| walk_at "v_1") => `(tactic| with_reducible refine o_eqB ?_)
local macro_rules | `(tactic| walk_at "v_1") => `(tactic| with_reducible refine o_neS ?_)
local macro_rules | `(tactic| walk_at "v_1") => `(tactic| with_reducible refine o_eqS ?_)
local macro_rules | `(tactic| walk_at "v_1") => `(tactic| with_reducible refine o_leS ?_)
local macro_rules | `(tactic| walk_at "v_1") => `(tactic| with_reducible refine o_ltS ?_)
local macro_rules | `(tactic| walk_at "v_1") => `(tactic| with_reducible refine o_neI ?_)
local macro_rules | `(tactic| walk_at "v_1") => `(tactic| with_reducible refine o_eqI ?_)
local macro_rules | `(tactic| walk_at "v_1") => `(tactic| with_reducible refine o_geI ?_)
local macro_rules | `(tactic| walk_at "v_1") => `(tactic| with_reducible refine o_gtI ?_)
local macro_rules | `(tactic| walk_at "v_1") => `(tactic| with_reducible refine o_leI ?_)
local macro_rules | `(tactic| walk_at "v_1") => `(tactic| with_reducible refine o_ltI ?_)
local macro_rules | `(tactic| walk_at "v_1") => `(tactic| with_reducible refine o_subI ?_)
local macro_rules | `(tactic| walk_at "v_1") => `(tactic| with_reducible refine o_addI ?_)
local macro_rules | `(tactic| walk_at "v_1") => `(tactic| with_reducible refine k_lc ?_)
local macro_rules | `(tactic| walk_at "v_1") => `(tactic| with_reducible refine k_zip ?_)
local macro_rules | `(tactic| walk_at "v_1") => `(tactic| with_reducible refine k_range2 ?_)
local macro_rules | `(tactic| walk_at "v_1") => `(tactic| with_reducible refine k_range ?_)
local macro_rules | `(tactic| walk_at "v_1") => `(tactic| with_reducible refine k_items ?_)
local macro_rules | `(tactic| walk_at "v_1") => `(tactic| with_reducible refine k_join ?_)
local macro_rules | `(tactic| walk_at "v_1") => `(tactic| with_reducible refine k_sl ?_)
local macro_rules | `(tactic| walk_at "v_1") => `(tactic| with_reducible refine k_part ?_)
local macro_rules | `(tactic| walk_at "v_1") => `(tactic| with_reducible refine k_noP ?_)
local macro_rules | `(tactic| walk_at "v_1") => `(tactic| with_reducible refine k_chain ?_)
local macro_rules | `(tactic| walk_at "v_1") => `(tactic| with_reducible refine k_if ?_)
local macro_rules | `(tactic| walk_at "v_1") => `(tactic| with_reducible refine k_not ?_)
local macro_rules | `(tactic| walk_at "v_1") => `(tactic| with_reducible refine k_or ?_)
local macro_rules | `(tactic| walk_at "v_1") => `(tactic| with_reducible refine k_and ?_)
local macro_rules | `(tactic| walk_at "v_1") => `(tactic| with_reducible refine k_tnot ?_)
local macro_rules | `(tactic| walk_at "v_1") => `(tactic| with_reducible refine k_tor ?_)
local macro_rules | `(tactic| walk_at "v_1") => `(tactic| with_reducible refine k_tand ?_)
local macro_rules | `(tactic| walk_at "v_1") => `(tactic| with_reducible refine k_tb ?_)
local macro_rules | `(tactic| walk_at "v_1") => `(tactic| with_reducible refine k_tst ?_)
local macro_rules | `(tactic| walk_at "v_1") => `(tactic| with_reducible refine k_lstRef ?_)
local macro_rules | `(tactic| walk_at "v_1") => `(tactic| with_reducible refine k_lst ?_)
local macro_rules | `(tactic| walk_at "v_1") => `(tactic| with_reducible refine k_tup ?_)
local macro_rules | `(tactic| walk_at "v_1") => `(tactic| with_reducible refine k_one ?_)
local macro_rules | `(tactic| walk_at "v_1") => `(tactic| with_reducible refine k_callK ?_)
local macro_rules | `(tactic| walk_at "v_1") => `(tactic| with_reducible refine k_call ?_)
local macro_rules | `(tactic| walk_at "v_1") => `(tactic| with_reducible refine k_cons ?_)
local macro_rules | `(tactic| walk_at "v_1") => `(tactic| with_reducible refine k_nil ?_)
local macro_rules | `(tactic| walk_at "v_1") => `(tactic| with_reducible refine k_un ?_)
local macro_rules | `(tactic| walk_at "v_1") => `(tactic| with_reducible refine k_bin ?_)
local macro_rules | `(tactic| walk_at "v_1") => `(tactic| ((with_reducible refine' k_own ?ev ?_); (case ev => rfl)))
local macro_rules | `(tactic| walk_at "v_1") => `(tactic| ((with_reducible refine' k_var ?ev ?_); (case ev => rfl)))
local macro_rules | `(tactic| walk_at "v_1") => `(tactic| with_reducible refine k_c ?_)
local macro_rules | `(tactic| walk_at "v_1") => `(tactic| with_reducible refine g_drop ?_)
local macro_rules | `(tactic| walk_at "v_1") => `(tactic| with_reducible refine g_put ?_)
local macro_rules | `(tactic| walk_at "v_1") => `(tactic| with_reducible refine g_own ?_)
local macro_rules | `(tactic| walk_at "v_1") => `(tactic| with_reducible refine g_for ?_)
local macro_rules | `(tactic| walk_at "v_1") => `(tactic| with_reducible refine g_par ?_)
local macro_rules | `(tactic| walk_at "v_1") => `(tactic| with_reducible refine g_asg ?_)
local macro_rules | `(tactic| walk_at "v_1") => `(tactic| with_reducible refine g_next ?_)
local macro_rules | `(tactic| walk_at "v_1") => `(tactic| with_reducible refine g_ret ?_)
local macro_rules | `(tactic| walk_at "v_1") => `(tactic| with_reducible refine g_set ?_)
local macro_rules | `(tactic| walk_at "v_1") => `(tactic| with_reducible refine g_if ?_)
local macro_rules | `(tactic| walk_at "v_1") => `(tactic| with_reducible refine g_seq ?_)
local macro_rules | `(tactic| walk_at "v_1") => `(tactic| with_reducible refine x_callK ?_)
local macro_rules | `(tactic| walk_at "v_1") => `(tactic| with_reducible refine x_call ?_)
local macro_rules | `(tactic| walk_at "v_1") => `(tactic| with_reducible refine e_raise ?_)
local macro_rules | `(tactic| walk_at "v_1") => `(tactic| with_reducible refine e_own ?_)
local macro_rules | `(tactic| walk_at "v_1") => `(tactic| with_reducible refine e_for ?_)
local macro_rules | `(tactic| walk_at "v_1") => `(tactic| with_reducible refine e_par ?_)
local macro_rules | `(tactic| walk_at "v_1") => `(tactic| with_reducible refine e_asg ?_)
local macro_rules | `(tactic| walk_at "v_1") => `(tactic| with_reducible refine e_next ?_)
local macro_rules | `(tactic| walk_at "v_1") => `(tactic| with_reducible refine e_if ?_)
local macro_rules | `(tactic| walk_at "v_1") => `(tactic| with_reducible refine e_seq ?_)


section
variable {C : Cs} {st : S} {Q : D → S → Prop}
def Rl.ix : Rl → List Nat
  | .single => [] | .all => [] | .word m => [] | .union i j => [i, j] | .common i j => [i, j] | .rest i j => [i, j] | .fact m => [] | .apart i j l => [i, j, l] | .across i j l => [i, j, l] | .chain i j => [i, j] | .bar i j l => [i, j, l] | .self i => [i]
end
end
section
set_option maxHeartbeats 1000000
/-! k15: the law's own judge of entries by their elders: rules over two lots. -/

open PySem L2 DL Co


section
variable {C : Cs} {st : S} {Q : D → S → Prop}
/-- a lot of the case -/
def LotC (C : Cs) (p : List Str) : Prop := Lot p ∧ ∀ x ∈ p, x ∈ C.F
theorem LotC.len {p : List Str} (hC : C.ok) (h : LotC C p) : p.length ≤ 60 := hC.len h.1 h.2
end
end
section
set_option maxHeartbeats 1000000
/-! k15: the law's own judge of an entry. -/

open PySem L2 DL Co


/-- the entries that are right -/
def rightB (C : Cs) (sh : List Sg) (d : D) : Bool := formB sh.length d && (match d with
  | .tup [a, .str x, .tup es] => rR C sh (rlOf x es) (sgOf a)
  | _ => false)
theorem rightB_ent {C : Cs} {sh : List Sg} {d : D} {s : Sg} {rl : Rl} (h : Ent sh.length d s rl) : rightB C sh d = rR C sh rl s := by
  have hf := h.form
  obtain ⟨rfl, _, _, _⟩ := h
  unfold rightB
  rw [hf]
  dsimp only
  rw [sgOf_d, rlOf_el]
  rfl
theorem faultF_cons {C : Cs} {n : Nat} {sh : List Sg} {d : D} {r : List D} (hp : pl n d = true) : faultF C sh (d :: r) = if rightB C sh d then faultF C (sh ++ [sgOf (fstD d)]) r else some sh.length := by
  cases hf : formB sh.length d with
  | false =>
    rw [faultF_no hf]
    unfold rightB
    rw [hf]
    rfl
  | true =>
    obtain ⟨s, rl, h⟩ := form_parse hf hp
    rw [faultF_ent h, rightB_ent h]
    obtain ⟨rfl, _, _, _⟩ := h
    show _ = if _ then faultF C (sh ++ [sgOf s.d]) r else _
    rw [sgOf_d]
section
variable {C : Cs} {st : S} {Q : D → S → Prop}
/-- the case, the statements that were shown -/
structure CaseOk (C : Cs) : Prop where
  c : C.ok
  wn : (C.W.map (·.1)).Nodup
  an : (C.A.map (·.1)).Nodup
  wl : C.W.length ≤ 1000
  al : C.A.length ≤ 1000
def ShOk (C : Cs) (sh : List Sg) : Prop := ∀ s ∈ sh, s.ok ∧ ∀ x ∈ s.ls, x ∈ C.F
theorem ShOk.lot {sh : List Sg} (h : ShOk C sh) {i : Nat} (hi : i < sh.length) : (sh.getD i .nev).ok ∧ ∀ p, sh.getD i .nev = .lot p → LotC C p := by
  have := h _ (getD_mem hi)
  refine ⟨this.1, fun p e => ?_⟩
  rw [e] at this
  exact ⟨this.1.1, this.2⟩
end
end
section
set_option maxHeartbeats 1000000
/-! k15: right entries by rules over two lots. -/

open PySem L2 DL Co


/-- rows that were found right: a list, or one of the store -/
structure Rows (C : Cs) (tl : S × S) (A : D) (es : List D) (sh : List Sg) : Prop where
  at_ : A = .lst es ∨ ∃ j, A = .ref (tl.1.length + 1 + j) ∧ tl.2[j]? = some (.lst es)
  len : es.length = sh.length
  hd : ∀ i, i < sh.length → ∃ r, es[i]? = some (.tup ((sh.getD i .nev).d :: r))
  ok : ShOk C sh
  l : es.length ≤ 1000
section
variable {C : Cs} {tl : S × S} {st : S} {Q : D → S → Prop} {A : D} {es : List D} {sh : List Sg}
theorem St.get (h : St tl st) {j : Nat} {o : MO} (e : tl.2[j]? = some o) : st[tl.1.length + 1 + j]? = some o := by
  obtain ⟨c, i, r, m, n, rfl, _, _⟩ := h
  rw [List.getElem?_append_right (by omega), show tl.1.length + 1 + j - tl.1.length = j + 1 by omega]
  exact e
/-- an entry by a rule that is right behind others -/
def REnt (C : Cs) (sh : List Sg) (d : D) : Prop := ∃ s rl, d = en s rl ∧ s.ok ∧ rl.bel sh.length ∧ rl.mk_ ∧ rR C sh rl s = true
end
end
section
set_option maxHeartbeats 1000000
/-! k15: right entries by rules over a before. -/

open PySem L2 DL Co


section
variable {C : Cs} {tl : S × S} {st : S} {Q : D → S → Prop} {A : D} {es : List D} {sh : List Sg}
end
end
section
set_option maxHeartbeats 1000000
/-! k15: a drawn right entry. -/

open PySem L2 DL Co


/-- an entry by a mark that is right -/
def MEnt (C : Cs) (d : D) : Prop := ∃ s rl, d = en s rl ∧ s.ok ∧ rl.mk_ ∧ isMk rl.name = true ∧ ∀ sh, rl.bel sh.length ∧ rR C sh rl s = true
theorem MEnt.r {C : Cs} {d : D} (h : MEnt C d) (sh : List Sg) : REnt C sh d := by
  obtain ⟨s, rl, e, h1, h2, _, h3⟩ := h
  exact ⟨s, rl, e, h1, (h3 sh).1, h2, (h3 sh).2⟩
/-- a case with two finds at least, a word and a fact -/
structure CaseG (C : Cs) : Prop extends CaseOk C where
  f2 : 2 ≤ C.F.length
  w1 : 0 < C.W.length
  a1 : 0 < C.A.length
  wm : ∀ w ∈ C.W, Nm w.1
  am : ∀ w ∈ C.A, Nm w.1
  ap : ∀ a ∈ C.A, ∀ x ∈ a.2.ns, x ∈ C.F
section
variable {C : Cs} {tl : S × S} {st : S} {Q : D → S → Prop} {A : D} {es : List D} {sh : List Sg}
theorem others (hC : CaseG C) (u : Str) : 0 < (C.F.filter fun x => !decide (x = u)).length ∧ ∀ y ∈ C.F.filter (fun x => !decide (x = u)), y ∈ C.F ∧ ¬ y = u := by
  constructor
  · have f2 := hC.f2
    have nd := hC.c.f.nd
    match hF : C.F, f2, nd with
    | a :: b :: r, _, nd =>
      rw [List.nodup_cons] at nd
      by_cases e : a = u
      · have hb : ¬ b = u := fun z => nd.1 (by rw [e, ← z]; exact List.mem_cons_self)
        exact List.length_pos_of_mem (List.mem_filter.mpr ⟨List.mem_cons_of_mem _ List.mem_cons_self, by rw [decide_eq_false hb]; rfl⟩)
      · exact List.length_pos_of_mem (List.mem_filter.mpr ⟨List.mem_cons_self, by rw [decide_eq_false e]; rfl⟩)
  · intro y hy
    rw [List.mem_filter, Bool.not_eq_true', decide_eq_false_iff_not] at hy
    exact hy
end
end
section
set_option maxHeartbeats 1000000
/-! k15: right derivations. -/

open PySem L2 DL Co


def shown (es : List D) : List Sg := es.map fun d => sgOf (fstD d)
theorem faultF_app {C : Cs} {n : Nat} : ∀ {es : List D} {sh : List Sg} {r : List D}, (∀ d ∈ es, pl n d = true) → faultF C sh es = none → faultF C sh (es ++ r) = faultF C (sh ++ shown es) r
  | [], sh, r, _, _ => by rw [show shown [] = [] from rfl, List.append_nil, List.nil_append]
  | d :: es, sh, r, hp, hf => by
    rw [faultF_cons (hp d List.mem_cons_self)] at hf
    rw [List.cons_append, faultF_cons (hp d List.mem_cons_self)]
    cases hr : rightB C sh d with
    | false => rw [hr] at hf; cases hf
    | true =>
      rw [hr, if_pos rfl] at hf
      rw [if_pos rfl, faultF_app (fun d hd => hp d (List.mem_cons_of_mem _ hd)) hf]
      rw [show shown (d :: es) = sgOf (fstD d) :: shown es from rfl, List.append_assoc]
      rfl
/-- a derivation of right entries -/
structure Good (C : Cs) (es : List D) : Prop where
  p : ∀ d ∈ es, pl 4 d = true
  f : faultF C [] es = none
theorem good_all {C : Cs} (hC : C.ok) {n : Nat} : ∀ {es : List D} {sh : List Sg}, (∀ d ∈ es, pl n d = true) → ShOk C sh → faultF C sh es = none → ShOk C (sh ++ shown es) ∧ ∀ d ∈ es, ∃ s rl, d = en s rl
  | [], sh, _, hs, _ => ⟨by rw [show shown [] = [] from rfl, List.append_nil]; exact hs, fun _ z => nomatch z⟩
  | d :: es, sh, hp, hs, hf => by
    have px := hp d List.mem_cons_self
    rw [faultF_cons px] at hf
    cases hr : rightB C sh d with
    | false => rw [hr] at hf; cases hf
    | true =>
      rw [hr, if_pos rfl] at hf
      have hform : formB sh.length d = true := by
        unfold rightB at hr
        rw [Bool.and_eq_true] at hr
        exact hr.1
      obtain ⟨s, rl, hent⟩ := form_parse hform px
      rw [rightB_ent hent] at hr
      have he := hent.e
      have e1 : sgOf (fstD d) = s := by rw [he]; exact sgOf_d s
      rw [e1] at hf
      have hS : Shw C [.lst (sh.map Sg.d)] 0 sh := ⟨hC, rfl, hs⟩
      have hs2 : ShOk C (sh ++ [s]) := fun z hz => by
        rcases List.mem_append.mp hz with hz | hz
        · exact hs z hz
        · rw [List.mem_singleton.mp hz]
          exact ⟨hent.s, rR_sub hS hent.b hr⟩
      obtain ⟨h1, h2⟩ := good_all hC (fun d hd => hp d (List.mem_cons_of_mem _ hd)) hs2 hf
      refine ⟨?_, fun z hz => ?_⟩
      · rw [show shown (d :: es) = sgOf (fstD d) :: shown es from rfl, e1]
        rw [List.append_assoc] at h1
        exact h1
      · rcases List.mem_cons.mp hz with rfl | hz
        · exact ⟨s, rl, he⟩
        · exact h2 z hz
theorem Good.sh {C : Cs} {es : List D} (h : Good C es) (hC : C.ok) : ShOk C (shown es) ∧ ∀ d ∈ es, ∃ s rl, d = en s rl := by
  have := good_all hC h.p (sh := []) (fun _ z => nomatch z) h.f
  exact this
theorem shown_len (es : List D) : (shown es).length = es.length := List.length_map _
theorem Good.hd {C : Cs} {es : List D} (h : Good C es) (hC : C.ok) : ∀ i, i < (shown es).length → ∃ r, es[i]? = some (.tup (((shown es).getD i .nev).d :: r)) := fun i hi => by
  rw [shown_len] at hi
  obtain ⟨s, rl, e⟩ := (h.sh hC).2 es[i] (List.getElem_mem hi)
  refine ⟨[.str rl.name, .tup rl.el], ?_⟩
  rw [List.getElem?_eq_getElem hi, e]
  have : (shown es).getD i .nev = s := by
    unfold shown
    rw [List.getD_eq_getElem?_getD, List.getElem?_map, List.getElem?_eq_getElem hi, e]
    exact sgOf_d s
  rw [this]
  rfl
theorem Good.snoc {C : Cs} {es : List D} (h : Good C es) {d : D} (hd : REnt C (shown es) d) : Good C (es ++ [d]) := by
  obtain ⟨s, rl, rfl, hs, hb, hm, hr⟩ := hd
  refine ⟨fun z hz => ?_, ?_⟩
  · rcases List.mem_append.mp hz with hz | hz
    · exact h.p z hz
    · rw [List.mem_singleton.mp hz]
      exact en_pl hs hm
  · rw [faultF_app h.p h.f, List.nil_append]
    unfold en
    rw [faultF_ent ⟨rfl, hs, hb, hm⟩, if_pos hr]
    rfl
mutual
theorem pl_nr (k : Nat) : ∀ {n : Nat} {d : D}, pl n d = true → nrD k d = true
  | _, .non, _ => rfl
  | _, .bl _, _ => rfl
  | _, .int _, _ => rfl
  | _, .str _, _ => rfl
  | 0, .lst ds, h => by cases h
  | n + 1, .lst ds, h => by
    unfold nrD
    exact pl_nrs k (pl_lst.mp h).2
  | 0, .tup ds, h => by cases h
  | n + 1, .tup ds, h => by
    unfold nrD
    exact pl_nrs k (pl_tup.mp h).2
  | _, .pr _ _, h => by rw [pl_pr] at h; cases h
  | _, .ref _, h => by rw [pl_ref] at h; cases h
  | _, .ty _, _ => rfl
  | _, .cls _, _ => rfl
  | _, .scr _, _ => rfl
  | _, .dic _ _, h => by rw [pl_dic] at h; cases h
  | _, .ob _ _ _, h => by rw [pl_ob] at h; cases h
theorem pl_nrs (k : Nat) : ∀ {n : Nat} {ds : List D}, (∀ d ∈ ds, pl n d = true) → nrs k ds = true
  | _, [], _ => rfl
  | n, d :: ds, h => by
    unfold nrs
    rw [pl_nr k (h d List.mem_cons_self), pl_nrs k fun z hz => h z (List.mem_cons_of_mem _ hz)]
    rfl
end
section
variable {C : Cs} {tl : S × S} {st : S} {Q : D → S → Prop}
theorem St.len (h : St tl st) : st.length = tl.1.length + 1 + tl.2.length := by
  obtain ⟨c, i, r, m, n, rfl, _, _⟩ := h
  rw [List.length_append, List.length_cons]
  omega
theorem St.push (h : St tl st) (o : MO) : St (tl.1, tl.2 ++ [o]) (st ++ [o]) := by
  obtain ⟨c, i, r, m, n, rfl, h1, h2⟩ := h
  exact ⟨c, i, r, m, n, by rw [List.append_assoc]; rfl, h1, h2⟩
end
end
section
set_option maxHeartbeats 1000000
/-! k15, k16: a bent entry. -/

open PySem L2 DL Co


section
variable {C : Cs} {tl : S × S} {st : S} {Q : D → S → Prop}
end
end
section
set_option maxHeartbeats 1000000
/-! k15, k16: a drawn case. -/

open PySem L2 DL Co


theorem paired_map {α : Type} {g : α → D} {R : D → α → Prop} : ∀ {ds ys : List D}, Paired (fun d y => ∃ a, y = g a ∧ R d a) ds ys → ∃ as : List α, ys = as.map g ∧ Paired R ds as
  | _, _, .nil => ⟨[], rfl, .nil⟩
  | _, _, .cons h p => by
    obtain ⟨a, rfl, hr⟩ := h
    obtain ⟨as, rfl, p2⟩ := paired_map p
    exact ⟨a :: as, rfl, .cons hr p2⟩
theorem paired_all {α : Type} {R : D → α → Prop} {P : α → Prop} (h : ∀ d a, R d a → P a) : ∀ {ds : List D} {as : List α}, Paired R ds as → ∀ a ∈ as, P a
  | _, _, .nil => fun _ z => nomatch z
  | _, _, .cons r p => fun a ha => by
    rcases List.mem_cons.mp ha with rfl | ha
    · exact h _ _ r
    · exact paired_all h p a ha
section
variable {tl : S × S} {st : S} {Q : D → S → Prop}
end
end
section
set_option maxHeartbeats 1000000
/-! k09: the errors of a list of finds. -/

open PySem L2 DL Co

/-- is a find at a place wrong -/
def finK (ds : List D) (k : Nat) : Bool := !isName (ds.getD k .non) || (ds.take k).any fun z => eqd z (ds.getD k .non)
def finF (ds : List D) : Option Nat := (List.range ds.length).find? (finK ds)
/-- the error of a value in the place of a list of finds -/
def finE (d : D) : Option Er := match itemsOf d with
  | none => some ⟨4, "InvalidFind", "at", .int (-1)⟩
  | some ds => if ds = [] then some ⟨4, "InvalidFind", "at", .int (-1)⟩ else if 12 < ds.length then some ⟨19, "TooMany", "most", .int 12⟩ else match finF ds with
    | some k => some ⟨4, "InvalidFind", "at", .int (k : Nat)⟩
    | none => none
theorem finE_in {A : D} {ds : List D} (hi : itemsOf A = some ds) (h0 : ds ≠ []) (h12 : ¬ 12 < ds.length) : finE A = (finF ds).map fun k => ⟨4, "InvalidFind", "at", .int (k : Nat)⟩ := by
  unfold finE
  rw [hi]
  dsimp only
  rw [if_neg h0, if_neg h12]
  cases finF ds <;> rfl
def wrapD (A : D) (xs : List D) : D := match A with
  | .tup _ => .tup xs
  | _ => .lst xs
/-- names stand behind flat things alone -/
def tupOK : D → Bool
  | .tup ds => (List.range ds.length).all fun k => !isName (ds.getD k .non) || (ds.take k).all flatD
  | _ => true
section
variable {A : D} {ds : List D} {st : S} {Q : D → S → Prop}
theorem a_cut {k : Nat} (hA : itemsOf A = some ds) (q : Q (wrapD A (ds.take k)) st) : Ok (slD A none (some (k : Int)) st) Q := by
  rcases items_some hA with rfl | rfl
  · refine o_slL ?_
    rw [cutL_hi]
    exact q
  · refine o_slT ?_
    rw [cutL_hi]
    exact q
theorem a_inW {n k : Nat} {x : Str} (hn : n ≤ 60) (hA : itemsOf A = some ds) (hp : pl n A = true) (hx : plS x = true) (hf : (∃ es, A = .tup es) → (ds.take k).all flatD = true) (q : Q (.bl ((ds.take k).any fun z => eqd z (.str x))) st) : Ok (inD (.str x) (wrapD A (ds.take k)) st) Q := by
  obtain ⟨hl, hd⟩ := items_pl hp hA
  rcases items_some hA with rfl | rfl
  · refine o_inL ?_ (fun _ z => nomatch z) q
    have e : okd (.lst (ds.take k)) = true := pl_okd (n := n + 1) (pl_lst.mpr ⟨by rw [List.length_take]; omega, fun d hm => hd d (List.mem_of_mem_take hm)⟩) (by omega)
    rw [e, pl_okd (n := n) (pl_s hx) (by omega)]
    simp
  · refine o_inT ?_ q
    rw [hf ⟨_, rfl⟩]
    rfl
end
theorem name_flat {d : D} (h : isName d = true) : flatD d = true := by
  obtain ⟨x, rfl⟩ := isName_str h
  rfl
theorem getD_range {ds : List D} {p : Nat → Bool} {k : Nat} (hk : k < ds.length) (ha : ∀ j < k, p j = false) (hp : p k = true) : (List.range ds.length).find? p = some k := by
  rw [List.find?_range_eq_some]
  exact ⟨hp, List.mem_range.mpr hk, fun j hj => by rw [ha j hj]; rfl⟩
theorem enum_drop {ds : List D} {k : Nat} (hk : k < ds.length) : ((List.range ds.length).map fun j => D.pr (.int (j : Nat)) (ds.getD j .non)).drop k = .pr (.int (k : Nat)) ds[k] :: ((List.range ds.length).map fun j => D.pr (.int (j : Nat)) (ds.getD j .non)).drop (k + 1) := by
  have h1 : k < ((List.range ds.length).map fun j => D.pr (.int (j : Nat)) (ds.getD j .non)).length := by rw [List.length_map, List.length_range]; exact hk
  rw [List.drop_eq_getElem_cons h1]
  congr 1
  rw [List.getElem_map, List.getElem_range, getD_at hk]
theorem check_findsE {n : Nat} {A : D} (hn : n ≤ 60) (hA : pl n A = true) (st : S) : OkE (sem_check_finds [A] st) (fun r s => finE A = none ∧ r = .non ∧ s = st) (fun x s => (∃ e, finE A = some e ∧ x = e.x) ∧ s = st) := by
  refine oke_sem rfl ?_
  unfold den_check_finds
  have ht := pl_ty_ok hA
  walk_at "u"
  rw [items_lt]
  cases hi : itemsOf A with
  | none =>
    have ef : finE A = some ⟨4, "InvalidFind", "at", .int (-1)⟩ := by unfold finE; rw [hi]
    refine yes rfl ?_
    walk_at "u"
    exact ⟨rfl, _, rfl, ⟨_, ef, rfl⟩, rfl⟩
  | some ds =>
    obtain ⟨hl, hp⟩ := items_pl hA hi
    refine no rfl ?_
    walk_at "u"
    refine a_len hi ?_
    walk_at "u"
    by_cases h0 : ds = []
    · have ef : finE A = some ⟨4, "InvalidFind", "at", .int (-1)⟩ := by unfold finE; rw [hi]; dsimp only; rw [if_pos h0]
      subst h0
      refine yes rfl ?_
      walk_at "u"
      exact ⟨rfl, _, rfl, ⟨_, ef, rfl⟩, rfl⟩
    have h0' : ds.length ≠ 0 := fun z => h0 (List.length_eq_zero_iff.mp z)
    refine no (decide_eq_false (by omega)) ?_
    walk_at "u"
    refine a_len hi ?_
    walk_at "u"
    by_cases h12 : 12 < ds.length
    · have ef : finE A = some ⟨19, "TooMany", "most", .int 12⟩ := by unfold finE; rw [hi]; dsimp only; rw [if_neg h0, if_pos h12]
      refine yes (decide_eq_true (by omega)) ?_
      walk_at "u"
      exact ⟨rfl, _, rfl, ⟨_, ef, rfl⟩, rfl⟩
    refine no (decide_eq_false (by omega)) ?_
    walk_at "u"
    refine k_enum ?_
    walk_at "u"
    refine a_enum hi ?_
    rw [enum_range]
    have ef := finE_in hi h0 h12
    refine goe_for (fun l ρ s => ∃ k a b, k ≤ ds.length ∧ l = ((List.range ds.length).map fun j => D.pr (.int (j : Nat)) (ds.getD j .non)).drop k ∧ (∀ j < k, finK ds j = false) ∧ ρ = [.sh A, a, b] ∧ s = st) ⟨0, _, _, Nat.zero_le _, rfl, fun _ z => (by omega), rfl, rfl⟩ ?_ ?_
    · rintro d l ρ s ⟨k, _, _, hk, hl2, hj, rfl, rfl⟩
      have hk2 : k < ds.length := by
        rcases Nat.lt_or_ge k ds.length with z | z
        · exact z
        · rw [List.drop_eq_nil_of_le (by rw [List.length_map, List.length_range]; exact z)] at hl2
          cases hl2
      rw [enum_drop hk2] at hl2
      injection hl2 with e1 e2
      subst e1 e2
      refine ⟨_, rfl, ?_⟩
      walk_at "u"
      refine ok_eq (is_name_eq (hp _ (List.getElem_mem hk2)) _) ?_
      walk_at "u"
      cases hm : isName ds[k] with
      | false =>
        refine yes rfl ?_
        have hb : finK ds k = true := by unfold finK; rw [getD_at hk2, hm]; rfl
        have ek : finF ds = some k := getD_range hk2 hj hb
        rw [ek] at ef
        walk_at "u"
        exact ⟨rfl, _, rfl, ⟨_, ef, rfl⟩, rfl⟩
      | true =>
        refine no rfl ?_
        walk_at "u"
        refine a_cut hi ?_
        walk_at "u"
        obtain ⟨x, hx⟩ := isName_str hm
        rw [hx]
        have hfl : (ds.take k).all flatD = true := by
          rw [List.all_eq_true]
          intro d hd
          obtain ⟨j, hj1, rfl⟩ := List.getElem_of_mem hd
          rw [List.length_take] at hj1
          rw [List.getElem_take]
          have := hj j (by omega)
          unfold finK at this
          rw [getD_at (by omega)] at this
          simp only [Bool.or_eq_false_iff, Bool.not_eq_false'] at this
          exact name_flat this.1
        refine a_inW (k := k) hn hi hA (by have := hp _ (List.getElem_mem hk2); rw [hx, pl_str] at this; exact this) (fun _ => hfl) ?_
        walk_at "u"
        cases hb : (ds.take k).any fun z => eqd z (.str x) with
        | true =>
          refine yes rfl ?_
          have hb : finK ds k = true := by unfold finK; rw [getD_at hk2, hx, hb]; simp
          have ek : finF ds = some k := getD_range hk2 hj hb
          rw [ek] at ef
          walk_at "u"
          exact ⟨rfl, _, rfl, ⟨_, ef, rfl⟩, rfl⟩
        | false =>
          refine no rfl ?_
          have hb : finK ds k = false := by unfold finK; rw [getD_at hk2, hm, hx, hb]; rfl
          walk_at "u"
          refine ⟨k + 1, _, _, hk2, rfl, fun j hj2 => ?_, rfl, rfl⟩
          rcases Nat.lt_or_ge j k with z | z
          · exact hj j z
          · obtain rfl : j = k := by omega
            exact hb
    · rintro ρ s ⟨k, _, _, hk, hl2, hj, rfl, rfl⟩
      have hk2 : ds.length ≤ k := by
        rcases Nat.lt_or_ge k ds.length with z | z
        · rw [enum_drop z] at hl2
          cases hl2
        · exact z
      have en : finF ds = none := List.find?_eq_none.mpr fun j hj2 => by
        rw [hj j (by have := List.mem_range.mp hj2; omega)]
        decide
      rw [en] at ef
      exact ⟨ef, rfl, rfl⟩
end
section
set_option maxHeartbeats 1000000
/-! k09: the law's look at finds; the errors of a list of words. -/

open PySem L2 DL Co

def due9 : Option Er → D
  | none => .tup []
  | some e => e.due
theorem finds_due_ok {n : Nat} {A : D} {Q : D → S → Prop} (hn : n ≤ 60) (hA : pl n A = true) (hT : tupOK A = true) {st : S} (q : Q (due9 (finE A)) st) : Ok (sem__law_finds_due [A] st) Q := by
  refine ok_sem rfl ?_
  unfold den__law_finds_due
  have ht := pl_ty_ok hA
  walk_at "u"
  rw [items_lt]
  cases hi : itemsOf A with
  | none =>
    have ef : finE A = some ⟨4, "InvalidFind", "at", .int (-1)⟩ := by unfold finE; rw [hi]
    rw [ef] at q
    refine yes rfl ?_
    walk_at "u"
    exact q
  | some ds =>
    obtain ⟨hl, hp⟩ := items_pl hA hi
    refine no rfl ?_
    walk_at "u"
    refine a_len hi ?_
    walk_at "u"
    by_cases h0 : ds = []
    · have ef : finE A = some ⟨4, "InvalidFind", "at", .int (-1)⟩ := by unfold finE; rw [hi]; dsimp only; rw [if_pos h0]
      rw [ef] at q
      subst h0
      refine yes rfl ?_
      walk_at "u"
      exact q
    have h0' : ds.length ≠ 0 := fun z => h0 (List.length_eq_zero_iff.mp z)
    refine no (decide_eq_false (by omega)) ?_
    walk_at "u"
    refine a_len hi ?_
    walk_at "u"
    by_cases h12 : 12 < ds.length
    · have ef : finE A = some ⟨19, "TooMany", "most", .int 12⟩ := by unfold finE; rw [hi]; dsimp only; rw [if_neg h0, if_pos h12]
      rw [ef] at q
      refine yes (decide_eq_true (by omega)) ?_
      walk_at "u"
      exact q
    refine no (decide_eq_false (by omega)) ?_
    walk_at "u"
    refine a_len hi ?_
    walk_at "u"
    refine range1_ok (by omega) (by omega) ?_
    rw [Int.toNat_natCast]
    refine ⟨small (by rw [List.length_map, List.length_range]; omega), ?_⟩
    have ef := finE_in hi h0 h12
    refine ok_eq (comp_rng (finK ds) (fun (k : Nat) => .int k) fun k hk => ⟨?_, fun _ => rfl⟩) ?_
    · refine eq_of (k_tor (k_tnot (k_tst (k_call (k_cons (k_bin (k_var rfl (k_var rfl (a_ix hi hk (k_nil ?_))))))))))
      refine ok_eq (law_is_name_eq (hp _ (List.getElem_mem hk)) st) ?_
      walk_at "u"
      unfold finK
      rw [getD_at hk]
      cases hm : isName ds[k] with
      | false => exact ⟨fun _ => ⟨rfl, rfl⟩, fun z => nomatch z⟩
      | true =>
        refine ⟨(fun z => nomatch z), fun _ => ?_⟩
        obtain ⟨x, hx⟩ := isName_str hm
        refine k_tb (k_bin (k_bin (k_var rfl (k_var rfl (a_ix hi hk (k_sl (k_var rfl (k_noP (k_part (k_var rfl ⟨_, rfl, ?_⟩))))))))))
        refine a_cut hi ?_
        rw [hx]
        refine a_inW (k := k) hn hi hA (by have := hp _ (List.getElem_mem hk); rw [hx, pl_str] at this; exact this) ?_ ⟨_, rfl, rfl, rfl⟩
        rintro ⟨es, rfl⟩
        cases hi
        have := List.all_eq_true.mp hT k (List.mem_range.mpr hk)
        rw [getD_at hk, hm] at this
        simpa using this
    generalize hB : ((List.range ds.length).filter (finK ds)) = B
    have lB : B.length ≤ 1000 := by rw [← hB]; exact Nat.le_trans (List.length_filter_le _ _) (by rw [List.length_range]; exact hl)
    have eB : finF ds = B.head? := by rw [← hB, filt_find]; rfl
    rw [eB] at ef
    walk_at "u"
    refine o_neN lB ?_
    cases B with
    | cons j r =>
      refine ⟨_, rfl, yes rfl ?_⟩
      walk_at "u"
      rw [ef] at q
      exact q
    | nil =>
      refine ⟨_, rfl, no rfl ?_⟩
      walk_at "u"
      rw [ef] at q
      exact q
/-! ### words -/
def isTerm (xs : List Str) : D → Bool
  | .tup [a, b] => isName a && lotOf xs b
  | _ => false
theorem isTerm_no {xs : List Str} {ds : List D} (h : ds.length ≠ 2) : isTerm xs (.tup ds) = false := by
  match ds, h with
  | [], _ => rfl
  | [_], _ => rfl
  | [_, _], h => exact absurd rfl h
  | _ :: _ :: _ :: _, _ => rfl
theorem isTerm_tup {d : D} {xs : List Str} (h : ¬ ∃ x, d = .tup x) : isTerm xs d = false := by
  cases d <;> first | rfl | exact absurd ⟨_, rfl⟩ h
section
variable {xs : List Str} {P d : D} {n : Nat}
theorem is_word_eq (hP : P = .lst (xs.map .str) ∨ P = .tup (xs.map .str)) (h : pl n d = true) (st : S) : sem_is_word [P, d] st = .ok (.bl (isTerm xs d)) st := by
  refine eq_of ?_
  refine ok_sem rfl ?_
  unfold den_is_word
  have ht := pl_ty_ok h
  by_cases hd : ∃ x, d = .tup x
  · obtain ⟨ds, rfl⟩ := hd
    obtain ⟨hl, hp⟩ := tup_pl h
    walk_at "u"
    refine yes rfl ?_
    walk_at "u"
    by_cases h2 : ds.length = 2
    · match ds, h2, hp with
      | [a, b], _, hp =>
        refine yes rfl ?_
        walk_at "u"
        refine ok_eq (is_name_eq (hp a (by simp)) _) ?_
        walk_at "u"
        cases ha : isName a with
        | false =>
          refine no rfl ?_
          refine ⟨?_, rfl⟩
          show _ = D.bl (isName a && lotOf xs b)
          rw [ha]
          rfl
        | true =>
          refine yes rfl ?_
          walk_at "u"
          refine ok_eq (lot_of_eq (hp b (by simp)) hP _) ?_
          refine ⟨?_, rfl⟩
          show _ = D.bl (isName a && lotOf xs b)
          rw [ha]
          rfl
    · refine no (decide_eq_false (by omega)) ?_
      exact ⟨by rw [isTerm_no h2, decide_eq_false (by omega)], rfl⟩
  · obtain ⟨hn, _⟩ := isI_tup hd
    walk_at "u"
    refine no hn ?_
    exact ⟨by rw [isTerm_tup hd, hn], rfl⟩
theorem is_term_eq (hP : P = .lst (xs.map .str) ∨ P = .tup (xs.map .str)) (h : pl n d = true) (st : S) : sem__law_is_term [P, d] st = .ok (.bl (isTerm xs d)) st := by
  refine eq_of ?_
  refine ok_sem rfl ?_
  unfold den__law_is_term
  have ht := pl_ty_ok h
  by_cases hd : ∃ x, d = .tup x
  · obtain ⟨ds, rfl⟩ := hd
    obtain ⟨hl, hp⟩ := tup_pl h
    walk_at "u"
    refine yes rfl ?_
    walk_at "u"
    by_cases h2 : ds.length = 2
    · match ds, h2, hp with
      | [a, b], _, hp =>
        refine yes rfl ?_
        walk_at "u"
        refine ok_eq (law_is_name_eq (hp a (by simp)) _) ?_
        walk_at "u"
        cases ha : isName a with
        | false =>
          refine no rfl ?_
          refine ⟨?_, rfl⟩
          show _ = D.bl (isName a && lotOf xs b)
          rw [ha]
          rfl
        | true =>
          refine yes rfl ?_
          walk_at "u"
          refine ok_eq (law_lot_of_eq (hp b (by simp)) hP _) ?_
          refine ⟨?_, rfl⟩
          show _ = D.bl (isName a && lotOf xs b)
          rw [ha]
          rfl
    · refine no (decide_eq_false (by omega)) ?_
      exact ⟨by rw [isTerm_no h2, decide_eq_false (by omega)], rfl⟩
  · obtain ⟨hn, _⟩ := isI_tup hd
    walk_at "u"
    refine no hn ?_
    exact ⟨by rw [isTerm_tup hd, hn], rfl⟩
end
end
section
set_option maxHeartbeats 1000000
/-! k09: check_words; what is due of a list of words. -/

open PySem L2 DL Co

/-- the error of a value in the place of a list of words -/
def wrdE (xs : List Str) (d : D) : Option Er := match itemsOf d with
  | none => some ⟨5, "InvalidWord", "at", .int (-1)⟩
  | some ds => if 40 < ds.length then some ⟨19, "TooMany", "most", .int 40⟩ else match badK (isTerm xs) ds with
    | some k => some ⟨5, "InvalidWord", "at", .int (k : Nat)⟩
    | none => (dupK (ds.map markOf)).map fun k => ⟨18, "DuplicateName", "name", .str ((ds.map markOf).getD k (T []))⟩
theorem term_form {xs : List Str} {d : D} (h : isTerm xs d = true) : ∃ (m : Str) (b : D), d = .tup [.str m, b] ∧ Nm m ∧ lotOf xs b = true := by
  unfold isTerm at h
  split at h
  · rename_i a b
    rw [Bool.and_eq_true] at h
    obtain ⟨m, rfl⟩ := isName_str h.1
    exact ⟨m, b, rfl, Nm_of h.1, h.2⟩
  · cases h
section
variable {xs : List Str} {P d : D} {n : Nat} {ds : List D}
theorem wrd_none (hi : itemsOf d = none) : wrdE xs d = some ⟨5, "InvalidWord", "at", .int (-1)⟩ := by unfold wrdE; rw [hi]
theorem wrd_many (hi : itemsOf d = some ds) (h : 40 < ds.length) : wrdE xs d = some ⟨19, "TooMany", "most", .int 40⟩ := by unfold wrdE; rw [hi]; dsimp only; rw [if_pos h]
theorem wrd_bad {k : Nat} (hi : itemsOf d = some ds) (h : ¬ 40 < ds.length) (hb : badK (isTerm xs) ds = some k) : wrdE xs d = some ⟨5, "InvalidWord", "at", .int (k : Nat)⟩ := by unfold wrdE; rw [hi]; dsimp only; rw [if_neg h, hb]
theorem wrd_dup (hi : itemsOf d = some ds) (h : ¬ 40 < ds.length) (hb : badK (isTerm xs) ds = none) : wrdE xs d = (dupK (ds.map markOf)).map fun k => ⟨18, "DuplicateName", "name", .str ((ds.map markOf).getD k (T []))⟩ := by unfold wrdE; rw [hi]; dsimp only; rw [if_neg h, hb]
theorem check_wordsE (hP : P = .lst (xs.map .str) ∨ P = .tup (xs.map .str)) (hd : pl n d = true) (st : S) : OkE (sem_check_words [P, d] st) (fun r s => wrdE xs d = none ∧ r = .non ∧ s = st) (fun x s => (∃ e, wrdE xs d = some e ∧ x = e.x) ∧ s = st) := by
  refine oke_sem rfl ?_
  unfold den_check_words
  have ht := pl_ty_ok hd
  walk_at "u"
  rw [items_lt]
  cases hi : itemsOf d with
  | none =>
    refine yes rfl ?_
    walk_at "u"
    exact ⟨rfl, _, rfl, ⟨_, wrd_none hi, rfl⟩, rfl⟩
  | some ds =>
    obtain ⟨hl, hp⟩ := items_pl hd hi
    refine no rfl ?_
    walk_at "u"
    refine a_len hi ?_
    walk_at "u"
    by_cases h40 : 40 < ds.length
    · refine yes (decide_eq_true (by omega)) ?_
      walk_at "u"
      exact ⟨rfl, _, rfl, ⟨_, wrd_many hi h40, rfl⟩, rfl⟩
    refine no (decide_eq_false (by omega)) ?_
    walk_at "u"
    refine k_enum ?_
    walk_at "u"
    refine a_enum hi ?_
    rw [enum_range]
    refine goe_scan (fun ρ => ∃ a b, ρ = [.sh P, .sh d, .no, a, b, .no, .no]) (fun z => match z with | .pr _ e => isTerm xs e | _ => false) (fun z x => ∃ k e, z = .pr (.int k) e ∧ x = (⟨5, "InvalidWord", "at", .int k⟩ : Er).x) (fun _ _ => False) ⟨_, _, rfl⟩ ?b1 ?d1 ?x1 fun _ _ _ _ _ _ _ h => h.elim
    case b1 =>
      intro z hz
      obtain ⟨k, hk, rfl⟩ := List.mem_map.mp hz
      have hk := List.mem_range.mp hk
      rw [getD_at hk]
      have hpk := hp _ (List.getElem_mem hk)
      rintro _ ⟨a, b, rfl⟩
      refine ⟨_, rfl, ?_⟩
      walk_at "u"
      refine ok_eq (is_word_eq hP hpk st) ?_
      walk_at "u"
      cases hm : isTerm xs ds[k] with
      | true =>
        refine no rfl ?_
        walk_at "u"
        exact ⟨hm, ⟨_, _, rfl⟩, rfl⟩
      | false =>
        refine yes rfl ?_
        walk_at "u"
        exact ⟨rfl, _, rfl, hm, ⟨_, _, rfl, rfl⟩, rfl⟩
    case x1 =>
      rintro a z b x e ha hz ⟨k, e1, rfl, rfl⟩
      obtain ⟨j, hj, e2, e3⟩ := range_first (f := fun k => D.pr (.int (k : Nat)) (ds.getD k .non)) (p := fun k => isTerm xs (ds.getD k .non)) pr_inj e (fun k _ hk => ha _ hk) (fun k hk => by rw [hk] at hz; exact hz)
      injection e2 with e4 e5
      injection e4 with e4
      subst e4
      exact ⟨⟨_, wrd_bad hi h40 e3, rfl⟩, rfl⟩
    case d1 =>
      intro hall
      have hb : ∀ e ∈ ds, isTerm xs e = true := fun e he => by
        obtain ⟨k, hk, rfl⟩ := List.getElem_of_mem he
        have := hall _ (List.mem_map.mpr ⟨k, List.mem_range.mpr hk, rfl⟩)
        rw [getD_at hk] at this
        exact this
      have ew := wrd_dup hi h40 (bad_all.mpr hb)
      rintro _ ⟨a, b, rfl⟩
      walk_at "u"
      refine e_set (k_lc ?_)
      walk_at "u"
      refine a_items hi ⟨small (by omega), ?_⟩
      refine ok_eq (comp_map (fun e => .str (markOf e)) fun e he => ?_) ?_
      · obtain ⟨m, b, rfl, _⟩ := term_form (hb e he)
        exact ⟨_, rfl, rfl⟩
      walk_at "u"
      refine k_enum ?_
      walk_at "u"
      refine a_enum rfl ?_
      have em : (ds.map fun e => D.str (markOf e)) = (ds.map markOf).map D.str := by rw [List.map_map]; rfl
      rw [em]
      generalize hms : ds.map markOf = ms at ew ⊢
      have lm : ms.length = ds.length := by rw [← hms, List.length_map]
      rw [enum_range, List.length_map]
      have gd : ∀ k, k < ms.length → (ms.map D.str).getD k .non = .str (ms.getD k (T [])) := fun k hk => by
        rw [List.getD_eq_getElem?_getD, List.getElem?_map, List.getD_eq_getElem?_getD, List.getElem?_eq_getElem hk]
        rfl
      refine goe_scan (fun ρ => ∃ a b c, ρ = [.sh P, .sh d, .sh (.lst (ms.map .str)), a, b, c, .no]) (fun z => match z with | .pr (.int k) (.str x) => !decide (x ∈ ms.take k.toNat) | _ => false) (fun z x => ∃ k y, z = .pr (.int k) (.str y) ∧ x = (⟨18, "DuplicateName", "name", .str y⟩ : Er).x) (fun _ _ => False) ⟨_, _, _, rfl⟩ ?b2 ?d2 ?x2 fun _ _ _ _ _ _ _ h => h.elim
      case b2 =>
        intro z hz
        obtain ⟨k, hk, rfl⟩ := List.mem_map.mp hz
        have hk := List.mem_range.mp hk
        rw [gd k hk]
        rintro _ ⟨a, b, c, rfl⟩
        refine ⟨_, rfl, ?_⟩
        walk_at "u"
        rw [cutL_hi, ← List.map_take]
        refine k_inS ?_
        walk_at "u"
        cases hm : decide (ms.getD k (T []) ∈ ms.take k) with
        | false =>
          refine no rfl ?_
          walk_at "u"
          exact ⟨by dsimp only; rw [Int.toNat_natCast, hm]; rfl, ⟨_, _, _, rfl⟩, rfl⟩
        | true =>
          refine yes rfl ?_
          walk_at "u"
          exact ⟨rfl, _, rfl, by dsimp only; rw [Int.toNat_natCast, hm]; rfl, ⟨_, _, rfl, rfl⟩, rfl⟩
      case x2 =>
        rintro a z b x e ha hz ⟨k, y, rfl, rfl⟩
        obtain ⟨j, hj, e2, e3⟩ := range_first (f := fun k => D.pr (.int (k : Nat)) ((ms.map D.str).getD k .non)) (p := fun k => !decide (ms.getD k (T []) ∈ ms.take k)) pr_inj e (fun k hk hk2 => by
          have := ha _ hk2
          rw [gd k hk] at this
          dsimp only at this
          rw [Int.toNat_natCast] at this
          exact this) (fun k hk => by
          injection hk with h1 h2
          injection h1 with h1
          subst h1
          dsimp only at hz
          rw [Int.toNat_natCast] at hz
          by_cases hk : k < ms.length
          · rw [gd k hk] at h2
            injection h2 with h2
            rw [← h2]
            exact hz
          · rw [List.getD_eq_getElem?_getD, List.getElem?_eq_none (by rw [List.length_map]; omega)] at h2
            cases h2)
        injection e2 with e4 e5
        injection e4 with e4
        subst e4
        rw [gd j hj] at e5
        injection e5 with e5
        subst e5
        have ed : dupK ms = some j := e3
        rw [ed] at ew
        exact ⟨⟨_, ew, rfl⟩, rfl⟩
      case d2 =>
        intro hall
        have ed : dupK ms = none := by
          unfold dupK
          rw [List.find?_eq_none]
          intro k hk
          have hk2 := List.mem_range.mp hk
          have := hall _ (List.mem_map.mpr ⟨k, hk, rfl⟩)
          rw [gd k hk2] at this
          dsimp only at this
          rw [Int.toNat_natCast] at this
          simpa using this
        rw [ed] at ew
        rintro _ ⟨a, b, c, rfl⟩
        exact ⟨ew, rfl, rfl⟩
theorem words_due_ok {Q : D → S → Prop} {st : S} (hP : P = .lst (xs.map .str) ∨ P = .tup (xs.map .str)) (hd : pl n d = true) (q : Q (due9 (wrdE xs d)) st) : Ok (sem__law_words_due [P, d] st) Q := by
  refine ok_sem rfl ?_
  unfold den__law_words_due
  have ht := pl_ty_ok hd
  walk_at "u"
  rw [items_lt]
  cases hi : itemsOf d with
  | none =>
    rw [wrd_none hi] at q
    refine yes rfl ?_
    walk_at "u"
    exact q
  | some ds =>
    obtain ⟨hl, hp⟩ := items_pl hd hi
    refine no rfl ?_
    walk_at "u"
    refine a_len hi ?_
    walk_at "u"
    by_cases h40 : 40 < ds.length
    · rw [wrd_many hi h40] at q
      refine yes (decide_eq_true (by omega)) ?_
      walk_at "u"
      exact q
    refine no (decide_eq_false (by omega)) ?_
    walk_at "u"
    refine a_len hi ?_
    walk_at "u"
    refine range1_ok (by omega) (by omega) ?_
    rw [Int.toNat_natCast]
    refine ⟨small (by rw [List.length_map, List.length_range]; omega), ?_⟩
    refine ok_eq (comp_rng (fun k => !isTerm xs (ds.getD k .non)) (fun (k : Nat) => .int k) fun k hk => ⟨?_, fun _ => rfl⟩) ?_
    · refine eq_of (k_tnot (k_tst (k_call (k_cons (k_var rfl (k_cons (k_bin (k_var rfl (k_var rfl (a_ix hi hk (k_nil ?_)))))))))))
      refine ok_eq (is_term_eq hP (hp _ (List.getElem_mem hk)) st) ?_
      walk_at "u"
      rw [getD_at hk]
      exact ⟨rfl, rfl⟩
    generalize hB : ((List.range ds.length).filter fun k => !isTerm xs (ds.getD k .non)) = B
    have lB : B.length ≤ 1000 := by rw [← hB]; exact Nat.le_trans (List.length_filter_le _ _) (by rw [List.length_range]; exact hl)
    have eB : badK (isTerm xs) ds = B.head? := by rw [← hB, filt_find]; rfl
    walk_at "u"
    refine o_neN lB ?_
    cases B with
    | cons j r =>
      refine ⟨_, rfl, yes rfl ?_⟩
      walk_at "u"
      rw [wrd_bad hi h40 eB] at q
      exact q
    | nil =>
      have eB : badK (isTerm xs) ds = none := eB
      have hb := bad_all.mp eB
      rw [wrd_dup hi h40 eB] at q
      refine ⟨_, rfl, no rfl ?_⟩
      walk_at "u"
      refine a_items hi ⟨small (by omega), ?_⟩
      refine ok_eq (comp_map (fun e => .str (markOf e)) fun e he => ?_) ?_
      · obtain ⟨m, b, rfl, _⟩ := term_form (hb e he)
        exact ⟨_, rfl, rfl⟩
      have em : (ds.map fun e => D.str (markOf e)) = (ds.map markOf).map D.str := by rw [List.map_map]; rfl
      rw [em]
      have nms : ∀ x ∈ ds.map markOf, Nm x := fun x hx => by
        obtain ⟨e, he, rfl⟩ := List.mem_map.mp hx
        obtain ⟨m, b, rfl, hm, _⟩ := term_form (hb e he)
        exact hm
      have lm : (ds.map markOf).length = ds.length := List.length_map ..
      generalize hms : ds.map markOf = ms at nms lm q ⊢
      walk_at "u"
      refine a_len hi ?_
      walk_at "u"
      refine range1_ok (by omega) (by omega) ?_
      rw [Int.toNat_natCast, ← lm]
      refine ⟨small (by rw [List.length_map, List.length_range]; omega), ?_⟩
      have gx : ∀ k, k < ms.length → ∀ {Q : D → S → Prop}, Q (.str (ms.getD k (T []))) st → Ok (ixD (.lst (ms.map .str)) (.int (k : Nat)) st) Q := fun k hk Q q => by
        refine ixL_ok (d := .str (ms.getD k (T []))) (atI_nat ?_) q
        rw [List.getElem?_map, List.getElem?_eq_getElem hk, List.getD_eq_getElem?_getD, List.getElem?_eq_getElem hk]
        rfl
      refine ok_eq (comp_rng (fun k => !!decide (ms.getD k (T []) ∈ ms.take k)) (fun (k : Nat) => .str (ms.getD k (T []))) fun k hk => ⟨?_, fun _ => ?_⟩) ?_
      · refine eq_of (k_tb (k_bin (k_bin (k_var rfl (k_var rfl (gx k hk (k_sl (k_var rfl (k_noP (k_part (k_var rfl ⟨_, rfl, ?_⟩)))))))))))
        walk_at "u"
        rw [cutL_hi, ← List.map_take]
        refine k_inS ⟨_, rfl, ?_, rfl⟩
        rw [Bool.not_not]
      · exact eq_of (k_bin (k_var rfl (k_var rfl (gx k hk ⟨rfl, rfl⟩))))
      generalize hU : ((List.range ms.length).filter fun k => !!decide (ms.getD k (T []) ∈ ms.take k)) = U
      have lU : U.length ≤ 1000 := by rw [← hU]; exact Nat.le_trans (List.length_filter_le _ _) (by rw [List.length_range]; omega)
      have eU : dupK ms = U.head? := by rw [← hU, filt_find]; rfl
      rw [eU] at q
      have eS : (U.map fun k => D.str (ms.getD k (T []))) = (U.map fun k => ms.getD k (T [])).map D.str := by rw [List.map_map]; rfl
      rw [eS]
      have nU : ∀ x ∈ U.map fun k => ms.getD k (T []), Nm x := fun x hx => by
        obtain ⟨k, hk, rfl⟩ := List.mem_map.mp hx
        rw [← hU] at hk
        have h2 := List.mem_range.mp (List.mem_filter.mp hk).1
        rw [List.getD_eq_getElem?_getD, List.getElem?_eq_getElem h2]
        exact nms _ (List.getElem_mem h2)
      walk_at "u"
      refine o_neSs nU (by rw [List.length_map]; exact lU) ?_
      cases U with
      | cons j r =>
        refine ⟨_, rfl, yes rfl ?_⟩
        walk_at "u"
        exact q
      | nil =>
        refine ⟨_, rfl, no rfl ?_⟩
        walk_at "u"
        exact q
end
end
section
set_option maxHeartbeats 1000000
/-! k09: books of any two values; what is met. -/

open PySem L2 DL Co

theorem oddL_tup : ∀ d ∈ oddL, tupOK d = true := by decide
theorem odd2_ok {tl : S × S} {st : S} (h : St tl st) : Ok (sem__law_odd [.ref tl.1.length] st) fun d s => St tl s ∧ pl 2 d = true ∧ tupOK d = true := by
  refine ok_sem rfl ?_
  unfold den__law_odd
  refine g_ret (k_call ?_)
  refine ok_eq (a := [.ref tl.1.length, .lst oddL]) (s := st) rfl ?_
  refine (pick_ok h (by decide) (by decide)).mono ?_
  rintro d s ⟨h, hd⟩
  exact ⟨h, oddL_pl d hd, oddL_tup d hd⟩
def namesD (A : D) : List Str := match itemsOf A with
  | some ds => (strsOf ds).getD []
  | none => []
theorem nd_of {xs : List Str} (h : ∀ k (hk : k < xs.length), xs[k] ∉ xs.take k) : xs.Nodup := by
  rw [List.nodup_iff_pairwise_ne, List.pairwise_iff_getElem]
  intro i j hi hj hij e
  refine h j hj ?_
  rw [← e]
  exact List.mem_iff_getElem.mpr ⟨i, by rw [List.length_take]; omega, by rw [List.getElem_take]⟩
theorem fin_names {A : D} (h : finE A = none) : ∃ xs : List Str, (A = .lst (xs.map .str) ∨ A = .tup (xs.map .str)) ∧ namesD A = xs ∧ xs.Nodup ∧ (∀ x ∈ xs, Nm x) ∧ 0 < xs.length ∧ xs.length ≤ 12 := by
  cases hi : itemsOf A with
  | none =>
    unfold finE at h
    rw [hi] at h
    cases h
  | some ds =>
    by_cases h0 : ds = []
    · unfold finE at h
      rw [hi] at h
      dsimp only at h
      rw [if_pos h0] at h
      cases h
    by_cases h12 : 12 < ds.length
    · unfold finE at h
      rw [hi] at h
      dsimp only at h
      rw [if_neg h0, if_pos h12] at h
      cases h
    rw [finE_in hi h0 h12, Option.map_eq_none_iff] at h
    have hk : ∀ k, k < ds.length → finK ds k = false := fun k hk => by
      have := List.find?_eq_none.mp h k (List.mem_range.mpr hk)
      simpa using this
    have hall : ds.all isName = true := by
      rw [List.all_eq_true]
      intro d hd
      obtain ⟨k, hk2, rfl⟩ := List.getElem_of_mem hd
      have := hk k hk2
      unfold finK at this
      rw [getD_at hk2] at this
      simp only [Bool.or_eq_false_iff, Bool.not_eq_false'] at this
      exact this.1
    obtain ⟨xs, rfl, hx⟩ := names_of hall
    rw [List.length_map] at h12 hk
    have l0 : 0 < xs.length := by
      rcases Nat.eq_zero_or_pos xs.length with z | z
      · exact absurd (by rw [List.length_eq_zero_iff.mp z]; rfl) h0
      · exact z
    refine ⟨xs, ?_, ?_, nd_of fun k hk2 hm => ?_, fun x hx2 => Nm_of (hx x hx2), l0, by omega⟩
    · rcases items_some hi with rfl | rfl
      · exact .inl rfl
      · exact .inr rfl
    · unfold namesD
      rw [hi]
      dsimp only
      rw [strsOf_map]
      rfl
    · have := hk k hk2
      unfold finK at this
      rw [getD_at (by rw [List.length_map]; exact hk2), List.getElem_map, ← List.map_take, any_str, decide_eq_true hm] at this
      simp at this
def bookE (A B : D) : Option Er := match finE A with
  | some e => some e
  | none => wrdE (namesD A) B
theorem wrd_items {xs : List Str} {B : D} (h : wrdE xs B = none) : ∃ ds, itemsOf B = some ds ∧ ds.length ≤ 40 ∧ ∀ e ∈ ds, isTerm xs e = true := by
  cases hi : itemsOf B with
  | none => rw [wrd_none hi] at h; cases h
  | some ds =>
    by_cases h40 : 40 < ds.length
    · rw [wrd_many hi h40] at h; cases h
    cases hb : badK (isTerm xs) ds with
    | some k => rw [wrd_bad hi h40 hb] at h; cases h
    | none => exact ⟨ds, rfl, by omega, bad_all.mp hb⟩
section
variable {A B : D} {n m : Nat} {st : S}
theorem book_initE (hn : n ≤ 60) (hA : pl n A = true) (hB : pl m B = true) : OkE (sem_Book_init [A, B] st) (fun r s => bookE A B = none ∧ r = bookD (namesD A) ((itemsOf B).getD []) ∧ s = st) (fun x s => (∃ e, bookE A B = some e ∧ x = e.x) ∧ s = st) := by
  refine oke_init rfl ?_
  unfold den_Book_init
  refine e_seq (e_dropX (x_call ?_))
  walk_at "u"
  refine (check_findsE hn hA st).mono ?_ ?_
  · rintro _ s1 ⟨ef, rfl, es⟩
    subst es
    obtain ⟨xs, hx, ex, nd, nm, l0, l12⟩ := fin_names ef
    refine e_seq (e_dropX (x_call ?_))
    walk_at "u"
    refine (check_wordsE hx hB s1).mono ?_ ?_
    · rintro _ s2 ⟨ew, rfl, es⟩
      subst es
      obtain ⟨ds, hi, _, _⟩ := wrd_items ew
      refine e_seq (e_fld rfl (by repeat (first | exact Nat.zero_lt_succ _ | refine setF_lt ?_)) ?_)
      walk_at "u"
      have hs : ∀ {Q : D → S → Prop}, Q (.lst ((setS xs).map .str)) s2 → Ok (setD A s2) Q := fun q => by
        rcases hx with rfl | rfl
        · exact k_setL (by omega) q
        · unfold setD
          dsimp only [view]
          rw [strsOf_map]
          dsimp only
          rw [if_pos ⟨by omega, Nat.lt_of_le_of_lt (ed_len xs) (by omega)⟩]
          exact ⟨_, _, rfl, q⟩
      refine hs ?_
      walk_at "u"
      refine e_fld rfl (by repeat (first | exact Nat.zero_lt_succ _ | refine setF_lt ?_)) ?_
      have ht : ∀ {Q : D → S → Prop}, Q (.tup ds) s2 → Ok (tupleF B s2) Q := fun q => by
        rcases items_some hi with rfl | rfl
        · exact o_tupL q
        · exact o_tupT q
      walk_at "u"
      refine ht ?_
      refine ⟨_, _, rfl, ?_, ?_, rfl⟩
      · unfold bookE
        rw [ef, ex]
        exact ew
      · rw [ex, hi]
        rfl
    · rintro x s ⟨⟨e, e1, rfl⟩, es⟩
      refine ⟨⟨e, ?_, rfl⟩, es⟩
      unfold bookE
      rw [ef, ex]
      exact e1
  · rintro x s ⟨⟨e, e1, rfl⟩, es⟩
    refine ⟨⟨e, ?_, rfl⟩, es⟩
    unfold bookE
    rw [e1]
theorem fin_form {e : Er} (h : finE A = some e) : (∃ v : Int, e = ⟨4, "InvalidFind", "at", .int v⟩) ∨ e = ⟨19, "TooMany", "most", .int 12⟩ := by
  unfold finE at h
  split at h
  · cases h; exact .inl ⟨_, rfl⟩
  split at h
  · cases h; exact .inl ⟨_, rfl⟩
  split at h
  · cases h; exact .inr rfl
  split at h
  · cases h; exact .inl ⟨_, rfl⟩
  · cases h
theorem wrd_form {xs : List Str} {e : Er} (h : wrdE xs B = some e) : (∃ v : Int, e = ⟨5, "InvalidWord", "at", .int v⟩) ∨ e = ⟨19, "TooMany", "most", .int 40⟩ ∨ ∃ x, e = ⟨18, "DuplicateName", "name", .str x⟩ ∧ Nm x := by
  cases hi : itemsOf B with
  | none => rw [wrd_none hi] at h; cases h; exact .inl ⟨_, rfl⟩
  | some ds =>
    by_cases h40 : 40 < ds.length
    · rw [wrd_many hi h40] at h; cases h; exact .inr (.inl rfl)
    cases hb : badK (isTerm xs) ds with
    | some k => rw [wrd_bad hi h40 hb] at h; cases h; exact .inl ⟨_, rfl⟩
    | none =>
      rw [wrd_dup hi h40 hb, Option.map_eq_some_iff] at h
      obtain ⟨k, hk, rfl⟩ := h
      refine .inr (.inr ⟨_, rfl, ?_⟩)
      have hk := List.mem_range.mp (List.mem_of_find?_eq_some hk)
      rw [List.getD_eq_getElem?_getD, List.getElem?_eq_getElem hk, Option.getD_some]
      obtain ⟨d2, hd2, e2⟩ := List.mem_map.mp (List.getElem_mem hk)
      rw [← e2]
      obtain ⟨m, b, rfl, hm, _⟩ := term_form (bad_all.mp hb _ hd2)
      exact hm
/-- the errors that a book tells -/
def ErB (e : Er) : Prop := (∃ v : Int, e = ⟨4, "InvalidFind", "at", .int v⟩) ∨ (∃ v : Int, e = ⟨5, "InvalidWord", "at", .int v⟩) ∨ (∃ v : Int, e = ⟨19, "TooMany", "most", .int v⟩) ∨ ∃ x, e = ⟨18, "DuplicateName", "name", .str x⟩ ∧ Nm x
theorem erB_fin {e : Er} (h : finE A = some e) : ErB e := by
  rcases fin_form h with h | h
  · exact .inl h
  · exact .inr (.inr (.inl ⟨_, h⟩))
theorem erB_wrd {xs : List Str} {e : Er} (h : wrdE xs B = some e) : ErB e := by
  rcases wrd_form h with h | h | h
  · exact .inr (.inl h)
  · exact .inr (.inr (.inl ⟨_, h⟩))
  · exact .inr (.inr (.inr h))
theorem erB_book {e : Er} (h : bookE A B = some e) : ErB e := by
  unfold bookE at h
  split at h
  · rename_i e' h'
    cases h
    exact erB_fin h'
  · exact erB_wrd h
theorem erB_due {e : Er} (h : ErB e) (st : S) : okC [4, 5, 11, 18, 19, 33] e.c = true ∧ hF__law_try_4 e.x st = .ok e.due st := by
  unfold hF__law_try_4 fE__law_try_4 sem__law_fields_4 semX den__law_fields_4
  rcases h with ⟨v, rfl⟩ | ⟨v, rfl⟩ | ⟨v, rfl⟩ | ⟨x, rfl, _⟩ <;> exact ⟨rfl, rfl⟩
theorem erB_pl {e : Er} (h : ErB e) : pl 3 e.due = true := by
  have k : pl 2 e.v = true → plS e.code = true → pl 3 e.due = true := fun h1 h2 => pl_tup.mpr ⟨by simp, fun z hz => by
    simp only [List.mem_cons, List.not_mem_nil, or_false] at hz
    rcases hz with rfl | rfl | rfl
    · rw [pl_str]; decide
    · rw [pl_str]; exact h2
    · exact h1⟩
  rcases h with ⟨v, rfl⟩ | ⟨v, rfl⟩ | ⟨v, rfl⟩ | ⟨x, rfl, hx⟩
  · exact k pl_int (show plS "InvalidFind" = true by decide)
  · exact k pl_int (show plS "InvalidWord" = true by decide)
  · exact k pl_int (show plS "TooMany" = true by decide)
  · exact k (pl_s hx.plS) (show plS "DuplicateName" = true by decide)
theorem due9_pl {o : Option Er} (h : ∀ e, o = some e → ErB e) : pl 3 (due9 o) = true := by
  cases o with
  | none => decide
  | some e => exact erB_pl (h e rfl)
theorem k_try9 {o : Option Er} {r : D} {fl : Ev → S → R D} {ρ : Ev} {Q : D → S → Prop} (ho : ∀ e, o = some e → ErB e) (h : OkE (fl ρ st) (fun d s => o = none ∧ d = r ∧ s = st) fun x s => (∃ e, o = some e ∧ x = e.x) ∧ s = st) (q : Q (told r o) st) : Ok (dTry "told" (okC [4, 5, 11, 18, 19, 33]) hF__law_try_4 fl ρ st) Q := by
  refine k_tryE (h.mono ?_ ?_)
  · rintro _ s ⟨e, rfl, es⟩
    subst es
    rw [e] at q
    exact q
  · rintro _ s ⟨⟨e, e1, rfl⟩, es⟩
    subst es
    obtain ⟨h1, h2⟩ := erB_due (ho e e1) s
    refine ⟨h1, _, _, h2, ?_⟩
    rw [e1] at q
    exact q
theorem k_ne0 {o : Option Er} {Q : D → S → Prop} (ho : ∀ e, o = some e → ErB e) (q : Q (.bl o.isSome) st) : Ok (neD (due9 o) (.tup []) st) Q := by
  refine o_ne (pl_okd (due9_pl ho) (by decide)) (by decide) ?_ (fun _ z => nomatch z) ?_
  · cases o <;> exact fun _ z => nomatch z
  · have e : eqd (due9 o) (.tup []) = o.isNone := by cases o <;> rfl
    rw [e]
    cases o <;> exact q
theorem k_eq0 {o : Option Er} {Q : D → S → Prop} (ho : ∀ e, o = some e → ErB e) (q : Q (.bl o.isNone) st) : Ok (eqD (due9 o) (.tup []) st) Q := by
  refine o_eq (pl_okd (due9_pl ho) (by decide)) (by decide) ?_ (fun _ z => nomatch z) ?_
  · cases o <;> exact fun _ z => nomatch z
  · have e : eqd (due9 o) (.tup []) = o.isNone := by cases o <;> rfl
    rw [e]
    exact q
/-- what a book shows -/
def shownD (xs : List Str) (ds : List D) : D := .lst [.lst ((sortS xs).map .str), .lst ds]
theorem setS_nd {xs : List Str} (h : xs.Nodup) : setS xs = sortS xs := by
  exact sortS_congr ((List.perm_ext_iff_of_nodup (nodup_ed _ xs (Nat.le_refl _)) h).mpr fun x => List.mem_eraseDups)
theorem k_shown {xs : List Str} {ds : List D} {Q : D → S → Prop} (h : xs.Nodup) (q : Q (shownD xs ds) st) : Ok (sem__law_shown [bookD xs ds] st) Q := by
  refine ok_sem rfl ?_
  unfold den__law_shown
  walk_at "u"
  refine k_meth ?_
  walk_at "u"
  refine finds_ok ?_
  walk_at "u"
  refine k_meth ?_
  walk_at "u"
  refine words_ok ?_
  walk_at "u"
  rw [setS_nd h]
  exact q
theorem shown_pl {xs : List Str} {ds : List D} (hx : ∀ x ∈ xs, Nm x) (hl : xs.length ≤ 12) (hd : ∀ d ∈ ds, pl m d = true) (hl2 : ds.length ≤ 100) : pl (m + 2) (shownD xs ds) = true := by
  refine pl_lst.mpr ⟨by simp, fun z hz => ?_⟩
  simp only [List.mem_cons, List.not_mem_nil, or_false] at hz
  rcases hz with rfl | rfl
  · exact pl_strsL (fun z hz => (hx z ((sortS_perm _).mem_iff.mp hz)).plS) (by rw [(sortS_perm _).length_eq]; omega)
  · exact pl_lst.mpr ⟨by omega, hd⟩
theorem k_met {o : Option Er} {xs : List Str} {ds : List D} {Sh : D} {Q : D → S → Prop} (ho : ∀ e, o = some e → ErB e) (hs : o = none → Sh = shownD xs ds ∧ xs.Nodup ∧ (∀ x ∈ xs, Nm x) ∧ xs.length ≤ 12 ∧ (∀ d ∈ ds, pl 7 d = true) ∧ ds.length ≤ 100) (q : Q (.bl true) st) : Ok (sem__law_met [told (bookD xs ds) o, due9 o, Sh] st) Q := by
  refine ok_sem rfl ?_
  unfold den__law_met
  walk_at "u"
  refine k_ne0 ho ?_
  walk_at "u"
  cases o with
  | some e =>
    refine yes rfl ?_
    walk_at "u"
    exact k_same (n := 11) (pl_le (show 3 ≤ 11 by decide) (erB_pl (ho e rfl))) (by decide) q
  | none =>
    refine no rfl ?_
    obtain ⟨rfl, nd, nm, l12, hd, l100⟩ := hs rfl
    walk_at "u"
    refine ixT_ok (d := .str "told") rfl ?_
    walk_at "u"
    refine ixT_ok (d := bookD xs ds) rfl ?_
    walk_at "u"
    refine k_shown nd ?_
    walk_at "u"
    exact k_same (shown_pl (m := 7) nm l12 hd l100) (by decide) q
end
end
section
set_option maxHeartbeats 1000000
/-! k09: drawn words, wrong ones. -/

open PySem L2 DL Co



section
variable {tl : S × S} {st : S} {Q : D → S → Prop}
theorem stretch_lotL {xs : List Str} (h : St tl st) (hx : ∀ x ∈ xs, Nm x) (nd : xs.Nodup) (h1 : 0 < xs.length) (h2 : xs.length ≤ 60) (q : ∀ p s, St tl s → Lot p → (∀ x ∈ p, x ∈ xs) → Q (tupS p) s) : Ok (sem__law_stretch [.ref tl.1.length, .lst (xs.map .str)] st) Q := by
  refine ok_sem rfl ?_
  unfold den__law_stretch
  walk_at "t"
  refine (pick_ok h (by simp) (by simp)).mono ?_
  rintro d s ⟨h, hd⟩
  have : ∃ n : Nat, d = .int n ∧ 0 < n := by
    simp only [List.mem_cons, List.not_mem_nil, or_false] at hd
    rcases hd with rfl | rfl | rfl | rfl | rfl | rfl | rfl | rfl | rfl
    · exact ⟨1, rfl, by decide⟩
    · exact ⟨2, rfl, by decide⟩
    · exact ⟨2, rfl, by decide⟩
    · exact ⟨2, rfl, by decide⟩
    · exact ⟨3, rfl, by decide⟩
    · exact ⟨3, rfl, by decide⟩
    · exact ⟨4, rfl, by decide⟩
    · exact ⟨5, rfl, by decide⟩
    · exact ⟨12, rfl, by decide⟩
  obtain ⟨n, rfl, hn⟩ := this
  walk_at "t"
  have el : ∃ lg : Nat, (if (n : Int) < ((xs.map D.str).length : Int) then (n : Int) else ((xs.map D.str).length : Int)) = (lg : Int) ∧ 0 < lg ∧ lg ≤ xs.length := by
    rw [List.length_map]
    split
    · exact ⟨n, rfl, hn, by omega⟩
    · exact ⟨xs.length, rfl, h1, Nat.le_refl _⟩
  obtain ⟨lg, e, l0, l1⟩ := el
  rw [e]
  walk_at "t"
  rw [List.length_map]
  refine (draw_ok h (by omega) (by omega)).mono ?_
  rintro d s ⟨h, sp, rfl, s0, s1⟩
  obtain ⟨sp, rfl⟩ := Int.eq_ofNat_of_zero_le s0
  walk_at "t"
  rw [show ((sp : Nat) : Int) + (lg : Int) = ((sp + lg : Nat) : Int) by omega]
  walk_at "t"
  rw [cutL_map]
  obtain ⟨lo, sb⟩ := cut_lot (sp := sp) (lg := lg) hx nd l0 (by omega)
  refine o_sortS (Nat.lt_of_le_of_lt (cutL_len _ _ _) (by omega)) ?_
  walk_at "t"
  exact q _ s h lo sb
theorem terms_ok {n : Nat} {pool labels : List Str} (h : St tl st) (hp : Nms n pool) (h1 : 0 < n) (h2 : n ≤ 12) (hl : labels.length ≤ 60) (q : ∀ (W : List (Str × List Str)) s, St tl s → W.map (·.1) = labels → (∀ w ∈ W, Lot w.2 ∧ ∀ x ∈ w.2, x ∈ pool) → Q (.lst (W.map wordD)) s) : Ok (sem__law_terms [.ref tl.1.length, .lst (labels.map .str), .lst (pool.map .str)] st) Q := by
  have lp := hp.len
  refine ok_sem rfl ?_
  unfold den__law_terms
  walk_at "s"
  refine (shuffle_ok h (by rw [List.length_map]; omega)).mono ?_
  rintro d s ⟨h, es, rfl, pe⟩
  obtain ⟨zs, rfl, pz⟩ := perm_strs pe
  walk_at "s"
  refine (draw_ok h (by decide) (by decide)).mono ?_
  rintro d s ⟨h, lo, rfl, _, _⟩
  walk_at "s"
  refine ⟨small (by rw [List.length_map]; omega), ?_⟩
  refine (comp_ok (St tl) (fun _ y => ∃ p : List Str, y = tupS p ∧ Lot p ∧ ∀ x ∈ p, x ∈ pool) h fun d hd st hs => ⟨_, rfl, ?_⟩).mono ?_
  · have sub : ∀ s, St tl s → Ok (sem__law_subset [.ref tl.1.length, .lst (pool.map .str)] s) fun y s => St tl s ∧ ∃ p : List Str, y = tupS p ∧ Lot p ∧ ∀ x ∈ p, x ∈ pool := fun s hs => by
      refine (subset_ok hs hp.nm (by omega) (by omega)).mono ?_
      rintro d s ⟨h, ys, y0, _, ym, ys2, rfl⟩
      obtain ⟨l1, l2⟩ := lot_sub hp.nm hp.nd y0 ym ys2
      exact ⟨h, _, rfl, l1, l2⟩
    have str : ∀ s, St tl s → Ok (sem__law_stretch [.ref tl.1.length, .lst (zs.map .str)] s) fun y s => St tl s ∧ ∃ p : List Str, y = tupS p ∧ Lot p ∧ ∀ x ∈ p, x ∈ pool := fun s hs => by
      refine stretch_lotL hs (fun x hx => hp.nm x (pz.mem_iff.mp hx)) (pz.nodup_iff.mpr hp.nd) (by rw [pz.length_eq]; omega) (by rw [pz.length_eq]; omega) fun p s h l1 l2 => ?_
      exact ⟨h, _, rfl, l1, fun x hx => pz.mem_iff.mp (l2 x hx)⟩
    walk_at "s"
    refine ⟨fun _ => ?_, fun _ => ⟨(fun z => nomatch z), fun _ => ?_⟩⟩
    · walk_at "s"
      refine (draw_ok hs (by decide) (by decide)).mono ?_
      rintro d s ⟨h, k, rfl, _, _⟩
      walk_at "s"
      refine ⟨fun _ => ?_, fun _ => ?_⟩
      · walk_at "s"
        exact sub _ h
      · walk_at "s"
        exact str _ h
    · walk_at "s"
      exact str _ hs
  rintro ys s ⟨h, pr⟩
  obtain ⟨L, rfl, pL⟩ := paired_map (g := tupS) pr
  have lL : L.length = labels.length := by have := paired_len pL; rw [List.length_map] at this; exact this.symm
  have hL : ∀ p ∈ L, Lot p ∧ ∀ x ∈ p, x ∈ pool := paired_all (R := fun _ p => Lot p ∧ ∀ x ∈ p, x ∈ pool) (fun _ _ z => z) pL
  walk_at "s"
  rw [List.length_map]
  refine range1_ok (by omega) (by omega) ?_
  rw [Int.toNat_natCast]
  refine ⟨small (by rw [List.length_map, List.length_range]; omega), ?_⟩
  refine ok_eq (comp_of (l := List.range labels.length) (fun (k : Nat) => D.int k) (fun k => wordD (labels.getD k (T []), L.getD k [])) fun k hk => ⟨_, rfl, eq_of ?_⟩) ?_
  · have hk := List.mem_range.mp hk
    walk_at "s"
    refine ixL_ok (atI_nat (strs_get hk)) ?_
    walk_at "s"
    refine ixL_ok (atI_nat (show (L.map tupS)[k]? = some (tupS L[k]) by rw [List.getElem?_map, List.getElem?_eq_getElem (by omega)]; rfl)) ?_
    walk_at "s"
    unfold wordD
    rw [List.getD_eq_getElem?_getD, List.getD_eq_getElem?_getD, List.getElem?_eq_getElem hk, List.getElem?_eq_getElem (show k < L.length by omega)]
    exact ⟨small (by simp), rfl, rfl⟩
  rw [show ((List.range labels.length).map fun k => wordD (labels.getD k (T []), L.getD k [])) = ((List.range labels.length).map fun k => (labels.getD k (T []), L.getD k [])).map wordD by rw [List.map_map]; rfl]
  refine q _ s h ?_ fun w hw => ?_
  · rw [List.map_map]
    apply List.ext_getElem?
    intro i
    rw [List.getElem?_map]
    by_cases hi : i < labels.length
    · rw [List.getElem?_range hi, List.getElem?_eq_getElem hi]
      simp [List.getD_eq_getElem?_getD, List.getElem?_eq_getElem hi]
    · rw [List.getElem?_eq_none (by rw [List.length_range]; omega), List.getElem?_eq_none (by omega)]
      rfl
  · obtain ⟨k, hk, rfl⟩ := List.mem_map.mp hw
    have hk := List.mem_range.mp hk
    dsimp only
    rw [List.getD_eq_getElem?_getD (l := L), List.getElem?_eq_getElem (show k < L.length by omega)]
    exact hL _ (List.getElem_mem _)
theorem put_ok {P : D → Prop} {ds : List D} {x : D} (h : St tl st) (hd : ∀ d ∈ ds, P d) (hx : P x) (hl : ds.length ≤ 200) (q : ∀ es s, St tl s → (∀ e ∈ es, P e) → es.length ≤ ds.length + 1 → es ≠ [] → Q (.lst es) s) : Ok (sem__law_put [.ref tl.1.length, .lst ds, x] st) Q := by
  refine ok_sem rfl ?_
  unfold den__law_put
  walk_at "s"
  refine (draw_ok h (by omega) (by omega)).mono ?_
  rintro d s ⟨h, a, rfl, a0, a1⟩
  obtain ⟨a, rfl⟩ := Int.eq_ofNat_of_zero_le a0
  walk_at "s"
  rw [cutL_hi]
  refine ⟨small (by simp), ?_⟩
  refine addL_ok ?hsz ?_
  case hsz => exact small (by rw [List.length_take, List.length_cons, List.length_nil]; omega)
  walk_at "s"
  refine (draw_ok h (by decide) (by decide)).mono ?_
  rintro d s ⟨h, b, rfl, _, _⟩
  have fin : ∀ c : Nat, (c = 0 ∨ c = 1) → Ok (addD (.lst (ds.take a ++ [x])) (.lst (cutL ds (some (((a + c : Nat)) : Int)) none)) s) Q := fun c hc => by
    have e1 : (ds.take a ++ [x]).length + (cutL ds (some (((a + c : Nat)) : Int)) none).length ≤ ds.length + 1 := by
      rw [cutL_lo, List.length_append, List.length_take, List.length_drop]
      simp only [List.length_cons, List.length_nil]
      omega
    refine addL_ok (small (by omega)) (q _ s h (fun e he => ?_) (by rw [List.length_append]; exact e1) (by simp))
    rcases List.mem_append.mp he with he | he
    · rcases List.mem_append.mp he with he | he
      · exact hd e (List.mem_of_mem_take he)
      · rw [List.mem_singleton.mp he]; exact hx
    · exact hd e (cutL_mem he)
  walk_at "s"
  refine ⟨fun _ => ?_, fun _ => ?_⟩
  · walk_at "s"
    exact fin 1 (.inr rfl)
  · walk_at "s"
    exact fin 0 (.inl rfl)
end
end
section
set_option maxHeartbeats 1000000
/-! k09: words put to a book one by one. -/

open PySem L2 DL Co


section
variable {tl : S × S} {st : S} {Q : D → S → Prop}
theorem tup_lot {n : Nat} {zs : List Str} {pool : List Str} (hp : ∀ x ∈ pool, Nm x) (hs : ∀ y ∈ zs, y ∈ pool) (hl : zs.length ≤ 60) : pl (n + 1) (.tup (zs.map .str)) = true ∧ pl (n + 1) (.lst (zs.map .str)) = true :=
  ⟨pl_strs (fun z hz => (hp z (hs z hz)).plS) (by omega), pl_strsL (fun z hz => (hp z (hs z hz)).plS) (by omega)⟩
theorem low_plS {l : List Nat} (h : Low l) (hl : l.length ≤ 1000) : plS (T l) = true := by
  unfold plS
  rw [Bool.and_eq_true, decide_eq_true_eq, List.all_eq_true]
  refine ⟨hl, fun c hc => decide_eq_true ?_⟩
  have hc : c ∈ l := by simpa [T] using hc
  have := h c hc
  omega
theorem wrong_ok {n : Nat} {pool labels : List Str} (h : St tl st) (hp : Nms n pool) (h1 : 0 < n) (h2 : n ≤ 12) (hl : ∀ x ∈ labels, Nm x) (l1 : 0 < labels.length) (q : ∀ d s, St tl s → pl 5 d = true → Q d s) : Ok (sem__law_wrong_term [.ref tl.1.length, .lst (pool.map .str), .lst (labels.map .str)] st) Q := by
  have lp := hp.len
  refine ok_sem rfl ?_
  unfold den__law_wrong_term
  walk_at "u"
  rw [show ((9 : Int)) = ((9 : Nat) : Int) from rfl, cutL_map, cutL_hi]
  refine (pickN_ok h (by rw [List.length_take]; omega) (by rw [List.length_take]; omega)).mono ?_
  rintro d s ⟨h, lb, hlb, rfl⟩
  have plb := (hl lb (List.mem_of_mem_take hlb)).plS
  walk_at "u"
  refine (subset_ok h hp.nm (by omega) (by omega)).mono ?_
  rintro d s ⟨h, ys, y0, yl, ym, _, rfl⟩
  have ym2 : ∀ y ∈ sortS ys, y ∈ pool := fun y hy => ym y ((sortS_perm _).mem_iff.mp hy)
  have yl2 : (sortS ys).length ≤ 60 := by rw [(sortS_perm _).length_eq]; exact yl
  have y02 : sortS ys ≠ [] := fun z => y0 (by have := (sortS_perm ys).length_eq; rw [z] at this; exact List.length_eq_zero_iff.mp this.symm)
  generalize sortS ys = zs at ym2 yl2 y02 ⊢
  walk_at "u"
  refine (draw_ok h (by decide) (by decide)).mono ?_
  rintro d s ⟨h, way, rfl, w0, w1⟩
  obtain ⟨way, rfl⟩ := Int.eq_ofNat_of_zero_le w0
  walk_at "u"
  refine (odd_ok h).mono ?_
  rintro o1 s ⟨h, ho1⟩
  walk_at "u"
  refine (word_ok h (by decide) (by decide)).mono ?_
  rintro d s ⟨h, wd, rfl, wl, _, wl2⟩
  have pwd : plS (T wd) = true := low_plS wl (by omega)
  walk_at "u"
  obtain ⟨z0, zr, rfl⟩ : ∃ a b, zs = a :: b := by
    cases zs with
    | nil => exact absurd rfl y02
    | cons a b => exact ⟨a, b, rfl⟩
  refine ixL_ok (d := .str z0) (atI_z _ _) ?_
  walk_at "u"
  have pz0 := (hp.nm z0 (ym2 z0 List.mem_cons_self)).plS
  refine (pick_ok h (by simp) (by simp)).mono ?_
  rintro e s ⟨h, he⟩
  have pe : pl 2 e = true := by
    simp only [List.mem_cons, List.not_mem_nil, or_false] at he
    rcases he with rfl | rfl | rfl
    · exact ho1
    · exact pl_s pwd
    · exact pl_s pz0
  walk_at "u"
  refine put_ok (P := fun d => pl 2 d = true) h (fun d hd => ?_) pe (by simp at yl2 ⊢; omega) fun es s h hes les _ => ?_
  · obtain ⟨x, hx, rfl⟩ := List.mem_map.mp hd
    exact pl_s (hp.nm x (ym2 x hx)).plS
  rw [List.length_map] at les
  walk_at "u"
  refine (odd_ok h).mono ?_
  rintro o2 s ⟨h, ho2⟩
  walk_at "u"
  refine (odd_ok h).mono ?_
  rintro o3 s ⟨h, ho3⟩
  walk_at "u"
  walk_at "u"
  refine (odd_ok h).mono ?_
  rintro o4 s ⟨h, ho4⟩
  walk_at "u"
  generalize hL : [o2, D.tup [.str lb, o3], .tup [o4, .tup ((z0 :: zr).map .str)], .lst [.str lb, .tup ((z0 :: zr).map .str)], .tup [.str lb, .lst ((z0 :: zr).map .str)], .tup [.str lb, .tup ((z0 :: zr).map .str).reverse], .tup [.str lb, .tup es], .tup [.str lb, .tup ((z0 :: zr).map .str), .tup ((z0 :: zr).map .str)], .tup [.str lb, .tup ((z0 :: zr).map .str)], .tup [.str lb]] = L
  have lL : L.length = 10 := by rw [← hL]; rfl
  obtain ⟨pt, pL0⟩ := tup_lot (n := 0) hp.nm ym2 yl2
  have ptr : pl 1 (.tup ((z0 :: zr).map D.str).reverse) = true := by
    rw [← List.map_reverse]
    exact (tup_lot hp.nm (fun y hy => ym2 y (List.mem_reverse.mp hy)) (by rw [List.length_reverse]; exact yl2)).1
  have pte : pl 3 (.tup es) = true := pl_tup.mpr ⟨by simp at yl2 les; omega, hes⟩
  have pL : ∀ e ∈ L, pl 5 e = true := by
    intro e he
    rw [← hL] at he
    simp only [List.mem_cons, List.not_mem_nil, or_false] at he
    rcases he with rfl | rfl | rfl | rfl | rfl | rfl | rfl | rfl | rfl | rfl
    · exact pl_le (m := 2) (by decide) ho2
    · exact pl_le (m := 3) (by decide) (pl_t2 (pl_s plb) ho3)
    · exact pl_le (m := 3) (by decide) (pl_t2 ho4 (pl_le (m := 1) (by decide) pt))
    · exact pl_le (m := 3) (by decide) (pl_lst.mpr ⟨by simp, fun z hz => by
        simp only [List.mem_cons, List.not_mem_nil, or_false] at hz
        rcases hz with rfl | rfl
        · exact pl_s plb
        · exact pl_le (m := 1) (by decide) pt⟩)
    · exact pl_le (m := 3) (by decide) (pl_t2 (pl_s plb) (pl_le (m := 1) (by decide) pL0))
    · exact pl_le (m := 3) (by decide) (pl_t2 (pl_s plb) (pl_le (m := 1) (by decide) ptr))
    · exact pl_le (m := 4) (by decide) (pl_t2 (pl_s plb) pte)
    · exact pl_le (m := 3) (by decide) (pl_t3 (pl_s plb) (pl_le (m := 1) (by decide) pt) (pl_le (m := 1) (by decide) pt))
    · exact pl_le (m := 3) (by decide) (pl_t2 (pl_s plb) (pl_le (m := 1) (by decide) pt))
    · exact pl_le (m := 3) (by decide) (pl_t1 (pl_s plb))
  have hw : way < L.length := by have : ((way : Nat) : Int) < 10 := w1; omega
  refine ixL_ok (atI_nat (List.getElem?_eq_getElem hw)) ?_
  exact q _ s h (pL _ (List.getElem_mem hw))
/-! ### words put to a book -/
theorem fin_ok {n : Nat} {A : D} {xs : List Str} (hA : A = .lst (xs.map .str) ∨ A = .tup (xs.map .str)) (hp : Nms n xs) (h1 : 0 < n) (h2 : n ≤ 12) : finE A = none ∧ namesD A = xs := by
  have lp := hp.len
  have hi : itemsOf A = some (xs.map .str) := by rcases hA with rfl | rfl <;> rfl
  constructor
  · rw [finE_in hi (fun z => by have := congrArg List.length z; rw [List.length_map, List.length_nil] at this; omega) (by rw [List.length_map]; omega), Option.map_eq_none_iff]
    refine List.find?_eq_none.mpr fun k hk => ?_
    have hk := List.mem_range.mp hk
    rw [List.length_map] at hk
    unfold finK
    rw [getD_at (by rw [List.length_map]; exact hk), List.getElem_map, ← List.map_take, any_str, (hp.nm _ (List.getElem_mem hk)).isName]
    have hni : xs[k] ∉ xs.take k := fun hm => by
      obtain ⟨j, hj, e⟩ := List.getElem_of_mem hm
      rw [List.length_take] at hj
      rw [List.getElem_take] at e
      have := nd_inj hp.nd (i := j) (j := k) (by omega) hk e
      omega
    rw [decide_eq_false hni]
    decide
  · unfold namesD
    rw [hi]
    dsimp only
    rw [strsOf_map]
    rfl
theorem lotOf_congr {p q : List Str} (h : ∀ x, x ∈ p ↔ x ∈ q) (d : D) : lotOf p d = lotOf q d := by
  have : inX p = inX q := by
    funext d
    cases d <;> first | rfl | exact decide_eq_decide.mpr (h _)
  unfold lotOf
  rw [this]
theorem wrdE_congr {p q : List Str} (h : ∀ x, x ∈ p ↔ x ∈ q) (d : D) : wrdE p d = wrdE q d := by
  have : isTerm p = isTerm q := by
    funext d
    unfold isTerm
    split
    · rw [lotOf_congr h]
    · rfl
  unfold wrdE
  rw [this]
theorem setS_mem {p : List Str} (x : Str) : x ∈ setS p ↔ x ∈ p := by unfold setS; rw [(sortS_perm _).mem_iff, List.mem_eraseDups]
theorem setS_nms {n : Nat} {p : List Str} (hp : Nms n p) : Nms n (setS p) := by
  rw [setS_nd hp.nd]
  exact ⟨by rw [(sortS_perm _).length_eq]; exact hp.len, (sortS_perm _).nodup_iff.mpr hp.nd, fun x hx => hp.nm x ((sortS_perm _).mem_iff.mp hx)⟩
theorem bookD_set {p : List Str} {ws : List D} : bookD (setS p) ws = bookD p ws := by
  unfold bookD
  rw [set_same (xs := setS p) (ys := p) fun x => setS_mem x]
/-- a book with one more word -/
theorem book_more {n : Nat} {pool : List Str} {ws : List D} {x : D} (hp : Nms n pool) (h1 : 0 < n) (h2 : n ≤ 12) (hw : pl 6 (.lst (ws ++ [x])) = true) : OkE (sem_Book_init [.tup ((setS pool).map .str), .lst (ws ++ [x])] st) (fun r s => wrdE pool (.lst (ws ++ [x])) = none ∧ r = bookD pool (ws ++ [x]) ∧ s = st) (fun e s => (∃ er, wrdE pool (.lst (ws ++ [x])) = some er ∧ e = er.x) ∧ s = st) := by
  have hs := setS_nms hp
  obtain ⟨e1, e2⟩ := fin_ok (A := .tup ((setS pool).map .str)) (.inr rfl) hs h1 h2
  have eb : bookE (.tup ((setS pool).map .str)) (.lst (ws ++ [x])) = wrdE pool (.lst (ws ++ [x])) := by
    unfold bookE
    rw [e1, e2]
    exact wrdE_congr setS_mem _
  have hl := hs.len
  refine (book_initE (n := 1) (m := 6) (by decide) (pl_strs (fun z hz => (hs.nm z hz).plS) (by omega)) hw).mono ?_ ?_
  · rintro _ s ⟨a, rfl, b⟩
    rw [eb] at a
    refine ⟨a, ?_, b⟩
    rw [e2, bookD_set]
    rfl
  · rintro e s h
    rw [eb] at h
    exact h
theorem own_met {n : Nat} {pool : List Str} {ws : List D} {x : D} {o : D → D → S → R D} (hp : Nms n pool) (h1 : 0 < n) (h2 : n ≤ 12) (hw : pl 6 (.lst (ws ++ [x])) = true) (hx : (tyD x).isSome = true) : OkE (ownD ((38, sem_Book_add) :: []) o (bookD pool ws) x st) (fun r s => wrdE pool (.lst (ws ++ [x])) = none ∧ r = bookD pool (ws ++ [x]) ∧ s = st) (fun e s => (∃ er, wrdE pool (.lst (ws ++ [x])) = some er ∧ e = er.x) ∧ s = st) := by
  have e : ownD ((38, sem_Book_add) :: []) o (bookD pool ws) x st = sem_Book_add [bookD pool ws, x] st := by
    unfold ownD bookD fldsOf
    dsimp only
    rw [show (List.lookup 38 ((38, sem_Book_add) :: [] : MT)) = some sem_Book_add from rfl]
    dsimp only
    rw [if_pos (.inl hx)]
  rw [e]
  refine oke_sem rfl ?_
  unfold den_Book_add
  refine e_retX (x_callD ?_)
  walk_at "u"
  refine o_attr rfl rfl ?_
  walk_at "u"
  refine k_star ?_
  walk_at "u"
  refine o_attr rfl rfl ?_
  walk_at "u"
  refine ⟨small (Nat.le_trans (pl_lst.mp hw).1 (by decide)), ?_⟩
  walk_at "u"
  exact book_more hp h1 h2 hw
theorem with_word_met {n : Nat} {pool : List Str} {ws : List D} {a b : D} (hp : Nms n pool) (h1 : 0 < n) (h2 : n ≤ 12) (hw : pl 6 (.lst (ws ++ [.tup [a, b]])) = true) : OkE (sem_Book_with_word [bookD pool ws, a, b] st) (fun r s => wrdE pool (.lst (ws ++ [.tup [a, b]])) = none ∧ r = bookD pool (ws ++ [.tup [a, b]]) ∧ s = st) (fun e s => (∃ er, wrdE pool (.lst (ws ++ [.tup [a, b]])) = some er ∧ e = er.x) ∧ s = st) := by
  refine oke_sem rfl ?_
  unfold den_Book_with_word
  refine e_retX (x_callD ?_)
  walk_at "u"
  refine o_attr rfl rfl ?_
  walk_at "u"
  refine k_star ?_
  walk_at "u"
  refine o_attr rfl rfl ?_
  walk_at "u"
  refine ⟨small (Nat.le_trans (pl_lst.mp hw).1 (by decide)), ?_⟩
  walk_at "u"
  exact book_more hp h1 h2 hw
end
end
section
set_option maxHeartbeats 1000000
/-! k09: words are put to a book one by one. -/

open PySem L2 DL Co

section
variable {tl : S × S} {st : S} {Q : D → S → Prop}
theorem pl_tyD {n : Nat} {d : D} (h : pl n d = true) : (tyD d).isSome = true := by
  cases d <;> first | rfl | (cases n <;> cases h)
theorem x_binV {f : Ev → S → R D} {o : D → D → S → R D} {fb : Ev → S → R D} {ρ : Ev} {X : Exn → S → Prop} (h : Ok (f ρ st) fun x s => Ok (fb ρ s) fun y s => OkE (o x y s) Q X) : OkE (dBin o f fb ρ st) Q X := oke_bind (Ok.e (h.mono fun x s h => oke_bind (Ok.e h)))
theorem words_pl {pool : List Str} {W : List (Str × List Str)} (hp : ∀ x ∈ pool, Nm x) (lp : pool.length ≤ 60) (hn : ∀ w ∈ W, Nm w.1) (hl : ∀ w ∈ W, Lot w.2 ∧ ∀ x ∈ w.2, x ∈ pool) : ∀ d ∈ W.map wordD, pl 2 d = true := fun d hd => by
  obtain ⟨w, hw, rfl⟩ := List.mem_map.mp hd
  obtain ⟨h1, h2⟩ := hl w hw
  have := nodup_le h1.nd h2
  exact pl_t2 (pl_s (hn w hw).plS) (pl_tupS h1.nm (by omega))
/-- what a list of words and one more is -/
theorem grown_ok {n : Nat} {pool labels : List Str} {W : List (Str × List Str)} (h : St ([], tl.2) st) (hp : Nms n pool) (h1 : 0 < n) (h2 : n ≤ 12) (hn : ∀ w ∈ W, Nm w.1) (hl : ∀ w ∈ W, Lot w.2 ∧ ∀ x ∈ w.2, x ∈ pool) (nd : (W.map (·.1)).Nodup) (l : W.length ≤ 40) (hlab : ∀ x ∈ labels, Nm x) (llab : 0 < labels.length) (q : ∀ s, St ([], tl.2) s → Q (.bl true) s) : Ok (sem__law_grown_so [.ref 0, .lst (pool.map .str), .lst (W.map wordD), .lst (labels.map .str)] st) Q := by
  have lp := hp.len
  have pW := words_pl hp.nm (by omega) hn hl
  refine ok_sem rfl ?_
  unfold den__law_grown_so
  walk_at "u"
  refine k_callD ?_
  walk_at "u"
  refine (bookW_ok hp h1 h2 ⟨hn, hl, nd, l⟩ _).mono ?_
  rintro _ s ⟨rfl, es⟩
  subst es
  walk_at "u"
  refine range1_ok (by decide) (by decide) ?_
  refine go_for (fun _ ρ s => St ([], tl.2) s ∧ ∃ a b c d e, ρ = [.sh (.ref 0), .sh (.lst (pool.map .str)), .sh (.lst (W.map wordD)), .sh (.lst (labels.map .str)), .sh (bookD pool (W.map wordD)), a, b, c, d, e]) ⟨h, _, _, _, _, _, rfl⟩ ?_ ?_
  · rintro d ds ρ st ⟨h, _, _, _, _, _, rfl⟩
    refine ⟨_, rfl, ?_⟩
    walk_at "u"
    refine wrong_ok (tl := ([], tl.2)) h hp h1 h2 hlab llab fun x s h px => ?_
    walk_at "u"
    refine o_sortS (by omega) ?_
    walk_at "u"
    have pWx : pl 6 (.lst (W.map wordD ++ [x])) = true := pl_lst.mpr ⟨by rw [List.length_append, List.length_map]; simp; omega, fun d hd => by
      rcases List.mem_append.mp hd with hd | hd
      · exact pl_le (by decide) (pW d hd)
      · rw [List.mem_singleton.mp hd]; exact px⟩
    refine addL_ok (small (by have := (pl_lst.mp pWx).1; rw [List.length_append] at this; omega)) ?_
    walk_at "u"
    refine addL_ok (small (by have := (pl_lst.mp pWx).1; rw [List.length_append] at this; omega)) ?_
    walk_at "u"
    refine words_due_ok (xs := pool) (n := 6) (.inl rfl) pWx ?_
    walk_at "u"
    have he : ∀ e, wrdE pool (.lst (W.map wordD ++ [x])) = some e → ErB e := fun e => erB_wrd
    have hm : ∀ {Q : D → S → Prop} {s : S}, Q (.bl true) s → Ok (sem__law_met [told (bookD pool (W.map wordD ++ [x])) (wrdE pool (.lst (W.map wordD ++ [x]))), due9 (wrdE pool (.lst (W.map wordD ++ [x]))), .lst [.lst ((sortS pool).map .str), .lst (W.map wordD ++ [x])]] s) Q := fun q => k_met he (fun _ => ⟨rfl, hp.nd, hp.nm, by omega, fun d hd => pl_le (by decide) ((pl_lst.mp pWx).2 d hd), by rw [List.length_append, List.length_map]; simp; omega⟩) q
    refine k_try9 (r := bookD pool (W.map wordD ++ [x])) he (x_binV ?_) ?_
    · walk_at "u"
      exact own_met hp h1 h2 pWx (pl_tyD px)
    walk_at "u"
    have ht := pl_ty_ok px
    have hsame : ∀ {Q : D → S → Prop} {s : S}, Q (.bl true) s → Ok (sem__law_same 12 [.lst [.lst ((setS pool).map .str), .lst (W.map wordD)], .lst [.lst ((sortS pool).map .str), .lst (W.map wordD)]] s) Q := fun q => by
      rw [setS_nd hp.nd]
      exact k_same (shown_pl (m := 7) hp.nm (by omega) (fun d hd => pl_le (by decide) (pW d hd)) (by rw [List.length_map]; omega)) (by decide) q
    refine hm ?_
    walk_at "u"
    have ps := shown_pl (m := 7) (xs := pool) (ds := W.map wordD) hp.nm (by omega) (fun d hd => pl_le (by decide) (pW d hd)) (by rw [List.length_map]; omega)
    by_cases hd : ∃ es, x = .tup es
    · obtain ⟨es, rfl⟩ := hd
      refine yes rfl ?_
      walk_at "u"
      by_cases h2 : es.length = 2
      · match es, h2 with
        | [a, b], _ =>
          refine yes rfl ?_
          walk_at "u"
          refine k_try9 (r := bookD pool (W.map wordD ++ [.tup [a, b]])) he (x_meth ?_) ?_
          · walk_at "u"
            exact with_word_met hp h1 (by omega) pWx
          walk_at "u"
          refine k_try9 (r := bookD pool (W.map wordD ++ [.tup [a, b]])) he (x_methK ?_) ?_
          · walk_at "u"
            exact with_word_met hp h1 (by omega) pWx
          walk_at "u"
          refine hm ?_
          walk_at "u"
          refine hm ?_
          walk_at "u"
          refine k_shown hp.nd ?_
          walk_at "u"
          refine o_sortS (by omega) ?_
          walk_at "u"
          refine k_same ps (by decide) ?_
          walk_at "u"
          exact ⟨h, _, _, _, _, _, rfl⟩
      · refine no (decide_eq_false (by omega)) ?_
        walk_at "u"
        refine k_shown hp.nd ?_
        walk_at "u"
        refine o_sortS (by omega) ?_
        walk_at "u"
        refine k_same ps (by decide) ?_
        walk_at "u"
        exact ⟨h, _, _, _, _, _, rfl⟩
    · refine no (isI_tup hd).1 ?_
      walk_at "u"
      refine k_shown hp.nd ?_
      walk_at "u"
      refine o_sortS (by omega) ?_
      walk_at "u"
      refine k_same ps (by decide) ?_
      walk_at "u"
      exact ⟨h, _, _, _, _, _, rfl⟩
  · rintro ρ s ⟨h, _, _, _, _, _, rfl⟩
    walk_at "u"
    exact q s h
end
end
section
set_option maxHeartbeats 1000000
/-! k09: the law. -/

open PySem L2 DL Co

def dueX (i j : Nat) : Ev → S → R D := dIf (dTB (dBin neD (dCall sem__law_finds_due (dCons (dVar i) (dNil))) (dTup (dNil)))) (dCall sem__law_finds_due (dCons (dVar i) (dNil))) (dCall sem__law_words_due (dCons (dVar i) (dCons (dVar j) (dNil))))
def shX (i j : Nat) : Ev → S → R D := dIf (dTB (dBin eqD (dVar 7) (dTup (dNil)))) (dLst (dCons (dCall (one sortedD) (dCons (dVar i) (dNil))) (dCons (dCall (one listF) (dCons (dVar j) (dNil))) (dNil)))) (dLst (dNil))
/-- what is due of finds and words -/
theorem due_both {A B : D} {st : S} {ρ : Ev} {Q : D → S → Prop} {i j : Nat} {n m : Nat} (hn : n ≤ 60) (hA : pl n A = true) (hT : tupOK A = true) (hB : pl m B = true) (ei : ρ[i]? = some (.sh A)) (ej : ρ[j]? = some (.sh B)) (q : Q (due9 (bookE A B)) st) : Ok (dueX i j ρ st) Q := by
  unfold dueX
  have hf : ∀ e, finE A = some e → ErB e := fun e => erB_fin
  refine k_if (k_tb (k_bin (k_call (k_cons (k_var ei (k_nil (finds_due_ok hn hA hT (k_tup (k_nil ⟨by decide, k_ne0 hf ⟨_, rfl, ?_⟩⟩)))))))))
  unfold bookE at q
  cases he : finE A with
  | some e =>
    rw [he] at q
    refine ⟨fun _ => k_call (k_cons (k_var ei (k_nil (finds_due_ok hn hA hT ?_)))), fun z => nomatch z⟩
    rw [he]
    exact q
  | none =>
    rw [he] at q
    refine ⟨(fun z => nomatch z), fun _ => ?_⟩
    obtain ⟨xs, hx, ex, _⟩ := fin_names he
    rw [ex] at q
    exact k_call (k_cons (k_var ei (k_cons (k_var ej (k_nil (words_due_ok hx hB q))))))
/-- what is shown beside it -/
theorem k_sh9 {A B : D} {m : Nat} {st : S} {ρ : Ev} {Q : D → S → Prop} {i j : Nat} (hB : pl m B = true) (e7 : ρ[7]? = some (.sh (due9 (bookE A B)))) (ei : ρ[i]? = some (.sh A)) (ej : ρ[j]? = some (.sh B)) (q : ∀ Sh, (bookE A B = none → Sh = shownD (namesD A) ((itemsOf B).getD [])) → Q Sh st) : Ok (shX i j ρ st) Q := by
  unfold shX
  refine k_if (k_tb (k_bin (k_var e7 (k_tup (k_nil ⟨by decide, k_eq0 (fun e => erB_book) ⟨_, rfl, ?_⟩⟩)))))
  cases hb : bookE A B with
  | some e =>
    refine ⟨(fun z => nomatch z), fun _ => k_lst (k_nil ⟨by decide, q _ fun z => by rw [hb] at z; cases z⟩)⟩
  | none =>
    refine ⟨fun _ => ?_, (fun z => nomatch z)⟩
    have hb' := hb
    unfold bookE at hb'
    split at hb'
    · cases hb'
    rename_i hf
    obtain ⟨xs, hx, ex, _, _, _, l12⟩ := fin_names hf
    obtain ⟨ds, hi, _, _⟩ := wrd_items hb'
    have hs : ∀ {Q : D → S → Prop}, Q (.lst ((sortS xs).map .str)) st → Ok (sortedD A st) Q := fun q' => by
      rcases hx with rfl | rfl
      · exact o_sortS (by omega) q'
      · exact o_sortT q'
    have hl : ∀ {Q : D → S → Prop}, Q (.lst ds) st → Ok (listF B st) Q := fun q' => by
      rcases items_some hi with rfl | rfl
      · exact o_lstL q'
      · exact o_lstT q'
    refine k_lst (k_cons (k_call (k_cons (k_var ei (k_nil (k_one (hs ?_)))))))
    refine k_cons (k_call (k_cons (k_var ej (k_nil (k_one (hl ?_))))))
    refine k_nil ⟨small (by simp), q _ fun _ => ?_⟩
    rw [ex, hi]
    rfl
theorem k_met9 {A B Sh : D} {st : S} {m : Nat} {Q : D → S → Prop} (hB : pl m B = true) (hm : m ≤ 7) (hs : bookE A B = none → Sh = shownD (namesD A) ((itemsOf B).getD [])) (q : Q (.bl true) st) : Ok (sem__law_met [told (bookD (namesD A) ((itemsOf B).getD [])) (bookE A B), due9 (bookE A B), Sh] st) Q := by
  refine k_met (fun e => erB_book) (fun hb => ⟨hs hb, ?_⟩) q
  unfold bookE at hb
  split at hb
  · cases hb
  rename_i hf
  obtain ⟨xs, hx, ex, nd, nm, _, l12⟩ := fin_names hf
  obtain ⟨ds, hi, l40, _⟩ := wrd_items hb
  rw [ex, hi]
  exact ⟨nd, nm, l12, fun d hd => pl_le hm ((items_pl hB hi).2 d hd), by show ds.length ≤ 100; omega⟩
def law10C : Ev → S → RS := sSeq (sAsg (.tp [14, 15]) (dTup (dCons (dCall sem__law_odd (dCons (dVar 1) (dNil))) (dCons (dCall sem__law_pick (dCons (dVar 1) (dCons (dLst (dCons (dC .non) (dCons (dC (.int 5)) (dCons (dC (.str "ab")) (dCons (dC (.bl true)) (dCons (dCall sem__law_odd (dCons (dVar 1) (dNil))) (dNil))))))) (dNil)))) (dNil))))) (sSeq (sSet 7 (dueX 14 10)) (sSeq (sIf (tNotD (dTst (dCall sem__law_met (dCons (dTry "told" (okC [4, 5, 11, 18, 19, 33]) hF__law_try_4 (dCallD sem_Book_init [] (dCons (dVar 14) (dCons (dVar 12) (dNil))))) (dCons (dVar 7) (dCons (shX 14 10) (dNil))))))) (sRet (dC (.bl false))) (sNext)) (sSeq (sSet 7 (dCall sem__law_words_due (dCons (dVar 4) (dCons (dVar 15) (dNil))))) (sSeq (sIf (tNotD (dTst (dCall sem__law_met (dCons (dTry "told" (okC [4, 5, 11, 18, 19, 33]) hF__law_try_4 (dCallD sem_Book_init [] (dCons (dVar 4) (dCons (dVar 15) (dNil))))) (dCons (dVar 7) (dCons (shX 4 15) (dNil))))))) (sRet (dC (.bl false))) (sNext)) (sIf (tNotD (dTst (dCall (sem__law_same 12) (dCons (dLst (dCons (dVar 12) (dCons (dVar 13) (dNil)))) (dCons (dLst (dCons (dVar 10) (dCons (dVar 11) (dNil)))) (dNil)))))) (sRet (dC (.bl false))) (sNext))))))
def law10B : Ev → S → RS := sSeq (sSet 7 (dueX 11 10)) (sSeq (sSet 8 (dLst (dCons (dTry "told" (okC [4, 5, 11, 18, 19, 33]) hF__law_try_4 (dCallD sem_Book_init [] (dCons (dVar 13) (dCons (dVar 12) (dNil))))) (dCons (dTry "told" (okC [4, 5, 11, 18, 19, 33]) hF__law_try_4 (dCallKD sem_Book_init 0 2 [.tup []] [1, 0] dNil (dCons (dCall (one tupleF) (dCons (dVar 10) (dNil))) (dCons (dCall (one tupleF) (dCons (dVar 11) (dNil))) (dNil))))) (dNil))))) (sSeq (sSet 9 (shX 11 10)) (sSeq (sIf (tOrD (tNotD (dTst (dCall sem__law_met (dCons (dBin ixD (dVar 8) (dC (.int 0))) (dCons (dVar 7) (dCons (dVar 9) (dNil))))))) (tNotD (dTst (dCall sem__law_met (dCons (dBin ixD (dVar 8) (dC (.int 1))) (dCons (dVar 7) (dCons (dVar 9) (dNil)))))))) (sRet (dC (.bl false))) (sNext)) (law10C))))
def law10A : Ev → S → RS := sSeq (sFor (.nm 6) (dRange (dCons (dCall sem__law_pick (dCons (dVar 1) (dCons (dLst (dCons (dC (.int 0)) (dCons (dC (.int 1)) (dCons (dC (.int 1)) (dCons (dC (.int 2)) (dNil)))))) (dNil)))) (dNil))) (sSet 10 (dCall sem__law_put (dCons (dVar 1) (dCons (dVar 10) (dCons (dCall sem__law_wrong_term (dCons (dVar 1) (dCons (dVar 4) (dCons (dVar 2) (dNil))))) (dNil))))))) (sSeq (sFor (.nm 6) (dRange (dCons (dCall sem__law_pick (dCons (dVar 1) (dCons (dLst (dCons (dC (.int 0)) (dCons (dC (.int 0)) (dCons (dC (.int 0)) (dCons (dC (.int 1)) (dCons (dC (.int 2)) (dNil))))))) (dNil)))) (dNil))) (sSet 11 (dCall sem__law_put (dCons (dVar 1) (dCons (dVar 11) (dCons (dCall sem__law_pick (dCons (dVar 1) (dCons (dLst (dCons (dCall sem__law_odd (dCons (dVar 1) (dNil))) (dCons (dBin ixD (dVar 11) (dC (.int 0))) (dCons (dCall sem__law_word (dCons (dVar 1) (dCons (dC (.int 6)) (dNil)))) (dNil))))) (dNil)))) (dNil))))))) (sSeq (sAsg (.tp [12, 13]) (dTup (dCons (dCall (one listF) (dCons (dVar 10) (dNil))) (dCons (dCall (one listF) (dCons (dVar 11) (dNil))) (dNil))))) (law10B)))
theorem den_10 : den_law_10 = sSeq (sSet 1 (dCall sem__law_start (dCons (dVar 0) (dCons (dC (.int 120330989)) (dNil))))) (sSeq (sSet 2 (dCall sem__law_names (dCons (dVar 1) (dCons (dC (.int 45)) (dNil))))) (sSeq (sFor (.nm 3) (dRange (dCons (dC (.int 4)) (dNil))) (sSeq (sSet 4 (dCall sem__law_names (dCons (dVar 1) (dCons (dCall sem__law_pick (dCons (dVar 1) (dCons (dLst (dCons (dC (.int 1)) (dCons (dC (.int 2)) (dCons (dC (.int 3)) (dCons (dC (.int 4)) (dCons (dC (.int 5)) (dCons (dC (.int 6)) (dCons (dC (.int 8)) (dCons (dC (.int 12)) (dNil)))))))))) (dNil)))) (dNil))))) (sSeq (sSet 5 (dIf (dTB (dBin eqD (dCall sem__law_draw (dCons (dVar 1) (dCons (dC (.int 3)) (dNil)))) (dC (.int 0)))) (dCall sem__law_pick (dCons (dVar 1) (dCons (dLst (dCons (dC (.int 0)) (dCons (dC (.int 1)) (dCons (dC (.int 2)) (dCons (dC (.int 3)) (dCons (dC (.int 4)) (dCons (dC (.int 6)) (dCons (dC (.int 39)) (dCons (dC (.int 40)) (dCons (dC (.int 41)) (dNil))))))))))) (dNil)))) (dCall sem__law_draw (dCons (dVar 1) (dCons (dC (.int 6)) (dNil)))))) (sSeq (sAsg (.tp [10, 11]) (dTup (dCons (dCall sem__law_terms (dCons (dVar 1) (dCons (dSl (dVar 2) (dNoP) (dPart (dVar 5))) (dCons (dVar 4) (dNil))))) (dCons (dVar 4) (dNil))))) (sSeq (sIf (tAndD (dTB (dBin ltD (dVar 5) (dC (.int 41)))) (tNotD (dTst (dCall sem__law_grown_so (dCons (dVar 1) (dCons (dVar 4) (dCons (dVar 10) (dCons (dVar 2) (dNil))))))))) (sRet (dC (.bl false))) (sNext)) (law10A)))))) (sRet (dC (.bl true))))) := rfl
section
variable {st : S}
abbrev Inv9 (ns : List Int) (labels : List Str) (ρ : Ev) (s : S) : Prop := St ([], []) s ∧ ∃ a3 a4 a5 a6 a7 a8 a9 a10 a11 a12 a13 a14 a15, ρ = [.sh (.scr ns), .sh (.ref 0), .sh (.lst (labels.map .str)), a3, a4, a5, a6, a7, a8, a9, a10, a11, a12, a13, a14, a15]
theorem law10C_ok {ns : List Int} {labels pool : List Str} {n : Nat} {a3 a5 a6 a7 a8 a9 a14 a15 : Sl} {tm tg : List D} (h : St ([], []) st) (hp : Nms n pool) (hn1 : 0 < n) (hn2 : n ≤ 12) (ptm : pl 6 (.lst tm) = true) (ptg : pl 3 (.lst tg) = true) : Go (law10C [.sh (.scr ns), .sh (.ref 0), .sh (.lst (labels.map .str)), a3, .sh (.lst (pool.map .str)), a5, a6, a7, a8, a9, .sh (.lst tm), .sh (.lst tg), .sh (.lst tm), .sh (.lst tg), a14, a15] st) (Inv9 ns labels) (fun d _ => d = .bl true) := by
  have lp := hp.len
  have ppl : pl 1 (.lst (pool.map .str)) = true := pl_strsL (fun z hz => (hp.nm z hz).plS) (by omega)
  unfold law10C
  walk_at "u"
  refine (odd2_ok (tl := ([], [])) h).mono ?_
  rintro x s ⟨h, px, tx⟩
  walk_at "u"
  refine (odd_ok (tl := ([], [])) h).mono ?_
  rintro y0 s ⟨h, py0⟩
  walk_at "u"
  refine (pick_ok (tl := ([], [])) h (by simp) (by simp)).mono ?_
  rintro y s ⟨h, hy⟩
  have py : pl 2 y = true := by
    simp only [List.mem_cons, List.not_mem_nil, or_false] at hy
    rcases hy with rfl | rfl | rfl | rfl | rfl
    · exact pl_non
    · exact pl_int
    · exact pl_s (by decide)
    · exact pl_bl
    · exact py0
  walk_at "u"
  refine due_both (n := 2) (m := 6) (by decide) px tx ptm rfl rfl ?_
  walk_at "u"
  refine k_try9 (o := bookE x (.lst tm)) (r := bookD (namesD x) ((itemsOf (.lst tm)).getD [])) (fun e => erB_book) (x_callD ?_) ?_
  · walk_at "u"
    exact book_initE (by decide) px ptm
  walk_at "u"
  refine k_sh9 (A := x) ptm rfl rfl rfl fun Sh hSh => ?_
  walk_at "u"
  refine k_met9 ptm (by decide) hSh ?_
  walk_at "u"
  refine words_due_ok (xs := pool) (.inl rfl) py ?_
  obtain ⟨f1, f2⟩ := fin_ok (A := .lst (pool.map .str)) (.inl rfl) hp hn1 hn2
  have eb : wrdE pool y = bookE (.lst (pool.map .str)) y := by
    unfold bookE
    rw [f1, f2]
  rw [eb]
  walk_at "u"
  refine k_try9 (o := bookE (.lst (pool.map .str)) y) (r := bookD (namesD (.lst (pool.map .str))) ((itemsOf y).getD [])) (fun e => erB_book) (x_callD ?_) ?_
  · walk_at "u"
    exact book_initE (by decide) ppl py
  walk_at "u"
  refine k_sh9 (A := .lst (pool.map .str)) py rfl rfl rfl fun Sh2 hSh2 => ?_
  walk_at "u"
  refine k_met9 py (by decide) hSh2 ?_
  walk_at "u"
  refine k_same (n := 7) (pl_lst.mpr ⟨by simp, fun z hz => ?_⟩) (by decide) ?_
  · simp only [List.mem_cons, List.not_mem_nil, or_false] at hz
    rcases hz with rfl | rfl
    · exact ptm
    · exact pl_le (by decide) ptg
  walk_at "u"
  exact ⟨h, _, _, _, _, _, _, _, _, _, _, _, _, _, rfl⟩
theorem law10B_ok {ns : List Int} {labels pool : List Str} {n : Nat} {a3 a5 a6 a7 a8 a9 a14 a15 : Sl} {tm tg : List D} (h : St ([], []) st) (hp : Nms n pool) (hn1 : 0 < n) (hn2 : n ≤ 12) (ptm : pl 6 (.lst tm) = true) (ptg : pl 3 (.lst tg) = true) : Go (law10B [.sh (.scr ns), .sh (.ref 0), .sh (.lst (labels.map .str)), a3, .sh (.lst (pool.map .str)), a5, a6, a7, a8, a9, .sh (.lst tm), .sh (.lst tg), .sh (.lst tm), .sh (.lst tg), a14, a15] st) (Inv9 ns labels) (fun d _ => d = .bl true) := by
  have ptm2 : pl 6 (.tup tm) = true := pl_tup.mpr (pl_lst.mp ptm)
  have ptg2 : pl 3 (.tup tg) = true := pl_tup.mpr (pl_lst.mp ptg)
  unfold law10B
  walk_at "u"
  refine due_both (n := 3) (m := 6) (by decide) ptg rfl ptm rfl rfl ?_
  walk_at "u"
  refine k_try9 (o := bookE (.lst tg) (.lst tm)) (r := bookD (namesD (.lst tg)) ((itemsOf (.lst tm)).getD [])) (fun e => erB_book) (x_callD ?_) ?_
  · walk_at "u"
    exact book_initE (by decide) ptg ptm
  walk_at "u"
  refine k_try9 (o := bookE (.lst tg) (.lst tm)) (r := bookD (namesD (.lst tg)) ((itemsOf (.lst tm)).getD [])) (fun e => erB_book) (x_callKD ?_) ?_
  · walk_at "u"
    exact book_initE (A := .tup tg) (B := .tup tm) (by decide) ptg2 ptm2
  walk_at "u"
  refine k_sh9 (A := .lst tg) ptm rfl rfl rfl fun Sh hSh => ?_
  walk_at "u"
  refine k_met9 ptm (by decide) hSh ?_
  walk_at "u"
  refine k_met9 ptm (by decide) hSh ?_
  walk_at "u"
  exact law10C_ok h hp hn1 hn2 ptm ptg
theorem law10A_ok {ns : List Int} {labels pool : List Str} {n : Nat} {a3 a5 a6 a7 a8 a9 a12 a13 a14 a15 : Sl} {W : List (Str × List Str)} (h : St ([], []) st) (hlab : Nms 45 labels) (hp : Nms n pool) (hn1 : 0 < n) (hn2 : n ≤ 12) (pW : ∀ d ∈ W.map wordD, pl 2 d = true) (lW : W.length ≤ 41) : Go (law10A [.sh (.scr ns), .sh (.ref 0), .sh (.lst (labels.map .str)), a3, .sh (.lst (pool.map .str)), a5, a6, a7, a8, a9, .sh (.lst (W.map wordD)), .sh (.lst (pool.map .str)), a12, a13, a14, a15] st) (Inv9 ns labels) (fun d _ => d = .bl true) := by
  have lp := hp.len
  have llab := hlab.len
  unfold law10A
  walk_at "u"
  refine (pick_ok (tl := ([], [])) h (by simp) (by simp)).mono ?_
  rintro e s ⟨h, he⟩
  obtain ⟨k, hk, rfl⟩ : ∃ k : Nat, k ≤ 2 ∧ e = .int (k : Nat) := by
    simp only [List.mem_cons, List.not_mem_nil, or_false] at he
    rcases he with rfl | rfl | rfl | rfl
    · exact ⟨0, by decide, rfl⟩
    · exact ⟨1, by decide, rfl⟩
    · exact ⟨1, by decide, rfl⟩
    · exact ⟨2, by decide, rfl⟩
  walk_at "u"
  refine range1_ok (by omega) (by omega) ?_
  rw [Int.toNat_natCast]
  refine go_for (fun dl ρ s => St ([], []) s ∧ ∃ tm a6, dl.length + tm.length ≤ 43 ∧ (∀ e ∈ tm, pl 5 e = true) ∧ ρ = [.sh (.scr ns), .sh (.ref 0), .sh (.lst (labels.map .str)), a3, .sh (.lst (pool.map .str)), a5, a6, a7, a8, a9, .sh (.lst tm), .sh (.lst (pool.map .str)), a12, a13, a14, a15]) ⟨h, W.map wordD, _, by rw [List.length_map, List.length_map, List.length_range]; omega, fun d hd => pl_le (by decide) (pW d hd), rfl⟩ ?_ ?_
  · rintro d dl ρ st ⟨h, tm, _, l, ptm, rfl⟩
    rw [List.length_cons] at l
    refine ⟨_, rfl, ?_⟩
    walk_at "u"
    refine wrong_ok (tl := ([], [])) h hp hn1 hn2 hlab.nm (by omega) fun x s h px => ?_
    walk_at "u"
    refine put_ok (tl := ([], [])) (P := fun d => pl 5 d = true) h ptm px (by omega) fun es s h hes les _ => ?_
    exact ⟨h, es, _, by omega, hes, rfl⟩
  rintro ρ s ⟨h, tm, _, l, ptm, rfl⟩
  rw [List.length_nil] at l
  have ptm6 : pl 6 (.lst tm) = true := pl_lst.mpr ⟨by omega, ptm⟩
  walk_at "u"
  refine (pick_ok (tl := ([], [])) h (by simp) (by simp)).mono ?_
  rintro e s ⟨h, he⟩
  obtain ⟨k, hk, rfl⟩ : ∃ k : Nat, k ≤ 2 ∧ e = .int (k : Nat) := by
    simp only [List.mem_cons, List.not_mem_nil, or_false] at he
    rcases he with rfl | rfl | rfl | rfl | rfl
    · exact ⟨0, by decide, rfl⟩
    · exact ⟨0, by decide, rfl⟩
    · exact ⟨0, by decide, rfl⟩
    · exact ⟨1, by decide, rfl⟩
    · exact ⟨2, by decide, rfl⟩
  walk_at "u"
  refine range1_ok (by omega) (by omega) ?_
  rw [Int.toNat_natCast]
  refine go_for (fun dl ρ s => St ([], []) s ∧ ∃ tg a6, dl.length + tg.length ≤ 14 ∧ tg ≠ [] ∧ (∀ e ∈ tg, pl 2 e = true) ∧ ρ = [.sh (.scr ns), .sh (.ref 0), .sh (.lst (labels.map .str)), a3, .sh (.lst (pool.map .str)), a5, a6, a7, a8, a9, .sh (.lst tm), .sh (.lst tg), a12, a13, a14, a15]) ⟨h, pool.map .str, _, by rw [List.length_map, List.length_map, List.length_range]; omega, fun z => ?_, fun d hd => ?_, rfl⟩ ?_ ?_
  · have := congrArg List.length z
    rw [List.length_map, List.length_nil] at this
    omega
  · obtain ⟨x, hx, rfl⟩ := List.mem_map.mp hd
    exact pl_s (hp.nm x hx).plS
  · rintro d dl ρ st ⟨h, tg, _, l, t0, ptg, rfl⟩
    rw [List.length_cons] at l
    refine ⟨_, rfl, ?_⟩
    walk_at "u"
    refine (odd_ok (tl := ([], [])) h).mono ?_
    rintro o s ⟨h, po⟩
    walk_at "u"
    obtain ⟨g0, gr, rfl⟩ : ∃ a b, tg = a :: b := by
      cases tg with
      | nil => exact absurd rfl t0
      | cons a b => exact ⟨a, b, rfl⟩
    refine ixL_ok (d := g0) (atI_z _ _) ?_
    walk_at "u"
    refine (word_ok (tl := ([], [])) h (by decide) (by decide)).mono ?_
    rintro _ s ⟨h, wd, rfl, wl, _, wl2⟩
    walk_at "u"
    refine (pick_ok (tl := ([], [])) h (by simp) (by simp)).mono ?_
    rintro e s ⟨h, he⟩
    have pe : pl 2 e = true := by
      simp only [List.mem_cons, List.not_mem_nil, or_false] at he
      rcases he with rfl | rfl | rfl
      · exact po
      · exact ptg _ List.mem_cons_self
      · exact pl_s (low_plS wl (by omega))
    walk_at "u"
    refine put_ok (tl := ([], [])) (P := fun d => pl 2 d = true) h ptg pe (by omega) fun es s h hes les e0 => ?_
    exact ⟨h, es, _, by omega, e0, hes, rfl⟩
  rintro ρ s ⟨h, tg, _, l, t0, ptg, rfl⟩
  rw [List.length_nil] at l
  walk_at "u"
  exact law10B_ok h hp hn1 hn2 ptm6 (pl_lst.mpr ⟨by omega, ptg⟩)
end
theorem k09_math (ns : List Int) (hl : ns.length ≤ 63) : ∃ st, Co.sem_law_10 [.scr ns] [] = .ok (.bl true) st := by
  suffices h : Ok (Co.sem_law_10 [.scr ns] []) fun d _ => d = .bl true by
    obtain ⟨d, s, e, rfl⟩ := h
    exact ⟨s, e⟩
  refine ok_sem rfl ?_
  rw [den_10]
  walk_at "u"
  refine (start_ok hl).mono ?_
  rintro d s ⟨rfl, h⟩
  walk_at "u"
  refine (names_ok (N := 45) h (by decide) (by decide)).mono ?_
  rintro d s ⟨h, labels, rfl, hlab⟩
  have llab := hlab.len
  walk_at "u"
  refine range1_ok (by decide) (by decide) ?_
  refine go_for (fun _ ρ s => St ([], []) s ∧ ∃ a3 a4 a5 a6 a7 a8 a9 a10 a11 a12 a13 a14 a15, ρ = [.sh (.scr ns), .sh (.ref 0), .sh (.lst (labels.map .str)), a3, a4, a5, a6, a7, a8, a9, a10, a11, a12, a13, a14, a15]) ⟨h, _, _, _, _, _, _, _, _, _, _, _, _, _, rfl⟩ ?_ ?_
  · rintro d ds ρ st ⟨h, _, _, _, _, _, _, _, _, _, _, _, _, _, rfl⟩
    refine ⟨_, rfl, ?_⟩
    walk_at "u"
    refine (pick_ok (tl := ([], [])) h (by simp) (by simp)).mono ?_
    rintro e s ⟨h, he⟩
    obtain ⟨n, hn1, hn2, rfl⟩ : ∃ n : Nat, 0 < n ∧ n ≤ 12 ∧ e = .int (n : Nat) := by
      simp only [List.mem_cons, List.not_mem_nil, or_false] at he
      rcases he with rfl | rfl | rfl | rfl | rfl | rfl | rfl | rfl
      · exact ⟨1, by decide, by decide, rfl⟩
      · exact ⟨2, by decide, by decide, rfl⟩
      · exact ⟨3, by decide, by decide, rfl⟩
      · exact ⟨4, by decide, by decide, rfl⟩
      · exact ⟨5, by decide, by decide, rfl⟩
      · exact ⟨6, by decide, by decide, rfl⟩
      · exact ⟨8, by decide, by decide, rfl⟩
      · exact ⟨12, by decide, by decide, rfl⟩
    walk_at "u"
    refine (names_ok (tl := ([], [])) h hn1 (by omega)).mono ?_
    rintro _ s ⟨h, pool, rfl, hp⟩
    have lp := hp.len
    refine g_seq (g_set (Ok.mono (Q := fun d s => St ([], []) s ∧ ∃ k : Nat, k ≤ 41 ∧ d = .int (k : Nat)) ?many ?_))
    case many =>
      walk_at "u"
      refine (draw_ok (tl := ([], [])) h (by decide) (by decide)).mono ?_
      rintro _ s ⟨h, b, rfl, _, _⟩
      walk_at "u"
      refine ⟨fun _ => ?_, fun _ => ?_⟩
      · walk_at "u"
        refine (pick_ok (tl := ([], [])) h (by simp) (by simp)).mono ?_
        rintro e s ⟨h, he⟩
        refine ⟨h, ?_⟩
        simp only [List.mem_cons, List.not_mem_nil, or_false] at he
        rcases he with rfl | rfl | rfl | rfl | rfl | rfl | rfl | rfl | rfl
        · exact ⟨0, by decide, rfl⟩
        · exact ⟨1, by decide, rfl⟩
        · exact ⟨2, by decide, rfl⟩
        · exact ⟨3, by decide, rfl⟩
        · exact ⟨4, by decide, rfl⟩
        · exact ⟨6, by decide, rfl⟩
        · exact ⟨39, by decide, rfl⟩
        · exact ⟨40, by decide, rfl⟩
        · exact ⟨41, by decide, rfl⟩
      · walk_at "u"
        refine (draw_ok (tl := ([], [])) h (by decide) (by decide)).mono ?_
        rintro _ s ⟨h, b, rfl, b0, b1⟩
        obtain ⟨b, rfl⟩ := Int.eq_ofNat_of_zero_le b0
        exact ⟨h, b, by have : ((b : Nat) : Int) < 6 := b1; omega, rfl⟩
    rintro _ s ⟨h, k, k41, rfl⟩
    walk_at "u"
    rw [cutL_map, cutL_hi]
    refine terms_ok (tl := ([], [])) h hp hn1 hn2 (by rw [List.length_take]; omega) fun W s h eW hW => ?_
    have lW : W.length ≤ 41 := by have := congrArg List.length eW; rw [List.length_map, List.length_take] at this; omega
    have nW : ∀ w ∈ W, Nm w.1 := fun w hw => by
      have : w.1 ∈ W.map (·.1) := List.mem_map.mpr ⟨w, hw, rfl⟩
      rw [eW] at this
      exact hlab.nm _ (List.mem_of_mem_take this)
    have dW : (W.map (·.1)).Nodup := by rw [eW]; exact hlab.nd.sublist (List.take_sublist _ _)
    have kW : W.length = min k 45 := by have := congrArg List.length eW; rw [List.length_map, List.length_take, llab] at this; exact this
    walk_at "u"
    refine ⟨fun hk => ?_, fun hk => ?_⟩
    · have hk := of_decide_eq_true hk
      walk_at "u"
      refine grown_ok (tl := ([], [])) h hp hn1 hn2 nW hW dW (by omega) hlab.nm (by omega) fun s h => ?_
      walk_at "u"
      exact law10A_ok h hlab hp hn1 hn2 (words_pl hp.nm (by omega) nW hW) lW
    · walk_at "u"
      exact law10A_ok h hlab hp hn1 hn2 (words_pl hp.nm (by omega) nW hW) lW
  · rintro ρ s ⟨h, _, _, _, _, _, _, _, _, _, _, _, _, _, rfl⟩
    walk_at "u"
    rfl
end
end DM
set_option maxHeartbeats 4000000
/-! The derivations (printed by wip/tools/gen.py). -/
namespace Lk09
open PySem PySem.Spec PyProof.Rows L2 L2H DL Co
def topS (i : Nat) : Stmt := PySem.Challenge.pw_threeorders_k09_books_refused.main.body.getD i (.Pass ⟨0, 0, 0, 0⟩)
abbrev s__law_start : Stmt := topS 34
abbrev N__law_start : List Str := ["_law_script", "_law_own", "_law_mixed", "_law_cell"]
abbrev P__law_start : List Str := ["_law_script", "_law_own"]
theorem sc__law_start : FnScope N__law_start P__law_start (defScope s__law_start) := ⟨rfl, rfl, rfl, by decide +kernel, rfl, by decide +kernel, by decide +kernel⟩
abbrev s__law_draw : Stmt := topS 35
abbrev N__law_draw : List Str := ["_law_state", "_law_many", "_law_base", "_law_cell", "_law_digit"]
abbrev P__law_draw : List Str := ["_law_state", "_law_many"]
theorem sc__law_draw : FnScope N__law_draw P__law_draw (defScope s__law_draw) := ⟨rfl, rfl, rfl, by decide +kernel, rfl, by decide +kernel, by decide +kernel⟩
abbrev s__law_pick : Stmt := topS 36
abbrev N__law_pick : List Str := ["_law_state", "_law_pool"]
abbrev P__law_pick : List Str := ["_law_state", "_law_pool"]
theorem sc__law_pick : FnScope N__law_pick P__law_pick (defScope s__law_pick) := ⟨rfl, rfl, rfl, by decide +kernel, rfl, by decide +kernel, by decide +kernel⟩
abbrev s__law_letters : Stmt := topS 38
abbrev N__law_letters : List Str := []
abbrev P__law_letters : List Str := []
theorem sc__law_letters : FnScope N__law_letters P__law_letters (defScope s__law_letters) := ⟨rfl, rfl, rfl, by decide +kernel, rfl, by decide +kernel, by decide +kernel⟩
abbrev s__law_word : Stmt := topS 39
abbrev N__law_word : List Str := ["_law_state", "_law_longest", "_law_k"]
abbrev P__law_word : List Str := ["_law_state", "_law_longest"]
theorem sc__law_word : FnScope N__law_word P__law_word (defScope s__law_word) := ⟨rfl, rfl, rfl, by decide +kernel, rfl, by decide +kernel, by decide +kernel⟩
abbrev s__law_shuffle : Stmt := topS 37
abbrev N__law_shuffle : List Str := ["_law_state", "_law_pool", "_law_some", "_law_x"]
abbrev P__law_shuffle : List Str := ["_law_state", "_law_pool"]
theorem sc__law_shuffle : FnScope N__law_shuffle P__law_shuffle (defScope s__law_shuffle) := ⟨rfl, rfl, rfl, by decide +kernel, rfl, by decide +kernel, by decide +kernel⟩
abbrev s__law_names : Stmt := topS 40
abbrev N__law_names : List Str := ["_law_state", "_law_many", "_law_letters_here", "_law_signs", "_law_some", "_law_k", "_law_first", "_law_stride", "_law_way", "_law_stem", "_law_spot", "_law_known", "_law_longer", "_law_tag", "_law_spare", "_law_sign"]
abbrev P__law_names : List Str := ["_law_state", "_law_many"]
theorem sc__law_names : FnScope N__law_names P__law_names (defScope s__law_names) := ⟨rfl, rfl, rfl, by decide +kernel, rfl, by decide +kernel, by decide +kernel⟩
abbrev s__law_subset : Stmt := topS 42
abbrev N__law_subset : List Str := ["_law_state", "_law_pool", "_law_bits", "_law_some", "_law_limit", "_law_spare", "_law_x", "_law_k"]
abbrev P__law_subset : List Str := ["_law_state", "_law_pool"]
theorem sc__law_subset : FnScope N__law_subset P__law_subset (defScope s__law_subset) := ⟨rfl, rfl, rfl, by decide +kernel, rfl, by decide +kernel, by decide +kernel⟩
abbrev s__law_stretch : Stmt := topS 43
abbrev N__law_stretch : List Str := ["_law_state", "_law_lineup", "_law_long", "_law_spot"]
abbrev P__law_stretch : List Str := ["_law_state", "_law_lineup"]
theorem sc__law_stretch : FnScope N__law_stretch P__law_stretch (defScope s__law_stretch) := ⟨rfl, rfl, rfl, by decide +kernel, rfl, by decide +kernel, by decide +kernel⟩
abbrev s__law_terms : Stmt := topS 51
abbrev N__law_terms : List Str := ["_law_state", "_law_labels", "_law_pool", "_law_lineup", "_law_loose", "_law_lots_z", "_law_label", "_law_k"]
abbrev P__law_terms : List Str := ["_law_state", "_law_labels", "_law_pool"]
theorem sc__law_terms : FnScope N__law_terms P__law_terms (defScope s__law_terms) := ⟨rfl, rfl, rfl, by decide +kernel, rfl, by decide +kernel, by decide +kernel⟩
abbrev s_is_name : Stmt := topS 13
abbrev N_is_name : List Str := ["value", "sign"]
abbrev P_is_name : List Str := ["value"]
theorem sc_is_name : FnScope N_is_name P_is_name (defScope s_is_name) := ⟨rfl, rfl, rfl, by decide +kernel, rfl, by decide +kernel, by decide +kernel⟩
abbrev s_check_finds : Stmt := topS 26
abbrev N_check_finds : List Str := ["finds", "at", "find"]
abbrev P_check_finds : List Str := ["finds"]
theorem sc_check_finds : FnScope N_check_finds P_check_finds (defScope s_check_finds) := ⟨rfl, rfl, rfl, by decide +kernel, rfl, by decide +kernel, by decide +kernel⟩
abbrev s_is_lot : Stmt := topS 15
abbrev N_is_lot : List Str := ["value", "name", "late"]
abbrev P_is_lot : List Str := ["value"]
theorem sc_is_lot : FnScope N_is_lot P_is_lot (defScope s_is_lot) := ⟨rfl, rfl, rfl, by decide +kernel, rfl, by decide +kernel, by decide +kernel⟩
abbrev s_is_lot_of : Stmt := topS 16
abbrev N_is_lot_of : List Str := ["finds", "value", "name"]
abbrev P_is_lot_of : List Str := ["finds", "value"]
theorem sc_is_lot_of : FnScope N_is_lot_of P_is_lot_of (defScope s_is_lot_of) := ⟨rfl, rfl, rfl, by decide +kernel, rfl, by decide +kernel, by decide +kernel⟩
abbrev s_is_word : Stmt := topS 27
abbrev N_is_word : List Str := ["finds", "value"]
abbrev P_is_word : List Str := ["finds", "value"]
theorem sc_is_word : FnScope N_is_word P_is_word (defScope s_is_word) := ⟨rfl, rfl, rfl, by decide +kernel, rfl, by decide +kernel, by decide +kernel⟩
abbrev s_check_words : Stmt := topS 28
abbrev N_check_words : List Str := ["finds", "words", "marks", "at", "word", "mark", "lot"]
abbrev P_check_words : List Str := ["finds", "words"]
theorem sc_check_words : FnScope N_check_words P_check_words (defScope s_check_words) := ⟨rfl, rfl, rfl, by decide +kernel, rfl, by decide +kernel, by decide +kernel⟩
abbrev s_Book_init : Stmt := (C8.clsBody (topS 32)).getD 0 (.Pass ⟨0, 0, 0, 0⟩)
abbrev N_Book_init : List Str := ["self", "finds", "words"]
abbrev P_Book_init : List Str := ["self", "finds", "words"]
theorem sc_Book_init : FnScope N_Book_init P_Book_init (defScope s_Book_init) := ⟨rfl, rfl, rfl, by decide +kernel, rfl, by decide +kernel, by decide +kernel⟩
abbrev s__law_put : Stmt := topS 55
abbrev N__law_put : List Str := ["_law_state", "_law_some", "_law_x", "_law_spot"]
abbrev P__law_put : List Str := ["_law_state", "_law_some", "_law_x"]
theorem sc__law_put : FnScope N__law_put P__law_put (defScope s__law_put) := ⟨rfl, rfl, rfl, by decide +kernel, rfl, by decide +kernel, by decide +kernel⟩
abbrev s__law_odd : Stmt := topS 41
abbrev N__law_odd : List Str := ["_law_state"]
abbrev P__law_odd : List Str := ["_law_state"]
theorem sc__law_odd : FnScope N__law_odd P__law_odd (defScope s__law_odd) := ⟨rfl, rfl, rfl, by decide +kernel, rfl, by decide +kernel, by decide +kernel⟩
abbrev s__law_wrong_term : Stmt := topS 56
abbrev N__law_wrong_term : List Str := ["_law_state", "_law_pool", "_law_labels", "_law_bent", "_law_label", "_law_lot_z", "_law_way"]
abbrev P__law_wrong_term : List Str := ["_law_state", "_law_pool", "_law_labels"]
theorem sc__law_wrong_term : FnScope N__law_wrong_term P__law_wrong_term (defScope s__law_wrong_term) := ⟨rfl, rfl, rfl, by decide +kernel, rfl, by decide +kernel, by decide +kernel⟩
abbrev s__law_is_name : Stmt := topS 47
abbrev N__law_is_name : List Str := ["_law_x", "_law_sign"]
abbrev P__law_is_name : List Str := ["_law_x"]
theorem sc__law_is_name : FnScope N__law_is_name P__law_is_name (defScope s__law_is_name) := ⟨rfl, rfl, rfl, by decide +kernel, rfl, by decide +kernel, by decide +kernel⟩
abbrev s__law_rising : Stmt := topS 48
abbrev N__law_rising : List Str := ["_law_some", "_law_k"]
abbrev P__law_rising : List Str := ["_law_some"]
theorem sc__law_rising : FnScope N__law_rising P__law_rising (defScope s__law_rising) := ⟨rfl, rfl, rfl, by decide +kernel, rfl, by decide +kernel, by decide +kernel⟩
abbrev s__law_is_lot : Stmt := topS 49
abbrev N__law_is_lot : List Str := ["_law_x", "_law_tag"]
abbrev P__law_is_lot : List Str := ["_law_x"]
theorem sc__law_is_lot : FnScope N__law_is_lot P__law_is_lot (defScope s__law_is_lot) := ⟨rfl, rfl, rfl, by decide +kernel, rfl, by decide +kernel, by decide +kernel⟩
abbrev s__law_is_lot_of : Stmt := topS 50
abbrev N__law_is_lot_of : List Str := ["_law_pool", "_law_x", "_law_tag"]
abbrev P__law_is_lot_of : List Str := ["_law_pool", "_law_x"]
theorem sc__law_is_lot_of : FnScope N__law_is_lot_of P__law_is_lot_of (defScope s__law_is_lot_of) := ⟨rfl, rfl, rfl, by decide +kernel, rfl, by decide +kernel, by decide +kernel⟩
abbrev s__law_is_term : Stmt := topS 54
abbrev N__law_is_term : List Str := ["_law_pool", "_law_x"]
abbrev P__law_is_term : List Str := ["_law_pool", "_law_x"]
theorem sc__law_is_term : FnScope N__law_is_term P__law_is_term (defScope s__law_is_term) := ⟨rfl, rfl, rfl, by decide +kernel, rfl, by decide +kernel, by decide +kernel⟩
abbrev s__law_words_due : Stmt := topS 53
abbrev N__law_words_due : List Str := ["_law_pool", "_law_x", "_law_bad", "_law_labels", "_law_twice", "_law_k", "_law_term"]
abbrev P__law_words_due : List Str := ["_law_pool", "_law_x"]
theorem sc__law_words_due : FnScope N__law_words_due P__law_words_due (defScope s__law_words_due) := ⟨rfl, rfl, rfl, by decide +kernel, rfl, by decide +kernel, by decide +kernel⟩
abbrev s__law_same : Stmt := topS 44
abbrev N__law_same : List Str := ["_law_got", "_law_due", "_law_k"]
abbrev P__law_same : List Str := ["_law_got", "_law_due"]
theorem sc__law_same : FnScope N__law_same P__law_same (defScope s__law_same) := ⟨rfl, rfl, rfl, by decide +kernel, rfl, by decide +kernel, by decide +kernel⟩
abbrev s_Book_words : Stmt := (C8.clsBody (topS 32)).getD 2 (.Pass ⟨0, 0, 0, 0⟩)
abbrev N_Book_words : List Str := ["self"]
abbrev P_Book_words : List Str := ["self"]
theorem sc_Book_words : FnScope N_Book_words P_Book_words (defScope s_Book_words) := ⟨rfl, rfl, rfl, by decide +kernel, rfl, by decide +kernel, by decide +kernel⟩
abbrev s_Book_finds : Stmt := (C8.clsBody (topS 32)).getD 1 (.Pass ⟨0, 0, 0, 0⟩)
abbrev N_Book_finds : List Str := ["self"]
abbrev P_Book_finds : List Str := ["self"]
theorem sc_Book_finds : FnScope N_Book_finds P_Book_finds (defScope s_Book_finds) := ⟨rfl, rfl, rfl, by decide +kernel, rfl, by decide +kernel, by decide +kernel⟩
abbrev s__law_shown : Stmt := topS 57
abbrev N__law_shown : List Str := ["_law_made"]
abbrev P__law_shown : List Str := ["_law_made"]
theorem sc__law_shown : FnScope N__law_shown P__law_shown (defScope s__law_shown) := ⟨rfl, rfl, rfl, by decide +kernel, rfl, by decide +kernel, by decide +kernel⟩
abbrev s__law_met : Stmt := topS 58
abbrev N__law_met : List Str := ["_law_got", "_law_due", "_law_shown_here"]
abbrev P__law_met : List Str := ["_law_got", "_law_due", "_law_shown_here"]
theorem sc__law_met : FnScope N__law_met P__law_met (defScope s__law_met) := ⟨rfl, rfl, rfl, by decide +kernel, rfl, by decide +kernel, by decide +kernel⟩
abbrev s__law_fields : Stmt := topS 45
abbrev N__law_fields : List Str := ["_law_e"]
abbrev P__law_fields : List Str := ["_law_e"]
theorem sc__law_fields : FnScope N__law_fields P__law_fields (defScope s__law_fields) := ⟨rfl, rfl, rfl, by decide +kernel, rfl, by decide +kernel, by decide +kernel⟩
abbrev s__law_try : Stmt := topS 46
abbrev N__law_try : List Str := ["_law_ask", "_law_e"]
abbrev P__law_try : List Str := ["_law_ask"]
theorem sc__law_try : FnScope N__law_try P__law_try (defScope s__law_try) := ⟨rfl, rfl, rfl, by decide +kernel, rfl, by decide +kernel, by decide +kernel⟩
abbrev s_Book_add : Stmt := (C8.clsBody (topS 32)).getD 10 (.Pass ⟨0, 0, 0, 0⟩)
abbrev N_Book_add : List Str := ["self", "word"]
abbrev P_Book_add : List Str := ["self", "word"]
theorem sc_Book_add : FnScope N_Book_add P_Book_add (defScope s_Book_add) := ⟨rfl, rfl, rfl, by decide +kernel, rfl, by decide +kernel, by decide +kernel⟩
abbrev s_Book_with_word : Stmt := (C8.clsBody (topS 32)).getD 5 (.Pass ⟨0, 0, 0, 0⟩)
abbrev N_Book_with_word : List Str := ["self", "mark", "lot"]
abbrev P_Book_with_word : List Str := ["self", "mark", "lot"]
theorem sc_Book_with_word : FnScope N_Book_with_word P_Book_with_word (defScope s_Book_with_word) := ⟨rfl, rfl, rfl, by decide +kernel, rfl, by decide +kernel, by decide +kernel⟩
abbrev s__law_grown_so : Stmt := topS 59
abbrev N__law_grown_so : List Str := ["_law_state", "_law_pool", "_law_terms_here", "_law_labels", "_law_made", "_law_turn", "_law_x", "_law_shown_here", "_law_due", "_law_got"]
abbrev P__law_grown_so : List Str := ["_law_state", "_law_pool", "_law_terms_here", "_law_labels"]
theorem sc__law_grown_so : FnScope N__law_grown_so P__law_grown_so (defScope s__law_grown_so) := ⟨rfl, rfl, rfl, by decide +kernel, rfl, by decide +kernel, by decide +kernel⟩
abbrev s__law_finds_due : Stmt := topS 52
abbrev N__law_finds_due : List Str := ["_law_x", "_law_bad", "_law_k"]
abbrev P__law_finds_due : List Str := ["_law_x"]
theorem sc__law_finds_due : FnScope N__law_finds_due P__law_finds_due (defScope s__law_finds_due) := ⟨rfl, rfl, rfl, by decide +kernel, rfl, by decide +kernel, by decide +kernel⟩
abbrev s_law : Stmt := topS 60
abbrev N_law : List Str := ["_law_script", "_law_state", "_law_labels", "_law_turn", "_law_pool", "_law_many", "_law_again", "_law_due", "_law_got", "_law_shown_here", "_law_terms_here", "_law_tags", "_law_given", "_law_first", "_law_x", "_law_y"]
abbrev P_law : List Str := ["_law_script"]
theorem sc_law : FnScope N_law P_law (defScope s_law) := ⟨rfl, rfl, rfl, by decide +kernel, rfl, by decide +kernel, by decide +kernel⟩
abbrev s_ini_InvalidFind : Stmt := (C8.clsBody (topS 4)).getD 0 (.Pass ⟨0, 0, 0, 0⟩)
abbrev N_ini_InvalidFind : List Str := ["self", "at"]
abbrev P_ini_InvalidFind : List Str := ["self", "at"]
theorem sc_ini_InvalidFind : FnScope N_ini_InvalidFind P_ini_InvalidFind (defScope s_ini_InvalidFind) := ⟨rfl, rfl, rfl, by decide +kernel, rfl, by decide +kernel, by decide +kernel⟩
abbrev fl_InvalidFind : List (Str × Src) := [("at", .par 0), ("code", .txt "InvalidFind")]
abbrev s_ini_TooMany : Stmt := (C8.clsBody (topS 8)).getD 0 (.Pass ⟨0, 0, 0, 0⟩)
abbrev N_ini_TooMany : List Str := ["self", "most"]
abbrev P_ini_TooMany : List Str := ["self", "most"]
theorem sc_ini_TooMany : FnScope N_ini_TooMany P_ini_TooMany (defScope s_ini_TooMany) := ⟨rfl, rfl, rfl, by decide +kernel, rfl, by decide +kernel, by decide +kernel⟩
abbrev fl_TooMany : List (Str × Src) := [("most", .par 0), ("code", .txt "TooMany")]
abbrev s_ini_InvalidWord : Stmt := (C8.clsBody (topS 5)).getD 0 (.Pass ⟨0, 0, 0, 0⟩)
abbrev N_ini_InvalidWord : List Str := ["self", "at"]
abbrev P_ini_InvalidWord : List Str := ["self", "at"]
theorem sc_ini_InvalidWord : FnScope N_ini_InvalidWord P_ini_InvalidWord (defScope s_ini_InvalidWord) := ⟨rfl, rfl, rfl, by decide +kernel, rfl, by decide +kernel, by decide +kernel⟩
abbrev fl_InvalidWord : List (Str × Src) := [("at", .par 0), ("code", .txt "InvalidWord")]
abbrev s_ini_DuplicateName : Stmt := (C8.clsBody (topS 7)).getD 0 (.Pass ⟨0, 0, 0, 0⟩)
abbrev N_ini_DuplicateName : List Str := ["self", "name"]
abbrev P_ini_DuplicateName : List Str := ["self", "name"]
theorem sc_ini_DuplicateName : FnScope N_ini_DuplicateName P_ini_DuplicateName (defScope s_ini_DuplicateName) := ⟨rfl, rfl, rfl, by decide +kernel, rfl, by decide +kernel, by decide +kernel⟩
abbrev fl_DuplicateName : List (Str × Src) := [("name", .par 0), ("code", .txt "DuplicateName")]
abbrev tf : List He.Defn := [("_law_grown_so", none), ("law", none)]
abbrev tabs (K : PySem.W.Frag) : List (Addr × Str) := [((He.cT K ("_law_grown_so", none)).2, (envOfC "_law_grown_so" (defScope s__law_grown_so) 0 0 .none).qual ++ "<lambda>"), ((He.cT K ("law", none)).2, (envOfC "law" (defScope s_law) 0 0 .none).qual ++ "<lambda>")]
def cl (K : PySem.W.Frag) : Cl := ⟨fun n => match n with | 4 => He.ga K "InvalidFind" | 5 => He.ga K "InvalidWord" | 11 => He.ga K "InvalidText" | 18 => He.ga K "DuplicateName" | 19 => He.ga K "TooMany" | 33 => He.ga K "UnknownName" | 38 => He.ga K "Book" | _ => 0, tabs K, none, none, false⟩
/-- what the top leaves -/
structure Top (K : PySem.W.Frag) (cl : Cl) (mg : Str → Option Value) (base : Heap) (w : World) : Prop where
  K_Book : Cls K (cl 38)
  g_Book : mg "Book" = some (.ref (cl 38))
  na_Book_own_finds : NoAttr K (cl 38) "own_finds"
  na_Book_own_words : NoAttr K (cl 38) "own_words"
  dv_Book_init_0 : ∀ W, Rp K cl W (.ref (He.dflAt ("Book", some "__init__") 0 K)) (.tup [])
  f_Book_init : ∃ fd, FunD K "__init__" "Book.__init__" (defArgs s_Book_init) (defBody s_Book_init) (defScope s_Book_init) [.ref (He.dflAt ("Book", some "__init__") 0 K)] [] (He.ma K (He.ga K "Book") "__init__") fd
  MK_Book : Mk K (cl 38) (He.ma K (He.ga K "Book") "__init__")
  f_Book_words : ∃ fd, FunD K "words" "Book.words" (defArgs s_Book_words) (defBody s_Book_words) (defScope s_Book_words) [] [] (He.ma K (He.ga K "Book") "words") fd
  M_Book_words : Meth K (cl 38) "words" (He.ma K (He.ga K "Book") "words")
  f_Book_finds : ∃ fd, FunD K "finds" "Book.finds" (defArgs s_Book_finds) (defBody s_Book_finds) (defScope s_Book_finds) [] [] (He.ma K (He.ga K "Book") "finds") fd
  M_Book_finds : Meth K (cl 38) "finds" (He.ma K (He.ga K "Book") "finds")
  f_Book_add : ∃ fd, FunD K "__add__" "Book.__add__" (defArgs s_Book_add) (defBody s_Book_add) (defScope s_Book_add) [] [] (He.ma K (He.ga K "Book") "__add__") fd
  M_Book_add : Meth K (cl 38) "__add__" (He.ma K (He.ga K "Book") "__add__")
  f_Book_with_word : ∃ fd, FunD K "with_word" "Book.with_word" (defArgs s_Book_with_word) (defBody s_Book_with_word) (defScope s_Book_with_word) [] [] (He.ma K (He.ga K "Book") "with_word") fd
  M_Book_with_word : Meth K (cl 38) "with_word" (He.ma K (He.ga K "Book") "with_word")
  f__law_start : ∃ fd, FunD K "_law_start" "_law_start" (defArgs s__law_start) (defBody s__law_start) (defScope s__law_start) [] [] (He.ga K "_law_start") fd
  g__law_start : mg "_law_start" = some (.ref (He.ga K "_law_start"))
  f__law_draw : ∃ fd, FunD K "_law_draw" "_law_draw" (defArgs s__law_draw) (defBody s__law_draw) (defScope s__law_draw) [] [] (He.ga K "_law_draw") fd
  g__law_draw : mg "_law_draw" = some (.ref (He.ga K "_law_draw"))
  f__law_pick : ∃ fd, FunD K "_law_pick" "_law_pick" (defArgs s__law_pick) (defBody s__law_pick) (defScope s__law_pick) [] [] (He.ga K "_law_pick") fd
  g__law_pick : mg "_law_pick" = some (.ref (He.ga K "_law_pick"))
  f__law_letters : ∃ fd, FunD K "_law_letters" "_law_letters" (defArgs s__law_letters) (defBody s__law_letters) (defScope s__law_letters) [] [] (He.ga K "_law_letters") fd
  g__law_letters : mg "_law_letters" = some (.ref (He.ga K "_law_letters"))
  f__law_word : ∃ fd, FunD K "_law_word" "_law_word" (defArgs s__law_word) (defBody s__law_word) (defScope s__law_word) [] [] (He.ga K "_law_word") fd
  g__law_word : mg "_law_word" = some (.ref (He.ga K "_law_word"))
  f__law_shuffle : ∃ fd, FunD K "_law_shuffle" "_law_shuffle" (defArgs s__law_shuffle) (defBody s__law_shuffle) (defScope s__law_shuffle) [] [] (He.ga K "_law_shuffle") fd
  g__law_shuffle : mg "_law_shuffle" = some (.ref (He.ga K "_law_shuffle"))
  f__law_names : ∃ fd, FunD K "_law_names" "_law_names" (defArgs s__law_names) (defBody s__law_names) (defScope s__law_names) [] [] (He.ga K "_law_names") fd
  g__law_names : mg "_law_names" = some (.ref (He.ga K "_law_names"))
  f__law_subset : ∃ fd, FunD K "_law_subset" "_law_subset" (defArgs s__law_subset) (defBody s__law_subset) (defScope s__law_subset) [] [] (He.ga K "_law_subset") fd
  g__law_subset : mg "_law_subset" = some (.ref (He.ga K "_law_subset"))
  f__law_stretch : ∃ fd, FunD K "_law_stretch" "_law_stretch" (defArgs s__law_stretch) (defBody s__law_stretch) (defScope s__law_stretch) [] [] (He.ga K "_law_stretch") fd
  g__law_stretch : mg "_law_stretch" = some (.ref (He.ga K "_law_stretch"))
  f__law_terms : ∃ fd, FunD K "_law_terms" "_law_terms" (defArgs s__law_terms) (defBody s__law_terms) (defScope s__law_terms) [] [] (He.ga K "_law_terms") fd
  g__law_terms : mg "_law_terms" = some (.ref (He.ga K "_law_terms"))
  f_is_name : ∃ fd, FunD K "is_name" "is_name" (defArgs s_is_name) (defBody s_is_name) (defScope s_is_name) [] [] (He.ga K "is_name") fd
  g_is_name : mg "is_name" = some (.ref (He.ga K "is_name"))
  f_check_finds : ∃ fd, FunD K "check_finds" "check_finds" (defArgs s_check_finds) (defBody s_check_finds) (defScope s_check_finds) [] [] (He.ga K "check_finds") fd
  g_check_finds : mg "check_finds" = some (.ref (He.ga K "check_finds"))
  f_is_lot : ∃ fd, FunD K "is_lot" "is_lot" (defArgs s_is_lot) (defBody s_is_lot) (defScope s_is_lot) [] [] (He.ga K "is_lot") fd
  g_is_lot : mg "is_lot" = some (.ref (He.ga K "is_lot"))
  f_is_lot_of : ∃ fd, FunD K "is_lot_of" "is_lot_of" (defArgs s_is_lot_of) (defBody s_is_lot_of) (defScope s_is_lot_of) [] [] (He.ga K "is_lot_of") fd
  g_is_lot_of : mg "is_lot_of" = some (.ref (He.ga K "is_lot_of"))
  f_is_word : ∃ fd, FunD K "is_word" "is_word" (defArgs s_is_word) (defBody s_is_word) (defScope s_is_word) [] [] (He.ga K "is_word") fd
  g_is_word : mg "is_word" = some (.ref (He.ga K "is_word"))
  f_check_words : ∃ fd, FunD K "check_words" "check_words" (defArgs s_check_words) (defBody s_check_words) (defScope s_check_words) [] [] (He.ga K "check_words") fd
  g_check_words : mg "check_words" = some (.ref (He.ga K "check_words"))
  f__law_put : ∃ fd, FunD K "_law_put" "_law_put" (defArgs s__law_put) (defBody s__law_put) (defScope s__law_put) [] [] (He.ga K "_law_put") fd
  g__law_put : mg "_law_put" = some (.ref (He.ga K "_law_put"))
  f__law_odd : ∃ fd, FunD K "_law_odd" "_law_odd" (defArgs s__law_odd) (defBody s__law_odd) (defScope s__law_odd) [] [] (He.ga K "_law_odd") fd
  g__law_odd : mg "_law_odd" = some (.ref (He.ga K "_law_odd"))
  f__law_wrong_term : ∃ fd, FunD K "_law_wrong_term" "_law_wrong_term" (defArgs s__law_wrong_term) (defBody s__law_wrong_term) (defScope s__law_wrong_term) [] [] (He.ga K "_law_wrong_term") fd
  g__law_wrong_term : mg "_law_wrong_term" = some (.ref (He.ga K "_law_wrong_term"))
  f__law_is_name : ∃ fd, FunD K "_law_is_name" "_law_is_name" (defArgs s__law_is_name) (defBody s__law_is_name) (defScope s__law_is_name) [] [] (He.ga K "_law_is_name") fd
  g__law_is_name : mg "_law_is_name" = some (.ref (He.ga K "_law_is_name"))
  f__law_rising : ∃ fd, FunD K "_law_rising" "_law_rising" (defArgs s__law_rising) (defBody s__law_rising) (defScope s__law_rising) [] [] (He.ga K "_law_rising") fd
  g__law_rising : mg "_law_rising" = some (.ref (He.ga K "_law_rising"))
  f__law_is_lot : ∃ fd, FunD K "_law_is_lot" "_law_is_lot" (defArgs s__law_is_lot) (defBody s__law_is_lot) (defScope s__law_is_lot) [] [] (He.ga K "_law_is_lot") fd
  g__law_is_lot : mg "_law_is_lot" = some (.ref (He.ga K "_law_is_lot"))
  f__law_is_lot_of : ∃ fd, FunD K "_law_is_lot_of" "_law_is_lot_of" (defArgs s__law_is_lot_of) (defBody s__law_is_lot_of) (defScope s__law_is_lot_of) [] [] (He.ga K "_law_is_lot_of") fd
  g__law_is_lot_of : mg "_law_is_lot_of" = some (.ref (He.ga K "_law_is_lot_of"))
  f__law_is_term : ∃ fd, FunD K "_law_is_term" "_law_is_term" (defArgs s__law_is_term) (defBody s__law_is_term) (defScope s__law_is_term) [] [] (He.ga K "_law_is_term") fd
  g__law_is_term : mg "_law_is_term" = some (.ref (He.ga K "_law_is_term"))
  f__law_words_due : ∃ fd, FunD K "_law_words_due" "_law_words_due" (defArgs s__law_words_due) (defBody s__law_words_due) (defScope s__law_words_due) [] [] (He.ga K "_law_words_due") fd
  g__law_words_due : mg "_law_words_due" = some (.ref (He.ga K "_law_words_due"))
  f__law_same : ∃ fd, FunD K "_law_same" "_law_same" (defArgs s__law_same) (defBody s__law_same) (defScope s__law_same) [] [] (He.ga K "_law_same") fd
  g__law_same : mg "_law_same" = some (.ref (He.ga K "_law_same"))
  f__law_shown : ∃ fd, FunD K "_law_shown" "_law_shown" (defArgs s__law_shown) (defBody s__law_shown) (defScope s__law_shown) [] [] (He.ga K "_law_shown") fd
  g__law_shown : mg "_law_shown" = some (.ref (He.ga K "_law_shown"))
  f__law_met : ∃ fd, FunD K "_law_met" "_law_met" (defArgs s__law_met) (defBody s__law_met) (defScope s__law_met) [] [] (He.ga K "_law_met") fd
  g__law_met : mg "_law_met" = some (.ref (He.ga K "_law_met"))
  f__law_fields : ∃ fd, FunD K "_law_fields" "_law_fields" (defArgs s__law_fields) (defBody s__law_fields) (defScope s__law_fields) [] [] (He.ga K "_law_fields") fd
  g__law_fields : mg "_law_fields" = some (.ref (He.ga K "_law_fields"))
  f__law_try : ∃ fd, FunD K "_law_try" "_law_try" (defArgs s__law_try) (defBody s__law_try) (defScope s__law_try) [] [] (He.ga K "_law_try") fd
  g__law_try : mg "_law_try" = some (.ref (He.ga K "_law_try"))
  f__law_grown_so : ∃ fd, FunD K "_law_grown_so" "_law_grown_so" (defArgs s__law_grown_so) (defBody s__law_grown_so) (defScope s__law_grown_so) [] [] (He.ga K "_law_grown_so") fd
  g__law_grown_so : mg "_law_grown_so" = some (.ref (He.ga K "_law_grown_so"))
  f__law_finds_due : ∃ fd, FunD K "_law_finds_due" "_law_finds_due" (defArgs s__law_finds_due) (defBody s__law_finds_due) (defScope s__law_finds_due) [] [] (He.ga K "_law_finds_due") fd
  g__law_finds_due : mg "_law_finds_due" = some (.ref (He.ga K "_law_finds_due"))
  f_law : ∃ fd, FunD K "law" "law" (defArgs s_law) (defBody s_law) (defScope s_law) [] [] (He.ga K "law") fd
  g_law : mg "law" = some (.ref (He.ga K "law"))
  m_range : mg "range" = none
  m_list : mg "list" = none
  m_tuple : mg "tuple" = none
  m_sorted : mg "sorted" = none
  m_int : mg "int" = none
  m_len : mg "len" = none
  m_abs : mg "abs" = none
  m_isinstance : mg "isinstance" = none
  m_set : mg "set" = none
  m_all : mg "all" = none
  m_bool : mg "bool" = none
  m_str : mg "str" = none
  m_min : mg "min" = none
  m_enumerate : mg "enumerate" = none
  m_zip : mg "zip" = none
  ow_Book : ∀ r ∈ (["__radd__"] : List Str), OwnB K (cl 38) r
  c_LETTERS : ∃ t, mg "LETTERS" = some (.str "abcdefghijklmnopqrstuvwxyz" t)
  c_MOST_FINDS : ∃ t, mg "MOST_FINDS" = some (.int 12 t)
  c_MOST_LETTERS : ∃ t, mg "MOST_LETTERS" = some (.int 6 t)
  c_MOST_WORDS : ∃ t, mg "MOST_WORDS" = some (.int 40 t)
  g_InvalidFind : mg "InvalidFind" = some (.ref (He.ga K "InvalidFind"))
  g_TooMany : mg "TooMany" = some (.ref (He.ga K "TooMany"))
  g_InvalidWord : mg "InvalidWord" = some (.ref (He.ga K "InvalidWord"))
  g_DuplicateName : mg "DuplicateName" = some (.ref (He.ga K "DuplicateName"))
  g_FindError : mg "FindError" = some (.ref (He.ga K "FindError"))
  g_Missing : mg "Missing" = some (.ref (He.ga K "Missing"))
  i_InvalidFind : ∃ fd, FunD K "__init__" "InvalidFind.__init__" (defArgs s_ini_InvalidFind) (defBody s_ini_InvalidFind) (defScope s_ini_InvalidFind) [] [] (He.ma K (He.ga K "InvalidFind") "__init__") fd
  x_InvalidFind : IniC K (He.ga K "InvalidFind") (He.ma K (He.ga K "InvalidFind") "__init__") ["at", "code"]
  n_InvalidFind : cl.c 4 = He.ga K "InvalidFind"
  i_TooMany : ∃ fd, FunD K "__init__" "TooMany.__init__" (defArgs s_ini_TooMany) (defBody s_ini_TooMany) (defScope s_ini_TooMany) [] [] (He.ma K (He.ga K "TooMany") "__init__") fd
  x_TooMany : IniC K (He.ga K "TooMany") (He.ma K (He.ga K "TooMany") "__init__") ["most", "code"]
  n_TooMany : cl.c 19 = He.ga K "TooMany"
  i_InvalidWord : ∃ fd, FunD K "__init__" "InvalidWord.__init__" (defArgs s_ini_InvalidWord) (defBody s_ini_InvalidWord) (defScope s_ini_InvalidWord) [] [] (He.ma K (He.ga K "InvalidWord") "__init__") fd
  x_InvalidWord : IniC K (He.ga K "InvalidWord") (He.ma K (He.ga K "InvalidWord") "__init__") ["at", "code"]
  n_InvalidWord : cl.c 5 = He.ga K "InvalidWord"
  i_DuplicateName : ∃ fd, FunD K "__init__" "DuplicateName.__init__" (defArgs s_ini_DuplicateName) (defBody s_ini_DuplicateName) (defScope s_ini_DuplicateName) [] [] (He.ma K (He.ga K "DuplicateName") "__init__") fd
  x_DuplicateName : IniC K (He.ga K "DuplicateName") (He.ma K (He.ga K "DuplicateName") "__init__") ["name", "code"]
  n_DuplicateName : cl.c 18 = He.ga K "DuplicateName"
  x_at : XAt K cl (okC [4, 5, 11, 18, 19, 33]) ["code", "value", "at", "name", "why", "line", "most"]
  cat0 : ∀ z, okC [4, 5, 11, 18, 19, 33] z = true → PySem.W.exmAny K (.ref (cl z)) ((["FindError", "Missing"] : List Str).map fun y => .ref (He.ga K y)) = some true
  tb : ∀ p ∈ tf, LamX.TabB base mg (He.cT K p).1 (He.cT K p).2
  t__law_grown_so : ((He.cT K ("_law_grown_so", none)).2, (envOfC "_law_grown_so" (defScope s__law_grown_so) 0 0 .none).qual ++ "<lambda>") ∈ cl.T
  u__law_grown_so : ∀ p ∈ cl.T, p.1 = (He.cT K ("_law_grown_so", none)).2 → p.2 = (envOfC "_law_grown_so" (defScope s__law_grown_so) 0 0 .none).qual ++ "<lambda>"
  t_law : ((He.cT K ("law", none)).2, (envOfC "law" (defScope s_law) 0 0 .none).qual ++ "<lambda>") ∈ cl.T
  u_law : ∀ p ∈ cl.T, p.1 = (He.cT K ("law", none)).2 → p.2 = (envOfC "law" (defScope s_law) 0 0 .none).qual ++ "<lambda>"
theorem Top.pl {K : PySem.W.Frag} {cl : Cl} {mg : Str → Option Value} {base : Heap} {w : World} (T : Top K cl mg base w) : Top K cl.pl mg base w where
  K_Book := T.K_Book
  g_Book := T.g_Book
  na_Book_own_finds := T.na_Book_own_finds
  na_Book_own_words := T.na_Book_own_words
  dv_Book_init_0 := fun W => (T.dv_Book_init_0 W).cl (pl_c cl)
  f_Book_init := T.f_Book_init
  MK_Book := T.MK_Book
  f_Book_words := T.f_Book_words
  M_Book_words := T.M_Book_words
  f_Book_finds := T.f_Book_finds
  M_Book_finds := T.M_Book_finds
  f_Book_add := T.f_Book_add
  M_Book_add := T.M_Book_add
  f_Book_with_word := T.f_Book_with_word
  M_Book_with_word := T.M_Book_with_word
  f__law_start := T.f__law_start
  g__law_start := T.g__law_start
  f__law_draw := T.f__law_draw
  g__law_draw := T.g__law_draw
  f__law_pick := T.f__law_pick
  g__law_pick := T.g__law_pick
  f__law_letters := T.f__law_letters
  g__law_letters := T.g__law_letters
  f__law_word := T.f__law_word
  g__law_word := T.g__law_word
  f__law_shuffle := T.f__law_shuffle
  g__law_shuffle := T.g__law_shuffle
  f__law_names := T.f__law_names
  g__law_names := T.g__law_names
  f__law_subset := T.f__law_subset
  g__law_subset := T.g__law_subset
  f__law_stretch := T.f__law_stretch
  g__law_stretch := T.g__law_stretch
  f__law_terms := T.f__law_terms
  g__law_terms := T.g__law_terms
  f_is_name := T.f_is_name
  g_is_name := T.g_is_name
  f_check_finds := T.f_check_finds
  g_check_finds := T.g_check_finds
  f_is_lot := T.f_is_lot
  g_is_lot := T.g_is_lot
  f_is_lot_of := T.f_is_lot_of
  g_is_lot_of := T.g_is_lot_of
  f_is_word := T.f_is_word
  g_is_word := T.g_is_word
  f_check_words := T.f_check_words
  g_check_words := T.g_check_words
  f__law_put := T.f__law_put
  g__law_put := T.g__law_put
  f__law_odd := T.f__law_odd
  g__law_odd := T.g__law_odd
  f__law_wrong_term := T.f__law_wrong_term
  g__law_wrong_term := T.g__law_wrong_term
  f__law_is_name := T.f__law_is_name
  g__law_is_name := T.g__law_is_name
  f__law_rising := T.f__law_rising
  g__law_rising := T.g__law_rising
  f__law_is_lot := T.f__law_is_lot
  g__law_is_lot := T.g__law_is_lot
  f__law_is_lot_of := T.f__law_is_lot_of
  g__law_is_lot_of := T.g__law_is_lot_of
  f__law_is_term := T.f__law_is_term
  g__law_is_term := T.g__law_is_term
  f__law_words_due := T.f__law_words_due
  g__law_words_due := T.g__law_words_due
  f__law_same := T.f__law_same
  g__law_same := T.g__law_same
  f__law_shown := T.f__law_shown
  g__law_shown := T.g__law_shown
  f__law_met := T.f__law_met
  g__law_met := T.g__law_met
  f__law_fields := T.f__law_fields
  g__law_fields := T.g__law_fields
  f__law_try := T.f__law_try
  g__law_try := T.g__law_try
  f__law_grown_so := T.f__law_grown_so
  g__law_grown_so := T.g__law_grown_so
  f__law_finds_due := T.f__law_finds_due
  g__law_finds_due := T.g__law_finds_due
  f_law := T.f_law
  g_law := T.g_law
  m_range := T.m_range
  m_list := T.m_list
  m_tuple := T.m_tuple
  m_sorted := T.m_sorted
  m_int := T.m_int
  m_len := T.m_len
  m_abs := T.m_abs
  m_isinstance := T.m_isinstance
  m_set := T.m_set
  m_all := T.m_all
  m_bool := T.m_bool
  m_str := T.m_str
  m_min := T.m_min
  m_enumerate := T.m_enumerate
  m_zip := T.m_zip
  ow_Book := T.ow_Book
  c_LETTERS := T.c_LETTERS
  c_MOST_FINDS := T.c_MOST_FINDS
  c_MOST_LETTERS := T.c_MOST_LETTERS
  c_MOST_WORDS := T.c_MOST_WORDS
  g_InvalidFind := T.g_InvalidFind
  g_TooMany := T.g_TooMany
  g_InvalidWord := T.g_InvalidWord
  g_DuplicateName := T.g_DuplicateName
  g_FindError := T.g_FindError
  g_Missing := T.g_Missing
  i_InvalidFind := T.i_InvalidFind
  x_InvalidFind := T.x_InvalidFind
  n_InvalidFind := T.n_InvalidFind
  i_TooMany := T.i_TooMany
  x_TooMany := T.x_TooMany
  n_TooMany := T.n_TooMany
  i_InvalidWord := T.i_InvalidWord
  x_InvalidWord := T.x_InvalidWord
  n_InvalidWord := T.n_InvalidWord
  i_DuplicateName := T.i_DuplicateName
  x_DuplicateName := T.x_DuplicateName
  n_DuplicateName := T.n_DuplicateName
  x_at := xat_cl (pl_c cl).symm T.x_at
  cat0 := T.cat0
  tb := T.tb
  t__law_grown_so := T.t__law_grown_so
  u__law_grown_so := T.u__law_grown_so
  t_law := T.t_law
  u_law := T.u_law
theorem Top.fs {K : PySem.W.Frag} {cl : Cl} {mg : Str → Option Value} {base : Heap} {w : World} (T : Top K cl mg base w) : Top K cl.fs mg base w where
  K_Book := T.K_Book
  g_Book := T.g_Book
  na_Book_own_finds := T.na_Book_own_finds
  na_Book_own_words := T.na_Book_own_words
  dv_Book_init_0 := fun W => (T.dv_Book_init_0 W).cl (fs_c cl)
  f_Book_init := T.f_Book_init
  MK_Book := T.MK_Book
  f_Book_words := T.f_Book_words
  M_Book_words := T.M_Book_words
  f_Book_finds := T.f_Book_finds
  M_Book_finds := T.M_Book_finds
  f_Book_add := T.f_Book_add
  M_Book_add := T.M_Book_add
  f_Book_with_word := T.f_Book_with_word
  M_Book_with_word := T.M_Book_with_word
  f__law_start := T.f__law_start
  g__law_start := T.g__law_start
  f__law_draw := T.f__law_draw
  g__law_draw := T.g__law_draw
  f__law_pick := T.f__law_pick
  g__law_pick := T.g__law_pick
  f__law_letters := T.f__law_letters
  g__law_letters := T.g__law_letters
  f__law_word := T.f__law_word
  g__law_word := T.g__law_word
  f__law_shuffle := T.f__law_shuffle
  g__law_shuffle := T.g__law_shuffle
  f__law_names := T.f__law_names
  g__law_names := T.g__law_names
  f__law_subset := T.f__law_subset
  g__law_subset := T.g__law_subset
  f__law_stretch := T.f__law_stretch
  g__law_stretch := T.g__law_stretch
  f__law_terms := T.f__law_terms
  g__law_terms := T.g__law_terms
  f_is_name := T.f_is_name
  g_is_name := T.g_is_name
  f_check_finds := T.f_check_finds
  g_check_finds := T.g_check_finds
  f_is_lot := T.f_is_lot
  g_is_lot := T.g_is_lot
  f_is_lot_of := T.f_is_lot_of
  g_is_lot_of := T.g_is_lot_of
  f_is_word := T.f_is_word
  g_is_word := T.g_is_word
  f_check_words := T.f_check_words
  g_check_words := T.g_check_words
  f__law_put := T.f__law_put
  g__law_put := T.g__law_put
  f__law_odd := T.f__law_odd
  g__law_odd := T.g__law_odd
  f__law_wrong_term := T.f__law_wrong_term
  g__law_wrong_term := T.g__law_wrong_term
  f__law_is_name := T.f__law_is_name
  g__law_is_name := T.g__law_is_name
  f__law_rising := T.f__law_rising
  g__law_rising := T.g__law_rising
  f__law_is_lot := T.f__law_is_lot
  g__law_is_lot := T.g__law_is_lot
  f__law_is_lot_of := T.f__law_is_lot_of
  g__law_is_lot_of := T.g__law_is_lot_of
  f__law_is_term := T.f__law_is_term
  g__law_is_term := T.g__law_is_term
  f__law_words_due := T.f__law_words_due
  g__law_words_due := T.g__law_words_due
  f__law_same := T.f__law_same
  g__law_same := T.g__law_same
  f__law_shown := T.f__law_shown
  g__law_shown := T.g__law_shown
  f__law_met := T.f__law_met
  g__law_met := T.g__law_met
  f__law_fields := T.f__law_fields
  g__law_fields := T.g__law_fields
  f__law_try := T.f__law_try
  g__law_try := T.g__law_try
  f__law_grown_so := T.f__law_grown_so
  g__law_grown_so := T.g__law_grown_so
  f__law_finds_due := T.f__law_finds_due
  g__law_finds_due := T.g__law_finds_due
  f_law := T.f_law
  g_law := T.g_law
  m_range := T.m_range
  m_list := T.m_list
  m_tuple := T.m_tuple
  m_sorted := T.m_sorted
  m_int := T.m_int
  m_len := T.m_len
  m_abs := T.m_abs
  m_isinstance := T.m_isinstance
  m_set := T.m_set
  m_all := T.m_all
  m_bool := T.m_bool
  m_str := T.m_str
  m_min := T.m_min
  m_enumerate := T.m_enumerate
  m_zip := T.m_zip
  ow_Book := T.ow_Book
  c_LETTERS := T.c_LETTERS
  c_MOST_FINDS := T.c_MOST_FINDS
  c_MOST_LETTERS := T.c_MOST_LETTERS
  c_MOST_WORDS := T.c_MOST_WORDS
  g_InvalidFind := T.g_InvalidFind
  g_TooMany := T.g_TooMany
  g_InvalidWord := T.g_InvalidWord
  g_DuplicateName := T.g_DuplicateName
  g_FindError := T.g_FindError
  g_Missing := T.g_Missing
  i_InvalidFind := T.i_InvalidFind
  x_InvalidFind := T.x_InvalidFind
  n_InvalidFind := T.n_InvalidFind
  i_TooMany := T.i_TooMany
  x_TooMany := T.x_TooMany
  n_TooMany := T.n_TooMany
  i_InvalidWord := T.i_InvalidWord
  x_InvalidWord := T.x_InvalidWord
  n_InvalidWord := T.n_InvalidWord
  i_DuplicateName := T.i_DuplicateName
  x_DuplicateName := T.x_DuplicateName
  n_DuplicateName := T.n_DuplicateName
  x_at := xat_cl (fs_c cl).symm T.x_at
  cat0 := T.cat0
  tb := T.tb
  t__law_grown_so := T.t__law_grown_so
  u__law_grown_so := T.u__law_grown_so
  t_law := T.t_law
  u_law := T.u_law
theorem Top.me {K : PySem.W.Frag} {cl : Cl} {mg : Str → Option Value} {base : Heap} {w : World} (T : Top K cl mg base w) (x : Addr) : Top K (cl.me x) mg base w where
  K_Book := T.K_Book
  g_Book := T.g_Book
  na_Book_own_finds := T.na_Book_own_finds
  na_Book_own_words := T.na_Book_own_words
  dv_Book_init_0 := fun W => (T.dv_Book_init_0 W).cl (me_c cl x)
  f_Book_init := T.f_Book_init
  MK_Book := T.MK_Book
  f_Book_words := T.f_Book_words
  M_Book_words := T.M_Book_words
  f_Book_finds := T.f_Book_finds
  M_Book_finds := T.M_Book_finds
  f_Book_add := T.f_Book_add
  M_Book_add := T.M_Book_add
  f_Book_with_word := T.f_Book_with_word
  M_Book_with_word := T.M_Book_with_word
  f__law_start := T.f__law_start
  g__law_start := T.g__law_start
  f__law_draw := T.f__law_draw
  g__law_draw := T.g__law_draw
  f__law_pick := T.f__law_pick
  g__law_pick := T.g__law_pick
  f__law_letters := T.f__law_letters
  g__law_letters := T.g__law_letters
  f__law_word := T.f__law_word
  g__law_word := T.g__law_word
  f__law_shuffle := T.f__law_shuffle
  g__law_shuffle := T.g__law_shuffle
  f__law_names := T.f__law_names
  g__law_names := T.g__law_names
  f__law_subset := T.f__law_subset
  g__law_subset := T.g__law_subset
  f__law_stretch := T.f__law_stretch
  g__law_stretch := T.g__law_stretch
  f__law_terms := T.f__law_terms
  g__law_terms := T.g__law_terms
  f_is_name := T.f_is_name
  g_is_name := T.g_is_name
  f_check_finds := T.f_check_finds
  g_check_finds := T.g_check_finds
  f_is_lot := T.f_is_lot
  g_is_lot := T.g_is_lot
  f_is_lot_of := T.f_is_lot_of
  g_is_lot_of := T.g_is_lot_of
  f_is_word := T.f_is_word
  g_is_word := T.g_is_word
  f_check_words := T.f_check_words
  g_check_words := T.g_check_words
  f__law_put := T.f__law_put
  g__law_put := T.g__law_put
  f__law_odd := T.f__law_odd
  g__law_odd := T.g__law_odd
  f__law_wrong_term := T.f__law_wrong_term
  g__law_wrong_term := T.g__law_wrong_term
  f__law_is_name := T.f__law_is_name
  g__law_is_name := T.g__law_is_name
  f__law_rising := T.f__law_rising
  g__law_rising := T.g__law_rising
  f__law_is_lot := T.f__law_is_lot
  g__law_is_lot := T.g__law_is_lot
  f__law_is_lot_of := T.f__law_is_lot_of
  g__law_is_lot_of := T.g__law_is_lot_of
  f__law_is_term := T.f__law_is_term
  g__law_is_term := T.g__law_is_term
  f__law_words_due := T.f__law_words_due
  g__law_words_due := T.g__law_words_due
  f__law_same := T.f__law_same
  g__law_same := T.g__law_same
  f__law_shown := T.f__law_shown
  g__law_shown := T.g__law_shown
  f__law_met := T.f__law_met
  g__law_met := T.g__law_met
  f__law_fields := T.f__law_fields
  g__law_fields := T.g__law_fields
  f__law_try := T.f__law_try
  g__law_try := T.g__law_try
  f__law_grown_so := T.f__law_grown_so
  g__law_grown_so := T.g__law_grown_so
  f__law_finds_due := T.f__law_finds_due
  g__law_finds_due := T.g__law_finds_due
  f_law := T.f_law
  g_law := T.g_law
  m_range := T.m_range
  m_list := T.m_list
  m_tuple := T.m_tuple
  m_sorted := T.m_sorted
  m_int := T.m_int
  m_len := T.m_len
  m_abs := T.m_abs
  m_isinstance := T.m_isinstance
  m_set := T.m_set
  m_all := T.m_all
  m_bool := T.m_bool
  m_str := T.m_str
  m_min := T.m_min
  m_enumerate := T.m_enumerate
  m_zip := T.m_zip
  ow_Book := T.ow_Book
  c_LETTERS := T.c_LETTERS
  c_MOST_FINDS := T.c_MOST_FINDS
  c_MOST_LETTERS := T.c_MOST_LETTERS
  c_MOST_WORDS := T.c_MOST_WORDS
  g_InvalidFind := T.g_InvalidFind
  g_TooMany := T.g_TooMany
  g_InvalidWord := T.g_InvalidWord
  g_DuplicateName := T.g_DuplicateName
  g_FindError := T.g_FindError
  g_Missing := T.g_Missing
  i_InvalidFind := T.i_InvalidFind
  x_InvalidFind := T.x_InvalidFind
  n_InvalidFind := T.n_InvalidFind
  i_TooMany := T.i_TooMany
  x_TooMany := T.x_TooMany
  n_TooMany := T.n_TooMany
  i_InvalidWord := T.i_InvalidWord
  x_InvalidWord := T.x_InvalidWord
  n_InvalidWord := T.n_InvalidWord
  i_DuplicateName := T.i_DuplicateName
  x_DuplicateName := T.x_DuplicateName
  n_DuplicateName := T.n_DuplicateName
  x_at := xat_cl (me_c cl x).symm T.x_at
  cat0 := T.cat0
  tb := T.tb
  t__law_grown_so := T.t__law_grown_so
  u__law_grown_so := T.u__law_grown_so
  t_law := T.t_law
  u_law := T.u_law
theorem Top.at_Book_own_words {K : PySem.W.Frag} {cl : Cl} {mg : Str → Option Value} {base : Heap} {w : World} (T : Top K cl mg base w) : ∀ c, ([38] : List Nat).contains c = true → Cls K (cl c) ∧ NoAttr K (cl c) "own_words" := by
  intro c h
  have h := List.contains_iff_mem.mp h
  simp only [List.mem_cons, List.not_mem_nil, or_false] at h
  rcases h with rfl
  · exact ⟨T.K_Book, T.na_Book_own_words⟩
theorem Top.at_Book_own_finds {K : PySem.W.Frag} {cl : Cl} {mg : Str → Option Value} {base : Heap} {w : World} (T : Top K cl mg base w) : ∀ c, ([38] : List Nat).contains c = true → Cls K (cl c) ∧ NoAttr K (cl c) "own_finds" := by
  intro c h
  have h := List.contains_iff_mem.mp h
  simp only [List.mem_cons, List.not_mem_nil, or_false] at h
  rcases h with rfl
  · exact ⟨T.K_Book, T.na_Book_own_finds⟩
theorem mk_InvalidFind {X : Cx} {cl : Cl} {E : XK} {g : Ev → S → R (List D)} {e : Expr} {es : List Expr} {p pos : Pos} (T : Top X.K cl X.mg X.base X.w) (hr : Room 2 X.A) (hg : Gl X "InvalidFind") (ha : DA X cl E (e :: es) g) (he : starEach (e :: es) X.env = (false, eval e X.env) :: starEach es X.env := by rfl) (hpl : (backTo pos (starEach es X.env)).any (·.1) = false := by rfl) : PMk X (.Call (.Name "InvalidFind" p) (e :: es) [] pos) (tMkO (cl 4) (spI (cl 4) fl_InvalidFind 1) [] (liftA X.K cl E g)) := by
  obtain ⟨fd, F⟩ := T.i_InvalidFind
  have I := T.x_InvalidFind
  show PMk X _ (tMkO (cl.c 4) (spI (cl.c 4) fl_InvalidFind 1) [] _)
  rw [T.n_InvalidFind]
  exact pmk_any (k := 1) I.o I.i I.t (fn_init (N := N_ini_InvalidFind) (ps := P_ini_InvalidFind) F sc_ini_InvalidFind I.o I.n (by decide) (by simp) rfl fun cdv A outer s H E => pss_cons (ps_st (pv 0) (pv 1)) (pss_one (ps_st (pv 0) (pe_str)))) hr (FunD.bindsN F fun _ _ _ _ _ _ us hl => match us, hl with | [_, _], _ => rfl) passA hg T.g_InvalidFind ha (by decide) he hpl
theorem mk_TooMany {X : Cx} {cl : Cl} {E : XK} {g : Ev → S → R (List D)} {e : Expr} {es : List Expr} {p pos : Pos} (T : Top X.K cl X.mg X.base X.w) (hr : Room 2 X.A) (hg : Gl X "TooMany") (ha : DA X cl E (e :: es) g) (he : starEach (e :: es) X.env = (false, eval e X.env) :: starEach es X.env := by rfl) (hpl : (backTo pos (starEach es X.env)).any (·.1) = false := by rfl) : PMk X (.Call (.Name "TooMany" p) (e :: es) [] pos) (tMkO (cl 19) (spI (cl 19) fl_TooMany 1) [] (liftA X.K cl E g)) := by
  obtain ⟨fd, F⟩ := T.i_TooMany
  have I := T.x_TooMany
  show PMk X _ (tMkO (cl.c 19) (spI (cl.c 19) fl_TooMany 1) [] _)
  rw [T.n_TooMany]
  exact pmk_any (k := 1) I.o I.i I.t (fn_init (N := N_ini_TooMany) (ps := P_ini_TooMany) F sc_ini_TooMany I.o I.n (by decide) (by simp) rfl fun cdv A outer s H E => pss_cons (ps_st (pv 0) (pv 1)) (pss_one (ps_st (pv 0) (pe_str)))) hr (FunD.bindsN F fun _ _ _ _ _ _ us hl => match us, hl with | [_, _], _ => rfl) passA hg T.g_TooMany ha (by decide) he hpl
theorem mk_InvalidWord {X : Cx} {cl : Cl} {E : XK} {g : Ev → S → R (List D)} {e : Expr} {es : List Expr} {p pos : Pos} (T : Top X.K cl X.mg X.base X.w) (hr : Room 2 X.A) (hg : Gl X "InvalidWord") (ha : DA X cl E (e :: es) g) (he : starEach (e :: es) X.env = (false, eval e X.env) :: starEach es X.env := by rfl) (hpl : (backTo pos (starEach es X.env)).any (·.1) = false := by rfl) : PMk X (.Call (.Name "InvalidWord" p) (e :: es) [] pos) (tMkO (cl 5) (spI (cl 5) fl_InvalidWord 1) [] (liftA X.K cl E g)) := by
  obtain ⟨fd, F⟩ := T.i_InvalidWord
  have I := T.x_InvalidWord
  show PMk X _ (tMkO (cl.c 5) (spI (cl.c 5) fl_InvalidWord 1) [] _)
  rw [T.n_InvalidWord]
  exact pmk_any (k := 1) I.o I.i I.t (fn_init (N := N_ini_InvalidWord) (ps := P_ini_InvalidWord) F sc_ini_InvalidWord I.o I.n (by decide) (by simp) rfl fun cdv A outer s H E => pss_cons (ps_st (pv 0) (pv 1)) (pss_one (ps_st (pv 0) (pe_str)))) hr (FunD.bindsN F fun _ _ _ _ _ _ us hl => match us, hl with | [_, _], _ => rfl) passA hg T.g_InvalidWord ha (by decide) he hpl
theorem mk_DuplicateName {X : Cx} {cl : Cl} {E : XK} {g : Ev → S → R (List D)} {e : Expr} {es : List Expr} {p pos : Pos} (T : Top X.K cl X.mg X.base X.w) (hr : Room 2 X.A) (hg : Gl X "DuplicateName") (ha : DA X cl E (e :: es) g) (he : starEach (e :: es) X.env = (false, eval e X.env) :: starEach es X.env := by rfl) (hpl : (backTo pos (starEach es X.env)).any (·.1) = false := by rfl) : PMk X (.Call (.Name "DuplicateName" p) (e :: es) [] pos) (tMkO (cl 18) (spI (cl 18) fl_DuplicateName 1) [] (liftA X.K cl E g)) := by
  obtain ⟨fd, F⟩ := T.i_DuplicateName
  have I := T.x_DuplicateName
  show PMk X _ (tMkO (cl.c 18) (spI (cl.c 18) fl_DuplicateName 1) [] _)
  rw [T.n_DuplicateName]
  exact pmk_any (k := 1) I.o I.i I.t (fn_init (N := N_ini_DuplicateName) (ps := P_ini_DuplicateName) F sc_ini_DuplicateName I.o I.n (by decide) (by simp) rfl fun cdv A outer s H E => pss_cons (ps_st (pv 0) (pv 1)) (pss_one (ps_st (pv 0) (pe_str)))) hr (FunD.bindsN F fun _ _ _ _ _ _ us hl => match us, hl with | [_, _], _ => rfl) passA hg T.g_DuplicateName ha (by decide) he hpl
section
variable {P : Program} {w : World} {K : PySem.W.Frag} {cl : Cl} {mg : Str → Option Value} {base : Heap}
theorem ok__law_start (T : Top K cl mg base w) : ∃ f fd, Fn P w K mg base cl 1 "_law_start" s__law_start P__law_start sem__law_start f fd := by
  have T := T.pl
  obtain ⟨fd, F⟩ := T.f__law_start
  refine ⟨_, fd, F, fp_0 (N := N__law_start) (ps := P__law_start) (k := 0) sem__law_start den__law_start F sc__law_start (fun cdv A outer s H E W0 hr => ?_) rfl, T.g__law_start, FunD.bindsN F fun _ _ _ _ _ _ us hl => match us, hl with | [_, _], _ => rfl⟩
  exact dss_cons (ds_set 2 sc__law_start.nd (dv_var 1 (pv 1))) (dss_cons (ds_for (t := (.nm 3)) PassesOwn.never rfl (di_val (dv_sl (DVo (dv_var 0 (pv 0))) (dp_none) (dp_some (dv_int)))) (dg_nm sc__law_start.nd) (dss_one (ds_set 2 sc__law_start.nd (dv_op op_modD (DVo (dv_callTy cr_intF (by rfl) T.m_int bt_int (dao_cons (DVo (dv_op op_addD (DVo (dv_op op_addD (DVo (dv_op op_mulD (DVo (dv_var 2 (pv 2))) (DVo (dv_int)))) (DVo (dv_op op_modD (DVo (dv_callTy cr_intF (by rfl) T.m_int bt_int (dao_cons (DVo (dv_var 3 (pv 3))) (dao_nil)))) (DVo (dv_int)))))) (DVo (dv_int)))) (dao_nil)))) (DVo (dv_int)))))) (dss_one (ds_ret (dv_lstRef (da_cons (dv_lc (own := [("_law_cell", 3)]) (t := (.nm 3)) rfl sc__law_start.nd (di_val (dv_sl (DVo (dv_var 0 (pv 0))) (dp_none) (dp_some (dv_int)))) (blkOk_by (own := [("_law_cell", 3)]) (N := N__law_start) (sc := defScope s__law_start) (by decide +kernel)) (fun _ _ _ _ _ => dg_nm sc__law_start.nd) (fun _ _ _ _ _ => dts_nil) (fun _ _ _ _ _ => dv_callTy cr_intF (by rfl) T.m_int bt_int (dao_cons (DVo (dv_var 3 (pv 3))) (dao_nil))) (by decide)) (da_cons (dv_int) (da_cons (dv_int) (da_cons (dv_var 2 (pv 2)) (da_cons (dv_int) (da_nil))))))))))
theorem ok__law_draw (T : Top K cl mg base w) : ∃ f fd, Fn P w K mg base cl 1 "_law_draw" s__law_draw P__law_draw sem__law_draw f fd := by
  have T := T.pl
  obtain ⟨fd, F⟩ := T.f__law_draw
  refine ⟨_, fd, F, fp_0 (N := N__law_draw) (ps := P__law_draw) (k := 0) sem__law_draw den__law_draw F sc__law_draw (fun cdv A outer s H E W0 hr => ?_) rfl, T.g__law_draw, FunD.bindsN F fun _ _ _ _ _ _ us hl => match us, hl with | [_, _], _ => rfl⟩
  exact dss_cons (ds_if (DWt (dw_and (dt_cmp (op_eqDD (u64 hr)) (DVo (dv_ix (DVo (dv_var 0 (pv 0))) (DVo (dv_int)))) (DVo (dv_int)) (nomark _)) (dw_and1 (dt_cmp op_ltD (DVo (dv_ix (DVo (dv_var 0 (pv 0))) (DVo (dv_int)))) (DVo (dv_callB cr_len (by rfl) T.m_len bt_len (dao_cons (DVo (dv_ix (DVo (dv_var 0 (pv 0))) (DVo (dv_int)))) (dao_nil)))) (nomark _))))) (dss_cons (ds_set 3 sc__law_draw.nd (dv_ix (DVo (dv_ix (DVo (dv_var 0 (pv 0))) (DVo (dv_int)))) (DVo (dv_ix (DVo (dv_var 0 (pv 0))) (DVo (dv_int)))))) (dss_cons (ds_put (dv_op op_addD (DVo (dv_ix (DVo (dv_var 0 (pv 0))) (DVo (dv_int)))) (DVo (dv_int))) (dv_var 0 (pv 0)) (dv_int)) (dss_one (ds_if (dt_cmp op_geD (DVo (dv_callB cr_absD (by rfl) T.m_abs bt_abs (dao_cons (DVo (dv_var 3 (pv 3))) (dao_nil)))) (DVo (dv_op op_powD (DVo (dv_int)) (DVo (dv_int)))) (nomark _)) (dss_one (ds_put (dv_callB cr_absD (by rfl) T.m_abs bt_abs (dao_cons (DVo (dv_var 3 (pv 3))) (dao_nil))) (dv_var 0 (pv 0)) (dv_int))) (dss_nil))))) (dss_nil)) (dss_cons (ds_if (dt_cmp op_gtD (DVo (dv_ix (DVo (dv_var 0 (pv 0))) (DVo (dv_int)))) (DVo (dv_int)) (nomark _)) (dss_cons (ds_set 4 sc__law_draw.nd (dv_op op_modD (DVo (dv_callTy cr_intF (by rfl) T.m_int bt_int (dao_cons (DVo (dv_ix (DVo (dv_var 0 (pv 0))) (DVo (dv_int)))) (dao_nil)))) (DVo (dv_var 1 (pv 1))))) (dss_cons (ds_put (dv_op op_fdivD (DVo (dv_callTy cr_intF (by rfl) T.m_int bt_int (dao_cons (DVo (dv_ix (DVo (dv_var 0 (pv 0))) (DVo (dv_int)))) (dao_nil)))) (DVo (dv_var 1 (pv 1)))) (dv_var 0 (pv 0)) (dv_int)) (dss_one (ds_ret (dv_var 4 (pv 4)))))) (dss_nil)) (dss_cons (ds_put (dv_op op_addD (DVo (dv_ix (DVo (dv_var 0 (pv 0))) (DVo (dv_int)))) (DVo (dv_int))) (dv_var 0 (pv 0)) (dv_int)) (dss_cons (ds_set 2 sc__law_draw.nd (dv_op op_modD (DVo (dv_callTy cr_intF (by rfl) T.m_int bt_int (dao_cons (DVo (dv_op op_addD (DVo (dv_ix (DVo (dv_var 0 (pv 0))) (DVo (dv_int)))) (DVo (dv_op op_mulD (DVo (dv_ix (DVo (dv_var 0 (pv 0))) (DVo (dv_int)))) (DVo (dv_int)))))) (dao_nil)))) (DVo (dv_int)))) (dss_cons (ds_put (dv_op op_modD (DVo (dv_callTy cr_intF (by rfl) T.m_int bt_int (dao_cons (DVo (dv_op op_addD (DVo (dv_op op_addD (DVo (dv_op op_powD (DVo (dv_var 2 (pv 2))) (DVo (dv_int)))) (DVo (dv_op op_mulD (DVo (dv_int)) (DVo (dv_var 2 (pv 2))))))) (DVo (dv_int)))) (dao_nil)))) (DVo (dv_int))) (dv_var 0 (pv 0)) (dv_int)) (dss_one (ds_ret (dv_op op_modD (DVo (dv_callTy cr_intF (by rfl) T.m_int bt_int (dao_cons (DVo (dv_op op_addD (DVo (dv_op op_fdivD (DVo (dv_ix (DVo (dv_var 0 (pv 0))) (DVo (dv_int)))) (DVo (dv_int)))) (DVo (dv_op op_mulD (DVo (dv_op op_modD (DVo (dv_callTy cr_intF (by rfl) T.m_int bt_int (dao_cons (DVo (dv_ix (DVo (dv_var 0 (pv 0))) (DVo (dv_int)))) (dao_nil)))) (DVo (dv_int)))) (DVo (dv_int)))))) (dao_nil)))) (DVo (dv_var 1 (pv 1))))))))))
theorem ok__law_pick (T : Top K cl mg base w) : ∃ f fd, Fn P w K mg base cl 2 "_law_pick" s__law_pick P__law_pick sem__law_pick f fd := by
  have T := T.pl
  obtain ⟨f__law_draw, fd__law_draw, C__law_draw⟩ := ok__law_draw (P := P) (w := w) (base := base) T
  obtain ⟨fd, F⟩ := T.f__law_pick
  refine ⟨_, fd, F, fp_0 (N := N__law_pick) (ps := P__law_pick) (k := 1) sem__law_pick den__law_pick F sc__law_pick (fun cdv A outer s H E W0 hr => ?_) rfl, T.g__law_pick, FunD.bindsN F fun _ _ _ _ _ _ us hl => match us, hl with | [_, _], _ => rfl⟩
  exact dss_one (ds_ret (dv_ix (DVo (dv_var 1 (pv 1))) (DVo (dv_call C__law_draw.G (hr.mono (by decide)) (by rfl) C__law_draw.m C__law_draw.F.kp C__law_draw.b passA (da_cons (dv_var 0 (pv 0)) (da_cons (dv_callB cr_len (by rfl) T.m_len bt_len (dao_cons (DVo (dv_var 1 (pv 1))) (dao_nil))) (da_nil)))))))
theorem ok__law_letters (T : Top K cl mg base w) : ∃ f fd, Fn P w K mg base cl 1 "_law_letters" s__law_letters P__law_letters sem__law_letters f fd := by
  have T := T.pl
  obtain ⟨fd, F⟩ := T.f__law_letters
  refine ⟨_, fd, F, fp_0 (N := N__law_letters) (ps := P__law_letters) (k := 0) sem__law_letters den__law_letters F sc__law_letters (fun cdv A outer s H E W0 hr => ?_) rfl, T.g__law_letters, FunD.bindsN F fun _ _ _ _ _ _ us hl => match us, hl with | [], _ => rfl⟩
  exact dss_one (ds_ret (dv_str))
theorem ok__law_word (T : Top K cl mg base w) : ∃ f fd, Fn P w K mg base cl 2 "_law_word" s__law_word P__law_word sem__law_word f fd := by
  have T := T.pl
  obtain ⟨f__law_draw, fd__law_draw, C__law_draw⟩ := ok__law_draw (P := P) (w := w) (base := base) T
  obtain ⟨f__law_letters, fd__law_letters, C__law_letters⟩ := ok__law_letters (P := P) (w := w) (base := base) T
  obtain ⟨fd, F⟩ := T.f__law_word
  refine ⟨_, fd, F, fp_0 (N := N__law_word) (ps := P__law_word) (k := 1) sem__law_word den__law_word F sc__law_word (fun cdv A outer s H E W0 hr => ?_) rfl, T.g__law_word, FunD.bindsN F fun _ _ _ _ _ _ us hl => match us, hl with | [_, _], _ => rfl⟩
  exact dss_one (ds_ret (dv_join (dv_str) (DVo (dv_lc (own := [("_law_k", 2)]) (t := (.nm 2)) rfl sc__law_word.nd (di_range (by rfl) T.m_range (da_cons (dv_op op_addD (DVo (dv_int)) (DVo (dv_call C__law_draw.G (hr.mono (by decide)) (by rfl) C__law_draw.m C__law_draw.F.kp C__law_draw.b passA (da_cons (dv_var 0 (pv 0)) (da_cons (dv_var 1 (pv 1)) (da_nil)))))) (da_nil))) (blkOk_by (own := [("_law_k", 2)]) (N := N__law_word) (sc := defScope s__law_word) (by decide +kernel)) (fun _ _ _ _ _ => dg_nm sc__law_word.nd) (fun _ _ _ _ _ => dts_nil) (fun _ _ _ _ _ => dv_ix (DVo (dv_call0 C__law_letters.G (hr.mono (by decide)) (by rfl) C__law_letters.m C__law_letters.F.kp C__law_letters.b passA)) (DVo (dv_call C__law_draw.G (hr.mono (by decide)) (by rfl) C__law_draw.m C__law_draw.F.kp C__law_draw.b passA (da_cons (dv_var 0 (pv 0)) (da_cons (dv_int) (da_nil)))))) (by decide)))))
theorem ok__law_shuffle (T : Top K cl mg base w) : ∃ f fd, Fn P w K mg base cl 2 "_law_shuffle" s__law_shuffle P__law_shuffle sem__law_shuffle f fd := by
  have T := T.pl
  obtain ⟨f__law_draw, fd__law_draw, C__law_draw⟩ := ok__law_draw (P := P) (w := w) (base := base) T
  obtain ⟨fd, F⟩ := T.f__law_shuffle
  refine ⟨_, fd, F, fp_0 (N := N__law_shuffle) (ps := P__law_shuffle) (k := 1) sem__law_shuffle den__law_shuffle F sc__law_shuffle (fun cdv A outer s H E W0 hr => ?_) rfl, T.g__law_shuffle, FunD.bindsN F fun _ _ _ _ _ _ us hl => match us, hl with | [_, _], _ => rfl⟩
  exact dss_cons (ds_own 2 sc__law_shuffle.nd (da_nil)) (dss_cons (ds_for (t := (.nm 3)) PassesOwn.never rfl (di_val (dv_var 1 (pv 1))) (dg_nm sc__law_shuffle.nd) (dss_one (ds_ins 2 (pv 2) (da_cons (dv_call C__law_draw.G (hr.mono (by decide)) (by rfl) C__law_draw.m C__law_draw.F.kp C__law_draw.b passA (da_cons (dv_var 0 (pv 0)) (da_cons (dv_op op_addD (DVo (dv_callB cr_len (by rfl) T.m_len bt_len (dao_cons (do_own 2 (pv 2)) (dao_nil)))) (DVo (dv_int))) (da_nil)))) (da_cons (dv_var 3 (pv 3)) (da_nil)))))) (dss_one (ds_retOwn 2 (pv 2))))
theorem ok__law_names (T : Top K cl mg base w) : ∃ f fd, Fn P w K mg base cl 3 "_law_names" s__law_names P__law_names sem__law_names f fd := by
  have T := T.pl
  obtain ⟨f__law_pick, fd__law_pick, C__law_pick⟩ := ok__law_pick (P := P) (w := w) (base := base) T
  obtain ⟨f__law_draw, fd__law_draw, C__law_draw⟩ := ok__law_draw (P := P) (w := w) (base := base) T
  obtain ⟨f__law_letters, fd__law_letters, C__law_letters⟩ := ok__law_letters (P := P) (w := w) (base := base) T
  obtain ⟨f__law_word, fd__law_word, C__law_word⟩ := ok__law_word (P := P) (w := w) (base := base) T
  obtain ⟨f__law_shuffle, fd__law_shuffle, C__law_shuffle⟩ := ok__law_shuffle (P := P) (w := w) (base := base) T
  obtain ⟨fd, F⟩ := T.f__law_names
  refine ⟨_, fd, F, fp_0 (N := N__law_names) (ps := P__law_names) (k := 2) sem__law_names den__law_names F sc__law_names (fun cdv A outer s H E W0 hr => ?_) rfl, T.g__law_names, FunD.bindsN F fun _ _ _ _ _ _ us hl => match us, hl with | [_, _], _ => rfl⟩
  exact dss_cons (ds_asg (t := (.tp [6, 7])) (dv_tup (da_cons (dv_call C__law_draw.G (hr.mono (by decide)) (by rfl) C__law_draw.m C__law_draw.F.kp C__law_draw.b passA (da_cons (dv_var 0 (pv 0)) (da_cons (dv_int) (da_nil)))) (da_cons (dv_call C__law_pick.G (hr.mono (by decide)) (by rfl) C__law_pick.m C__law_pick.F.kp C__law_pick.b passA (da_cons (dv_var 0 (pv 0)) (da_cons (dv_lst (da_cons (dv_int) (da_cons (dv_int) (da_cons (dv_int) (da_cons (dv_int) (da_cons (dv_int) (da_cons (dv_int) (da_cons (dv_int) (da_nil))))))))) (da_nil)))) (da_nil)))) (dg_tp rfl (dgs_cons sc__law_names.nd (dgs_cons sc__law_names.nd (dgs_nil))))) (dss_cons (ds_set 2 sc__law_names.nd (dv_lc (own := [("_law_k", 5)]) (t := (.nm 5)) rfl sc__law_names.nd (di_range (by rfl) T.m_range (da_cons (dv_var 1 (pv 1)) (da_nil))) (blkOk_by (own := [("_law_k", 5)]) (N := N__law_names) (sc := defScope s__law_names) (by decide +kernel)) (fun _ _ _ _ _ => dg_nm sc__law_names.nd) (fun _ _ _ _ _ => dts_nil) (fun _ _ _ _ _ => dv_ix (DVo (dv_call0 C__law_letters.G (hr.mono (by decide)) (by rfl) C__law_letters.m C__law_letters.F.kp C__law_letters.b passA)) (DVo (dv_op op_modD (DVo (dv_callTy cr_intF (by rfl) T.m_int bt_int (dao_cons (DVo (dv_op op_addD (DVo (dv_var 6 (pv 6))) (DVo (dv_op op_modD (DVo (dv_op op_mulD (DVo (dv_var 7 (pv 7))) (DVo (dv_callTy cr_intF (by rfl) T.m_int bt_int (dao_cons (DVo (dv_var 5 (pv 5))) (dao_nil)))))) (DVo (dv_int)))))) (dao_nil)))) (DVo (dv_int))))) (by decide))) (dss_cons (ds_setLc 3 (own := [("_law_k", 5)]) (t := (.nm 5)) rfl sc__law_names.nd (di_range (by rfl) T.m_range (da_cons (dv_var 1 (pv 1)) (da_nil))) (blkOk_by (own := [("_law_k", 5)]) (N := N__law_names) (sc := defScope s__law_names) (by decide +kernel)) (fun _ _ _ _ _ => dg_nm sc__law_names.nd) (fun _ _ _ _ _ => dts_nil) (fun _ _ _ _ _ => dv_op op_addD (DVo (dv_ix (DVo (dv_var 2 (pv 2))) (DVo (dv_var 5 (pv 5))))) (DVo (dv_if (dt_cmp op_ltD (DVo (dv_var 5 (pv 5))) (DVo (dv_int)) (nomark _)) (dv_str) (dv_ix (DVo (dv_call0 C__law_letters.G (hr.mono (by decide)) (by rfl) C__law_letters.m C__law_letters.F.kp C__law_letters.b passA)) (DVo (dv_op op_fdivD (DVo (dv_var 5 (pv 5))) (DVo (dv_int)))))))) (by decide) (sw_true rfl rfl rfl (by decide +kernel))) (dss_cons (ds_asg (t := (.tp [8, 9])) (dv_tup (da_cons (dv_call C__law_draw.G (hr.mono (by decide)) (by rfl) C__law_draw.m C__law_draw.F.kp C__law_draw.b passA (da_cons (dv_var 0 (pv 0)) (da_cons (dv_int) (da_nil)))) (da_cons (dv_call C__law_word.G (hr.mono (by decide)) (by rfl) C__law_word.m C__law_word.F.kp C__law_word.b passA (da_cons (dv_var 0 (pv 0)) (da_cons (dv_int) (da_nil)))) (da_nil)))) (dg_tp rfl (dgs_cons sc__law_names.nd (dgs_cons sc__law_names.nd (dgs_nil))))) (dss_cons (ds_if (dt_cmp (op_eqDD (u64 hr)) (DVo (dv_var 8 (pv 8))) (DVo (dv_int)) (nomark _)) (dss_cons (ds_set 10 sc__law_names.nd (dv_call C__law_draw.G (hr.mono (by decide)) (by rfl) C__law_draw.m C__law_draw.F.kp C__law_draw.b passA (da_cons (dv_var 0 (pv 0)) (da_cons (dv_op op_addD (DVo (dv_callB cr_len (by rfl) T.m_len bt_len (dao_cons (DVo (dv_var 9 (pv 9))) (dao_nil)))) (DVo (dv_int))) (da_nil))))) (dss_one (ds_ret (dv_lc (own := [("_law_sign", 15)]) (t := (.nm 15)) rfl sc__law_names.nd (di_val (dv_var 3 (pv 3))) (blkOk_by (own := [("_law_sign", 15)]) (N := N__law_names) (sc := defScope s__law_names) (by decide +kernel)) (fun _ _ _ _ _ => dg_nm sc__law_names.nd) (fun _ _ _ _ _ => dts_nil) (fun _ _ _ _ _ => dv_op op_addD (DVo (dv_op op_addD (DVo (dv_sl (DVo (dv_var 9 (pv 9))) (dp_none) (dp_some (dv_var 10 (pv 10))))) (DVo (dv_var 15 (pv 15))))) (DVo (dv_sl (DVo (dv_var 9 (pv 9))) (dp_some (dv_var 10 (pv 10))) (dp_none)))) (by decide))))) (dss_nil)) (dss_cons (ds_if (dt_cmp (op_eqDD (u64 hr)) (DVo (dv_var 8 (pv 8))) (DVo (dv_int)) (nomark _)) (dss_cons (ds_set 11 sc__law_names.nd (dv_lst (da_cons (dv_str) (da_cons (dv_str) (da_cons (dv_str) (da_cons (dv_str) (da_cons (dv_str) (da_cons (dv_str) (da_cons (dv_str) (da_cons (dv_str) (da_cons (dv_str) (da_cons (dv_str) (da_cons (dv_str) (da_cons (dv_str) (da_nil))))))))))))))) (dss_one (ds_ret (dv_call C__law_shuffle.G (hr.mono (by decide)) (by rfl) C__law_shuffle.m C__law_shuffle.F.kp C__law_shuffle.b passA (da_cons (dv_var 0 (pv 0)) (da_cons (dv_sl (DVo (dv_op op_addD (DVo (dv_call C__law_shuffle.G (hr.mono (by decide)) (by rfl) C__law_shuffle.m C__law_shuffle.F.kp C__law_shuffle.b passA (da_cons (dv_var 0 (pv 0)) (da_cons (dv_var 11 (pv 11)) (da_nil))))) (DVo (dv_var 3 (pv 3))))) (dp_none) (dp_some (dv_var 1 (pv 1)))) (da_nil))))))) (dss_nil)) (dss_cons (ds_own 4 sc__law_names.nd (da_nil)) (dss_cons (ds_for (t := (.nm 5)) PassesOwn.never rfl (di_range (by rfl) T.m_range (da_cons (dv_var 1 (pv 1)) (da_nil))) (dg_nm sc__law_names.nd) (dss_cons (ds_set 12 sc__law_names.nd (dv_and (dv_cmp op_gtD (DVo (dv_var 5 (pv 5))) (DVo (dv_int)) (nomark _)) (dv_one (dv_cmp (op_eqDD (u64 hr)) (DVo (dv_call C__law_draw.G (hr.mono (by decide)) (by rfl) C__law_draw.m C__law_draw.F.kp C__law_draw.b passA (da_cons (dv_var 0 (pv 0)) (da_cons (dv_int) (da_nil))))) (DVo (dv_int)) (nomark _))))) (dss_cons (ds_set 13 sc__law_names.nd (dv_if (dt_val (DVo (dv_var 12 (pv 12)))) (dv_sl (DVo (dv_op op_addD (DVo (dv_ix (do_own 4 (pv 4)) (DVo (dv_call C__law_draw.G (hr.mono (by decide)) (by rfl) C__law_draw.m C__law_draw.F.kp C__law_draw.b passA (da_cons (dv_var 0 (pv 0)) (da_cons (dv_var 5 (pv 5)) (da_nil))))))) (DVo (dv_call C__law_word.G (hr.mono (by decide)) (by rfl) C__law_word.m C__law_word.F.kp C__law_word.b passA (da_cons (dv_var 0 (pv 0)) (da_cons (dv_int) (da_nil))))))) (dp_none) (dp_some (dv_int))) (dv_call C__law_word.G (hr.mono (by decide)) (by rfl) C__law_word.m C__law_word.F.kp C__law_word.b passA (da_cons (dv_var 0 (pv 0)) (da_cons (dv_int) (da_nil)))))) (dss_cons (ds_setLc 14 (own := [("_law_sign", 15)]) (t := (.nm 15)) rfl sc__law_names.nd (di_val (dv_var 3 (pv 3))) (blkOk_by (own := [("_law_sign", 15)]) (N := N__law_names) (sc := defScope s__law_names) (by decide +kernel)) (fun _ _ _ _ _ => dg_nm sc__law_names.nd) (fun _ _ _ _ _ => dts_one (dt_cmp (op_nInDD (u65 hr)) (DVo (dv_var 15 (pv 15))) (do_own 4 (pv 4)) rfl)) (fun _ _ _ _ _ => dv_var 15 (pv 15)) (by decide) (sw_true rfl rfl rfl (by decide +kernel))) (dss_one (ds_app 4 (pv 4) (dv_if (dt_cmp (op_inDD (u65 hr)) (DVo (dv_var 13 (pv 13))) (do_own 4 (pv 4)) rfl) (dv_ix (DVo (dv_var 14 (pv 14))) (DVo (dv_int))) (dv_var 13 (pv 13))))))))) (dss_one (ds_retOwn 4 (pv 4))))))))))
theorem ok__law_subset (T : Top K cl mg base w) : ∃ f fd, Fn P w K mg base cl 3 "_law_subset" s__law_subset P__law_subset sem__law_subset f fd := by
  have T := T.pl
  obtain ⟨f__law_pick, fd__law_pick, C__law_pick⟩ := ok__law_pick (P := P) (w := w) (base := base) T
  obtain ⟨f__law_draw, fd__law_draw, C__law_draw⟩ := ok__law_draw (P := P) (w := w) (base := base) T
  obtain ⟨fd, F⟩ := T.f__law_subset
  refine ⟨_, fd, F, fp_0 (N := N__law_subset) (ps := P__law_subset) (k := 2) sem__law_subset den__law_subset F sc__law_subset (fun cdv A outer s H E W0 hr => ?_) rfl, T.g__law_subset, FunD.bindsN F fun _ _ _ _ _ _ us hl => match us, hl with | [_, _], _ => rfl⟩
  exact dss_cons (ds_asg (t := (.tp [4, 5])) (dv_tup (da_cons (dv_op op_addD (DVo (dv_int)) (DVo (dv_call C__law_draw.G (hr.mono (by decide)) (by rfl) C__law_draw.m C__law_draw.F.kp C__law_draw.b passA (da_cons (dv_var 0 (pv 0)) (da_cons (dv_int) (da_nil)))))) (da_cons (dv_call C__law_pick.G (hr.mono (by decide)) (by rfl) C__law_pick.m C__law_pick.F.kp C__law_pick.b passA (da_cons (dv_var 0 (pv 0)) (da_cons (dv_var 1 (pv 1)) (da_nil)))) (da_nil)))) (dg_tp rfl (dgs_cons sc__law_subset.nd (dgs_cons sc__law_subset.nd (dgs_nil))))) (dss_cons (ds_set 2 sc__law_subset.nd (dv_lc (own := [("_law_x", 6)]) (t := (.nm 6)) rfl sc__law_subset.nd (di_val (dv_var 1 (pv 1))) (blkOk_by (own := [("_law_x", 6)]) (N := N__law_subset) (sc := defScope s__law_subset) (by decide +kernel)) (fun _ _ _ _ _ => dg_nm sc__law_subset.nd) (fun _ _ _ _ _ => dts_nil) (fun _ _ _ _ _ => dv_call C__law_draw.G (hr.mono (by decide)) (by rfl) C__law_draw.m C__law_draw.F.kp C__law_draw.b passA (da_cons (dv_var 0 (pv 0)) (da_cons (dv_int) (da_nil)))) (by decide))) (dss_cons (ds_setLc 3 (own := [("_law_k", 7)]) (t := (.nm 7)) rfl sc__law_subset.nd (di_range (by rfl) T.m_range (da_cons (dv_callB cr_len (by rfl) T.m_len bt_len (dao_cons (DVo (dv_var 1 (pv 1))) (dao_nil))) (da_nil))) (blkOk_by (own := [("_law_k", 7)]) (N := N__law_subset) (sc := defScope s__law_subset) (by decide +kernel)) (fun _ _ _ _ _ => dg_nm sc__law_subset.nd) (fun _ _ _ _ _ => dts_one (dt_cmp op_ltD (DVo (dv_ix (DVo (dv_var 2 (pv 2))) (DVo (dv_var 7 (pv 7))))) (DVo (dv_var 4 (pv 4))) (nomark _))) (fun _ _ _ _ _ => dv_ix (DVo (dv_var 1 (pv 1))) (DVo (dv_var 7 (pv 7)))) (by decide) (sw_true rfl rfl rfl (by decide +kernel))) (dss_one (ds_ret (dv_callTy cr_tupleF (by rfl) T.m_tuple bt_tuple (dao_cons (DVo (dv_callB cr_sortedD (by rfl) T.m_sorted bt_sorted (dao_cons (DVo (dv_if (dt_cmp (op_neDD (u64 hr)) (DVo (dv_var 3 (pv 3))) (DVo (dv_lst (da_nil))) (nomark _)) (dv_var 3 (pv 3)) (dv_lst (da_cons (dv_var 5 (pv 5)) (da_nil))))) (dao_nil)))) (dao_nil)))))))
theorem ok__law_stretch (T : Top K cl mg base w) : ∃ f fd, Fn P w K mg base cl 3 "_law_stretch" s__law_stretch P__law_stretch sem__law_stretch f fd := by
  have T := T.pl
  obtain ⟨f__law_pick, fd__law_pick, C__law_pick⟩ := ok__law_pick (P := P) (w := w) (base := base) T
  obtain ⟨f__law_draw, fd__law_draw, C__law_draw⟩ := ok__law_draw (P := P) (w := w) (base := base) T
  obtain ⟨fd, F⟩ := T.f__law_stretch
  refine ⟨_, fd, F, fp_0 (N := N__law_stretch) (ps := P__law_stretch) (k := 2) sem__law_stretch den__law_stretch F sc__law_stretch (fun cdv A outer s H E W0 hr => ?_) rfl, T.g__law_stretch, FunD.bindsN F fun _ _ _ _ _ _ us hl => match us, hl with | [_, _], _ => rfl⟩
  exact dss_cons (ds_set 2 sc__law_stretch.nd (dv_callB (cr_minD rfl) (by rfl) T.m_min bt_min (dao_cons (DVo (dv_callB cr_len (by rfl) T.m_len bt_len (dao_cons (DVo (dv_var 1 (pv 1))) (dao_nil)))) (dao_cons (DVo (dv_call C__law_pick.G (hr.mono (by decide)) (by rfl) C__law_pick.m C__law_pick.F.kp C__law_pick.b passA (da_cons (dv_var 0 (pv 0)) (da_cons (dv_lst (da_cons (dv_int) (da_cons (dv_int) (da_cons (dv_int) (da_cons (dv_int) (da_cons (dv_int) (da_cons (dv_int) (da_cons (dv_int) (da_cons (dv_int) (da_cons (dv_int) (da_nil))))))))))) (da_nil))))) (dao_nil))))) (dss_cons (ds_set 3 sc__law_stretch.nd (dv_call C__law_draw.G (hr.mono (by decide)) (by rfl) C__law_draw.m C__law_draw.F.kp C__law_draw.b passA (da_cons (dv_var 0 (pv 0)) (da_cons (dv_op op_addD (DVo (dv_op op_subD (DVo (dv_callB cr_len (by rfl) T.m_len bt_len (dao_cons (DVo (dv_var 1 (pv 1))) (dao_nil)))) (DVo (dv_var 2 (pv 2))))) (DVo (dv_int))) (da_nil))))) (dss_one (ds_ret (dv_callTy cr_tupleF (by rfl) T.m_tuple bt_tuple (dao_cons (DVo (dv_callB cr_sortedD (by rfl) T.m_sorted bt_sorted (dao_cons (DVo (dv_sl (DVo (dv_var 1 (pv 1))) (dp_some (dv_var 3 (pv 3))) (dp_some (dv_op op_addD (DVo (dv_var 3 (pv 3))) (DVo (dv_var 2 (pv 2))))))) (dao_nil)))) (dao_nil))))))
theorem ok__law_terms (T : Top K cl mg base w) : ∃ f fd, Fn P w K mg base cl 4 "_law_terms" s__law_terms P__law_terms sem__law_terms f fd := by
  have T := T.pl
  obtain ⟨f__law_shuffle, fd__law_shuffle, C__law_shuffle⟩ := ok__law_shuffle (P := P) (w := w) (base := base) T
  obtain ⟨f__law_draw, fd__law_draw, C__law_draw⟩ := ok__law_draw (P := P) (w := w) (base := base) T
  obtain ⟨f__law_subset, fd__law_subset, C__law_subset⟩ := ok__law_subset (P := P) (w := w) (base := base) T
  obtain ⟨f__law_stretch, fd__law_stretch, C__law_stretch⟩ := ok__law_stretch (P := P) (w := w) (base := base) T
  obtain ⟨fd, F⟩ := T.f__law_terms
  refine ⟨_, fd, F, fp_0 (N := N__law_terms) (ps := P__law_terms) (k := 3) sem__law_terms den__law_terms F sc__law_terms (fun cdv A outer s H E W0 hr => ?_) rfl, T.g__law_terms, FunD.bindsN F fun _ _ _ _ _ _ us hl => match us, hl with | [_, _, _], _ => rfl⟩
  exact dss_cons (ds_set 3 sc__law_terms.nd (dv_call C__law_shuffle.G (hr.mono (by decide)) (by rfl) C__law_shuffle.m C__law_shuffle.F.kp C__law_shuffle.b passA (da_cons (dv_var 0 (pv 0)) (da_cons (dv_var 2 (pv 2)) (da_nil))))) (dss_cons (ds_set 4 sc__law_terms.nd (dv_call C__law_draw.G (hr.mono (by decide)) (by rfl) C__law_draw.m C__law_draw.F.kp C__law_draw.b passA (da_cons (dv_var 0 (pv 0)) (da_cons (dv_int) (da_nil))))) (dss_cons (ds_set 5 sc__law_terms.nd (dv_lc (own := [("_law_label", 6)]) (t := (.nm 6)) rfl sc__law_terms.nd (di_val (dv_var 1 (pv 1))) (blkOk_by (own := [("_law_label", 6)]) (N := N__law_terms) (sc := defScope s__law_terms) (by decide +kernel)) (fun _ _ _ _ _ => dg_nm sc__law_terms.nd) (fun _ _ _ _ _ => dts_nil) (fun _ _ _ _ _ => dv_if (DWt (dw_and (dt_cmp op_gtD (DVo (dv_var 4 (pv 4))) (DVo (dv_int)) (nomark _)) (dw_and1 (dt_cmp (op_eqDD (u64 hr)) (DVo (dv_call C__law_draw.G (hr.mono (by decide)) (by rfl) C__law_draw.m C__law_draw.F.kp C__law_draw.b passA (da_cons (dv_var 0 (pv 0)) (da_cons (dv_int) (da_nil))))) (DVo (dv_int)) (nomark _))))) (dv_call C__law_subset.G (hr.mono (by decide)) (by rfl) C__law_subset.m C__law_subset.F.kp C__law_subset.b passA (da_cons (dv_var 0 (pv 0)) (da_cons (dv_var 2 (pv 2)) (da_nil)))) (dv_call C__law_stretch.G (hr.mono (by decide)) (by rfl) C__law_stretch.m C__law_stretch.F.kp C__law_stretch.b passA (da_cons (dv_var 0 (pv 0)) (da_cons (dv_var 3 (pv 3)) (da_nil))))) (by decide))) (dss_one (ds_ret (dv_lc (own := [("_law_k", 7)]) (t := (.nm 7)) rfl sc__law_terms.nd (di_range (by rfl) T.m_range (da_cons (dv_callB cr_len (by rfl) T.m_len bt_len (dao_cons (DVo (dv_var 1 (pv 1))) (dao_nil))) (da_nil))) (blkOk_by (own := [("_law_k", 7)]) (N := N__law_terms) (sc := defScope s__law_terms) (by decide +kernel)) (fun _ _ _ _ _ => dg_nm sc__law_terms.nd) (fun _ _ _ _ _ => dts_nil) (fun _ _ _ _ _ => dv_tup (da_cons (dv_ix (DVo (dv_var 1 (pv 1))) (DVo (dv_var 7 (pv 7)))) (da_cons (dv_ix (DVo (dv_var 5 (pv 5))) (DVo (dv_var 7 (pv 7)))) (da_nil)))) (by decide))))))
theorem ok_is_name (T : Top K cl mg base w) : ∃ f fd, Fn P w K mg base cl 1 "is_name" s_is_name P_is_name sem_is_name f fd := by
  have T := T.pl
  obtain ⟨fd, F⟩ := T.f_is_name
  refine ⟨_, fd, F, fp_0 (N := N_is_name) (ps := P_is_name) (k := 0) sem_is_name den_is_name F sc_is_name (fun cdv A outer s H E W0 hr => ?_) rfl, T.g_is_name, FunD.bindsN F fun _ _ _ _ _ _ us hl => match us, hl with | [_], _ => rfl⟩
  exact dss_cons (ds_if (DWt (dw_or (dt_not (dt_val (DVo (dv_callB cr_isi (by rfl) T.m_isinstance bt_isinstance (dao_cons (DVo (dv_var 0 (pv 0))) (dao_cons (DVo (dv_ty (by rfl) T.m_str bt_str)) dao_nil)))))) (dw_or1 (dt_not (dt_chain op_leD op_leD (DVo (dv_int)) (DVo (dv_callB cr_len (by rfl) T.m_len bt_len (dao_cons (DVo (dv_var 0 (pv 0))) (dao_nil)))) (DVo (dv_globI (by rfl) (T.c_MOST_LETTERS).choose_spec))))))) (dss_one (ds_ret (dv_bl))) (dss_nil)) (dss_one (ds_ret (dv_callB (cr_allD rfl) (by rfl) T.m_all bt_all (dao_cons (DVo (dv_lc (own := [("sign", 1)]) (t := (.nm 1)) rfl sc_is_name.nd (di_val (dv_var 0 (pv 0))) (blkOk_by (own := [("sign", 1)]) (N := N_is_name) (sc := defScope s_is_name) (by decide +kernel)) (fun _ _ _ _ _ => dg_nm sc_is_name.nd) (fun _ _ _ _ _ => dts_nil) (fun _ _ _ _ _ => dv_cmp (op_inDD (u65 hr)) (DVo (dv_var 1 (pv 1))) (DVo (dv_globS (by rfl) (T.c_LETTERS).choose_spec)) rfl) (by decide))) (dao_nil)))))
theorem ok_check_finds (T : Top K cl mg base w) : ∃ f fd, FnE P w K mg base cl 3 "check_finds" s_check_finds P_check_finds sem_check_finds f fd := by
  have T := T.pl
  obtain ⟨f_is_name, fd_is_name, C_is_name⟩ := ok_is_name (P := P) (w := w) (base := base) T
  obtain ⟨fd, F⟩ := T.f_check_finds
  refine ⟨_, fd, F, fp_E (N := N_check_finds) (ps := P_check_finds) (k := 2) sem_check_finds den_check_finds F sc_check_finds (fun cdv A outer s H E W0 hr => ?_) rfl, T.g_check_finds, FunD.bindsN F fun _ _ _ _ _ _ us hl => match us, hl with | [_], _ => rfl⟩
  exact dss_cons (ds_if (DWt (dw_or (dt_not (dt_val (DVo (dv_isiT (DVo (dv_var 0 (pv 0))) (pa_ty (by rfl) T.m_list bt_list (pa_ty (by rfl) T.m_tuple bt_tuple (pa_nil))) (by rfl) T.m_isinstance)))) (dw_or1 (dt_cmp (op_eqDD (u64 hr)) (DVo (dv_callB cr_len (by rfl) T.m_len bt_len (dao_cons (DVo (dv_var 0 (pv 0))) (dao_nil)))) (DVo (dv_int)) (nomark _))))) (dss_one (ds_raise (c := 4) rfl (takes_of rfl rfl rfl rfl) (by decide) (mk_InvalidFind T (hr.mono (by decide)) (by rfl) (da_cons (dv_neg (DVo (dv_int))) (da_nil))))) (dss_nil)) (dss_cons (ds_if (dt_cmp op_gtD (DVo (dv_callB cr_len (by rfl) T.m_len bt_len (dao_cons (DVo (dv_var 0 (pv 0))) (dao_nil)))) (DVo (dv_globI (by rfl) (T.c_MOST_FINDS).choose_spec)) (nomark _)) (dss_one (ds_raise (c := 19) rfl (takes_of rfl rfl rfl rfl) (by decide) (mk_TooMany T (hr.mono (by decide)) (by rfl) (da_cons (dv_globI (by rfl) (T.c_MOST_FINDS).choose_spec) (da_nil))))) (dss_nil)) (dss_one (ds_for (t := (.tp [1, 2])) (passes_of rfl) rfl (di_enum (by rfl) T.m_enumerate (da_cons (dv_var 0 (pv 0)) (da_nil))) (dg_tp rfl (dgs_cons sc_check_finds.nd (dgs_cons sc_check_finds.nd (dgs_nil)))) (dss_one (ds_if (DWt (dw_or (dt_not (dt_val (DVo (dv_call C_is_name.G (hr.mono (by decide)) (by rfl) C_is_name.m C_is_name.F.kp C_is_name.b passA (da_cons (dv_var 2 (pv 2)) (da_nil)))))) (dw_or1 (dt_cmp (op_inDD (u65 hr)) (DVo (dv_var 2 (pv 2))) (DVo (dv_sl (DVo (dv_var 0 (pv 0))) (dp_none) (dp_some (dv_var 1 (pv 1))))) rfl)))) (dss_one (ds_raise (c := 4) rfl (takes_of rfl rfl rfl rfl) (by decide) (mk_InvalidFind T (hr.mono (by decide)) (by rfl) (da_cons (dv_var 1 (pv 1)) (da_nil))))) (dss_nil))))))
theorem ok_is_lot (T : Top K cl mg base w) : ∃ f fd, Fn P w K mg base cl 2 "is_lot" s_is_lot P_is_lot sem_is_lot f fd := by
  have T := T.pl
  obtain ⟨f_is_name, fd_is_name, C_is_name⟩ := ok_is_name (P := P) (w := w) (base := base) T
  obtain ⟨fd, F⟩ := T.f_is_lot
  refine ⟨_, fd, F, fp_0 (N := N_is_lot) (ps := P_is_lot) (k := 1) sem_is_lot den_is_lot F sc_is_lot (fun cdv A outer s H E W0 hr => ?_) rfl, T.g_is_lot, FunD.bindsN F fun _ _ _ _ _ _ us hl => match us, hl with | [_], _ => rfl⟩
  exact dss_cons (ds_if (DWt (dw_or (dt_not (dt_val (DVo (dv_callB cr_isi (by rfl) T.m_isinstance bt_isinstance (dao_cons (DVo (dv_var 0 (pv 0))) (dao_cons (DVo (dv_ty (by rfl) T.m_tuple bt_tuple)) dao_nil)))))) (dw_or (dt_cmp (op_eqDD (u64 hr)) (DVo (dv_callB cr_len (by rfl) T.m_len bt_len (dao_cons (DVo (dv_var 0 (pv 0))) (dao_nil)))) (DVo (dv_int)) (nomark _)) (dw_or1 (dt_not (dt_val (DVo (dv_callB (cr_allD rfl) (by rfl) T.m_all bt_all (dao_cons (DVo (dv_lc (own := [("name", 1)]) (t := (.nm 1)) rfl sc_is_lot.nd (di_val (dv_var 0 (pv 0))) (blkOk_by (own := [("name", 1)]) (N := N_is_lot) (sc := defScope s_is_lot) (by decide +kernel)) (fun _ _ _ _ _ => dg_nm sc_is_lot.nd) (fun _ _ _ _ _ => dts_nil) (fun _ _ _ _ _ => dv_call C_is_name.G (hr.mono (by decide)) (by rfl) C_is_name.m C_is_name.F.kp C_is_name.b passA (da_cons (dv_var 1 (pv 1)) (da_nil))) (by decide))) (dao_nil)))))))))) (dss_one (ds_ret (dv_bl))) (dss_nil)) (dss_one (ds_ret (dv_callB (cr_allD rfl) (by rfl) T.m_all bt_all (dao_cons (DVo (dv_lc (own := [("name", 1), ("late", 2)]) (t := (.tp [1, 2])) rfl sc_is_lot.nd (di_zip (by rfl) T.m_zip (da_cons (dv_var 0 (pv 0)) (da_cons (dv_sl (DVo (dv_var 0 (pv 0))) (dp_some (dv_int)) (dp_none)) (da_nil)))) (blkOk_by (own := [("name", 1), ("late", 2)]) (N := N_is_lot) (sc := defScope s_is_lot) (by decide +kernel)) (fun _ _ _ _ _ => dg_tp rfl (dgs_cons sc_is_lot.nd (dgs_cons sc_is_lot.nd (dgs_nil)))) (fun _ _ _ _ _ => dts_nil) (fun _ _ _ _ _ => dv_cmp op_ltD (DVo (dv_var 1 (pv 1))) (DVo (dv_var 2 (pv 2))) (nomark _)) (by decide))) (dao_nil)))))
theorem ok_is_lot_of (T : Top K cl mg base w) : ∃ f fd, Fn P w K mg base cl 3 "is_lot_of" s_is_lot_of P_is_lot_of sem_is_lot_of f fd := by
  have T := T.pl
  obtain ⟨f_is_lot, fd_is_lot, C_is_lot⟩ := ok_is_lot (P := P) (w := w) (base := base) T
  obtain ⟨fd, F⟩ := T.f_is_lot_of
  refine ⟨_, fd, F, fp_0 (N := N_is_lot_of) (ps := P_is_lot_of) (k := 2) sem_is_lot_of den_is_lot_of F sc_is_lot_of (fun cdv A outer s H E W0 hr => ?_) rfl, T.g_is_lot_of, FunD.bindsN F fun _ _ _ _ _ _ us hl => match us, hl with | [_, _], _ => rfl⟩
  exact dss_one (ds_ret (dv_and (dv_call C_is_lot.G (hr.mono (by decide)) (by rfl) C_is_lot.m C_is_lot.F.kp C_is_lot.b passA (da_cons (dv_var 1 (pv 1)) (da_nil))) (dv_one (dv_callB (cr_allD rfl) (by rfl) T.m_all bt_all (dao_cons (DVo (dv_lc (own := [("name", 2)]) (t := (.nm 2)) rfl sc_is_lot_of.nd (di_val (dv_var 1 (pv 1))) (blkOk_by (own := [("name", 2)]) (N := N_is_lot_of) (sc := defScope s_is_lot_of) (by decide +kernel)) (fun _ _ _ _ _ => dg_nm sc_is_lot_of.nd) (fun _ _ _ _ _ => dts_nil) (fun _ _ _ _ _ => dv_cmp (op_inDD (u65 hr)) (DVo (dv_var 2 (pv 2))) (DVo (dv_var 0 (pv 0))) rfl) (by decide))) (dao_nil))))))
theorem ok_is_word (T : Top K cl mg base w) : ∃ f fd, Fn P w K mg base cl 4 "is_word" s_is_word P_is_word sem_is_word f fd := by
  have T := T.pl
  obtain ⟨f_is_name, fd_is_name, C_is_name⟩ := ok_is_name (P := P) (w := w) (base := base) T
  obtain ⟨f_is_lot_of, fd_is_lot_of, C_is_lot_of⟩ := ok_is_lot_of (P := P) (w := w) (base := base) T
  obtain ⟨fd, F⟩ := T.f_is_word
  refine ⟨_, fd, F, fp_0 (N := N_is_word) (ps := P_is_word) (k := 3) sem_is_word den_is_word F sc_is_word (fun cdv A outer s H E W0 hr => ?_) rfl, T.g_is_word, FunD.bindsN F fun _ _ _ _ _ _ us hl => match us, hl with | [_, _], _ => rfl⟩
  exact dss_one (ds_ret (dv_and (dv_callB cr_isi (by rfl) T.m_isinstance bt_isinstance (dao_cons (DVo (dv_var 1 (pv 1))) (dao_cons (DVo (dv_ty (by rfl) T.m_tuple bt_tuple)) dao_nil))) (dv_and (dv_cmp (op_eqDD (u64 hr)) (DVo (dv_callB cr_len (by rfl) T.m_len bt_len (dao_cons (DVo (dv_var 1 (pv 1))) (dao_nil)))) (DVo (dv_int)) (nomark _)) (dv_and (dv_call C_is_name.G (hr.mono (by decide)) (by rfl) C_is_name.m C_is_name.F.kp C_is_name.b passA (da_cons (dv_ix (DVo (dv_var 1 (pv 1))) (DVo (dv_int))) (da_nil))) (dv_one (dv_call C_is_lot_of.G (hr.mono (by decide)) (by rfl) C_is_lot_of.m C_is_lot_of.F.kp C_is_lot_of.b passA (da_cons (dv_var 0 (pv 0)) (da_cons (dv_ix (DVo (dv_var 1 (pv 1))) (DVo (dv_int))) (da_nil)))))))))
theorem ok_check_words (T : Top K cl mg base w) : ∃ f fd, FnE P w K mg base cl 5 "check_words" s_check_words P_check_words sem_check_words f fd := by
  have T := T.pl
  obtain ⟨f_is_word, fd_is_word, C_is_word⟩ := ok_is_word (P := P) (w := w) (base := base) T
  obtain ⟨fd, F⟩ := T.f_check_words
  refine ⟨_, fd, F, fp_E (N := N_check_words) (ps := P_check_words) (k := 4) sem_check_words den_check_words F sc_check_words (fun cdv A outer s H E W0 hr => ?_) rfl, T.g_check_words, FunD.bindsN F fun _ _ _ _ _ _ us hl => match us, hl with | [_, _], _ => rfl⟩
  exact dss_cons (ds_if (dt_not (dt_val (DVo (dv_isiT (DVo (dv_var 1 (pv 1))) (pa_ty (by rfl) T.m_list bt_list (pa_ty (by rfl) T.m_tuple bt_tuple (pa_nil))) (by rfl) T.m_isinstance)))) (dss_one (ds_raise (c := 5) rfl (takes_of rfl rfl rfl rfl) (by decide) (mk_InvalidWord T (hr.mono (by decide)) (by rfl) (da_cons (dv_neg (DVo (dv_int))) (da_nil))))) (dss_nil)) (dss_cons (ds_if (dt_cmp op_gtD (DVo (dv_callB cr_len (by rfl) T.m_len bt_len (dao_cons (DVo (dv_var 1 (pv 1))) (dao_nil)))) (DVo (dv_globI (by rfl) (T.c_MOST_WORDS).choose_spec)) (nomark _)) (dss_one (ds_raise (c := 19) rfl (takes_of rfl rfl rfl rfl) (by decide) (mk_TooMany T (hr.mono (by decide)) (by rfl) (da_cons (dv_globI (by rfl) (T.c_MOST_WORDS).choose_spec) (da_nil))))) (dss_nil)) (dss_cons (ds_for (t := (.tp [3, 4])) (passes_of rfl) rfl (di_enum (by rfl) T.m_enumerate (da_cons (dv_var 1 (pv 1)) (da_nil))) (dg_tp rfl (dgs_cons sc_check_words.nd (dgs_cons sc_check_words.nd (dgs_nil)))) (dss_one (ds_if (dt_not (dt_val (DVo (dv_call C_is_word.G (hr.mono (by decide)) (by rfl) C_is_word.m C_is_word.F.kp C_is_word.b passA (da_cons (dv_var 0 (pv 0)) (da_cons (dv_var 4 (pv 4)) (da_nil))))))) (dss_one (ds_raise (c := 5) rfl (takes_of rfl rfl rfl rfl) (by decide) (mk_InvalidWord T (hr.mono (by decide)) (by rfl) (da_cons (dv_var 3 (pv 3)) (da_nil))))) (dss_nil)))) (dss_cons (ds_setLc 2 (own := [("mark", 5), ("lot", 6)]) (t := (.tp [5, 6])) rfl sc_check_words.nd (di_val (dv_var 1 (pv 1))) (blkOk_by (own := [("mark", 5), ("lot", 6)]) (N := N_check_words) (sc := defScope s_check_words) (by decide +kernel)) (fun _ _ _ _ _ => dg_tp rfl (dgs_cons sc_check_words.nd (dgs_cons sc_check_words.nd (dgs_nil)))) (fun _ _ _ _ _ => dts_nil) (fun _ _ _ _ _ => dv_var 5 (pv 5)) (by decide) (sw_true rfl rfl rfl (by decide +kernel))) (dss_one (ds_for (t := (.tp [3, 5])) (passes_of rfl) rfl (di_enum (by rfl) T.m_enumerate (da_cons (dv_var 2 (pv 2)) (da_nil))) (dg_tp rfl (dgs_cons sc_check_words.nd (dgs_cons sc_check_words.nd (dgs_nil)))) (dss_one (ds_if (dt_cmp (op_inDD (u65 hr)) (DVo (dv_var 5 (pv 5))) (DVo (dv_sl (DVo (dv_var 2 (pv 2))) (dp_none) (dp_some (dv_var 3 (pv 3))))) rfl) (dss_one (ds_raise (c := 18) rfl (takes_of rfl rfl rfl rfl) (by decide) (mk_DuplicateName T (hr.mono (by decide)) (by rfl) (da_cons (dv_var 5 (pv 5)) (da_nil))))) (dss_nil))))))))
theorem ok_Book_init (T : Top K cl mg base w) : ∃ f fd, FnI P w K mg base cl (L2.CX P w) 6 38 "Book" "Book.__init__" s_Book_init P_Book_init [.ref (He.dflAt ("Book", some "__init__") 0 K)] sem_Book_init f fd := by
  obtain ⟨fd, F⟩ := T.f_Book_init
  refine ⟨_, fd, F, fn_IE (N := N_Book_init) (ps := P_Book_init) (k := 5) sem_Book_init den_Book_init F sc_Book_init (by decide) (fun cdv A outer s H E W0 H0 x hr => ?_) rfl, T.MK_Book, T.g_Book⟩
  have T := T.me x
  obtain ⟨f_check_finds, fd_check_finds, C_check_finds⟩ := ok_check_finds (P := P) (w := w) (base := base) T
  obtain ⟨f_check_words, fd_check_words, C_check_words⟩ := ok_check_words (P := P) (w := w) (base := base) T
  exact dss_cons (ds_drop (dv_call C_check_finds.G (hr.mono (by decide)) (by rfl) C_check_finds.m C_check_finds.F.kp C_check_finds.b (passE (takes_of rfl rfl rfl rfl)) (da_cons (dv_var 1 (pv 1)) (da_nil)))) (dss_cons (ds_drop (dv_call C_check_words.G (hr.mono (by decide)) (by rfl) C_check_words.m C_check_words.F.kp C_check_words.b (passE (takes_of rfl rfl rfl rfl)) (da_cons (dv_var 1 (pv 1)) (da_cons (dv_var 2 (pv 2)) (da_nil))))) (dss_cons (ds_fld 0 38 T.K_Book T.na_Book_own_finds (pv 0) (dv_callTy cr_tupleF (by rfl) T.m_tuple bt_tuple (dao_cons (DVo (dv_sortSet rfl (by rfl) T.m_sorted (by rfl) T.m_set (DVo (dv_var 1 (pv 1))))) (dao_nil)))) (dss_one (ds_fld 0 38 T.K_Book T.na_Book_own_words (pv 0) (dv_callTy cr_tupleF (by rfl) T.m_tuple bt_tuple (dao_cons (DVo (dv_var 2 (pv 2))) (dao_nil)))))))
theorem ok__law_put (T : Top K cl mg base w) : ∃ f fd, Fn P w K mg base cl 2 "_law_put" s__law_put P__law_put sem__law_put f fd := by
  have T := T.pl
  obtain ⟨f__law_draw, fd__law_draw, C__law_draw⟩ := ok__law_draw (P := P) (w := w) (base := base) T
  obtain ⟨fd, F⟩ := T.f__law_put
  refine ⟨_, fd, F, fp_0 (N := N__law_put) (ps := P__law_put) (k := 1) sem__law_put den__law_put F sc__law_put (fun cdv A outer s H E W0 hr => ?_) rfl, T.g__law_put, FunD.bindsN F fun _ _ _ _ _ _ us hl => match us, hl with | [_, _, _], _ => rfl⟩
  exact dss_cons (ds_set 3 sc__law_put.nd (dv_call C__law_draw.G (hr.mono (by decide)) (by rfl) C__law_draw.m C__law_draw.F.kp C__law_draw.b passA (da_cons (dv_var 0 (pv 0)) (da_cons (dv_op op_addD (DVo (dv_callB cr_len (by rfl) T.m_len bt_len (dao_cons (DVo (dv_var 1 (pv 1))) (dao_nil)))) (DVo (dv_int))) (da_nil))))) (dss_one (ds_ret (dv_op op_addD (DVo (dv_op op_addD (DVo (dv_sl (DVo (dv_var 1 (pv 1))) (dp_none) (dp_some (dv_var 3 (pv 3))))) (DVo (dv_lst (da_cons (dv_var 2 (pv 2)) (da_nil)))))) (DVo (dv_sl (DVo (dv_var 1 (pv 1))) (dp_some (dv_op op_addD (DVo (dv_var 3 (pv 3))) (DVo (dv_if (dt_cmp (op_eqDD (u64 hr)) (DVo (dv_call C__law_draw.G (hr.mono (by decide)) (by rfl) C__law_draw.m C__law_draw.F.kp C__law_draw.b passA (da_cons (dv_var 0 (pv 0)) (da_cons (dv_int) (da_nil))))) (DVo (dv_int)) (nomark _)) (dv_int) (dv_int))))) (dp_none))))))
theorem ok__law_odd (T : Top K cl mg base w) : ∃ f fd, Fn P w K mg base cl 3 "_law_odd" s__law_odd P__law_odd sem__law_odd f fd := by
  have T := T.pl
  obtain ⟨f__law_pick, fd__law_pick, C__law_pick⟩ := ok__law_pick (P := P) (w := w) (base := base) T
  obtain ⟨fd, F⟩ := T.f__law_odd
  refine ⟨_, fd, F, fp_0 (N := N__law_odd) (ps := P__law_odd) (k := 2) sem__law_odd den__law_odd F sc__law_odd (fun cdv A outer s H E W0 hr => ?_) rfl, T.g__law_odd, FunD.bindsN F fun _ _ _ _ _ _ us hl => match us, hl with | [_], _ => rfl⟩
  exact dss_one (ds_ret (dv_call C__law_pick.G (hr.mono (by decide)) (by rfl) C__law_pick.m C__law_pick.F.kp C__law_pick.b passA (da_cons (dv_var 0 (pv 0)) (da_cons (dv_lst (da_cons (dv_non) (da_cons (dv_bl) (da_cons (dv_bl) (da_cons (dv_int) (da_cons (dv_int) (da_cons (dv_neg (DVo (dv_int))) (da_cons (dv_int) (da_cons (dv_int) (da_cons (dv_str) (da_cons (dv_str) (da_cons (dv_str) (da_cons (dv_str) (da_cons (dv_str) (da_cons (dv_str) (da_cons (dv_str) (da_cons (dv_str) (da_cons (dv_tup (da_nil)) (da_cons (dv_lst (da_nil)) (da_cons (dv_tup (da_cons (dv_str) (da_nil))) (da_cons (dv_lst (da_cons (dv_str) (da_nil))) (da_cons (dv_tup (da_cons (dv_str) (da_cons (dv_str) (da_nil)))) (da_cons (dv_tup (da_cons (dv_str) (da_cons (dv_str) (da_nil)))) (da_cons (dv_tup (da_cons (dv_str) (da_cons (dv_int) (da_nil)))) (da_cons (dv_tup (da_cons (dv_non) (da_nil))) (da_cons (dv_tup (da_cons (dv_bl) (da_nil))) (da_cons (dv_tup (da_cons (dv_tup (da_cons (dv_str) (da_nil))) (da_nil))) (da_cons (dv_lst (da_cons (dv_lst (da_cons (dv_str) (da_nil))) (da_nil))) (da_cons (dv_tup (da_cons (dv_str) (da_cons (dv_lst (da_cons (dv_str) (da_nil))) (da_nil)))) (da_cons (dv_tup (da_cons (dv_str) (da_cons (dv_str) (da_nil)))) (da_cons (dv_tup (da_cons (dv_str) (da_cons (dv_str) (da_nil)))) (da_cons (dv_lst (da_cons (dv_str) (da_cons (dv_tup (da_cons (dv_str) (da_nil))) (da_nil)))) (da_cons (dv_tup (da_cons (dv_str) (da_cons (dv_tup (da_cons (dv_str) (da_cons (dv_str) (da_nil)))) (da_nil)))) (da_cons (dv_tup (da_cons (dv_str) (da_cons (dv_tup (da_nil)) (da_nil)))) (da_cons (dv_tup (da_cons (dv_str) (da_cons (dv_lst (da_nil)) (da_nil)))) (da_cons (dv_tup (da_cons (dv_int) (da_cons (dv_tup (da_cons (dv_str) (da_nil))) (da_nil)))) (da_nil))))))))))))))))))))))))))))))))))))) (da_nil)))))
theorem ok__law_wrong_term (T : Top K cl mg base w) : ∃ f fd, Fn P w K mg base cl 4 "_law_wrong_term" s__law_wrong_term P__law_wrong_term sem__law_wrong_term f fd := by
  have T := T.pl
  obtain ⟨f__law_draw, fd__law_draw, C__law_draw⟩ := ok__law_draw (P := P) (w := w) (base := base) T
  obtain ⟨f__law_subset, fd__law_subset, C__law_subset⟩ := ok__law_subset (P := P) (w := w) (base := base) T
  obtain ⟨f__law_pick, fd__law_pick, C__law_pick⟩ := ok__law_pick (P := P) (w := w) (base := base) T
  obtain ⟨f__law_put, fd__law_put, C__law_put⟩ := ok__law_put (P := P) (w := w) (base := base) T
  obtain ⟨f__law_word, fd__law_word, C__law_word⟩ := ok__law_word (P := P) (w := w) (base := base) T
  obtain ⟨f__law_odd, fd__law_odd, C__law_odd⟩ := ok__law_odd (P := P) (w := w) (base := base) T
  obtain ⟨fd, F⟩ := T.f__law_wrong_term
  refine ⟨_, fd, F, fp_0 (N := N__law_wrong_term) (ps := P__law_wrong_term) (k := 3) sem__law_wrong_term den__law_wrong_term F sc__law_wrong_term (fun cdv A outer s H E W0 hr => ?_) rfl, T.g__law_wrong_term, FunD.bindsN F fun _ _ _ _ _ _ us hl => match us, hl with | [_, _, _], _ => rfl⟩
  exact dss_cons (ds_par3 (i := 4) (j := 5) (l := 6) rfl sc__law_wrong_term.nd (da_cons (dv_call C__law_pick.G (hr.mono (by decide)) (by rfl) C__law_pick.m C__law_pick.F.kp C__law_pick.b passA (da_cons (dv_var 0 (pv 0)) (da_cons (dv_sl (DVo (dv_var 2 (pv 2))) (dp_none) (dp_some (dv_int))) (da_nil)))) (da_cons (dv_callTy cr_listF (by rfl) T.m_list bt_list (dao_cons (DVo (dv_call C__law_subset.G (hr.mono (by decide)) (by rfl) C__law_subset.m C__law_subset.F.kp C__law_subset.b passA (da_cons (dv_var 0 (pv 0)) (da_cons (dv_var 1 (pv 1)) (da_nil))))) (dao_nil))) (da_cons (dv_call C__law_draw.G (hr.mono (by decide)) (by rfl) C__law_draw.m C__law_draw.F.kp C__law_draw.b passA (da_cons (dv_var 0 (pv 0)) (da_cons (dv_int) (da_nil)))) (da_nil))))) (dss_cons (ds_set 3 sc__law_wrong_term.nd (dv_call C__law_put.G (hr.mono (by decide)) (by rfl) C__law_put.m C__law_put.F.kp C__law_put.b passA (da_cons (dv_var 0 (pv 0)) (da_cons (dv_var 5 (pv 5)) (da_cons (dv_call C__law_pick.G (hr.mono (by decide)) (by rfl) C__law_pick.m C__law_pick.F.kp C__law_pick.b passA (da_cons (dv_var 0 (pv 0)) (da_cons (dv_lst (da_cons (dv_call C__law_odd.G (hr.mono (by decide)) (by rfl) C__law_odd.m C__law_odd.F.kp C__law_odd.b passA (da_cons (dv_var 0 (pv 0)) (da_nil))) (da_cons (dv_call C__law_word.G (hr.mono (by decide)) (by rfl) C__law_word.m C__law_word.F.kp C__law_word.b passA (da_cons (dv_var 0 (pv 0)) (da_cons (dv_int) (da_nil)))) (da_cons (dv_ix (DVo (dv_var 5 (pv 5))) (DVo (dv_int))) (da_nil))))) (da_nil)))) (da_nil)))))) (dss_one (ds_ret (dv_ix (DVo (dv_lst (da_cons (dv_call C__law_odd.G (hr.mono (by decide)) (by rfl) C__law_odd.m C__law_odd.F.kp C__law_odd.b passA (da_cons (dv_var 0 (pv 0)) (da_nil))) (da_cons (dv_tup (da_cons (dv_var 4 (pv 4)) (da_cons (dv_call C__law_odd.G (hr.mono (by decide)) (by rfl) C__law_odd.m C__law_odd.F.kp C__law_odd.b passA (da_cons (dv_var 0 (pv 0)) (da_nil))) (da_nil)))) (da_cons (dv_tup (da_cons (dv_call C__law_odd.G (hr.mono (by decide)) (by rfl) C__law_odd.m C__law_odd.F.kp C__law_odd.b passA (da_cons (dv_var 0 (pv 0)) (da_nil))) (da_cons (dv_callTy cr_tupleF (by rfl) T.m_tuple bt_tuple (dao_cons (DVo (dv_var 5 (pv 5))) (dao_nil))) (da_nil)))) (da_cons (dv_lst (da_cons (dv_var 4 (pv 4)) (da_cons (dv_callTy cr_tupleF (by rfl) T.m_tuple bt_tuple (dao_cons (DVo (dv_var 5 (pv 5))) (dao_nil))) (da_nil)))) (da_cons (dv_tup (da_cons (dv_var 4 (pv 4)) (da_cons (dv_var 5 (pv 5)) (da_nil)))) (da_cons (dv_tup (da_cons (dv_var 4 (pv 4)) (da_cons (dv_callTy cr_tupleF (by rfl) T.m_tuple bt_tuple (dao_cons (DVo (dv_revL (DVo (dv_var 5 (pv 5))))) (dao_nil))) (da_nil)))) (da_cons (dv_tup (da_cons (dv_var 4 (pv 4)) (da_cons (dv_callTy cr_tupleF (by rfl) T.m_tuple bt_tuple (dao_cons (DVo (dv_var 3 (pv 3))) (dao_nil))) (da_nil)))) (da_cons (dv_tup (da_cons (dv_var 4 (pv 4)) (da_cons (dv_callTy cr_tupleF (by rfl) T.m_tuple bt_tuple (dao_cons (DVo (dv_var 5 (pv 5))) (dao_nil))) (da_cons (dv_callTy cr_tupleF (by rfl) T.m_tuple bt_tuple (dao_cons (DVo (dv_var 5 (pv 5))) (dao_nil))) (da_nil))))) (da_cons (dv_tup (da_cons (dv_var 4 (pv 4)) (da_cons (dv_callTy cr_tupleF (by rfl) T.m_tuple bt_tuple (dao_cons (DVo (dv_var 5 (pv 5))) (dao_nil))) (da_nil)))) (da_cons (dv_tup (da_cons (dv_var 4 (pv 4)) (da_nil))) (da_nil))))))))))))) (DVo (dv_var 6 (pv 6)))))))
theorem ok__law_is_name (T : Top K cl mg base w) : ∃ f fd, Fn P w K mg base cl 2 "_law_is_name" s__law_is_name P__law_is_name sem__law_is_name f fd := by
  have T := T.pl
  obtain ⟨f__law_letters, fd__law_letters, C__law_letters⟩ := ok__law_letters (P := P) (w := w) (base := base) T
  obtain ⟨fd, F⟩ := T.f__law_is_name
  refine ⟨_, fd, F, fp_0 (N := N__law_is_name) (ps := P__law_is_name) (k := 1) sem__law_is_name den__law_is_name F sc__law_is_name (fun cdv A outer s H E W0 hr => ?_) rfl, T.g__law_is_name, FunD.bindsN F fun _ _ _ _ _ _ us hl => match us, hl with | [_], _ => rfl⟩
  exact dss_one (ds_ret (dv_and (dv_callB cr_isi (by rfl) T.m_isinstance bt_isinstance (dao_cons (DVo (dv_var 0 (pv 0))) (dao_cons (DVo (dv_ty (by rfl) T.m_str bt_str)) dao_nil))) (dv_and (dv_cmp (op_inDD (u65 hr)) (DVo (dv_callB cr_len (by rfl) T.m_len bt_len (dao_cons (DVo (dv_var 0 (pv 0))) (dao_nil)))) (DVo (dv_tup (da_cons (dv_int) (da_cons (dv_int) (da_cons (dv_int) (da_cons (dv_int) (da_cons (dv_int) (da_cons (dv_int) (da_nil))))))))) rfl) (dv_one (dv_callB (cr_allD rfl) (by rfl) T.m_all bt_all (dao_cons (DVo (dv_lc (own := [("_law_sign", 1)]) (t := (.nm 1)) rfl sc__law_is_name.nd (di_val (dv_var 0 (pv 0))) (blkOk_by (own := [("_law_sign", 1)]) (N := N__law_is_name) (sc := defScope s__law_is_name) (by decide +kernel)) (fun _ _ _ _ _ => dg_nm sc__law_is_name.nd) (fun _ _ _ _ _ => dts_nil) (fun _ _ _ _ _ => dv_cmp (op_inDD (u65 hr)) (DVo (dv_var 1 (pv 1))) (DVo (dv_call0 C__law_letters.G (hr.mono (by decide)) (by rfl) C__law_letters.m C__law_letters.F.kp C__law_letters.b passA)) rfl) (by decide))) (dao_nil)))))))
theorem ok__law_rising (T : Top K cl mg base w) : ∃ f fd, Fn P w K mg base cl 1 "_law_rising" s__law_rising P__law_rising sem__law_rising f fd := by
  have T := T.pl
  obtain ⟨fd, F⟩ := T.f__law_rising
  refine ⟨_, fd, F, fp_0 (N := N__law_rising) (ps := P__law_rising) (k := 0) sem__law_rising den__law_rising F sc__law_rising (fun cdv A outer s H E W0 hr => ?_) rfl, T.g__law_rising, FunD.bindsN F fun _ _ _ _ _ _ us hl => match us, hl with | [_], _ => rfl⟩
  exact dss_one (ds_ret (dv_callB (cr_allD rfl) (by rfl) T.m_all bt_all (dao_cons (DVo (dv_lc (own := [("_law_k", 1)]) (t := (.nm 1)) rfl sc__law_rising.nd (di_range (by rfl) T.m_range (da_cons (dv_op op_subD (DVo (dv_callB cr_len (by rfl) T.m_len bt_len (dao_cons (DVo (dv_var 0 (pv 0))) (dao_nil)))) (DVo (dv_int))) (da_nil))) (blkOk_by (own := [("_law_k", 1)]) (N := N__law_rising) (sc := defScope s__law_rising) (by decide +kernel)) (fun _ _ _ _ _ => dg_nm sc__law_rising.nd) (fun _ _ _ _ _ => dts_nil) (fun _ _ _ _ _ => dv_cmp op_ltD (DVo (dv_ix (DVo (dv_var 0 (pv 0))) (DVo (dv_var 1 (pv 1))))) (DVo (dv_ix (DVo (dv_var 0 (pv 0))) (DVo (dv_op op_addD (DVo (dv_var 1 (pv 1))) (DVo (dv_int)))))) (nomark _)) (by decide))) (dao_nil))))
theorem ok__law_is_lot (T : Top K cl mg base w) : ∃ f fd, Fn P w K mg base cl 3 "_law_is_lot" s__law_is_lot P__law_is_lot sem__law_is_lot f fd := by
  have T := T.pl
  obtain ⟨f__law_is_name, fd__law_is_name, C__law_is_name⟩ := ok__law_is_name (P := P) (w := w) (base := base) T
  obtain ⟨f__law_rising, fd__law_rising, C__law_rising⟩ := ok__law_rising (P := P) (w := w) (base := base) T
  obtain ⟨fd, F⟩ := T.f__law_is_lot
  refine ⟨_, fd, F, fp_0 (N := N__law_is_lot) (ps := P__law_is_lot) (k := 2) sem__law_is_lot den__law_is_lot F sc__law_is_lot (fun cdv A outer s H E W0 hr => ?_) rfl, T.g__law_is_lot, FunD.bindsN F fun _ _ _ _ _ _ us hl => match us, hl with | [_], _ => rfl⟩
  exact dss_cons (ds_if (DWt (dw_or (dt_not (dt_val (DVo (dv_callB cr_isi (by rfl) T.m_isinstance bt_isinstance (dao_cons (DVo (dv_var 0 (pv 0))) (dao_cons (DVo (dv_ty (by rfl) T.m_tuple bt_tuple)) dao_nil)))))) (dw_or (dt_cmp (op_eqDD (u64 hr)) (DVo (dv_callB cr_len (by rfl) T.m_len bt_len (dao_cons (DVo (dv_var 0 (pv 0))) (dao_nil)))) (DVo (dv_int)) (nomark _)) (dw_or1 (dt_not (dt_val (DVo (dv_callB (cr_allD rfl) (by rfl) T.m_all bt_all (dao_cons (DVo (dv_lc (own := [("_law_tag", 1)]) (t := (.nm 1)) rfl sc__law_is_lot.nd (di_val (dv_var 0 (pv 0))) (blkOk_by (own := [("_law_tag", 1)]) (N := N__law_is_lot) (sc := defScope s__law_is_lot) (by decide +kernel)) (fun _ _ _ _ _ => dg_nm sc__law_is_lot.nd) (fun _ _ _ _ _ => dts_nil) (fun _ _ _ _ _ => dv_call C__law_is_name.G (hr.mono (by decide)) (by rfl) C__law_is_name.m C__law_is_name.F.kp C__law_is_name.b passA (da_cons (dv_var 1 (pv 1)) (da_nil))) (by decide))) (dao_nil)))))))))) (dss_one (ds_ret (dv_bl))) (dss_nil)) (dss_one (ds_ret (dv_call C__law_rising.G (hr.mono (by decide)) (by rfl) C__law_rising.m C__law_rising.F.kp C__law_rising.b passA (da_cons (dv_var 0 (pv 0)) (da_nil)))))
theorem ok__law_is_lot_of (T : Top K cl mg base w) : ∃ f fd, Fn P w K mg base cl 4 "_law_is_lot_of" s__law_is_lot_of P__law_is_lot_of sem__law_is_lot_of f fd := by
  have T := T.pl
  obtain ⟨f__law_is_lot, fd__law_is_lot, C__law_is_lot⟩ := ok__law_is_lot (P := P) (w := w) (base := base) T
  obtain ⟨fd, F⟩ := T.f__law_is_lot_of
  refine ⟨_, fd, F, fp_0 (N := N__law_is_lot_of) (ps := P__law_is_lot_of) (k := 3) sem__law_is_lot_of den__law_is_lot_of F sc__law_is_lot_of (fun cdv A outer s H E W0 hr => ?_) rfl, T.g__law_is_lot_of, FunD.bindsN F fun _ _ _ _ _ _ us hl => match us, hl with | [_, _], _ => rfl⟩
  exact dss_one (ds_ret (dv_and (dv_call C__law_is_lot.G (hr.mono (by decide)) (by rfl) C__law_is_lot.m C__law_is_lot.F.kp C__law_is_lot.b passA (da_cons (dv_var 1 (pv 1)) (da_nil))) (dv_one (dv_callB (cr_allD rfl) (by rfl) T.m_all bt_all (dao_cons (DVo (dv_lc (own := [("_law_tag", 2)]) (t := (.nm 2)) rfl sc__law_is_lot_of.nd (di_val (dv_var 1 (pv 1))) (blkOk_by (own := [("_law_tag", 2)]) (N := N__law_is_lot_of) (sc := defScope s__law_is_lot_of) (by decide +kernel)) (fun _ _ _ _ _ => dg_nm sc__law_is_lot_of.nd) (fun _ _ _ _ _ => dts_nil) (fun _ _ _ _ _ => dv_cmp (op_inDD (u65 hr)) (DVo (dv_var 2 (pv 2))) (DVo (dv_var 0 (pv 0))) rfl) (by decide))) (dao_nil))))))
theorem ok__law_is_term (T : Top K cl mg base w) : ∃ f fd, Fn P w K mg base cl 5 "_law_is_term" s__law_is_term P__law_is_term sem__law_is_term f fd := by
  have T := T.pl
  obtain ⟨f__law_is_name, fd__law_is_name, C__law_is_name⟩ := ok__law_is_name (P := P) (w := w) (base := base) T
  obtain ⟨f__law_is_lot_of, fd__law_is_lot_of, C__law_is_lot_of⟩ := ok__law_is_lot_of (P := P) (w := w) (base := base) T
  obtain ⟨fd, F⟩ := T.f__law_is_term
  refine ⟨_, fd, F, fp_0 (N := N__law_is_term) (ps := P__law_is_term) (k := 4) sem__law_is_term den__law_is_term F sc__law_is_term (fun cdv A outer s H E W0 hr => ?_) rfl, T.g__law_is_term, FunD.bindsN F fun _ _ _ _ _ _ us hl => match us, hl with | [_, _], _ => rfl⟩
  exact dss_one (ds_ret (dv_and (dv_callB cr_isi (by rfl) T.m_isinstance bt_isinstance (dao_cons (DVo (dv_var 1 (pv 1))) (dao_cons (DVo (dv_ty (by rfl) T.m_tuple bt_tuple)) dao_nil))) (dv_and (dv_cmp (op_eqDD (u64 hr)) (DVo (dv_callB cr_len (by rfl) T.m_len bt_len (dao_cons (DVo (dv_var 1 (pv 1))) (dao_nil)))) (DVo (dv_int)) (nomark _)) (dv_and (dv_call C__law_is_name.G (hr.mono (by decide)) (by rfl) C__law_is_name.m C__law_is_name.F.kp C__law_is_name.b passA (da_cons (dv_ix (DVo (dv_var 1 (pv 1))) (DVo (dv_int))) (da_nil))) (dv_one (dv_call C__law_is_lot_of.G (hr.mono (by decide)) (by rfl) C__law_is_lot_of.m C__law_is_lot_of.F.kp C__law_is_lot_of.b passA (da_cons (dv_var 0 (pv 0)) (da_cons (dv_ix (DVo (dv_var 1 (pv 1))) (DVo (dv_int))) (da_nil)))))))))
theorem ok__law_words_due (T : Top K cl mg base w) : ∃ f fd, Fn P w K mg base cl 6 "_law_words_due" s__law_words_due P__law_words_due sem__law_words_due f fd := by
  have T := T.pl
  obtain ⟨f__law_is_term, fd__law_is_term, C__law_is_term⟩ := ok__law_is_term (P := P) (w := w) (base := base) T
  obtain ⟨fd, F⟩ := T.f__law_words_due
  refine ⟨_, fd, F, fp_0 (N := N__law_words_due) (ps := P__law_words_due) (k := 5) sem__law_words_due den__law_words_due F sc__law_words_due (fun cdv A outer s H E W0 hr => ?_) rfl, T.g__law_words_due, FunD.bindsN F fun _ _ _ _ _ _ us hl => match us, hl with | [_, _], _ => rfl⟩
  exact dss_cons (ds_if (dt_not (dt_val (DVo (dv_isiT (DVo (dv_var 1 (pv 1))) (pa_ty (by rfl) T.m_list bt_list (pa_ty (by rfl) T.m_tuple bt_tuple (pa_nil))) (by rfl) T.m_isinstance)))) (dss_one (ds_ret (dv_tup (da_cons (dv_str) (da_cons (dv_str) (da_cons (dv_neg (DVo (dv_int))) (da_nil))))))) (dss_nil)) (dss_cons (ds_if (dt_cmp op_gtD (DVo (dv_callB cr_len (by rfl) T.m_len bt_len (dao_cons (DVo (dv_var 1 (pv 1))) (dao_nil)))) (DVo (dv_int)) (nomark _)) (dss_one (ds_ret (dv_tup (da_cons (dv_str) (da_cons (dv_str) (da_cons (dv_int) (da_nil))))))) (dss_nil)) (dss_cons (ds_setLc 2 (own := [("_law_k", 5)]) (t := (.nm 5)) rfl sc__law_words_due.nd (di_range (by rfl) T.m_range (da_cons (dv_callB cr_len (by rfl) T.m_len bt_len (dao_cons (DVo (dv_var 1 (pv 1))) (dao_nil))) (da_nil))) (blkOk_by (own := [("_law_k", 5)]) (N := N__law_words_due) (sc := defScope s__law_words_due) (by decide +kernel)) (fun _ _ _ _ _ => dg_nm sc__law_words_due.nd) (fun _ _ _ _ _ => dts_one (dt_not (dt_val (DVo (dv_call C__law_is_term.G (hr.mono (by decide)) (by rfl) C__law_is_term.m C__law_is_term.F.kp C__law_is_term.b passA (da_cons (dv_var 0 (pv 0)) (da_cons (dv_ix (DVo (dv_var 1 (pv 1))) (DVo (dv_var 5 (pv 5)))) (da_nil)))))))) (fun _ _ _ _ _ => dv_var 5 (pv 5)) (by decide) (sw_true rfl rfl rfl (by decide +kernel))) (dss_cons (ds_if (dt_cmp (op_neDD (u64 hr)) (DVo (dv_var 2 (pv 2))) (DVo (dv_lst (da_nil))) (nomark _)) (dss_one (ds_ret (dv_tup (da_cons (dv_str) (da_cons (dv_str) (da_cons (dv_ix (DVo (dv_var 2 (pv 2))) (DVo (dv_int))) (da_nil))))))) (dss_nil)) (dss_cons (ds_set 3 sc__law_words_due.nd (dv_lc (own := [("_law_term", 6)]) (t := (.nm 6)) rfl sc__law_words_due.nd (di_val (dv_var 1 (pv 1))) (blkOk_by (own := [("_law_term", 6)]) (N := N__law_words_due) (sc := defScope s__law_words_due) (by decide +kernel)) (fun _ _ _ _ _ => dg_nm sc__law_words_due.nd) (fun _ _ _ _ _ => dts_nil) (fun _ _ _ _ _ => dv_ix (DVo (dv_var 6 (pv 6))) (DVo (dv_int))) (by decide))) (dss_cons (ds_setLc 4 (own := [("_law_k", 5)]) (t := (.nm 5)) rfl sc__law_words_due.nd (di_range (by rfl) T.m_range (da_cons (dv_callB cr_len (by rfl) T.m_len bt_len (dao_cons (DVo (dv_var 1 (pv 1))) (dao_nil))) (da_nil))) (blkOk_by (own := [("_law_k", 5)]) (N := N__law_words_due) (sc := defScope s__law_words_due) (by decide +kernel)) (fun _ _ _ _ _ => dg_nm sc__law_words_due.nd) (fun _ _ _ _ _ => dts_one (dt_cmp (op_inDD (u65 hr)) (DVo (dv_ix (DVo (dv_var 3 (pv 3))) (DVo (dv_var 5 (pv 5))))) (DVo (dv_sl (DVo (dv_var 3 (pv 3))) (dp_none) (dp_some (dv_var 5 (pv 5))))) rfl)) (fun _ _ _ _ _ => dv_ix (DVo (dv_var 3 (pv 3))) (DVo (dv_var 5 (pv 5)))) (by decide) (sw_true rfl rfl rfl (by decide +kernel))) (dss_one (ds_ret (dv_if (dt_cmp (op_neDD (u64 hr)) (DVo (dv_var 4 (pv 4))) (DVo (dv_lst (da_nil))) (nomark _)) (dv_tup (da_cons (dv_str) (da_cons (dv_str) (da_cons (dv_ix (DVo (dv_var 4 (pv 4))) (DVo (dv_int))) (da_nil))))) (dv_tup (da_nil))))))))))
theorem ok__law_same_at (n : Nat) : ∀ {cl : Cl} (T : Top K cl mg base w), ∃ f fd, Fn P w K mg base cl (1 + n) "_law_same" s__law_same P__law_same (sem__law_same n) f fd := by
  induction n with
  | zero =>
    intro cl T
    obtain ⟨fd, F⟩ := T.f__law_same
    exact ⟨_, fd, F, ⟨fun vs H Q E h => by obtain ⟨_, _, _, _, _, h⟩ := h; exact h.elim, fun A outer s H args us vs Q E _ _ _ _ h => by obtain ⟨_, _, _, _, _, h⟩ := h; exact h.elim⟩, T.g__law_same, FunD.bindsN F fun _ _ _ _ _ _ us hl => match us, hl with | [_, _], _ => rfl⟩
  | succ n ih =>
    intro cl T
    have T := T.pl
    obtain ⟨f__law_same, fd__law_same, C__law_same⟩ := ih T
    obtain ⟨fd, F⟩ := T.f__law_same
    refine ⟨_, fd, F, fp_0 (N := N__law_same) (ps := P__law_same) (k := 1 + n) (sem__law_same (n + 1)) (den__law_same (sem__law_same n)) F sc__law_same (fun cdv A outer s H E W0 hr => ?_) rfl, T.g__law_same, FunD.bindsN F fun _ _ _ _ _ _ us hl => match us, hl with | [_, _], _ => rfl⟩
    exact dss_cons (ds_if (dt_val (DVo (dv_isiT (DVo (dv_var 1 (pv 1))) (pa_ty (by rfl) T.m_list bt_list (pa_ty (by rfl) T.m_tuple bt_tuple (pa_nil))) (by rfl) T.m_isinstance))) (dss_cons (ds_if (DWt (dw_or (dt_cmp (op_neDD (u64 hr)) (DVo (dv_callB cr_isi (by rfl) T.m_isinstance bt_isinstance (dao_cons (DVo (dv_var 0 (pv 0))) (dao_cons (DVo (dv_ty (by rfl) T.m_list bt_list)) dao_nil)))) (DVo (dv_callB cr_isi (by rfl) T.m_isinstance bt_isinstance (dao_cons (DVo (dv_var 1 (pv 1))) (dao_cons (DVo (dv_ty (by rfl) T.m_list bt_list)) dao_nil)))) (nomark _)) (dw_or1 (dt_cmp (op_neDD (u64 hr)) (DVo (dv_callB cr_isi (by rfl) T.m_isinstance bt_isinstance (dao_cons (DVo (dv_var 0 (pv 0))) (dao_cons (DVo (dv_ty (by rfl) T.m_tuple bt_tuple)) dao_nil)))) (DVo (dv_callB cr_isi (by rfl) T.m_isinstance bt_isinstance (dao_cons (DVo (dv_var 1 (pv 1))) (dao_cons (DVo (dv_ty (by rfl) T.m_tuple bt_tuple)) dao_nil)))) (nomark _))))) (dss_one (ds_ret (dv_bl))) (dss_nil)) (dss_one (ds_ret (dv_and (dv_cmp (op_eqDD (u64 hr)) (DVo (dv_callB cr_len (by rfl) T.m_len bt_len (dao_cons (DVo (dv_var 0 (pv 0))) (dao_nil)))) (DVo (dv_callB cr_len (by rfl) T.m_len bt_len (dao_cons (DVo (dv_var 1 (pv 1))) (dao_nil)))) (nomark _)) (dv_one (dv_callB (cr_allD rfl) (by rfl) T.m_all bt_all (dao_cons (DVo (dv_lc (own := [("_law_k", 2)]) (t := (.nm 2)) rfl sc__law_same.nd (di_range (by rfl) T.m_range (da_cons (dv_callB cr_len (by rfl) T.m_len bt_len (dao_cons (DVo (dv_var 1 (pv 1))) (dao_nil))) (da_nil))) (blkOk_by (own := [("_law_k", 2)]) (N := N__law_same) (sc := defScope s__law_same) (by decide +kernel)) (fun _ _ _ _ _ => dg_nm sc__law_same.nd) (fun _ _ _ _ _ => dts_nil) (fun _ _ _ _ _ => dv_call C__law_same.G (hr.mono (by omega)) (by rfl) C__law_same.m C__law_same.F.kp C__law_same.b passA (da_cons (dv_ix (DVo (dv_var 0 (pv 0))) (DVo (dv_var 2 (pv 2)))) (da_cons (dv_ix (DVo (dv_var 1 (pv 1))) (DVo (dv_var 2 (pv 2)))) (da_nil)))) (by decide))) (dao_nil)))))))) (dss_nil)) (dss_cons (ds_if (DWt (dw_or (dt_cmp op_isND (DVo (dv_var 1 (pv 1))) (DVo (dv_non)) (nomark _)) (dw_or1 (dt_cmp op_isND (DVo (dv_var 0 (pv 0))) (DVo (dv_non)) (nomark _))))) (dss_one (ds_ret (dv_and (dv_cmp op_isND (DVo (dv_var 1 (pv 1))) (DVo (dv_non)) (nomark _)) (dv_one (dv_cmp op_isND (DVo (dv_var 0 (pv 0))) (DVo (dv_non)) (nomark _)))))) (dss_nil)) (dss_cons (ds_if (DWt (dw_or (dt_val (DVo (dv_callB cr_isi (by rfl) T.m_isinstance bt_isinstance (dao_cons (DVo (dv_var 1 (pv 1))) (dao_cons (DVo (dv_ty (by rfl) T.m_bool bt_bool)) dao_nil))))) (dw_or1 (dt_val (DVo (dv_callB cr_isi (by rfl) T.m_isinstance bt_isinstance (dao_cons (DVo (dv_var 0 (pv 0))) (dao_cons (DVo (dv_ty (by rfl) T.m_bool bt_bool)) dao_nil)))))))) (dss_one (ds_ret (dv_and (dv_callB cr_isi (by rfl) T.m_isinstance bt_isinstance (dao_cons (DVo (dv_var 1 (pv 1))) (dao_cons (DVo (dv_ty (by rfl) T.m_bool bt_bool)) dao_nil))) (dv_and (dv_callB cr_isi (by rfl) T.m_isinstance bt_isinstance (dao_cons (DVo (dv_var 0 (pv 0))) (dao_cons (DVo (dv_ty (by rfl) T.m_bool bt_bool)) dao_nil))) (dv_one (dv_cmp (op_eqDD (u64 hr)) (DVo (dv_var 0 (pv 0))) (DVo (dv_var 1 (pv 1))) (nomark _))))))) (dss_nil)) (dss_cons (ds_if (dt_val (DVo (dv_callB cr_isi (by rfl) T.m_isinstance bt_isinstance (dao_cons (DVo (dv_var 1 (pv 1))) (dao_cons (DVo (dv_ty (by rfl) T.m_int bt_int)) dao_nil))))) (dss_one (ds_ret (dv_and (dv_callB cr_isi (by rfl) T.m_isinstance bt_isinstance (dao_cons (DVo (dv_var 0 (pv 0))) (dao_cons (DVo (dv_ty (by rfl) T.m_int bt_int)) dao_nil))) (dv_one (dv_cmp (op_eqDD (u64 hr)) (DVo (dv_var 0 (pv 0))) (DVo (dv_var 1 (pv 1))) (nomark _)))))) (dss_nil)) (dss_one (ds_ret (dv_and (dv_callB cr_isi (by rfl) T.m_isinstance bt_isinstance (dao_cons (DVo (dv_var 1 (pv 1))) (dao_cons (DVo (dv_ty (by rfl) T.m_str bt_str)) dao_nil))) (dv_and (dv_callB cr_isi (by rfl) T.m_isinstance bt_isinstance (dao_cons (DVo (dv_var 0 (pv 0))) (dao_cons (DVo (dv_ty (by rfl) T.m_str bt_str)) dao_nil))) (dv_one (dv_cmp (op_eqDD (u64 hr)) (DVo (dv_var 0 (pv 0))) (DVo (dv_var 1 (pv 1))) (nomark _))))))))))
theorem ok__law_same (T : Top K cl mg base w) : ∃ f fd, Fn P w K mg base cl 13 "_law_same" s__law_same P__law_same (sem__law_same 12) f fd := ok__law_same_at 12 T
theorem ok_Book_words (T : Top K cl mg base w) : ∃ f fd, FnM P w K mg base cl CX0 1 38 "words" "Book.words" s_Book_words P_Book_words sem_Book_words f fd := by
  have T := T.pl
  obtain ⟨fd, F⟩ := T.f_Book_words
  refine ⟨_, fd, F, fp_0 (N := N_Book_words) (ps := P_Book_words) (k := 0) sem_Book_words den_Book_words F sc_Book_words (fun cdv A outer s H E W0 hr => ?_) rfl, T.K_Book, T.M_Book_words, FunD.bindsN F fun _ _ _ _ _ _ us hl => match us, hl with | [_], _ => rfl⟩
  exact dss_one (ds_ret (dv_callTy cr_listF (by rfl) T.m_list bt_list (dao_cons (DVo (dv_attr (T.at_Book_own_words) (dv_var 0 (pv 0)))) (dao_nil))))
theorem ok_Book_finds (T : Top K cl mg base w) : ∃ f fd, FnM P w K mg base cl CX0 1 38 "finds" "Book.finds" s_Book_finds P_Book_finds sem_Book_finds f fd := by
  have T := T.pl
  obtain ⟨fd, F⟩ := T.f_Book_finds
  refine ⟨_, fd, F, fp_0 (N := N_Book_finds) (ps := P_Book_finds) (k := 0) sem_Book_finds den_Book_finds F sc_Book_finds (fun cdv A outer s H E W0 hr => ?_) rfl, T.K_Book, T.M_Book_finds, FunD.bindsN F fun _ _ _ _ _ _ us hl => match us, hl with | [_], _ => rfl⟩
  exact dss_one (ds_ret (dv_callTy cr_listF (by rfl) T.m_list bt_list (dao_cons (DVo (dv_attr (T.at_Book_own_finds) (dv_var 0 (pv 0)))) (dao_nil))))
theorem ok__law_shown (T : Top K cl mg base w) : ∃ f fd, Fn P w K mg base cl 2 "_law_shown" s__law_shown P__law_shown sem__law_shown f fd := by
  have T := T.pl
  obtain ⟨f_Book_words, fd_Book_words, C_Book_words⟩ := ok_Book_words (P := P) (w := w) (base := base) T
  obtain ⟨f_Book_finds, fd_Book_finds, C_Book_finds⟩ := ok_Book_finds (P := P) (w := w) (base := base) T
  obtain ⟨fd, F⟩ := T.f__law_shown
  refine ⟨_, fd, F, fp_0 (N := N__law_shown) (ps := P__law_shown) (k := 1) sem__law_shown den__law_shown F sc__law_shown (fun cdv A outer s H E W0 hr => ?_) rfl, T.g__law_shown, FunD.bindsN F fun _ _ _ _ _ _ us hl => match us, hl with | [_], _ => rfl⟩
  exact dss_one (ds_ret (dv_lst (da_cons (dv_meth0 (dv_var 0 (pv 0)) C_Book_finds.C C_Book_finds.M C_Book_finds.G (hr.mono (by decide)) C_Book_finds.b passA) (da_cons (dv_meth0 (dv_var 0 (pv 0)) C_Book_words.C C_Book_words.M C_Book_words.G (hr.mono (by decide)) C_Book_words.b passA) (da_nil)))))
theorem ok__law_met (T : Top K cl mg base w) : ∃ f fd, Fn P w K mg base cl 14 "_law_met" s__law_met P__law_met sem__law_met f fd := by
  have T := T.pl
  obtain ⟨f__law_same, fd__law_same, C__law_same⟩ := ok__law_same (P := P) (w := w) (base := base) T
  obtain ⟨f__law_shown, fd__law_shown, C__law_shown⟩ := ok__law_shown (P := P) (w := w) (base := base) T
  obtain ⟨fd, F⟩ := T.f__law_met
  refine ⟨_, fd, F, fp_0 (N := N__law_met) (ps := P__law_met) (k := 13) sem__law_met den__law_met F sc__law_met (fun cdv A outer s H E W0 hr => ?_) rfl, T.g__law_met, FunD.bindsN F fun _ _ _ _ _ _ us hl => match us, hl with | [_, _, _], _ => rfl⟩
  exact dss_cons (ds_if (dt_cmp (op_neDD (u64 hr)) (DVo (dv_var 1 (pv 1))) (DVo (dv_tup (da_nil))) (nomark _)) (dss_one (ds_ret (dv_call C__law_same.G (hr.mono (by decide)) (by rfl) C__law_same.m C__law_same.F.kp C__law_same.b passA (da_cons (dv_var 0 (pv 0)) (da_cons (dv_var 1 (pv 1)) (da_nil)))))) (dss_nil)) (dss_one (ds_ret (dv_and (dv_cmp (op_eqDD (u64 hr)) (DVo (dv_ix (DVo (dv_var 0 (pv 0))) (DVo (dv_int)))) (DVo (dv_str)) (nomark _)) (dv_one (dv_call C__law_same.G (hr.mono (by decide)) (by rfl) C__law_same.m C__law_same.F.kp C__law_same.b passA (da_cons (dv_call C__law_shown.G (hr.mono (by decide)) (by rfl) C__law_shown.m C__law_shown.F.kp C__law_shown.b passA (da_cons (dv_ix (DVo (dv_var 0 (pv 0))) (DVo (dv_int))) (da_nil))) (da_cons (dv_var 2 (pv 2)) (da_nil))))))))
theorem ok__law_fields (T : Top K cl mg base w) : ∃ f fd, FnH1 P w K mg base cl 1 "_law_fields" "_law_e" s__law_fields sem__law_fields_4 f fd := by
  obtain ⟨fd, F⟩ := T.f__law_fields
  refine ⟨_, fd, F, fn_X (N := N__law_fields) (k := 0) sem__law_fields_4 den__law_fields_4 F sc__law_fields (by simp) (fun cdv A outer s H p cl2 W0 hX hc hf0 hr => ?_) (fun y st _ => rfl), T.g__law_fields, FunD.bindsN F fun _ _ _ _ _ _ us hl => match us, hl with | [_], _ => rfl⟩
  exact dss_cons (ds_if (dt_cmp (op_eqDD (u64H hr)) (DVo (dv_xf 0 hX (xat_cl hc T.x_at) (by decide) (pv 0))) (DVo (dv_str)) (nomark _)) (dss_one (ds_ret (dv_tup (da_cons (dv_xf 0 hX (xat_cl hc T.x_at) (by decide) (pv 0)) (da_nil))))) (dss_nil)) (dss_cons (ds_if (dt_cmp (op_inDD (u65H hr)) (DVo (dv_xf 0 hX (xat_cl hc T.x_at) (by decide) (pv 0))) (DVo (dv_tup (da_cons (dv_str) (da_cons (dv_str) (da_cons (dv_str) (da_cons (dv_str) (da_nil))))))) rfl) (dss_one (ds_ret (dv_tup (da_cons (dv_xf 0 hX (xat_cl hc T.x_at) (by decide) (pv 0)) (da_nil))))) (dss_nil)) (dss_cons (ds_if (dt_cmp (op_inDD (u65H hr)) (DVo (dv_xf 0 hX (xat_cl hc T.x_at) (by decide) (pv 0))) (DVo (dv_tup (da_cons (dv_str) (da_cons (dv_str) (da_cons (dv_str) (da_nil)))))) rfl) (dss_one (ds_ret (dv_tup (da_cons (dv_xf 0 hX (xat_cl hc T.x_at) (by decide) (pv 0)) (da_nil))))) (dss_nil)) (dss_cons (ds_if (dt_cmp (op_eqDD (u64H hr)) (DVo (dv_xf 0 hX (xat_cl hc T.x_at) (by decide) (pv 0))) (DVo (dv_str)) (nomark _)) (dss_one (ds_ret (dv_tup (da_cons (dv_xf 0 hX (xat_cl hc T.x_at) (by decide) (pv 0)) (da_cons (dv_xf 0 hX (xat_cl hc T.x_at) (by decide) (pv 0)) (da_nil)))))) (dss_nil)) (dss_one (ds_ret (dv_if (dt_cmp (op_eqDD (u64H hr)) (DVo (dv_xf 0 hX (xat_cl hc T.x_at) (by decide) (pv 0))) (DVo (dv_str)) (nomark _)) (dv_tup (da_cons (dv_xf 0 hX (xat_cl hc T.x_at) (by decide) (pv 0)) (da_nil))) (dv_tup (da_nil))))))))
theorem gv__law_try {X : Cx} {cl : Cl} (T : Top X.K cl X.mg X.base X.w) (hr : Room 3 X.A) (q : Str) (cdv : Value) : LamX.GivesTo X N__law_try "_law_try" (defScope s__law_try) (He.ga X.K "_law_try") cdv (defBody s__law_try) "_law_ask" q (TTry X.K cl "told" (okC [4, 5, 11, 18, 19, 33]) hF__law_try_4) := by
  obtain ⟨f__law_fields, fd__law_fields, C__law_fields⟩ := ok__law_fields (P := X.prog) (w := X.w) (base := X.base) T
  exact gives_try (i := 1) (cs := (["FindError", "Missing"] : List Str).map fun y => .ref (He.ga X.K y)) sc__law_try.nd rfl rfl (fun s H => tst2 ⟨by rfl, by decide, .inl T.g_FindError⟩ ⟨by rfl, by decide, .inl T.g_Missing⟩) T.cat0 (fun f => rfl) (fun s H b oe pn cl2 hX hc hT => dv_op op_addD (DVo (dv_tup (da_cons (dv_str) (da_cons (dv_xf 1 hX (xat_cl hc T.x_at) (by decide) (pv 1)) (da_nil))))) (DVo (dv_callX hX C__law_fields.G hc hT (room_suite (hr.mono (by decide))) (by rfl) C__law_fields.m C__law_fields.F.kp C__law_fields.b (pv 1)))) (fun y st => rfl)
theorem ok_Book_add (T : Top K cl mg base w) : ∃ f fd, FnM P w K mg base cl (L2.CX P w) 8 38 "__add__" "Book.__add__" s_Book_add P_Book_add sem_Book_add f fd := by
  have T := T.pl
  obtain ⟨f_Book_init, fd_Book_init, C_Book_init⟩ := ok_Book_init (P := P) (w := w) (base := base) T
  obtain ⟨ds_b_Book_init_2, V_b_Book_init_2, B_b_Book_init_2⟩ := FunD.binds1 (ps := P_Book_init) C_Book_init.F 3 1 (by simp) rfl (fun _ _ _ _ _ _ _ us its h1 h2 => match us, its, h1, h2 with | [_, _, _], [_], _, _ => ⟨_, rfl, rfl⟩)
  obtain ⟨fd, F⟩ := T.f_Book_add
  refine ⟨_, fd, F, fp_E (N := N_Book_add) (ps := P_Book_add) (k := 7) sem_Book_add den_Book_add F sc_Book_add (fun cdv A outer s H E W0 hr => ?_) rfl, T.K_Book, T.M_Book_add, FunD.bindsN F fun _ _ _ _ _ _ us hl => match us, hl with | [_, _], _ => rfl⟩
  exact dss_one (ds_ret (dv_makeD (x := "Book") C_Book_init.M C_Book_init.G (hr.mono (by decide)) (by rfl) C_Book_init.m B_b_Book_init_2 V_b_Book_init_2 (fun W => .nil) (passE (takes_of rfl rfl rfl rfl)) (da_cons (dv_attr (T.at_Book_own_finds) (dv_var 0 (pv 0))) (da_cons (dv_lst (da_star (DVo (dv_attr (T.at_Book_own_words) (dv_var 0 (pv 0)))) (da_cons (dv_var 1 (pv 1)) (da_nil)))) (da_nil)))))
theorem ok_Book_with_word (T : Top K cl mg base w) : ∃ f fd, FnM P w K mg base cl (L2.CX P w) 8 38 "with_word" "Book.with_word" s_Book_with_word P_Book_with_word sem_Book_with_word f fd := by
  have T := T.pl
  obtain ⟨f_Book_init, fd_Book_init, C_Book_init⟩ := ok_Book_init (P := P) (w := w) (base := base) T
  obtain ⟨ds_b_Book_init_2, V_b_Book_init_2, B_b_Book_init_2⟩ := FunD.binds1 (ps := P_Book_init) C_Book_init.F 3 1 (by simp) rfl (fun _ _ _ _ _ _ _ us its h1 h2 => match us, its, h1, h2 with | [_, _, _], [_], _, _ => ⟨_, rfl, rfl⟩)
  obtain ⟨fd, F⟩ := T.f_Book_with_word
  refine ⟨_, fd, F, fp_E (N := N_Book_with_word) (ps := P_Book_with_word) (k := 7) sem_Book_with_word den_Book_with_word F sc_Book_with_word (fun cdv A outer s H E W0 hr => ?_) rfl, T.K_Book, T.M_Book_with_word, FunD.bindsN F fun _ _ _ _ _ _ us hl => match us, hl with | [_, _, _], _ => rfl⟩
  exact dss_one (ds_ret (dv_makeD (x := "Book") C_Book_init.M C_Book_init.G (hr.mono (by decide)) (by rfl) C_Book_init.m B_b_Book_init_2 V_b_Book_init_2 (fun W => .nil) (passE (takes_of rfl rfl rfl rfl)) (da_cons (dv_attr (T.at_Book_own_finds) (dv_var 0 (pv 0))) (da_cons (dv_lst (da_star (DVo (dv_attr (T.at_Book_own_words) (dv_var 0 (pv 0)))) (da_cons (dv_tup (da_cons (dv_var 1 (pv 1)) (da_cons (dv_var 2 (pv 2)) (da_nil)))) (da_nil)))) (da_nil)))))
theorem ok__law_grown_so (T : Top K cl mg base w) : ∃ f fd, FnE P w K mg base cl 15 "_law_grown_so" s__law_grown_so P__law_grown_so sem__law_grown_so f fd := by
  have T := T.pl
  obtain ⟨f_Book_init, fd_Book_init, C_Book_init⟩ := ok_Book_init (P := P) (w := w) (base := base) T
  obtain ⟨f__law_wrong_term, fd__law_wrong_term, C__law_wrong_term⟩ := ok__law_wrong_term (P := P) (w := w) (base := base) T
  obtain ⟨f__law_words_due, fd__law_words_due, C__law_words_due⟩ := ok__law_words_due (P := P) (w := w) (base := base) T
  obtain ⟨f__law_met, fd__law_met, C__law_met⟩ := ok__law_met (P := P) (w := w) (base := base) T
  obtain ⟨fd__law_try, F__law_try⟩ := T.f__law_try
  have B__law_try : Binds K fd__law_try P__law_try [] := FunD.bindsN F__law_try fun _ _ _ _ _ _ us hl => match us, hl with | [_], _ => rfl
  obtain ⟨f_Book_add, fd_Book_add, C_Book_add⟩ := ok_Book_add (P := P) (w := w) (base := base) T
  obtain ⟨f_Book_with_word, fd_Book_with_word, C_Book_with_word⟩ := ok_Book_with_word (P := P) (w := w) (base := base) T
  obtain ⟨f__law_same, fd__law_same, C__law_same⟩ := ok__law_same (P := P) (w := w) (base := base) T
  obtain ⟨f__law_shown, fd__law_shown, C__law_shown⟩ := ok__law_shown (P := P) (w := w) (base := base) T
  obtain ⟨ds_b_Book_init_2, V_b_Book_init_2, B_b_Book_init_2⟩ := FunD.binds1 (ps := P_Book_init) C_Book_init.F 3 1 (by simp) rfl (fun _ _ _ _ _ _ _ us its h1 h2 => match us, its, h1, h2 with | [_, _, _], [_], _, _ => ⟨_, rfl, rfl⟩)
  obtain ⟨fd, F⟩ := T.f__law_grown_so
  refine ⟨_, fd, F, fp_TE (at_ := ("_law_grown_so", none)) (N := N__law_grown_so) (ps := P__law_grown_so) (k := 14) sem__law_grown_so den__law_grown_so F rfl sc__law_grown_so (fun A outer s H E W0 hr => ?_) rfl, T.g__law_grown_so, FunD.bindsN F fun _ _ _ _ _ _ us hl => match us, hl with | [_, _, _, _], _ => rfl⟩
  exact dss_cons (ds_set 4 sc__law_grown_so.nd (dv_makeD (x := "Book") C_Book_init.M C_Book_init.G (hr.mono (by decide)) (by rfl) C_Book_init.m B_b_Book_init_2 V_b_Book_init_2 (fun W => .nil) (passE (takes_of rfl rfl rfl rfl)) (da_cons (dv_var 1 (pv 1)) (da_cons (dv_var 2 (pv 2)) (da_nil))))) (dss_cons (ds_for (t := (.nm 5)) (passes_of rfl) rfl (di_range (by rfl) T.m_range (da_cons (dv_int) (da_nil))) (dg_nm sc__law_grown_so.nd) (dss_cons (ds_set 6 sc__law_grown_so.nd (dv_call C__law_wrong_term.G (hr.mono (by decide)) (by rfl) C__law_wrong_term.m C__law_wrong_term.F.kp C__law_wrong_term.b passA (da_cons (dv_var 0 (pv 0)) (da_cons (dv_var 1 (pv 1)) (da_cons (dv_var 3 (pv 3)) (da_nil)))))) (dss_cons (ds_par (i := 7) (j := 8) rfl sc__law_grown_so.nd (da_cons (dv_lst (da_cons (dv_callB cr_sortedD (by rfl) T.m_sorted bt_sorted (dao_cons (DVo (dv_var 1 (pv 1))) (dao_nil))) (da_cons (dv_op op_addD (DVo (dv_var 2 (pv 2))) (DVo (dv_lst (da_cons (dv_var 6 (pv 6)) (da_nil))))) (da_nil)))) (da_cons (dv_call C__law_words_due.G (hr.mono (by decide)) (by rfl) C__law_words_due.m C__law_words_due.F.kp C__law_words_due.b passA (da_cons (dv_var 1 (pv 1)) (da_cons (dv_op op_addD (DVo (dv_var 2 (pv 2))) (DVo (dv_lst (da_cons (dv_var 6 (pv 6)) (da_nil))))) (da_nil)))) (da_nil)))) (dss_cons (ds_if (dt_not (dt_val (DVo (dv_call C__law_met.G (hr.mono (by decide)) (by rfl) C__law_met.m C__law_met.F.kp C__law_met.b passA (da_cons (dv_lam (k := 8) (Ng := N__law_try) (a := "_law_ask") F__law_try (by rfl) T.g__law_try B__law_try sc__law_try rfl (Or.inl rfl) (fun cdv => gv__law_try (X := _) T (hr.mono (by decide)) _ cdv) (T.tb ("_law_grown_so", none) (by decide)) rfl T.t__law_grown_so T.u__law_grown_so (hr.mono (by decide)) (show LamX.LamS (defScope s__law_grown_so) _ from LamX.lamS_by (by decide +kernel)) rfl (fun _ _ _ _ _ => rfl) (fun A outer s H E f c hr => dv_own op_addD (own_cons (own_at (nm := "__add__") (rm := "__radd__") C_Book_add.M T.ow_Book C_Book_add.G (hr.mono (by decide)) C_Book_add.b (passE (takes_of rfl rfl rfl rfl))) own_nil) (DVo (dv_var 4 (pv 4))) (dv_var 6 (pv 6)))) (da_cons (dv_var 8 (pv 8)) (da_cons (dv_var 7 (pv 7)) (da_nil)))))))) (dss_one (ds_ret (dv_bl))) (dss_nil)) (dss_cons (ds_if (DWt (dw_and (dt_val (DVo (dv_callB cr_isi (by rfl) T.m_isinstance bt_isinstance (dao_cons (DVo (dv_var 6 (pv 6))) (dao_cons (DVo (dv_ty (by rfl) T.m_tuple bt_tuple)) dao_nil))))) (dw_and1 (dt_cmp (op_eqDD (u64 hr)) (DVo (dv_callB cr_len (by rfl) T.m_len bt_len (dao_cons (DVo (dv_var 6 (pv 6))) (dao_nil)))) (DVo (dv_int)) (nomark _))))) (dss_cons (ds_set 9 sc__law_grown_so.nd (dv_lst (da_cons (dv_lam (k := 8) (Ng := N__law_try) (a := "_law_ask") F__law_try (by rfl) T.g__law_try B__law_try sc__law_try rfl (Or.inl rfl) (fun cdv => gv__law_try (X := _) T (hr.mono (by decide)) _ cdv) (T.tb ("_law_grown_so", none) (by decide)) rfl T.t__law_grown_so T.u__law_grown_so (hr.mono (by decide)) (show LamX.LamS (defScope s__law_grown_so) _ from LamX.lamS_by (by decide +kernel)) rfl (fun _ _ _ _ _ => rfl) (fun A outer s H E f c hr => dv_meth (dv_var 4 (pv 4)) C_Book_with_word.C C_Book_with_word.M C_Book_with_word.G (hr.mono (by decide)) C_Book_with_word.b (passE (takes_of rfl rfl rfl rfl)) (da_cons (dv_ix (DVo (dv_var 6 (pv 6))) (DVo (dv_int))) (da_cons (dv_ix (DVo (dv_var 6 (pv 6))) (DVo (dv_int))) (da_nil))))) (da_cons (dv_lam (k := 8) (Ng := N__law_try) (a := "_law_ask") F__law_try (by rfl) T.g__law_try B__law_try sc__law_try rfl (Or.inl rfl) (fun cdv => gv__law_try (X := _) T (hr.mono (by decide)) _ cdv) (T.tb ("_law_grown_so", none) (by decide)) rfl T.t__law_grown_so T.u__law_grown_so (hr.mono (by decide)) (show LamX.LamS (defScope s__law_grown_so) _ from LamX.lamS_by (by decide +kernel)) rfl (fun _ _ _ _ _ => rfl) (fun A outer s H E f c hr => dv_methK0 (dv_var 4 (pv 4)) C_Book_with_word.C C_Book_with_word.M C_Book_with_word.G (hr.mono (by decide)) (kbd0_of (n := 1) (ks := ["lot", "mark"]) (pm := shiftP [1, 0]) C_Book_with_word.F (fun _ _ _ _ _ _ us ws h1 h2 => match us, ws, h1, h2 with | [_], [_, _], _, _ => rfl)) (passE (takes_of rfl rfl rfl rfl)) (dk_cons (dv_ix (DVo (dv_var 6 (pv 6))) (DVo (dv_int))) (dk_cons (dv_ix (DVo (dv_var 6 (pv 6))) (DVo (dv_int))) (dk_nil))))) (da_nil))))) (dss_one (ds_if (DWt (dw_or (dt_not (dt_val (DVo (dv_call C__law_met.G (hr.mono (by decide)) (by rfl) C__law_met.m C__law_met.F.kp C__law_met.b passA (da_cons (dv_ix (DVo (dv_var 9 (pv 9))) (DVo (dv_int))) (da_cons (dv_var 8 (pv 8)) (da_cons (dv_var 7 (pv 7)) (da_nil)))))))) (dw_or1 (dt_not (dt_val (DVo (dv_call C__law_met.G (hr.mono (by decide)) (by rfl) C__law_met.m C__law_met.F.kp C__law_met.b passA (da_cons (dv_ix (DVo (dv_var 9 (pv 9))) (DVo (dv_int))) (da_cons (dv_var 8 (pv 8)) (da_cons (dv_var 7 (pv 7)) (da_nil))))))))))) (dss_one (ds_ret (dv_bl))) (dss_nil)))) (dss_nil)) (dss_one (ds_if (dt_not (dt_val (DVo (dv_call C__law_same.G (hr.mono (by decide)) (by rfl) C__law_same.m C__law_same.F.kp C__law_same.b passA (da_cons (dv_call C__law_shown.G (hr.mono (by decide)) (by rfl) C__law_shown.m C__law_shown.F.kp C__law_shown.b passA (da_cons (dv_var 4 (pv 4)) (da_nil))) (da_cons (dv_lst (da_cons (dv_callB cr_sortedD (by rfl) T.m_sorted bt_sorted (dao_cons (DVo (dv_var 1 (pv 1))) (dao_nil))) (da_cons (dv_var 2 (pv 2)) (da_nil)))) (da_nil))))))) (dss_one (ds_ret (dv_bl))) (dss_nil)))))))) (dss_one (ds_ret (dv_bl))))
theorem ok__law_finds_due (T : Top K cl mg base w) : ∃ f fd, Fn P w K mg base cl 3 "_law_finds_due" s__law_finds_due P__law_finds_due sem__law_finds_due f fd := by
  have T := T.pl
  obtain ⟨f__law_is_name, fd__law_is_name, C__law_is_name⟩ := ok__law_is_name (P := P) (w := w) (base := base) T
  obtain ⟨fd, F⟩ := T.f__law_finds_due
  refine ⟨_, fd, F, fp_0 (N := N__law_finds_due) (ps := P__law_finds_due) (k := 2) sem__law_finds_due den__law_finds_due F sc__law_finds_due (fun cdv A outer s H E W0 hr => ?_) rfl, T.g__law_finds_due, FunD.bindsN F fun _ _ _ _ _ _ us hl => match us, hl with | [_], _ => rfl⟩
  exact dss_cons (ds_if (DWt (dw_or (dt_not (dt_val (DVo (dv_isiT (DVo (dv_var 0 (pv 0))) (pa_ty (by rfl) T.m_list bt_list (pa_ty (by rfl) T.m_tuple bt_tuple (pa_nil))) (by rfl) T.m_isinstance)))) (dw_or1 (dt_cmp (op_eqDD (u64 hr)) (DVo (dv_callB cr_len (by rfl) T.m_len bt_len (dao_cons (DVo (dv_var 0 (pv 0))) (dao_nil)))) (DVo (dv_int)) (nomark _))))) (dss_one (ds_ret (dv_tup (da_cons (dv_str) (da_cons (dv_str) (da_cons (dv_neg (DVo (dv_int))) (da_nil))))))) (dss_nil)) (dss_cons (ds_if (dt_cmp op_gtD (DVo (dv_callB cr_len (by rfl) T.m_len bt_len (dao_cons (DVo (dv_var 0 (pv 0))) (dao_nil)))) (DVo (dv_int)) (nomark _)) (dss_one (ds_ret (dv_tup (da_cons (dv_str) (da_cons (dv_str) (da_cons (dv_int) (da_nil))))))) (dss_nil)) (dss_cons (ds_setLc 1 (own := [("_law_k", 2)]) (t := (.nm 2)) rfl sc__law_finds_due.nd (di_range (by rfl) T.m_range (da_cons (dv_callB cr_len (by rfl) T.m_len bt_len (dao_cons (DVo (dv_var 0 (pv 0))) (dao_nil))) (da_nil))) (blkOk_by (own := [("_law_k", 2)]) (N := N__law_finds_due) (sc := defScope s__law_finds_due) (by decide +kernel)) (fun _ _ _ _ _ => dg_nm sc__law_finds_due.nd) (fun _ _ _ _ _ => dts_one (DWt (dw_or (dt_not (dt_val (DVo (dv_call C__law_is_name.G (hr.mono (by decide)) (by rfl) C__law_is_name.m C__law_is_name.F.kp C__law_is_name.b passA (da_cons (dv_ix (DVo (dv_var 0 (pv 0))) (DVo (dv_var 2 (pv 2)))) (da_nil)))))) (dw_or1 (dt_cmp (op_inDD (u65 hr)) (DVo (dv_ix (DVo (dv_var 0 (pv 0))) (DVo (dv_var 2 (pv 2))))) (DVo (dv_sl (DVo (dv_var 0 (pv 0))) (dp_none) (dp_some (dv_var 2 (pv 2))))) rfl))))) (fun _ _ _ _ _ => dv_var 2 (pv 2)) (by decide) (sw_true rfl rfl rfl (by decide +kernel))) (dss_one (ds_ret (dv_if (dt_cmp (op_neDD (u64 hr)) (DVo (dv_var 1 (pv 1))) (DVo (dv_lst (da_nil))) (nomark _)) (dv_tup (da_cons (dv_str) (da_cons (dv_str) (da_cons (dv_ix (DVo (dv_var 1 (pv 1))) (DVo (dv_int))) (da_nil))))) (dv_tup (da_nil)))))))
theorem ok_law (T : Top K cl mg base w) : ∃ f fd, FnE P w K mg base cl 16 "law" s_law P_law sem_law_10 f fd := by
  have T := T.pl
  obtain ⟨f__law_start, fd__law_start, C__law_start⟩ := ok__law_start (P := P) (w := w) (base := base) T
  obtain ⟨f__law_names, fd__law_names, C__law_names⟩ := ok__law_names (P := P) (w := w) (base := base) T
  obtain ⟨f__law_pick, fd__law_pick, C__law_pick⟩ := ok__law_pick (P := P) (w := w) (base := base) T
  obtain ⟨f__law_draw, fd__law_draw, C__law_draw⟩ := ok__law_draw (P := P) (w := w) (base := base) T
  obtain ⟨f__law_terms, fd__law_terms, C__law_terms⟩ := ok__law_terms (P := P) (w := w) (base := base) T
  obtain ⟨f__law_grown_so, fd__law_grown_so, C__law_grown_so⟩ := ok__law_grown_so (P := P) (w := w) (base := base) T
  obtain ⟨f__law_put, fd__law_put, C__law_put⟩ := ok__law_put (P := P) (w := w) (base := base) T
  obtain ⟨f__law_wrong_term, fd__law_wrong_term, C__law_wrong_term⟩ := ok__law_wrong_term (P := P) (w := w) (base := base) T
  obtain ⟨f__law_word, fd__law_word, C__law_word⟩ := ok__law_word (P := P) (w := w) (base := base) T
  obtain ⟨f__law_odd, fd__law_odd, C__law_odd⟩ := ok__law_odd (P := P) (w := w) (base := base) T
  obtain ⟨f__law_finds_due, fd__law_finds_due, C__law_finds_due⟩ := ok__law_finds_due (P := P) (w := w) (base := base) T
  obtain ⟨f__law_words_due, fd__law_words_due, C__law_words_due⟩ := ok__law_words_due (P := P) (w := w) (base := base) T
  obtain ⟨fd__law_try, F__law_try⟩ := T.f__law_try
  have B__law_try : Binds K fd__law_try P__law_try [] := FunD.bindsN F__law_try fun _ _ _ _ _ _ us hl => match us, hl with | [_], _ => rfl
  obtain ⟨f_Book_init, fd_Book_init, C_Book_init⟩ := ok_Book_init (P := P) (w := w) (base := base) T
  obtain ⟨f__law_met, fd__law_met, C__law_met⟩ := ok__law_met (P := P) (w := w) (base := base) T
  obtain ⟨f__law_same, fd__law_same, C__law_same⟩ := ok__law_same (P := P) (w := w) (base := base) T
  obtain ⟨ds_b_Book_init_2, V_b_Book_init_2, B_b_Book_init_2⟩ := FunD.binds1 (ps := P_Book_init) C_Book_init.F 3 1 (by simp) rfl (fun _ _ _ _ _ _ _ us its h1 h2 => match us, its, h1, h2 with | [_, _, _], [_], _, _ => ⟨_, rfl, rfl⟩)
  obtain ⟨fd, F⟩ := T.f_law
  refine ⟨_, fd, F, fp_TE (at_ := ("law", none)) (N := N_law) (ps := P_law) (k := 15) sem_law_10 den_law_10 F rfl sc_law (fun A outer s H E W0 hr => ?_) rfl, T.g_law, FunD.bindsN F fun _ _ _ _ _ _ us hl => match us, hl with | [_], _ => rfl⟩
  exact dss_cons (ds_set 1 sc_law.nd (dv_call C__law_start.G (hr.mono (by decide)) (by rfl) C__law_start.m C__law_start.F.kp C__law_start.b passA (da_cons (dv_var 0 (pv 0)) (da_cons (dv_int) (da_nil))))) (dss_cons (ds_set 2 sc_law.nd (dv_call C__law_names.G (hr.mono (by decide)) (by rfl) C__law_names.m C__law_names.F.kp C__law_names.b passA (da_cons (dv_var 1 (pv 1)) (da_cons (dv_int) (da_nil))))) (dss_cons (ds_for (t := (.nm 3)) (passes_of rfl) rfl (di_range (by rfl) T.m_range (da_cons (dv_int) (da_nil))) (dg_nm sc_law.nd) (dss_cons (ds_set 4 sc_law.nd (dv_call C__law_names.G (hr.mono (by decide)) (by rfl) C__law_names.m C__law_names.F.kp C__law_names.b passA (da_cons (dv_var 1 (pv 1)) (da_cons (dv_call C__law_pick.G (hr.mono (by decide)) (by rfl) C__law_pick.m C__law_pick.F.kp C__law_pick.b passA (da_cons (dv_var 1 (pv 1)) (da_cons (dv_lst (da_cons (dv_int) (da_cons (dv_int) (da_cons (dv_int) (da_cons (dv_int) (da_cons (dv_int) (da_cons (dv_int) (da_cons (dv_int) (da_cons (dv_int) (da_nil)))))))))) (da_nil)))) (da_nil))))) (dss_cons (ds_set 5 sc_law.nd (dv_if (dt_cmp (op_eqDD (u64 hr)) (DVo (dv_call C__law_draw.G (hr.mono (by decide)) (by rfl) C__law_draw.m C__law_draw.F.kp C__law_draw.b passA (da_cons (dv_var 1 (pv 1)) (da_cons (dv_int) (da_nil))))) (DVo (dv_int)) (nomark _)) (dv_call C__law_pick.G (hr.mono (by decide)) (by rfl) C__law_pick.m C__law_pick.F.kp C__law_pick.b passA (da_cons (dv_var 1 (pv 1)) (da_cons (dv_lst (da_cons (dv_int) (da_cons (dv_int) (da_cons (dv_int) (da_cons (dv_int) (da_cons (dv_int) (da_cons (dv_int) (da_cons (dv_int) (da_cons (dv_int) (da_cons (dv_int) (da_nil))))))))))) (da_nil)))) (dv_call C__law_draw.G (hr.mono (by decide)) (by rfl) C__law_draw.m C__law_draw.F.kp C__law_draw.b passA (da_cons (dv_var 1 (pv 1)) (da_cons (dv_int) (da_nil)))))) (dss_cons (ds_asg (t := (.tp [10, 11])) (dv_tup (da_cons (dv_call C__law_terms.G (hr.mono (by decide)) (by rfl) C__law_terms.m C__law_terms.F.kp C__law_terms.b passA (da_cons (dv_var 1 (pv 1)) (da_cons (dv_sl (DVo (dv_var 2 (pv 2))) (dp_none) (dp_some (dv_var 5 (pv 5)))) (da_cons (dv_var 4 (pv 4)) (da_nil))))) (da_cons (dv_var 4 (pv 4)) (da_nil)))) (dg_tp rfl (dgs_cons sc_law.nd (dgs_cons sc_law.nd (dgs_nil))))) (dss_cons (ds_if (DWt (dw_and (dt_cmp op_ltD (DVo (dv_var 5 (pv 5))) (DVo (dv_int)) (nomark _)) (dw_and1 (dt_not (dt_val (DVo (dv_call C__law_grown_so.G (hr.mono (by decide)) (by rfl) C__law_grown_so.m C__law_grown_so.F.kp C__law_grown_so.b (passE (takes_of rfl rfl rfl rfl)) (da_cons (dv_var 1 (pv 1)) (da_cons (dv_var 4 (pv 4)) (da_cons (dv_var 10 (pv 10)) (da_cons (dv_var 2 (pv 2)) (da_nil)))))))))))) (dss_one (ds_ret (dv_bl))) (dss_nil)) (dss_cons (ds_for (t := (.nm 6)) (passes_of rfl) rfl (di_range (by rfl) T.m_range (da_cons (dv_call C__law_pick.G (hr.mono (by decide)) (by rfl) C__law_pick.m C__law_pick.F.kp C__law_pick.b passA (da_cons (dv_var 1 (pv 1)) (da_cons (dv_lst (da_cons (dv_int) (da_cons (dv_int) (da_cons (dv_int) (da_cons (dv_int) (da_nil)))))) (da_nil)))) (da_nil))) (dg_nm sc_law.nd) (dss_one (ds_set 10 sc_law.nd (dv_call C__law_put.G (hr.mono (by decide)) (by rfl) C__law_put.m C__law_put.F.kp C__law_put.b passA (da_cons (dv_var 1 (pv 1)) (da_cons (dv_var 10 (pv 10)) (da_cons (dv_call C__law_wrong_term.G (hr.mono (by decide)) (by rfl) C__law_wrong_term.m C__law_wrong_term.F.kp C__law_wrong_term.b passA (da_cons (dv_var 1 (pv 1)) (da_cons (dv_var 4 (pv 4)) (da_cons (dv_var 2 (pv 2)) (da_nil))))) (da_nil)))))))) (dss_cons (ds_for (t := (.nm 6)) (passes_of rfl) rfl (di_range (by rfl) T.m_range (da_cons (dv_call C__law_pick.G (hr.mono (by decide)) (by rfl) C__law_pick.m C__law_pick.F.kp C__law_pick.b passA (da_cons (dv_var 1 (pv 1)) (da_cons (dv_lst (da_cons (dv_int) (da_cons (dv_int) (da_cons (dv_int) (da_cons (dv_int) (da_cons (dv_int) (da_nil))))))) (da_nil)))) (da_nil))) (dg_nm sc_law.nd) (dss_one (ds_set 11 sc_law.nd (dv_call C__law_put.G (hr.mono (by decide)) (by rfl) C__law_put.m C__law_put.F.kp C__law_put.b passA (da_cons (dv_var 1 (pv 1)) (da_cons (dv_var 11 (pv 11)) (da_cons (dv_call C__law_pick.G (hr.mono (by decide)) (by rfl) C__law_pick.m C__law_pick.F.kp C__law_pick.b passA (da_cons (dv_var 1 (pv 1)) (da_cons (dv_lst (da_cons (dv_call C__law_odd.G (hr.mono (by decide)) (by rfl) C__law_odd.m C__law_odd.F.kp C__law_odd.b passA (da_cons (dv_var 1 (pv 1)) (da_nil))) (da_cons (dv_ix (DVo (dv_var 11 (pv 11))) (DVo (dv_int))) (da_cons (dv_call C__law_word.G (hr.mono (by decide)) (by rfl) C__law_word.m C__law_word.F.kp C__law_word.b passA (da_cons (dv_var 1 (pv 1)) (da_cons (dv_int) (da_nil)))) (da_nil))))) (da_nil)))) (da_nil)))))))) (dss_cons (ds_asg (t := (.tp [12, 13])) (dv_tup (da_cons (dv_callTy cr_listF (by rfl) T.m_list bt_list (dao_cons (DVo (dv_var 10 (pv 10))) (dao_nil))) (da_cons (dv_callTy cr_listF (by rfl) T.m_list bt_list (dao_cons (DVo (dv_var 11 (pv 11))) (dao_nil))) (da_nil)))) (dg_tp rfl (dgs_cons sc_law.nd (dgs_cons sc_law.nd (dgs_nil))))) (dss_cons (ds_set 7 sc_law.nd (dv_if (dt_cmp (op_neDD (u64 hr)) (DVo (dv_call C__law_finds_due.G (hr.mono (by decide)) (by rfl) C__law_finds_due.m C__law_finds_due.F.kp C__law_finds_due.b passA (da_cons (dv_var 11 (pv 11)) (da_nil)))) (DVo (dv_tup (da_nil))) (nomark _)) (dv_call C__law_finds_due.G (hr.mono (by decide)) (by rfl) C__law_finds_due.m C__law_finds_due.F.kp C__law_finds_due.b passA (da_cons (dv_var 11 (pv 11)) (da_nil))) (dv_call C__law_words_due.G (hr.mono (by decide)) (by rfl) C__law_words_due.m C__law_words_due.F.kp C__law_words_due.b passA (da_cons (dv_var 11 (pv 11)) (da_cons (dv_var 10 (pv 10)) (da_nil)))))) (dss_cons (ds_set 8 sc_law.nd (dv_lst (da_cons (dv_lam (k := 7) (Ng := N__law_try) (a := "_law_ask") F__law_try (by rfl) T.g__law_try B__law_try sc__law_try rfl (Or.inl rfl) (fun cdv => gv__law_try (X := _) T (hr.mono (by decide)) _ cdv) (T.tb ("law", none) (by decide)) rfl T.t_law T.u_law (hr.mono (by decide)) (show LamX.LamS (defScope s_law) _ from LamX.lamS_by (by decide +kernel)) rfl (fun _ _ _ _ _ => rfl) (fun A outer s H E f c hr => dv_makeD (x := "Book") C_Book_init.M C_Book_init.G (hr.mono (by decide)) (by rfl) C_Book_init.m B_b_Book_init_2 V_b_Book_init_2 (fun W => .nil) (passE (takes_of rfl rfl rfl rfl)) (da_cons (dv_var 13 (pv 13)) (da_cons (dv_var 12 (pv 12)) (da_nil))))) (da_cons (dv_lam (k := 7) (Ng := N__law_try) (a := "_law_ask") F__law_try (by rfl) T.g__law_try B__law_try sc__law_try rfl (Or.inl rfl) (fun cdv => gv__law_try (X := _) T (hr.mono (by decide)) _ cdv) (T.tb ("law", none) (by decide)) rfl T.t_law T.u_law (hr.mono (by decide)) (show LamX.LamS (defScope s_law) _ from LamX.lamS_by (by decide +kernel)) rfl (fun _ _ _ _ _ => rfl) (fun A outer s H E f c hr => dv_makeKD0 (x := "Book") C_Book_init.M C_Book_init.G (hr.mono (by decide)) (by rfl) C_Book_init.m (kbd_of (n := 1) (ks := ["words", "finds"]) (pm := shiftP [1, 0]) C_Book_init.F (by simp) (fun _ _ _ _ _ _ _ us its ws h1 h2 h3 => match us, its, ws, h1, h2, h3 with | [_], [_], [_, _], _, _, _ => ⟨_, rfl, rfl⟩)) (fun W => (.cons (T.dv_Book_init_0 W) .nil)) (passE (takes_of rfl rfl rfl rfl)) (dk_cons (dv_callTy cr_tupleF (by rfl) T.m_tuple bt_tuple (dao_cons (DVo (dv_var 10 (pv 10))) (dao_nil))) (dk_cons (dv_callTy cr_tupleF (by rfl) T.m_tuple bt_tuple (dao_cons (DVo (dv_var 11 (pv 11))) (dao_nil))) (dk_nil))))) (da_nil))))) (dss_cons (ds_set 9 sc_law.nd (dv_if (dt_cmp (op_eqDD (u64 hr)) (DVo (dv_var 7 (pv 7))) (DVo (dv_tup (da_nil))) (nomark _)) (dv_lst (da_cons (dv_callB cr_sortedD (by rfl) T.m_sorted bt_sorted (dao_cons (DVo (dv_var 11 (pv 11))) (dao_nil))) (da_cons (dv_callTy cr_listF (by rfl) T.m_list bt_list (dao_cons (DVo (dv_var 10 (pv 10))) (dao_nil))) (da_nil)))) (dv_lst (da_nil)))) (dss_cons (ds_if (DWt (dw_or (dt_not (dt_val (DVo (dv_call C__law_met.G (hr.mono (by decide)) (by rfl) C__law_met.m C__law_met.F.kp C__law_met.b passA (da_cons (dv_ix (DVo (dv_var 8 (pv 8))) (DVo (dv_int))) (da_cons (dv_var 7 (pv 7)) (da_cons (dv_var 9 (pv 9)) (da_nil)))))))) (dw_or1 (dt_not (dt_val (DVo (dv_call C__law_met.G (hr.mono (by decide)) (by rfl) C__law_met.m C__law_met.F.kp C__law_met.b passA (da_cons (dv_ix (DVo (dv_var 8 (pv 8))) (DVo (dv_int))) (da_cons (dv_var 7 (pv 7)) (da_cons (dv_var 9 (pv 9)) (da_nil))))))))))) (dss_one (ds_ret (dv_bl))) (dss_nil)) (dss_cons (ds_asg (t := (.tp [14, 15])) (dv_tup (da_cons (dv_call C__law_odd.G (hr.mono (by decide)) (by rfl) C__law_odd.m C__law_odd.F.kp C__law_odd.b passA (da_cons (dv_var 1 (pv 1)) (da_nil))) (da_cons (dv_call C__law_pick.G (hr.mono (by decide)) (by rfl) C__law_pick.m C__law_pick.F.kp C__law_pick.b passA (da_cons (dv_var 1 (pv 1)) (da_cons (dv_lst (da_cons (dv_non) (da_cons (dv_int) (da_cons (dv_str) (da_cons (dv_bl) (da_cons (dv_call C__law_odd.G (hr.mono (by decide)) (by rfl) C__law_odd.m C__law_odd.F.kp C__law_odd.b passA (da_cons (dv_var 1 (pv 1)) (da_nil))) (da_nil))))))) (da_nil)))) (da_nil)))) (dg_tp rfl (dgs_cons sc_law.nd (dgs_cons sc_law.nd (dgs_nil))))) (dss_cons (ds_set 7 sc_law.nd (dv_if (dt_cmp (op_neDD (u64 hr)) (DVo (dv_call C__law_finds_due.G (hr.mono (by decide)) (by rfl) C__law_finds_due.m C__law_finds_due.F.kp C__law_finds_due.b passA (da_cons (dv_var 14 (pv 14)) (da_nil)))) (DVo (dv_tup (da_nil))) (nomark _)) (dv_call C__law_finds_due.G (hr.mono (by decide)) (by rfl) C__law_finds_due.m C__law_finds_due.F.kp C__law_finds_due.b passA (da_cons (dv_var 14 (pv 14)) (da_nil))) (dv_call C__law_words_due.G (hr.mono (by decide)) (by rfl) C__law_words_due.m C__law_words_due.F.kp C__law_words_due.b passA (da_cons (dv_var 14 (pv 14)) (da_cons (dv_var 10 (pv 10)) (da_nil)))))) (dss_cons (ds_if (dt_not (dt_val (DVo (dv_call C__law_met.G (hr.mono (by decide)) (by rfl) C__law_met.m C__law_met.F.kp C__law_met.b passA (da_cons (dv_lam (k := 7) (Ng := N__law_try) (a := "_law_ask") F__law_try (by rfl) T.g__law_try B__law_try sc__law_try rfl (Or.inl rfl) (fun cdv => gv__law_try (X := _) T (hr.mono (by decide)) _ cdv) (T.tb ("law", none) (by decide)) rfl T.t_law T.u_law (hr.mono (by decide)) (show LamX.LamS (defScope s_law) _ from LamX.lamS_by (by decide +kernel)) rfl (fun _ _ _ _ _ => rfl) (fun A outer s H E f c hr => dv_makeD (x := "Book") C_Book_init.M C_Book_init.G (hr.mono (by decide)) (by rfl) C_Book_init.m B_b_Book_init_2 V_b_Book_init_2 (fun W => .nil) (passE (takes_of rfl rfl rfl rfl)) (da_cons (dv_var 14 (pv 14)) (da_cons (dv_var 12 (pv 12)) (da_nil))))) (da_cons (dv_var 7 (pv 7)) (da_cons (dv_if (dt_cmp (op_eqDD (u64 hr)) (DVo (dv_var 7 (pv 7))) (DVo (dv_tup (da_nil))) (nomark _)) (dv_lst (da_cons (dv_callB cr_sortedD (by rfl) T.m_sorted bt_sorted (dao_cons (DVo (dv_var 14 (pv 14))) (dao_nil))) (da_cons (dv_callTy cr_listF (by rfl) T.m_list bt_list (dao_cons (DVo (dv_var 10 (pv 10))) (dao_nil))) (da_nil)))) (dv_lst (da_nil))) (da_nil)))))))) (dss_one (ds_ret (dv_bl))) (dss_nil)) (dss_cons (ds_set 7 sc_law.nd (dv_call C__law_words_due.G (hr.mono (by decide)) (by rfl) C__law_words_due.m C__law_words_due.F.kp C__law_words_due.b passA (da_cons (dv_var 4 (pv 4)) (da_cons (dv_var 15 (pv 15)) (da_nil))))) (dss_cons (ds_if (dt_not (dt_val (DVo (dv_call C__law_met.G (hr.mono (by decide)) (by rfl) C__law_met.m C__law_met.F.kp C__law_met.b passA (da_cons (dv_lam (k := 7) (Ng := N__law_try) (a := "_law_ask") F__law_try (by rfl) T.g__law_try B__law_try sc__law_try rfl (Or.inl rfl) (fun cdv => gv__law_try (X := _) T (hr.mono (by decide)) _ cdv) (T.tb ("law", none) (by decide)) rfl T.t_law T.u_law (hr.mono (by decide)) (show LamX.LamS (defScope s_law) _ from LamX.lamS_by (by decide +kernel)) rfl (fun _ _ _ _ _ => rfl) (fun A outer s H E f c hr => dv_makeD (x := "Book") C_Book_init.M C_Book_init.G (hr.mono (by decide)) (by rfl) C_Book_init.m B_b_Book_init_2 V_b_Book_init_2 (fun W => .nil) (passE (takes_of rfl rfl rfl rfl)) (da_cons (dv_var 4 (pv 4)) (da_cons (dv_var 15 (pv 15)) (da_nil))))) (da_cons (dv_var 7 (pv 7)) (da_cons (dv_if (dt_cmp (op_eqDD (u64 hr)) (DVo (dv_var 7 (pv 7))) (DVo (dv_tup (da_nil))) (nomark _)) (dv_lst (da_cons (dv_callB cr_sortedD (by rfl) T.m_sorted bt_sorted (dao_cons (DVo (dv_var 4 (pv 4))) (dao_nil))) (da_cons (dv_callTy cr_listF (by rfl) T.m_list bt_list (dao_cons (DVo (dv_var 15 (pv 15))) (dao_nil))) (da_nil)))) (dv_lst (da_nil))) (da_nil)))))))) (dss_one (ds_ret (dv_bl))) (dss_nil)) (dss_one (ds_if (dt_not (dt_val (DVo (dv_call C__law_same.G (hr.mono (by decide)) (by rfl) C__law_same.m C__law_same.F.kp C__law_same.b passA (da_cons (dv_lst (da_cons (dv_var 12 (pv 12)) (da_cons (dv_var 13 (pv 13)) (da_nil)))) (da_cons (dv_lst (da_cons (dv_var 10 (pv 10)) (da_cons (dv_var 11 (pv 11)) (da_nil)))) (da_nil))))))) (dss_one (ds_ret (dv_bl))) (dss_nil)))))))))))))))))))) (dss_one (ds_ret (dv_bl)))))
end
/-! ### the head -/
def fn : List He.DefD := [⟨("Book", some "__init__"), "__init__", "Book.__init__", defArgs s_Book_init, defBody s_Book_init, defScope s_Book_init, [.adr (He.dflAt ("Book", some "__init__") 0)], []⟩, ⟨("Book", some "words"), "words", "Book.words", defArgs s_Book_words, defBody s_Book_words, defScope s_Book_words, [], []⟩, ⟨("Book", some "finds"), "finds", "Book.finds", defArgs s_Book_finds, defBody s_Book_finds, defScope s_Book_finds, [], []⟩, ⟨("Book", some "__add__"), "__add__", "Book.__add__", defArgs s_Book_add, defBody s_Book_add, defScope s_Book_add, [], []⟩, ⟨("Book", some "with_word"), "with_word", "Book.with_word", defArgs s_Book_with_word, defBody s_Book_with_word, defScope s_Book_with_word, [], []⟩, ⟨("_law_start", none), "_law_start", "_law_start", defArgs s__law_start, defBody s__law_start, defScope s__law_start, [], []⟩, ⟨("_law_draw", none), "_law_draw", "_law_draw", defArgs s__law_draw, defBody s__law_draw, defScope s__law_draw, [], []⟩, ⟨("_law_pick", none), "_law_pick", "_law_pick", defArgs s__law_pick, defBody s__law_pick, defScope s__law_pick, [], []⟩, ⟨("_law_letters", none), "_law_letters", "_law_letters", defArgs s__law_letters, defBody s__law_letters, defScope s__law_letters, [], []⟩, ⟨("_law_word", none), "_law_word", "_law_word", defArgs s__law_word, defBody s__law_word, defScope s__law_word, [], []⟩, ⟨("_law_shuffle", none), "_law_shuffle", "_law_shuffle", defArgs s__law_shuffle, defBody s__law_shuffle, defScope s__law_shuffle, [], []⟩, ⟨("_law_names", none), "_law_names", "_law_names", defArgs s__law_names, defBody s__law_names, defScope s__law_names, [], []⟩, ⟨("_law_subset", none), "_law_subset", "_law_subset", defArgs s__law_subset, defBody s__law_subset, defScope s__law_subset, [], []⟩, ⟨("_law_stretch", none), "_law_stretch", "_law_stretch", defArgs s__law_stretch, defBody s__law_stretch, defScope s__law_stretch, [], []⟩, ⟨("_law_terms", none), "_law_terms", "_law_terms", defArgs s__law_terms, defBody s__law_terms, defScope s__law_terms, [], []⟩, ⟨("is_name", none), "is_name", "is_name", defArgs s_is_name, defBody s_is_name, defScope s_is_name, [], []⟩, ⟨("check_finds", none), "check_finds", "check_finds", defArgs s_check_finds, defBody s_check_finds, defScope s_check_finds, [], []⟩, ⟨("is_lot", none), "is_lot", "is_lot", defArgs s_is_lot, defBody s_is_lot, defScope s_is_lot, [], []⟩, ⟨("is_lot_of", none), "is_lot_of", "is_lot_of", defArgs s_is_lot_of, defBody s_is_lot_of, defScope s_is_lot_of, [], []⟩, ⟨("is_word", none), "is_word", "is_word", defArgs s_is_word, defBody s_is_word, defScope s_is_word, [], []⟩, ⟨("check_words", none), "check_words", "check_words", defArgs s_check_words, defBody s_check_words, defScope s_check_words, [], []⟩, ⟨("_law_put", none), "_law_put", "_law_put", defArgs s__law_put, defBody s__law_put, defScope s__law_put, [], []⟩, ⟨("_law_odd", none), "_law_odd", "_law_odd", defArgs s__law_odd, defBody s__law_odd, defScope s__law_odd, [], []⟩, ⟨("_law_wrong_term", none), "_law_wrong_term", "_law_wrong_term", defArgs s__law_wrong_term, defBody s__law_wrong_term, defScope s__law_wrong_term, [], []⟩, ⟨("_law_is_name", none), "_law_is_name", "_law_is_name", defArgs s__law_is_name, defBody s__law_is_name, defScope s__law_is_name, [], []⟩, ⟨("_law_rising", none), "_law_rising", "_law_rising", defArgs s__law_rising, defBody s__law_rising, defScope s__law_rising, [], []⟩, ⟨("_law_is_lot", none), "_law_is_lot", "_law_is_lot", defArgs s__law_is_lot, defBody s__law_is_lot, defScope s__law_is_lot, [], []⟩, ⟨("_law_is_lot_of", none), "_law_is_lot_of", "_law_is_lot_of", defArgs s__law_is_lot_of, defBody s__law_is_lot_of, defScope s__law_is_lot_of, [], []⟩, ⟨("_law_is_term", none), "_law_is_term", "_law_is_term", defArgs s__law_is_term, defBody s__law_is_term, defScope s__law_is_term, [], []⟩, ⟨("_law_words_due", none), "_law_words_due", "_law_words_due", defArgs s__law_words_due, defBody s__law_words_due, defScope s__law_words_due, [], []⟩, ⟨("_law_same", none), "_law_same", "_law_same", defArgs s__law_same, defBody s__law_same, defScope s__law_same, [], []⟩, ⟨("_law_shown", none), "_law_shown", "_law_shown", defArgs s__law_shown, defBody s__law_shown, defScope s__law_shown, [], []⟩, ⟨("_law_met", none), "_law_met", "_law_met", defArgs s__law_met, defBody s__law_met, defScope s__law_met, [], []⟩, ⟨("_law_fields", none), "_law_fields", "_law_fields", defArgs s__law_fields, defBody s__law_fields, defScope s__law_fields, [], []⟩, ⟨("_law_try", none), "_law_try", "_law_try", defArgs s__law_try, defBody s__law_try, defScope s__law_try, [], []⟩, ⟨("_law_grown_so", none), "_law_grown_so", "_law_grown_so", defArgs s__law_grown_so, defBody s__law_grown_so, defScope s__law_grown_so, [], []⟩, ⟨("_law_finds_due", none), "_law_finds_due", "_law_finds_due", defArgs s__law_finds_due, defBody s__law_finds_due, defScope s__law_finds_due, [], []⟩, ⟨("law", none), "law", "law", defArgs s_law, defBody s_law, defScope s_law, [], []⟩, ⟨("InvalidFind", some "__init__"), "__init__", "InvalidFind.__init__", defArgs s_ini_InvalidFind, defBody s_ini_InvalidFind, defScope s_ini_InvalidFind, [], []⟩, ⟨("TooMany", some "__init__"), "__init__", "TooMany.__init__", defArgs s_ini_TooMany, defBody s_ini_TooMany, defScope s_ini_TooMany, [], []⟩, ⟨("InvalidWord", some "__init__"), "__init__", "InvalidWord.__init__", defArgs s_ini_InvalidWord, defBody s_ini_InvalidWord, defScope s_ini_InvalidWord, [], []⟩, ⟨("DuplicateName", some "__init__"), "__init__", "DuplicateName.__init__", defArgs s_ini_DuplicateName, defBody s_ini_DuplicateName, defScope s_ini_DuplicateName, [], []⟩]
abbrev ts : List He.Tab := []
def fa : List He.Fa := [.cls "Book", .glo "Book", .noat "Book" "own_finds", .noat "Book" "own_words", .mkr "Book", .meth "Book" "words", .meth "Book" "finds", .meth "Book" "__add__", .meth "Book" "with_word", .glo "_law_start", .glo "_law_draw", .glo "_law_pick", .glo "_law_letters", .glo "_law_word", .glo "_law_shuffle", .glo "_law_names", .glo "_law_subset", .glo "_law_stretch", .glo "_law_terms", .glo "is_name", .glo "check_finds", .glo "is_lot", .glo "is_lot_of", .glo "is_word", .glo "check_words", .glo "_law_put", .glo "_law_odd", .glo "_law_wrong_term", .glo "_law_is_name", .glo "_law_rising", .glo "_law_is_lot", .glo "_law_is_lot_of", .glo "_law_is_term", .glo "_law_words_due", .glo "_law_same", .glo "_law_shown", .glo "_law_met", .glo "_law_fields", .glo "_law_try", .glo "_law_grown_so", .glo "_law_finds_due", .glo "law", .free "range", .free "list", .free "tuple", .free "sorted", .free "int", .free "len", .free "abs", .free "isinstance", .free "set", .free "all", .free "bool", .free "str", .free "min", .free "enumerate", .free "zip", .str "LETTERS" "abcdefghijklmnopqrstuvwxyz", .int "MOST_FINDS" 12, .int "MOST_LETTERS" 6, .int "MOST_WORDS" 40, .glo "InvalidFind", .glo "TooMany", .glo "InvalidWord", .glo "DuplicateName", .glo "FindError", .glo "Missing"]
def ex (K : PySem.W.Frag) : Bool := nilB K (He.dflAt ("Book", some "__init__") 0 K) && (ownB K "Book" ["__radd__"] && (iniB K "InvalidFind" ["at", "code"] && (iniB K "TooMany" ["most", "code"] && (iniB K "InvalidWord" ["at", "code"] && (iniB K "DuplicateName" ["name", "code"] && (xatB K ["InvalidFind", "InvalidWord", "InvalidText", "DuplicateName", "TooMany", "UnknownName"] ["code", "value", "at", "name", "why", "line", "most"] && (catB K ["InvalidFind", "InvalidWord", "InvalidText", "DuplicateName", "TooMany", "UnknownName"] ["FindError", "Missing"] && (decide (((tabs K).map (·.1)).Nodup) && (true)))))))))
theorem top_of {K : PySem.W.Frag} {w : World} {h base : Heap} {mg : Str → Option Value} (X : K.In h) (G : h.Ns mainGlobals mg) (c : He.SaysX fa fn ts tf ex w h K) (TB : ∀ p ∈ tf, LamX.TabB base mg (He.cT K p).1 (He.cT K p).2) : Top K (cl K) mg base w where
  K_Book := He.cls_ok (c.t.d.fact 0 (f := .cls "Book") rfl)
  g_Book := He.glo_ok X G (c.t.d.fact 1 (f := .glo "Book") rfl)
  na_Book_own_finds := He.noat_ok (c.t.d.fact 2 (f := .noat "Book" "own_finds") rfl)
  na_Book_own_words := He.noat_ok (c.t.d.fact 3 (f := .noat "Book" "own_words") rfl)
  f_Book_init := c.t.d.def_ 0 (d := ⟨("Book", some "__init__"), "__init__", "Book.__init__", defArgs s_Book_init, defBody s_Book_init, defScope s_Book_init, [.adr (He.dflAt ("Book", some "__init__") 0)], []⟩) rfl
  MK_Book := He.mkr_ok (c.t.d.fact 4 (f := .mkr "Book") rfl)
  f_Book_words := c.t.d.def_ 1 (d := ⟨("Book", some "words"), "words", "Book.words", defArgs s_Book_words, defBody s_Book_words, defScope s_Book_words, [], []⟩) rfl
  M_Book_words := He.meth_ok (c.t.d.fact 5 (f := .meth "Book" "words") rfl)
  f_Book_finds := c.t.d.def_ 2 (d := ⟨("Book", some "finds"), "finds", "Book.finds", defArgs s_Book_finds, defBody s_Book_finds, defScope s_Book_finds, [], []⟩) rfl
  M_Book_finds := He.meth_ok (c.t.d.fact 6 (f := .meth "Book" "finds") rfl)
  f_Book_add := c.t.d.def_ 3 (d := ⟨("Book", some "__add__"), "__add__", "Book.__add__", defArgs s_Book_add, defBody s_Book_add, defScope s_Book_add, [], []⟩) rfl
  M_Book_add := He.meth_ok (c.t.d.fact 7 (f := .meth "Book" "__add__") rfl)
  f_Book_with_word := c.t.d.def_ 4 (d := ⟨("Book", some "with_word"), "with_word", "Book.with_word", defArgs s_Book_with_word, defBody s_Book_with_word, defScope s_Book_with_word, [], []⟩) rfl
  M_Book_with_word := He.meth_ok (c.t.d.fact 8 (f := .meth "Book" "with_word") rfl)
  f__law_start := c.t.d.def_ 5 (d := ⟨("_law_start", none), "_law_start", "_law_start", defArgs s__law_start, defBody s__law_start, defScope s__law_start, [], []⟩) rfl
  g__law_start := He.glo_ok X G (c.t.d.fact 9 (f := .glo "_law_start") rfl)
  f__law_draw := c.t.d.def_ 6 (d := ⟨("_law_draw", none), "_law_draw", "_law_draw", defArgs s__law_draw, defBody s__law_draw, defScope s__law_draw, [], []⟩) rfl
  g__law_draw := He.glo_ok X G (c.t.d.fact 10 (f := .glo "_law_draw") rfl)
  f__law_pick := c.t.d.def_ 7 (d := ⟨("_law_pick", none), "_law_pick", "_law_pick", defArgs s__law_pick, defBody s__law_pick, defScope s__law_pick, [], []⟩) rfl
  g__law_pick := He.glo_ok X G (c.t.d.fact 11 (f := .glo "_law_pick") rfl)
  f__law_letters := c.t.d.def_ 8 (d := ⟨("_law_letters", none), "_law_letters", "_law_letters", defArgs s__law_letters, defBody s__law_letters, defScope s__law_letters, [], []⟩) rfl
  g__law_letters := He.glo_ok X G (c.t.d.fact 12 (f := .glo "_law_letters") rfl)
  f__law_word := c.t.d.def_ 9 (d := ⟨("_law_word", none), "_law_word", "_law_word", defArgs s__law_word, defBody s__law_word, defScope s__law_word, [], []⟩) rfl
  g__law_word := He.glo_ok X G (c.t.d.fact 13 (f := .glo "_law_word") rfl)
  f__law_shuffle := c.t.d.def_ 10 (d := ⟨("_law_shuffle", none), "_law_shuffle", "_law_shuffle", defArgs s__law_shuffle, defBody s__law_shuffle, defScope s__law_shuffle, [], []⟩) rfl
  g__law_shuffle := He.glo_ok X G (c.t.d.fact 14 (f := .glo "_law_shuffle") rfl)
  f__law_names := c.t.d.def_ 11 (d := ⟨("_law_names", none), "_law_names", "_law_names", defArgs s__law_names, defBody s__law_names, defScope s__law_names, [], []⟩) rfl
  g__law_names := He.glo_ok X G (c.t.d.fact 15 (f := .glo "_law_names") rfl)
  f__law_subset := c.t.d.def_ 12 (d := ⟨("_law_subset", none), "_law_subset", "_law_subset", defArgs s__law_subset, defBody s__law_subset, defScope s__law_subset, [], []⟩) rfl
  g__law_subset := He.glo_ok X G (c.t.d.fact 16 (f := .glo "_law_subset") rfl)
  f__law_stretch := c.t.d.def_ 13 (d := ⟨("_law_stretch", none), "_law_stretch", "_law_stretch", defArgs s__law_stretch, defBody s__law_stretch, defScope s__law_stretch, [], []⟩) rfl
  g__law_stretch := He.glo_ok X G (c.t.d.fact 17 (f := .glo "_law_stretch") rfl)
  f__law_terms := c.t.d.def_ 14 (d := ⟨("_law_terms", none), "_law_terms", "_law_terms", defArgs s__law_terms, defBody s__law_terms, defScope s__law_terms, [], []⟩) rfl
  g__law_terms := He.glo_ok X G (c.t.d.fact 18 (f := .glo "_law_terms") rfl)
  f_is_name := c.t.d.def_ 15 (d := ⟨("is_name", none), "is_name", "is_name", defArgs s_is_name, defBody s_is_name, defScope s_is_name, [], []⟩) rfl
  g_is_name := He.glo_ok X G (c.t.d.fact 19 (f := .glo "is_name") rfl)
  f_check_finds := c.t.d.def_ 16 (d := ⟨("check_finds", none), "check_finds", "check_finds", defArgs s_check_finds, defBody s_check_finds, defScope s_check_finds, [], []⟩) rfl
  g_check_finds := He.glo_ok X G (c.t.d.fact 20 (f := .glo "check_finds") rfl)
  f_is_lot := c.t.d.def_ 17 (d := ⟨("is_lot", none), "is_lot", "is_lot", defArgs s_is_lot, defBody s_is_lot, defScope s_is_lot, [], []⟩) rfl
  g_is_lot := He.glo_ok X G (c.t.d.fact 21 (f := .glo "is_lot") rfl)
  f_is_lot_of := c.t.d.def_ 18 (d := ⟨("is_lot_of", none), "is_lot_of", "is_lot_of", defArgs s_is_lot_of, defBody s_is_lot_of, defScope s_is_lot_of, [], []⟩) rfl
  g_is_lot_of := He.glo_ok X G (c.t.d.fact 22 (f := .glo "is_lot_of") rfl)
  f_is_word := c.t.d.def_ 19 (d := ⟨("is_word", none), "is_word", "is_word", defArgs s_is_word, defBody s_is_word, defScope s_is_word, [], []⟩) rfl
  g_is_word := He.glo_ok X G (c.t.d.fact 23 (f := .glo "is_word") rfl)
  f_check_words := c.t.d.def_ 20 (d := ⟨("check_words", none), "check_words", "check_words", defArgs s_check_words, defBody s_check_words, defScope s_check_words, [], []⟩) rfl
  g_check_words := He.glo_ok X G (c.t.d.fact 24 (f := .glo "check_words") rfl)
  f__law_put := c.t.d.def_ 21 (d := ⟨("_law_put", none), "_law_put", "_law_put", defArgs s__law_put, defBody s__law_put, defScope s__law_put, [], []⟩) rfl
  g__law_put := He.glo_ok X G (c.t.d.fact 25 (f := .glo "_law_put") rfl)
  f__law_odd := c.t.d.def_ 22 (d := ⟨("_law_odd", none), "_law_odd", "_law_odd", defArgs s__law_odd, defBody s__law_odd, defScope s__law_odd, [], []⟩) rfl
  g__law_odd := He.glo_ok X G (c.t.d.fact 26 (f := .glo "_law_odd") rfl)
  f__law_wrong_term := c.t.d.def_ 23 (d := ⟨("_law_wrong_term", none), "_law_wrong_term", "_law_wrong_term", defArgs s__law_wrong_term, defBody s__law_wrong_term, defScope s__law_wrong_term, [], []⟩) rfl
  g__law_wrong_term := He.glo_ok X G (c.t.d.fact 27 (f := .glo "_law_wrong_term") rfl)
  f__law_is_name := c.t.d.def_ 24 (d := ⟨("_law_is_name", none), "_law_is_name", "_law_is_name", defArgs s__law_is_name, defBody s__law_is_name, defScope s__law_is_name, [], []⟩) rfl
  g__law_is_name := He.glo_ok X G (c.t.d.fact 28 (f := .glo "_law_is_name") rfl)
  f__law_rising := c.t.d.def_ 25 (d := ⟨("_law_rising", none), "_law_rising", "_law_rising", defArgs s__law_rising, defBody s__law_rising, defScope s__law_rising, [], []⟩) rfl
  g__law_rising := He.glo_ok X G (c.t.d.fact 29 (f := .glo "_law_rising") rfl)
  f__law_is_lot := c.t.d.def_ 26 (d := ⟨("_law_is_lot", none), "_law_is_lot", "_law_is_lot", defArgs s__law_is_lot, defBody s__law_is_lot, defScope s__law_is_lot, [], []⟩) rfl
  g__law_is_lot := He.glo_ok X G (c.t.d.fact 30 (f := .glo "_law_is_lot") rfl)
  f__law_is_lot_of := c.t.d.def_ 27 (d := ⟨("_law_is_lot_of", none), "_law_is_lot_of", "_law_is_lot_of", defArgs s__law_is_lot_of, defBody s__law_is_lot_of, defScope s__law_is_lot_of, [], []⟩) rfl
  g__law_is_lot_of := He.glo_ok X G (c.t.d.fact 31 (f := .glo "_law_is_lot_of") rfl)
  f__law_is_term := c.t.d.def_ 28 (d := ⟨("_law_is_term", none), "_law_is_term", "_law_is_term", defArgs s__law_is_term, defBody s__law_is_term, defScope s__law_is_term, [], []⟩) rfl
  g__law_is_term := He.glo_ok X G (c.t.d.fact 32 (f := .glo "_law_is_term") rfl)
  f__law_words_due := c.t.d.def_ 29 (d := ⟨("_law_words_due", none), "_law_words_due", "_law_words_due", defArgs s__law_words_due, defBody s__law_words_due, defScope s__law_words_due, [], []⟩) rfl
  g__law_words_due := He.glo_ok X G (c.t.d.fact 33 (f := .glo "_law_words_due") rfl)
  f__law_same := c.t.d.def_ 30 (d := ⟨("_law_same", none), "_law_same", "_law_same", defArgs s__law_same, defBody s__law_same, defScope s__law_same, [], []⟩) rfl
  g__law_same := He.glo_ok X G (c.t.d.fact 34 (f := .glo "_law_same") rfl)
  f__law_shown := c.t.d.def_ 31 (d := ⟨("_law_shown", none), "_law_shown", "_law_shown", defArgs s__law_shown, defBody s__law_shown, defScope s__law_shown, [], []⟩) rfl
  g__law_shown := He.glo_ok X G (c.t.d.fact 35 (f := .glo "_law_shown") rfl)
  f__law_met := c.t.d.def_ 32 (d := ⟨("_law_met", none), "_law_met", "_law_met", defArgs s__law_met, defBody s__law_met, defScope s__law_met, [], []⟩) rfl
  g__law_met := He.glo_ok X G (c.t.d.fact 36 (f := .glo "_law_met") rfl)
  f__law_fields := c.t.d.def_ 33 (d := ⟨("_law_fields", none), "_law_fields", "_law_fields", defArgs s__law_fields, defBody s__law_fields, defScope s__law_fields, [], []⟩) rfl
  g__law_fields := He.glo_ok X G (c.t.d.fact 37 (f := .glo "_law_fields") rfl)
  f__law_try := c.t.d.def_ 34 (d := ⟨("_law_try", none), "_law_try", "_law_try", defArgs s__law_try, defBody s__law_try, defScope s__law_try, [], []⟩) rfl
  g__law_try := He.glo_ok X G (c.t.d.fact 38 (f := .glo "_law_try") rfl)
  f__law_grown_so := c.t.d.def_ 35 (d := ⟨("_law_grown_so", none), "_law_grown_so", "_law_grown_so", defArgs s__law_grown_so, defBody s__law_grown_so, defScope s__law_grown_so, [], []⟩) rfl
  g__law_grown_so := He.glo_ok X G (c.t.d.fact 39 (f := .glo "_law_grown_so") rfl)
  f__law_finds_due := c.t.d.def_ 36 (d := ⟨("_law_finds_due", none), "_law_finds_due", "_law_finds_due", defArgs s__law_finds_due, defBody s__law_finds_due, defScope s__law_finds_due, [], []⟩) rfl
  g__law_finds_due := He.glo_ok X G (c.t.d.fact 40 (f := .glo "_law_finds_due") rfl)
  f_law := c.t.d.def_ 37 (d := ⟨("law", none), "law", "law", defArgs s_law, defBody s_law, defScope s_law, [], []⟩) rfl
  g_law := He.glo_ok X G (c.t.d.fact 41 (f := .glo "law") rfl)
  m_range := He.free_ok X G (c.t.d.fact 42 (f := .free "range") rfl)
  m_list := He.free_ok X G (c.t.d.fact 43 (f := .free "list") rfl)
  m_tuple := He.free_ok X G (c.t.d.fact 44 (f := .free "tuple") rfl)
  m_sorted := He.free_ok X G (c.t.d.fact 45 (f := .free "sorted") rfl)
  m_int := He.free_ok X G (c.t.d.fact 46 (f := .free "int") rfl)
  m_len := He.free_ok X G (c.t.d.fact 47 (f := .free "len") rfl)
  m_abs := He.free_ok X G (c.t.d.fact 48 (f := .free "abs") rfl)
  m_isinstance := He.free_ok X G (c.t.d.fact 49 (f := .free "isinstance") rfl)
  m_set := He.free_ok X G (c.t.d.fact 50 (f := .free "set") rfl)
  m_all := He.free_ok X G (c.t.d.fact 51 (f := .free "all") rfl)
  m_bool := He.free_ok X G (c.t.d.fact 52 (f := .free "bool") rfl)
  m_str := He.free_ok X G (c.t.d.fact 53 (f := .free "str") rfl)
  m_min := He.free_ok X G (c.t.d.fact 54 (f := .free "min") rfl)
  m_enumerate := He.free_ok X G (c.t.d.fact 55 (f := .free "enumerate") rfl)
  m_zip := He.free_ok X G (c.t.d.fact 56 (f := .free "zip") rfl)
  dv_Book_init_0 := nilB_ok (show nilB K (He.dflAt ("Book", some "__init__") 0 K) = true from (He.ba (c.more)).1)
  ow_Book := ownB_ok (show ownB K "Book" ["__radd__"] = true from (He.ba ((He.ba (c.more)).2)).1)
  c_LETTERS := He.str_ok X G (c.t.d.fact 57 (f := .str "LETTERS" "abcdefghijklmnopqrstuvwxyz") rfl)
  c_MOST_FINDS := He.int_ok X G (c.t.d.fact 58 (f := .int "MOST_FINDS" 12) rfl)
  c_MOST_LETTERS := He.int_ok X G (c.t.d.fact 59 (f := .int "MOST_LETTERS" 6) rfl)
  c_MOST_WORDS := He.int_ok X G (c.t.d.fact 60 (f := .int "MOST_WORDS" 40) rfl)
  g_InvalidFind := He.glo_ok X G (c.t.d.fact 61 (f := .glo "InvalidFind") rfl)
  g_TooMany := He.glo_ok X G (c.t.d.fact 62 (f := .glo "TooMany") rfl)
  g_InvalidWord := He.glo_ok X G (c.t.d.fact 63 (f := .glo "InvalidWord") rfl)
  g_DuplicateName := He.glo_ok X G (c.t.d.fact 64 (f := .glo "DuplicateName") rfl)
  g_FindError := He.glo_ok X G (c.t.d.fact 65 (f := .glo "FindError") rfl)
  g_Missing := He.glo_ok X G (c.t.d.fact 66 (f := .glo "Missing") rfl)
  i_InvalidFind := c.t.d.def_ 38 (d := ⟨("InvalidFind", some "__init__"), "__init__", "InvalidFind.__init__", defArgs s_ini_InvalidFind, defBody s_ini_InvalidFind, defScope s_ini_InvalidFind, [], []⟩) rfl
  x_InvalidFind := iniB_ok (show iniB K "InvalidFind" ["at", "code"] = true from (He.ba ((He.ba ((He.ba (c.more)).2)).2)).1)
  n_InvalidFind := rfl
  i_TooMany := c.t.d.def_ 39 (d := ⟨("TooMany", some "__init__"), "__init__", "TooMany.__init__", defArgs s_ini_TooMany, defBody s_ini_TooMany, defScope s_ini_TooMany, [], []⟩) rfl
  x_TooMany := iniB_ok (show iniB K "TooMany" ["most", "code"] = true from (He.ba ((He.ba ((He.ba ((He.ba (c.more)).2)).2)).2)).1)
  n_TooMany := rfl
  i_InvalidWord := c.t.d.def_ 40 (d := ⟨("InvalidWord", some "__init__"), "__init__", "InvalidWord.__init__", defArgs s_ini_InvalidWord, defBody s_ini_InvalidWord, defScope s_ini_InvalidWord, [], []⟩) rfl
  x_InvalidWord := iniB_ok (show iniB K "InvalidWord" ["at", "code"] = true from (He.ba ((He.ba ((He.ba ((He.ba ((He.ba (c.more)).2)).2)).2)).2)).1)
  n_InvalidWord := rfl
  i_DuplicateName := c.t.d.def_ 41 (d := ⟨("DuplicateName", some "__init__"), "__init__", "DuplicateName.__init__", defArgs s_ini_DuplicateName, defBody s_ini_DuplicateName, defScope s_ini_DuplicateName, [], []⟩) rfl
  x_DuplicateName := iniB_ok (show iniB K "DuplicateName" ["name", "code"] = true from (He.ba ((He.ba ((He.ba ((He.ba ((He.ba ((He.ba (c.more)).2)).2)).2)).2)).2)).1)
  n_DuplicateName := rfl
  x_at := xatB_ok (show xatB K ["InvalidFind", "InvalidWord", "InvalidText", "DuplicateName", "TooMany", "UnknownName"] ["code", "value", "at", "name", "why", "line", "most"] = true from (He.ba ((He.ba ((He.ba ((He.ba ((He.ba ((He.ba ((He.ba (c.more)).2)).2)).2)).2)).2)).2)).1) (fun z h => by
    have h := List.contains_iff_mem.mp h
    simp only [List.mem_cons, List.not_mem_nil, or_false] at h
    rcases h with rfl | rfl | rfl | rfl | rfl | rfl
    · exact ⟨"InvalidFind", by simp, rfl⟩
    · exact ⟨"InvalidWord", by simp, rfl⟩
    · exact ⟨"InvalidText", by simp, rfl⟩
    · exact ⟨"DuplicateName", by simp, rfl⟩
    · exact ⟨"TooMany", by simp, rfl⟩
    · exact ⟨"UnknownName", by simp, rfl⟩)
  cat0 := catB_ok (show catB K ["InvalidFind", "InvalidWord", "InvalidText", "DuplicateName", "TooMany", "UnknownName"] ["FindError", "Missing"] = true from (He.ba ((He.ba ((He.ba ((He.ba ((He.ba ((He.ba ((He.ba ((He.ba (c.more)).2)).2)).2)).2)).2)).2)).2)).1) (fun z h => by
    have h := List.contains_iff_mem.mp h
    simp only [List.mem_cons, List.not_mem_nil, or_false] at h
    rcases h with rfl | rfl | rfl | rfl | rfl | rfl
    · exact ⟨"InvalidFind", by simp, rfl⟩
    · exact ⟨"InvalidWord", by simp, rfl⟩
    · exact ⟨"InvalidText", by simp, rfl⟩
    · exact ⟨"DuplicateName", by simp, rfl⟩
    · exact ⟨"TooMany", by simp, rfl⟩
    · exact ⟨"UnknownName", by simp, rfl⟩)
  tb := TB
  t__law_grown_so := (List.mem_of_getElem? (i := 0) rfl)
  u__law_grown_so := uniq_of (of_decide_eq_true (show decide (((tabs K).map (·.1)).Nodup) = true from (He.ba ((He.ba ((He.ba ((He.ba ((He.ba ((He.ba ((He.ba ((He.ba ((He.ba (c.more)).2)).2)).2)).2)).2)).2)).2)).2)).1)) (List.mem_of_getElem? (i := 0) rfl)
  t_law := (List.mem_of_getElem? (i := 1) rfl)
  u_law := uniq_of (of_decide_eq_true (show decide (((tabs K).map (·.1)).Nodup) = true from (He.ba ((He.ba ((He.ba ((He.ba ((He.ba ((He.ba ((He.ba ((He.ba ((He.ba (c.more)).2)).2)).2)).2)).2)).2)).2)).2)).1)) (List.mem_of_getElem? (i := 1) rfl)
abbrev R : PySem.W.OpenRow := PySem.W.OpenLaw.row PySem.Challenge.rw_threeorders_k09_books_refused
def ncs : List Str := (["Book", "InvalidFind", "FindError", "TooMany", "InvalidWord", "DuplicateName", "Missing", "InvalidText", "UnknownName"] : List Str)
def nfs : List Str := (["_law_start", "_law_draw", "_law_pick", "_law_letters", "_law_word", "_law_shuffle", "_law_names", "_law_subset", "_law_stretch", "_law_terms", "is_name", "check_finds", "is_lot", "is_lot_of", "is_word", "check_words", "_law_put", "_law_odd", "_law_wrong_term", "_law_is_name", "_law_rising", "_law_is_lot", "_law_is_lot_of", "_law_is_term", "_law_words_due", "_law_same", "_law_shown", "_law_met", "_law_fields", "_law_try"] : List Str) ++ (["_law_grown_so", "_law_finds_due", "law"] : List Str)
def nms : List (Str × Str) := ([("Book", "__init__"), ("Book", "words"), ("Book", "finds"), ("Book", "__add__"), ("Book", "with_word"), ("InvalidFind", "__init__"), ("TooMany", "__init__"), ("InvalidWord", "__init__"), ("DuplicateName", "__init__")] : List (Str × Str))
abbrev hk : PySem.W.Hook := hookZ (asN ncs nfs nms) fa fn ts tf ex
/-- the law holds if its plain function says so -/
theorem facts {w : World} {K : PySem.W.Frag} {h : Heap} {mg : Str → Option Value} {f : Addr} (X : K.In h) (G : h.Ns mainGlobals mg) (hfa : mg ("law" : Str) = some (.ref f)) (c : He.SaysX fa fn ts tf ex w h K) :
    ∃ fd : FuncData, (∀ (s : Shared) (v : Value), BindsTo s fd ⟨[v], []⟩ [("_law_script", v)]) ∧ ∀ base : Heap, (∀ p ∈ tf, LamX.TabB base mg (He.cT K p).1 (He.cT K p).2) → FnOk (PySem.Challenge.rw_threeorders_k09_books_refused).prog w K mg base (L2.CX (PySem.Challenge.rw_threeorders_k09_books_refused).prog w) 16 f fd P_law (spG K (cl K) sem_law_10) := by
  obtain ⟨fd, F⟩ := c.t.d.def_ 37 (d := ⟨("law", none), "law", "law", defArgs s_law, defBody s_law, defScope s_law, [], []⟩) rfl
  have gl : mg ("law" : Str) = some (.ref (He.ga K "law")) := He.glo_ok X G (c.t.d.fact 41 (f := .glo "law") rfl)
  have e := hfa.symm.trans gl
  cases e
  refine ⟨fd, fun s v => FunD.bindsA (ps := P_law) F (fun _ _ _ _ _ _ us hl => match us, hl with | [_], _ => rfl) s [v] rfl, fun base TB => ?_⟩
  have T := top_of (base := base) X G c TB
  obtain ⟨f2, fd2, C⟩ := ok_law (P := (PySem.Challenge.rw_threeorders_k09_books_refused).prog) (w := w) (base := base) T
  have e2 := T.g_law.symm.trans C.m
  cases e2
  have e3 : fd = fd2 := by
    obtain ⟨_, _, _, _, _, _, _, _, _, _, _, h1, _⟩ := F.ex
    obtain ⟨_, _, _, _, _, _, _, _, _, _, _, h2, _⟩ := C.F.ex
    have h3 := h1.symm.trans h2
    cases h3
    rfl
  subst e3
  exact C.G
end Lk09
open PySem PySem.W PySem.Calls PyProof.Rows
set_option maxHeartbeats 0 in
theorem Lk09.holds_of : PySem.Challenge.rw_threeorders_k09_books_refused.Holds := by
  w_on; o_law
  o_head Lk09.hk
  case hw => w_witness2
  case hc =>
    refine LamX.walk_ofTsE (l := PySem.Challenge.rw_threeorders_k09_books_refused) (n := 63) (k := 16) (x := "_law_script") (CX := fun w => L2.CX (PySem.Challenge.rw_threeorders_k09_books_refused).prog w) rfl (by decide) (by kernel_rfl) ⟨rfl, by decide, by decide⟩ ?F (fun w H s e s2 z => by obtain ⟨_, _, _, _, _, _, _, _, _, _, _, _, z⟩ := z; exact z)
    intro w mg fa h Y G hmg0
    obtain ⟨K, KX, c⟩ := Y
    have hmg : mg ("law" : PySem.Str) = some (.ref fa) := hmg0
    obtain ⟨fd, hb, hF⟩ := Lk09.facts (w := w) KX G hmg c
    refine ⟨K, KX, fd, Lk09.tf.map (He.cT K), DL.spG K (Lk09.cl K) Co.sem_law_10, fun p hp => ?_, fun p hp => ?_, fun p hp => ?_, hb, fun H a ns hl _ hT hS => DL.law_end DM.k09_math H a ns hl hS fun p hp => ?_, fun base _ _ TB => hF base fun p hp => TB _ (List.mem_map.mpr ⟨p, hp, rfl⟩)⟩
    · obtain ⟨q, hq, rfl⟩ := List.mem_map.mp hp
      exact c.empty q hq
    · obtain ⟨q, hq, rfl⟩ := List.mem_map.mp hp
      exact c.out q hq
    · obtain ⟨q, hq, rfl⟩ := List.mem_map.mp hp
      exact PySem.W.codeHd_of_K KX (c.hd q hq)
    · have hp : p ∈ Lk09.tabs K := hp
      have hm : ∃ q ∈ Lk09.tf, p.1 = (He.cT K q).2 := by
        have h1 : p.1 ∈ (Lk09.tabs K).map (·.1) := List.mem_map.mpr ⟨p, hp, rfl⟩
        have h2 : (Lk09.tabs K).map (·.1) = Lk09.tf.map fun q => (He.cT K q).2 := rfl
        rw [h2] at h1
        obtain ⟨q, hq, e⟩ := List.mem_map.mp h1
        exact ⟨q, hq, e.symm⟩
      obtain ⟨q, hq, e⟩ := hm
      refine LamX.TabS.nil ?_
      rw [e]
      exact hT _ (List.mem_map.mpr ⟨q, hq, rfl⟩)
theorem PySem.Challenge.cw_threeorders_k09_books_refused_holds : PySem.Challenge.rw_threeorders_k09_books_refused.Holds := by
  exact Lk09.holds_of
