import PyProof.Rows.All
import Wide.All
import OpenK.AllK
import Wide.FinOn
import PyProof.EqAt
import PyProof.EqKinds
import PyProof.TupleCall
import KE.KLam
import HandS.Base
import HandS.Call
import HandS.List
import HandS.TupAny
import HandS.TupMul
import HandS.Comp
import HandS.Ends
import HandS.Dict
import HandS.Iter
import HandS.Text
import HandS.Words
import HandS.WordsList
import HandS.WordsDict
import HandS.Exc
import HandS.ExcOwn
import HandS.WordsExc
import HandS.Lambda
import HandS.ExcCtx
import HandS.HotCalls
import HandS.Style
import KE.DataEq
import HandS.Flow
import HandS.IsInst
import HandS.SortInts
import KE.SortData
import HandS.CallSlots
import HandS.Zip
import KE.GoesZip
import HandS.SetFor
import KE.DataFind
import HandS.StrMore
import HandS.Replace
import HandS.Steps
import KE.GoesMore
import HandS.Defaults
import HandS.HeadHook1
import HandS.ExcIs
import HandS.HeadHook4
import HandS.HeadWalk
import HandS.EndTab
import HandS.Strs
import PyProof.MinMaxWalk
import PyProof.WalkInts
import HandS.Head0
import PySem.Challenge.RW_brokenchains_k01_weights_chains_and_thei
import HandS.Head1
import HandS.Head2
import HandS.HeadEnd
set_option Elab.async false
set_option linter.all false
set_option maxRecDepth 100000
set_option maxHeartbeats 4000000
namespace Dn
open PySem PySem.Spec PyProof.Rows L2

/-! ### tuples without a dict of their own -/
def TupN (K : PySem.W.Frag) (H : Hp) (a : Addr) (xs : List V) : Prop :=
  (∃ o : Obj, o.dict = none ∧ H a = some (.frz o (.tup xs))) ∨ ∃ (o : Obj) (its : Array Value) (n : Nat), o.dict = none ∧ K.lookup a = some o ∧ o.cls = .type "tuple" ∧ o.data = .seq its n ∧ its.size ≤ sizeLine ∧ Vals xs its.toList
theorem TupN.sq {K : PySem.W.Frag} {H : Hp} {a : Addr} {xs : List V} (h : TupN K H a xs) : SqT K H a xs := by
  rcases h with ⟨o, _, h⟩ | ⟨o, its, n, _, h⟩
  · exact .inl (.inr ⟨o, h⟩)
  · exact .inr ⟨o, its, n, h⟩
theorem TupN.obj {X : Cx} {pins : List (Addr × Obj)} {σ : L2.St} {H : Hp} {s : Shared} {a : Addr} {xs : List V} (I : Inv X pins σ H s) (h : TupN X.K H a xs) : ∃ ob, s.heap.get? a = some ob ∧ ob.dict = none ∧ ob.cls = .type "tuple" := by
  obtain ⟨its, _, ⟨ob, e, c, _⟩, _⟩ := I.tuple h.sq
  refine ⟨ob, e, ?_, c⟩
  rcases h with ⟨o, d, h⟩ | ⟨o, its, n, d, h, _⟩
  · have q := (I.hok a _ h).1
    rw [e] at q
    cases q
    exact d
  · have q := I.kIn a o h
    rw [e] at q
    cases q
    exact d
theorem frz_new {P : Program} {w : World} {H : Hp} {h : Heap} {a : Addr} {xs : List V} {o : Obj} (e : h.get? a = some o) (n : ObjOk P w H h a (.tup xs)) : ObjOk P w H h a (.frz o (.tup xs)) := ⟨e, n⟩
def NewT (H : Hp) (xs : List V) (Q : VK) : Prop := ∀ (p : Addr) (o : Obj), H p = none → o.dict = none → Q (.ref p) (upd H p (.frz o (.tup xs)))
def tTupN (t : TA) : TE := fun σ H Q => t σ H fun xs H1 => xs.length ≤ sizeLine ∧ NewT H1 xs Q
theorem put_new {X : Cx} {pins : List (Addr × Obj)} {σ : L2.St} {H : Hp} {s : Shared} {xs : List V} {us : List Value} {Q : VK} {t : Nat} {h' : Heap} (I : Inv X pins σ H s) (k : ∀ b o, s.heap.get? b = some o → h'.get? b = some o) (r : Vals xs us) (z : xs.length ≤ sizeLine) (hs : s.heap.objs.size ≤ h'.objs.size) (q : NewT H xs Q) :
    EP X pins σ Q (.ref h'.objs.size) { s with heap := h'.push { cls := .type "tuple", data := .seq us.toArray }, toks := t } :=
  ⟨.ref h'.objs.size, _, I.laid (t' := t) (fun b o e => Heap.get?_push_of_some _ (k b o e)) hs (frz_new (Heap.get?_push_size _ rfl) ⟨z, us, r, ⟨_, Heap.get?_push_size _ rfl, rfl, _, rfl⟩⟩), rfl, q _ _ (I.hok.fresh hs) rfl⟩
theorem pe_tupN {X : Cx} {es : List Expr} {t : TA} {pos : Pos} {k : Nat} (h : PA X es t) : PE X (.Tuple es k pos) (tTupN t) :=
  ⟨fun pins s σ H Q I hq => wpAny_Tuple_spliced (thn (h.run pos pins s σ H _ I hq) fun us s1 ⟨xs, H1, I1, r, z, q⟩ => ⟨by rw [← r.length]; exact z, put_new (t := s1.toks) I1 (fun _ _ e => e) r z (Nat.le_refl _) q⟩)⟩
theorem call_tupleN {X : Cx} : CallR X (.type "tuple") (fun xs H Q => ∃ p ys, xs = [.ref p] ∧ ((SqL X.K H p ys ∧ NewT H ys Q) ∨ (SqT X.K H p ys ∧ Q (.ref p) H))) := by
  intro pins s σ H xs us Q I r ⟨p, ys, e, h⟩
  rcases h with ⟨hq, q⟩ | h
  · subst e
    rw [Vals.ref1 r]
    obtain ⟨its, r', pl, hz⟩ := I.list hq
    refine call_tuple_list pl.isList (fun h' kp => ?_) (by simp only [List.size_toArray]; have := r'.length; omega)
    have I1 : Inv X pins σ H { s with heap := h' } := I.kept (t' := s.toks) kp
    exact put_new (s := { s with heap := h' }) (t := s.toks) I1 (fun _ _ e => e) r' hz (Nat.le_refl _) q
  · exact call_tuple_of pins s σ H xs us Q I r ⟨p, ys, e, .inr h⟩
/-- t + u -/
def rCatN (K : PySem.W.Frag) : R2 := fun x y H Q => ∃ a b xs ys, x = .ref a ∧ y = .ref b ∧ SqT K H a xs ∧ SqT K H b ys ∧ xs.length + ys.length ≤ sizeLine ∧ (xs = [] → Q (.ref b) H) ∧ (xs ≠ [] → ys = [] → Q (.ref a) H) ∧ (xs ≠ [] → ys ≠ [] → NewT H (xs ++ ys) Q)
theorem op_catN {X : Cx} : OpR X (binaryOp .Add) (rCatN X.K) := by
  intro pins s σ H x y v u Q I rx ry ⟨a, b, xs, ys, e1, e2, ha, hb, hz, q0, q1, q2⟩
  by_cases hx : xs = []
  · exact op_catA pins s σ H x y v u Q I rx ry ⟨a, b, xs, ys, e1, e2, ha, hb, hz, q0, q1, fun z => absurd hx z⟩
  by_cases hy : ys = []
  · exact op_catA pins s σ H x y v u Q I rx ry ⟨a, b, xs, ys, e1, e2, ha, hb, hz, q0, q1, fun _ z => absurd hy z⟩
  subst e1 e2
  cases rx; cases ry
  obtain ⟨its, r1, p1, _⟩ := I.tuple ha; obtain ⟨its2, r2, p2, _⟩ := I.tuple hb
  refine HT.cat_tup p1 p2 (fun z => hx (r1.nil_iff.mp z)) (fun z => absurd (r2.nil_iff.mp z) hy) (fun z => ?_) (by have := r1.length; have := r2.length; omega)
  exact put_new (t := s.toks) I (fun _ _ e => e) (r1.append r2) (by rw [List.length_append]; exact hz) (Nat.le_refl _) (q2 hx hy)
/-- t[lo:hi] -/
def rSlN (K : PySem.W.Frag) : V → Option Int → Option Int → Hp → VK → Prop := fun x lo hi H Q => ∃ a xs, x = .ref a ∧ SqT K H a xs ∧
  (HT.sIx xs.length 0 lo = 0 ∧ HT.sIx xs.length xs.length hi = xs.length → Q (.ref a) H) ∧ (¬ (HT.sIx xs.length 0 lo = 0 ∧ HT.sIx xs.length xs.length hi = xs.length) → NewT H (cutV xs lo hi) Q)
theorem sl_tupN {X : Cx} : SlR X (rSlN X.K) := by
  intro pins s σ H x v vl vu lo hi sl Q I rx hs pl pu ⟨a, xs, e, hx, q1, q2⟩
  by_cases hw : HT.sIx xs.length 0 lo = 0 ∧ HT.sIx xs.length xs.length hi = xs.length
  · exact sl_tupA pins s σ H x v vl vu lo hi sl Q I rx hs pl pu ⟨a, xs, e, hx, q1, fun z => absurd hw z⟩
  · subst e
    cases rx
    obtain ⟨its, r, ht, hz⟩ := I.tuple hx
    have hl : its.toArray.size = xs.length := by rw [List.size_toArray]; exact r.length.symm
    refine ⟨"tuple", _, PyProof.Rows.slot_tuple_getitem.lookup, ht.typeIs, HT.getItem_tuple_cut ht hs pl pu (by rw [hl]; exact hw) ?_ (by rw [hl]; exact hz)⟩
    rw [hl]
    exact put_new (t := s.toks) I (fun _ _ e => e) ((r.drop (HT.sIx xs.length 0 lo)).take (HT.sIx xs.length xs.length hi - HT.sIx xs.length 0 lo)) (Nat.le_trans (cutV_length xs lo hi) hz) (Nat.le_refl _) (q2 hw)
/-- t * n -/
def rRepN (K : PySem.W.Frag) : R2 := fun x y H Q => ∃ l k xs, x = .ref l ∧ y = .int k ∧ SqT K H l xs ∧ xs ≠ [] ∧ 2 ≤ k ∧ k ≤ 1000 ∧ xs.length ≤ 1000 ∧ NewT H (List.replicate k.toNat xs).flatten Q
theorem rep_vals {xs : List V} {us : List Value} (r : Vals xs us) : ∀ n : Nat, Vals (List.replicate n xs).flatten (List.replicate n us).flatten
  | 0 => .nil
  | n + 1 => by
    rw [List.replicate_succ, List.replicate_succ, List.flatten_cons, List.flatten_cons]
    exact r.append (rep_vals r n)
theorem op_repN {X : Cx} : OpR X (binaryOp .Mult) (rRepN X.K) := by
  intro pins s σ H x y v u Q I rx ry ⟨l, k, xs, e1, e2, hT, hne, h1, h2, hz, q⟩
  subst e1 e2
  cases rx
  obtain ⟨t, rfl⟩ := ry
  obtain ⟨its, r, ⟨⟨cls, dd, data, sl⟩, ho, hc, n, hd⟩, hs⟩ := I.tuple hT
  simp only at hc hd; subst hc hd
  have hle : its.length = xs.length := r.length.symm
  have sz : its.toArray.size = xs.length := by rw [List.size_toArray, hle]
  have ie : its.toArray.isEmpty = false := by cases its with
    | nil => exact absurd (List.eq_nil_of_length_eq_zero hle.symm) hne
    | cons a b => rfl
  have b1 : ((xs.length : Nat) : Int) * k ≤ 1000 * k := Int.mul_le_mul_of_nonneg_right (by omega) (by omega)
  have b2 : k.toNat * xs.length ≤ 1000 * 1000 := Nat.mul_le_mul (by omega) hz
  have fl : (List.replicate k.toNat its).flatten.length ≤ sizeLine := by rw [PyProof.Rows.lm_len_rep_flat, hle, sizeLine_eq]; omega
  have fx : (List.replicate k.toNat xs).flatten.length ≤ sizeLine := by rw [PyProof.Rows.lm_len_rep_flat, sizeLine_eq]; omega
  have d0 : (decide (k < -(2 ^ 63)) || decide (k ≥ 2 ^ 63)) = false := by simp only [Bool.or_eq_false_iff, decide_eq_false_iff_not]; omega
  have d1 : (its.toArray.isEmpty || k == 1) = false := by rw [ie, Bool.false_or]; exact beq_eq_false_iff_ne.mpr (by omega)
  have d2 : (decide (k ≤ 0) || its.toArray.isEmpty) = false := by rw [ie, Bool.or_false]; exact decide_eq_false (by omega)
  have d4 : Builtin.Tuple.tupleTooMany (((its.toArray.size : Nat) : Int) * k) = false := by unfold Builtin.Tuple.tupleTooMany; rw [sizeLine_eq, sz]; exact decide_eq_false (by omega)
  have d3 : ¬ ((its.toArray.size : Nat) : Int) * k > (2 ^ 63 - 1) / 8 := by rw [sz]; omega
  have mm := tuple_mulW l its.toArray n dd sl k t d0 d1 d2 d3 d4 (by rw [size_rep, List.size_toArray]; exact fl)
  refine wpAny_binaryOp_repeat_ref (T := "tuple") (U := "int") (by decide) ⟨_, ho, rfl⟩ (fun s' => typeIs_int s' k t) noFill_tuple_mul F.fills_int_mul F.slot_int_rmul repeat_tuple F.slot_int_index.lookup (call_meets F.slot_int_rmul (typeIs_int s k t) F.entry_int_rmul (F.args_int_rmul_2 _ _) (int_rmul_tuple k t l its.toArray n dd sl) ⟨ho, rfl, ⟨_, ho, rfl⟩, call_meets F.slot_tuple_mul ⟨_, ho, rfl⟩ F.entry_tuple_mul (F.args_tuple_mul_2 _ _) mm ⟨ho, ?_⟩⟩)
  rw [size_rep]
  exact put_new (t := s.toks) I (fun _ _ e => e) (rep_vals r k.toNat) fx (Nat.le_refl _) q
end Dn

set_option maxHeartbeats 4000000
namespace Dn
open PySem PySem.Spec PyProof.Rows L2

/-- data that never changes -/
inductive D where
  | non | bl (b : Bool) | int (i : Int) | str (x : Str)
  | tup (ds : List D) | lst (ds : List D) | fr (x : Str)
  deriving Inhabited

/-- a value as an expression gives it: data; a list that nothing else holds; a list that a local name holds; a fresh dict; an object of ours by its number -/
inductive W where
  | d (x : D) | own (ds : List D) | bor (ds : List D) | od | ref (n : Nat)
  deriving Inhabited

/-- an attribute's value -/
inductive Att where
  | d (x : D) | dict (kvs : List (D × D))
  deriving Inhabited
/-- an object of ours -/
inductive Ob where
  | lst (ds : List D)
  | dict (kvs : List (D × D))
  | ins (C : Str) (fs : List (Str × Att))
  deriving Inhabited

abbrev MH := List Ob
abbrev Rho := List (Option W)
inductive Out (α : Type) where
  | ok (a : α)
  | ex (c : Str) (fs : List (Str × D))
abbrev M (α : Type) := MH → Option (Out α × MH)
abbrev Den (α : Type) := Rho → M α

/-- the ground: what is fixed through a law -/
structure Gx where
  prog : Program
  w : World
  K : PySem.W.Frag
  mg : Str → Option Value
  base : Heap
  T : List (Addr × Str)

/-! ### what a datum stands for -/
def FzL (H : Hp) (a : Addr) (xs : List V) : Prop := ∃ o, H a = some (.frz o (.lst xs))
theorem FzL.rd {H : Hp} {a : Addr} {xs : List V} (h : FzL H a xs) : Rd H a (.lst xs) := .inr h
mutual
inductive RepD (G : Gx) (H : Hp) : D → V → Prop
  | non : RepD G H .non .non
  | bl (b : Bool) : RepD G H (.bl b) (.bl b)
  | int (i : Int) : RepD G H (.int i) (.int i)
  | str (x : Str) : RepD G H (.str x) (.str x)
  | tup {a : Addr} {vs : List V} {ds : List D} : TupN G.K H a vs → RepDs G H ds vs → RepD G H (.tup ds) (.ref a)
  | lst {a : Addr} {vs : List V} {ds : List D} : FzL H a vs → RepDs G H ds vs → RepD G H (.lst ds) (.ref a)
  | fr {x : Str} {v : V} {u : Value} : G.mg x = some u → RelV v u → RepD G H (.fr x) v
inductive RepDs (G : Gx) (H : Hp) : List D → List V → Prop
  | nil : RepDs G H [] []
  | cons {d : D} {ds : List D} {v : V} {vs : List V} : RepD G H d v → RepDs G H ds vs → RepDs G H (d :: ds) (v :: vs)
end

/-- tuples and frozen things stay -/
structure Stay (H H' : Hp) : Prop where
  tup : ∀ a xs, H a = some (.tup xs) → H' a = some (.tup xs)
  frz : ∀ a o u, H a = some (.frz o u) → H' a = some (.frz o u)
theorem Stay.refl (H : Hp) : Stay H H := ⟨fun _ _ h => h, fun _ _ _ h => h⟩
theorem Stay.trans {H H1 H2 : Hp} (a : Stay H H1) (b : Stay H1 H2) : Stay H H2 := ⟨fun c xs h => b.tup c xs (a.tup c xs h), fun c o u h => b.frz c o u (a.frz c o u h)⟩
theorem Stay.new {H : Hp} {p : Addr} {o : HO} (h : H p = none) : Stay H (upd H p o) :=
  ⟨fun a xs e => by rw [upd_ne (ne_of_none e h)]; exact e, fun a o u e => by rw [upd_ne (ne_of_none e h)]; exact e⟩
theorem SqT.stay {K : PySem.W.Frag} {H H' : Hp} {a : Addr} {xs : List V} (s : Stay H H') (h : SqT K H a xs) : SqT K H' a xs := by
  rcases h with (h | ⟨o, h⟩) | h
  · exact .inl (.inl (s.tup _ _ h))
  · exact .inl (.inr ⟨o, s.frz _ _ _ h⟩)
  · exact .inr h
theorem TupN.stay {K : PySem.W.Frag} {H H' : Hp} {a : Addr} {xs : List V} (s : Stay H H') (h : TupN K H a xs) : TupN K H' a xs := by
  rcases h with ⟨o, d, h⟩ | h
  · exact .inl ⟨o, d, s.frz _ _ _ h⟩
  · exact .inr h
theorem FzL.stay {H H' : Hp} {a : Addr} {xs : List V} (s : Stay H H') (h : FzL H a xs) : FzL H' a xs := by
  obtain ⟨o, h⟩ := h
  exact ⟨o, s.frz _ _ _ h⟩
mutual
theorem RepD.stay {G : Gx} {H H' : Hp} (s : Stay H H') : ∀ {d : D} {v : V}, RepD G H d v → RepD G H' d v
  | _, _, .non => .non
  | _, _, .bl b => .bl b
  | _, _, .int i => .int i
  | _, _, .str x => .str x
  | _, _, .tup h r => .tup (TupN.stay s h) (RepDs.stay s r)
  | _, _, .lst h r => .lst (FzL.stay s h) (RepDs.stay s r)
  | _, _, .fr h r => .fr h r
theorem RepDs.stay {G : Gx} {H H' : Hp} (s : Stay H H') : ∀ {ds : List D} {vs : List V}, RepDs G H ds vs → RepDs G H' ds vs
  | _, _, .nil => .nil
  | _, _, .cons r t => .cons (RepD.stay s r) (RepDs.stay s t)
end
section
variable {G : Gx} {H : Hp}
theorem RepDs.length : ∀ {ds : List D} {vs : List V}, RepDs G H ds vs → ds.length = vs.length
  | _, _, .nil => rfl
  | _, _, .cons _ t => congrArg (· + 1) t.length
theorem RepDs.get : ∀ {ds : List D} {vs : List V} {i : Nat} {d : D}, RepDs G H ds vs → ds[i]? = some d → ∃ v, vs[i]? = some v ∧ RepD G H d v
  | _, _, _, _, .nil, e => by simp at e
  | _, _, 0, _, .cons r _, e => by simp at e; subst e; exact ⟨_, rfl, r⟩
  | _, _, i + 1, _, .cons _ t, e => by
    obtain ⟨v, h1, h2⟩ := t.get (i := i) (by simpa using e)
    exact ⟨v, by simpa using h1, h2⟩
theorem RepDs.getv : ∀ {ds : List D} {vs : List V} {i : Nat} {v : V}, RepDs G H ds vs → vs[i]? = some v → ∃ d, ds[i]? = some d ∧ RepD G H d v
  | _, _, _, _, .nil, e => by simp at e
  | _, _, 0, _, .cons r _, e => by simp at e; subst e; exact ⟨_, rfl, r⟩
  | _, _, i + 1, _, .cons _ t, e => by
    obtain ⟨v, h1, h2⟩ := t.getv (i := i) (by simpa using e)
    exact ⟨v, by simpa using h1, h2⟩
theorem RepDs.app : ∀ {ds es : List D} {vs us : List V}, RepDs G H ds vs → RepDs G H es us → RepDs G H (ds ++ es) (vs ++ us)
  | _, _, _, _, .nil, s => s
  | _, _, _, _, .cons r t, s => .cons r (t.app s)
theorem RepDs.take : ∀ {ds : List D} {vs : List V} (n : Nat), RepDs G H ds vs → RepDs G H (ds.take n) (vs.take n)
  | _, _, 0, _ => .nil
  | _, _, _ + 1, .nil => .nil
  | _, _, n + 1, .cons r t => .cons r (t.take n)
theorem RepDs.drop : ∀ {ds : List D} {vs : List V} (n : Nat), RepDs G H ds vs → RepDs G H (ds.drop n) (vs.drop n)
  | _, _, 0, r => r
  | _, _, _ + 1, .nil => .nil
  | _, _, n + 1, .cons _ t => t.drop n
theorem RepDs.set {d : D} {v : V} (r : RepD G H d v) : ∀ {ds : List D} {vs : List V} (i : Nat), RepDs G H ds vs → RepDs G H (ds.set i d) (vs.set i v)
  | _, _, _, .nil => .nil
  | _, _, 0, .cons _ t => .cons r t
  | _, _, i + 1, .cons q t => .cons q (RepDs.set r i t)
theorem RepDs.erase : ∀ {ds : List D} {vs : List V} (i : Nat), RepDs G H ds vs → RepDs G H (ds.eraseIdx i) (vs.eraseIdx i)
  | _, _, _, .nil => .nil
  | _, _, 0, .cons _ t => t
  | _, _, i + 1, .cons r t => .cons r (t.erase i)
theorem RepDs.rep {ds : List D} {vs : List V} (r : RepDs G H ds vs) : ∀ k : Nat, RepDs G H (List.replicate k ds).flatten (List.replicate k vs).flatten
  | 0 => .nil
  | k + 1 => by
    rw [List.replicate_succ, List.replicate_succ, List.flatten_cons, List.flatten_cons]
    exact r.app (RepDs.rep r k)
theorem RepDs.ints : ∀ {ns : List Int} {vs : List V}, RepDs G H (ns.map D.int) vs → vs = ns.map V.int
  | [], _, .nil => rfl
  | n :: ns, _, .cons (.int _) t => congrArg (V.int n :: ·) t.ints
theorem RepDs.of_ints : ∀ {ns : List Int}, RepDs G H (ns.map D.int) (ns.map V.int)
  | [] => .nil
  | _ :: _ => .cons (.int _) RepDs.of_ints
theorem RepDs.bls : ∀ {ns : List Bool} {vs : List V}, RepDs G H (ns.map D.bl) vs → vs = ns.map V.bl
  | [], _, .nil => rfl
  | n :: ns, _, .cons (.bl _) t => congrArg (V.bl n :: ·) t.bls
theorem RepDs.of_bls : ∀ {ns : List Bool}, RepDs G H (ns.map D.bl) (ns.map V.bl)
  | [] => .nil
  | _ :: _ => .cons (.bl _) RepDs.of_bls
theorem RepDs.strs : ∀ {ns : List Str} {vs : List V}, RepDs G H (ns.map D.str) vs → vs = ns.map V.str
  | [], _, .nil => rfl
  | n :: ns, _, .cons (.str _) t => congrArg (V.str n :: ·) t.strs
theorem RepDs.of_strs : ∀ {ns : List Str}, RepDs G H (ns.map D.str) (ns.map V.str)
  | [] => .nil
  | _ :: _ => .cons (.str _) RepDs.of_strs
end

/-! ### the objects of ours: mu tells where each stands, and its own dicts -/
abbrev Mu := List (Addr × List Addr)
def addrs (mu : Mu) : List Addr := mu.flatMap fun p => p.1 :: p.2
/-- a dict -/
inductive RepKvK (G : Gx) (H : Hp) : List (D × D) → List (Key × V) → Prop
  | nil : RepKvK G H [] []
  | int {i : Int} {d : D} {v : V} {kvs : List (D × D)} {us : List (Key × V)} : RepD G H d v → RepKvK G H kvs us → RepKvK G H ((.int i, d) :: kvs) ((.inl i, v) :: us)
  | str {x : Str} {d : D} {v : V} {kvs : List (D × D)} {us : List (Key × V)} : RepD G H d v → RepKvK G H kvs us → RepKvK G H ((.str x, d) :: kvs) ((.inr x, v) :: us)
def keyOf : D → Option Key
  | .int i => some (.inl i)
  | .str x => some (.inr x)
  | _ => none
def keysOf : List D → Option (List Key)
  | [] => some []
  | d :: ds => match keyOf d, keysOf ds with
    | some k, some ks => some (k :: ks)
    | _, _ => none
inductive RepKvT (G : Gx) (H : Hp) : List (D × D) → List (List Key × V) → Prop
  | nil : RepKvT G H [] []
  | cons {ds : List D} {ks : List Key} {d : D} {v : V} {kvs : List (D × D)} {us : List (List Key × V)} : keysOf ds = some ks → RepD G H d v → RepKvT G H kvs us → RepKvT G H ((.tup ds, d) :: kvs) ((ks, v) :: us)
theorem RepKvK.stay {G : Gx} {H H' : Hp} (s : Stay H H') : ∀ {kvs : List (D × D)} {us : List (Key × V)}, RepKvK G H kvs us → RepKvK G H' kvs us
  | _, _, .nil => .nil
  | _, _, .int r t => .int (r.stay s) (t.stay s)
  | _, _, .str r t => .str (r.stay s) (t.stay s)
theorem RepKvT.stay {G : Gx} {H H' : Hp} (s : Stay H H') : ∀ {kvs : List (D × D)} {us : List (List Key × V)}, RepKvT G H kvs us → RepKvT G H' kvs us
  | _, _, .nil => .nil
  | _, _, .cons k r t => .cons k (r.stay s) (t.stay s)
def RepDict (G : Gx) (H : Hp) (kvs : List (D × D)) (a : Addr) : Prop :=
  (∃ us, H a = some (.dK us) ∧ RepKvK G H kvs us) ∨ (∃ us, H a = some (.dT us) ∧ RepKvT G H kvs us)
/-- an attribute -/
def RepAt (G : Gx) (ex : List Addr) (H : Hp) : Att → V → Prop
  | .d x, v => RepD G H x v
  | .dict kvs, v => ∃ a, v = .ref a ∧ a ∈ ex ∧ RepDict G H kvs a
inductive RepAts (G : Gx) (ex : List Addr) (H : Hp) : List (Str × Att) → List (Str × V) → Prop
  | nil : RepAts G ex H [] []
  | cons {f : Str} {a : Att} {v : V} {fs : List (Str × Att)} {vs : List (Str × V)} : RepAt G ex H a v → RepAts G ex H fs vs → RepAts G ex H ((f, a) :: fs) ((f, v) :: vs)
/-- an attribute's dict is told once -/
def attDicts : List (Str × Att) → List (Str × V) → List Addr
  | (_, .dict _) :: fs, (_, .ref a) :: vs => a :: attDicts fs vs
  | _ :: fs, _ :: vs => attDicts fs vs
  | _, _ => []
def RepOb (G : Gx) (H : Hp) (p : Addr × List Addr) : Ob → Prop
  | .lst ds => ∃ vs, H p.1 = some (.lst vs) ∧ RepDs G H ds vs
  | .dict kvs => RepDict G H kvs p.1
  | .ins C fs => ∃ (cl dx : Addr) (vs : List (Str × V)), G.mg C = some (.ref cl) ∧ H p.1 = some (.ins cl dx vs) ∧ H dx = some (.own p.1) ∧ RepAts G p.2 H fs vs ∧ (attDicts fs vs).Nodup
structure HR (G : Gx) (mu : Mu) (h : MH) (H : Hp) : Prop where
  len : mu.length = h.length
  nd : (addrs mu).Nodup
  ob : ∀ (n : Nat) (p : Addr × List Addr) (o : Ob), mu[n]? = some p → h[n]? = some o → RepOb G H p o
  tabs : LamX.Tabs G.T H
  live : ∀ a ∈ addrs mu, ∃ o, H a = some o ∧ ∀ ps, o ≠ .tbl ps

/-- what may have happened -/
structure Ext (mu : Mu) (H : Hp) (mu' : Mu) (H' : Hp) : Prop where
  pre : ∀ (n : Nat) (p : Addr × List Addr), mu[n]? = some p → ∃ ds, mu'[n]? = some (p.1, ds)
  keep : ∀ a o, H a = some o → a ∉ addrs mu → (∀ ps, o ≠ .tbl ps) → H' a = some o
  fresh : ∀ a, a ∈ addrs mu' → a ∈ addrs mu ∨ H a = none
  stay : Stay H H'
  there : ∀ a, H' a = none → H a = none
theorem Ext.refl (mu : Mu) (H : Hp) : Ext mu H mu H := ⟨fun n p h => ⟨p.2, h⟩, fun _ _ h _ _ => h, fun _ h => .inl h, Stay.refl H, fun _ h => h⟩
theorem Ext.trans {mu mu1 mu2 : Mu} {H H1 H2 : Hp} (a : Ext mu H mu1 H1) (b : Ext mu1 H1 mu2 H2) : Ext mu H mu2 H2 := by
  refine ⟨fun n p h => ?_, fun c o h hn ht => ?_, fun c h => ?_, a.stay.trans b.stay, fun c h => a.there c (b.there c h)⟩
  · obtain ⟨d1, h1⟩ := a.pre n p h
    have h2 := b.pre n (p.1, d1) h1
    exact h2
  · have h1 := a.keep c o h hn ht
    refine b.keep c o h1 (fun hm => ?_) ht
    rcases a.fresh c hm with z | z
    · exact hn z
    · rw [z] at h; cases h
  · rcases b.fresh c h with z | z
    · exact a.fresh c z
    · exact .inr (a.there c z)
/-- a new thing is laid -/
theorem Ext.new {mu : Mu} {H : Hp} {p : Addr} {o : HO} (h : H p = none) : Ext mu H mu (upd H p o) := by
  refine ⟨fun n p h => ⟨p.2, h⟩, fun a u e _ _ => by rw [upd_ne (ne_of_none e h)]; exact e, fun _ h => .inl h, Stay.new h, fun a e => ?_⟩
  by_cases hp : a = p
  · rw [hp]; exact h
  · rw [upd_ne hp] at e; exact e

/-! ### values -/
/-- H0: the heap ahead -/
def RepW (G : Gx) (mu : Mu) (H0 H : Hp) : W → V → Prop
  | .d x, v => RepD G H x v
  | .own ds, v => ∃ a vs, v = .ref a ∧ H a = some (.lst vs) ∧ RepDs G H ds vs ∧ a ∉ addrs mu ∧ H0 a = none
  | .bor ds, v => ∃ a vs, v = .ref a ∧ H a = some (.lst vs) ∧ RepDs G H ds vs ∧ a ∉ addrs mu
  | .od, v => ∃ a, v = .ref a ∧ H a = some (.dK []) ∧ a ∉ addrs mu ∧ H0 a = none
  | .ref n, v => ∃ p, mu[n]? = some p ∧ v = .ref p.1
theorem RepW.ext {G : Gx} {mu mu' : Mu} {H0 H H' : Hp} {w : W} {v : V} (e : Ext mu H mu' H') (r : RepW G mu H0 H w v) : RepW G mu' H0 H' w v := by
  have nm : ∀ {a : Addr} {o : HO}, H a = some o → a ∉ addrs mu → a ∉ addrs mu' := fun {a o} h hn hm => by
    rcases e.fresh a hm with z | z
    · exact hn z
    · rw [z] at h; cases h
  cases w with
  | d x => exact RepD.stay e.stay (show RepD G H x v from r)
  | own ds =>
    obtain ⟨a, vs, rfl, h1, h2, h3, h4⟩ := r
    exact ⟨a, vs, rfl, e.keep a _ h1 h3 (fun _ z => by cases z), h2.stay e.stay, nm h1 h3, h4⟩
  | bor ds =>
    obtain ⟨a, vs, rfl, h1, h2, h3⟩ := r
    exact ⟨a, vs, rfl, e.keep a _ h1 h3 (fun _ z => by cases z), h2.stay e.stay, nm h1 h3⟩
  | od =>
    obtain ⟨a, rfl, h1, h3, h4⟩ := r
    exact ⟨a, rfl, e.keep a _ h1 h3 (fun _ z => by cases z), nm h1 h3, h4⟩
  | ref n =>
    obtain ⟨p, h1, rfl⟩ := r
    obtain ⟨ds, h2⟩ := e.pre n p h1
    exact ⟨_, h2, rfl⟩
theorem RepW.back {G : Gx} {mu0 mu1 mu : Mu} {H0 H1 H : Hp} {w : W} {v : V} (e : Ext mu0 H0 mu1 H1) (r : RepW G mu H1 H w v) : RepW G mu H0 H w v := by
  cases w with
  | d x => exact r
  | own ds =>
    obtain ⟨a, vs, rfl, h1, h2, h3, h4⟩ := r
    exact ⟨a, vs, rfl, h1, h2, h3, e.there a h4⟩
  | bor ds => exact r
  | od =>
    obtain ⟨a, rfl, h1, h3, h4⟩ := r
    exact ⟨a, rfl, h1, h3, e.there a h4⟩
  | ref n => exact r
/-- a fresh list is none of those behind it -/
def Apart (w : W) (v : V) (ws : List W) (vs : List V) : Prop := ∀ ds, w = .own ds → ∀ (es : List D) (v' : V), (W.own es, v') ∈ ws.zip vs → v ≠ v'
inductive RepWs (G : Gx) (mu : Mu) (H0 H : Hp) : List W → List V → Prop
  | nil : RepWs G mu H0 H [] []
  | cons {w : W} {ws : List W} {v : V} {vs : List V} : RepW G mu H0 H w v → Apart w v ws vs → RepWs G mu H0 H ws vs → RepWs G mu H0 H (w :: ws) (v :: vs)
theorem RepWs.ext {G : Gx} {mu mu' : Mu} {H0 H H' : Hp} (e : Ext mu H mu' H') : ∀ {ws : List W} {vs : List V}, RepWs G mu H0 H ws vs → RepWs G mu' H0 H' ws vs
  | _, _, .nil => .nil
  | _, _, .cons r a t => .cons (r.ext e) a (t.ext e)
theorem RepWs.back {G : Gx} {mu0 mu1 mu : Mu} {H0 H1 H : Hp} (e : Ext mu0 H0 mu1 H1) : ∀ {ws : List W} {vs : List V}, RepWs G mu H1 H ws vs → RepWs G mu H0 H ws vs
  | _, _, .nil => .nil
  | _, _, .cons r a t => .cons (r.back e) a (t.back e)
theorem RepWs.fresh {G : Gx} {mu : Mu} {H0 H : Hp} : ∀ {ws : List W} {vs : List V}, RepWs G mu H0 H ws vs → ∀ (es : List D) (v' : V), (W.own es, v') ∈ ws.zip vs → ∃ a, v' = .ref a ∧ H0 a = none
  | _, _, .nil, _, _, h => by cases h
  | _, _, .cons r _ t, es, v', h => by
    rcases List.mem_cons.mp h with z | z
    · cases z
      obtain ⟨a, vs, rfl, _, _, _, h4⟩ := r
      exact ⟨a, rfl, h4⟩
    · exact t.fresh es v' z
end Dn

set_option maxHeartbeats 4000000
namespace Dn
open PySem PySem.Spec PyProof.Rows L2

theorem addrs_mem {mu : Mu} {n : Nat} {p : Addr × List Addr} (h : mu[n]? = some p) : p.1 ∈ addrs mu :=
  List.mem_flatMap.mpr ⟨p, List.mem_of_getElem? h, List.mem_cons_self⟩
theorem addrs_mem2 {mu : Mu} {n : Nat} {p : Addr × List Addr} {a : Addr} (h : mu[n]? = some p) (ha : a ∈ p.2) : a ∈ addrs mu :=
  List.mem_flatMap.mpr ⟨p, List.mem_of_getElem? h, List.mem_cons_of_mem _ ha⟩
theorem addrs_app (mu nu : Mu) : addrs (mu ++ nu) = addrs mu ++ addrs nu := List.flatMap_append

/-! ### the tracked things stay where nothing of ours is written -/
theorem RepDict.keep {G : Gx} {H H' : Hp} {kvs : List (D × D)} {a : Addr} (s : Stay H H') (k : ∀ o, H a = some o → (∀ ps, o ≠ .tbl ps) → H' a = some o) (r : RepDict G H kvs a) : RepDict G H' kvs a := by
  rcases r with ⟨us, h, r⟩ | ⟨us, h, r⟩
  · exact .inl ⟨us, k _ h (fun _ z => by cases z), r.stay s⟩
  · exact .inr ⟨us, k _ h (fun _ z => by cases z), r.stay s⟩
theorem RepAts.keep {G : Gx} {ex : List Addr} {H H' : Hp} (s : Stay H H') (k : ∀ a ∈ ex, ∀ o, H a = some o → (∀ ps, o ≠ .tbl ps) → H' a = some o) :
    ∀ {fs : List (Str × Att)} {vs : List (Str × V)}, RepAts G ex H fs vs → RepAts G ex H' fs vs
  | _, _, .nil => .nil
  | _, _, .cons (a := a) r t => .cons (by
      cases a with
      | d x => exact RepD.stay s (show RepD G H x _ from r)
      | dict kvs =>
        obtain ⟨c, rfl, hc, q⟩ := r
        exact ⟨c, rfl, hc, q.keep s (k c hc)⟩) (t.keep s k)
theorem RepOb.keep {G : Gx} {H H' : Hp} {p : Addr × List Addr} {o : Ob} (s : Stay H H') (k : ∀ a, a ∈ p.1 :: p.2 → ∀ u, H a = some u → (∀ ps, u ≠ .tbl ps) → H' a = some u) (ko : ∀ a x, H a = some (.own x) → H' a = some (.own x))
    (r : RepOb G H p o) : RepOb G H' p o := by
  cases o with
  | lst ds =>
    obtain ⟨vs, h, r⟩ := r
    exact ⟨vs, k _ List.mem_cons_self _ h (fun _ z => by cases z), r.stay s⟩
  | dict kvs => exact RepDict.keep s (k _ List.mem_cons_self) r
  | ins C fs =>
    obtain ⟨cl, dx, vs, h1, h2, h3, h4, h5⟩ := r
    exact ⟨cl, dx, vs, h1, k _ List.mem_cons_self _ h2 (fun _ z => by cases z), ko _ _ h3, h4.keep s fun a ha => k a (List.mem_cons_of_mem _ ha), h5⟩
theorem HR.keep {G : Gx} {mu : Mu} {h : MH} {H H' : Hp} (r : HR G mu h H) (s : Stay H H') (k : ∀ a u, H a = some u → (∀ ps, u ≠ .tbl ps) → H' a = some u) (t : LamX.Tabs G.T H') : HR G mu h H' :=
  ⟨r.len, r.nd, fun n p o h1 h2 => (r.ob n p o h1 h2).keep s (fun a _ u e ht => k a u e ht) (fun a x e => k a _ e (fun _ z => by cases z)), t, fun a ha => let ⟨o, e, n⟩ := r.live a ha; ⟨o, k a o e n, n⟩⟩
theorem HR.new {G : Gx} {mu : Mu} {h : MH} {H : Hp} {p : Addr} {o : HO} (r : HR G mu h H) (hp : H p = none) : HR G mu h (upd H p o) :=
  r.keep (Stay.new hp) (fun a u e _ => by rw [upd_ne (ne_of_none e hp)]; exact e) (r.tabs.ext fun a u e => by rw [upd_ne (ne_of_none e hp)]; exact e)

/-! ### the slots -/
def RepS (G : Gx) (mu : Mu) (H : Hp) : W → V → Prop
  | .d x, v => RepD G H x v
  | .own ds, v => ∃ a vs, v = .ref a ∧ H a = some (.lst vs) ∧ RepDs G H ds vs ∧ a ∉ addrs mu
  | .ref n, v => ∃ p, mu[n]? = some p ∧ v = .ref p.1
  | _, _ => False
theorem RepS.ext {G : Gx} {mu mu' : Mu} {H H' : Hp} {w : W} {v : V} (e : Ext mu H mu' H') (r : RepS G mu H w v) : RepS G mu' H' w v := by
  cases w with
  | d x => exact RepD.stay e.stay (show RepD G H x v from r)
  | own ds => exact RepW.ext (H0 := H) (w := .bor ds) e r
  | bor ds => exact r.elim
  | od => exact r.elim
  | ref n => exact RepW.ext (G := G) (H0 := H) (w := .ref n) e r
structure StR (G : Gx) (mu : Mu) (rho : Rho) (h : MH) (st : L2.St) (H : Hp) : Prop where
  hr : HR G mu h H
  slot : ∀ (i : Nat) (w : W), rho[i]? = some (some w) → ∃ v, st[i]? = some (some v) ∧ RepS G mu H w v
  one : ∀ (i j : Nat) (ds es : List D) (a : Addr), rho[i]? = some (some (.own ds)) → rho[j]? = some (some (.own es)) → st[i]? = some (some (.ref a)) → st[j]? = some (some (.ref a)) → i = j
  len : rho.length = st.length
theorem StR.ext {G : Gx} {mu mu' : Mu} {rho : Rho} {h h' : MH} {st : L2.St} {H H' : Hp} (r : StR G mu rho h st H) (hr : HR G mu' h' H') (e : Ext mu H mu' H') : StR G mu' rho h' st H' :=
  ⟨hr, fun i w hw => let ⟨v, h1, h2⟩ := r.slot i w hw; ⟨v, h1, h2.ext e⟩, r.one, r.len⟩

/-! ### what an exception stands for -/
inductive RepFs (G : Gx) (H : Hp) : List (Str × D) → List (Str × V) → Prop
  | nil : RepFs G H [] []
  | cons {f : Str} {d : D} {v : V} {fs : List (Str × D)} {vs : List (Str × V)} : RepD G H d v → RepFs G H fs vs → RepFs G H ((f, d) :: fs) ((f, v) :: vs)
def RepX (G : Gx) (H : Hp) (c : Str) (fs : List (Str × D)) (cls : Value) (d : Option Addr) : Prop :=
  ∃ cl, G.mg c = some (.ref cl) ∧ cls = .ref cl ∧ ((fs = [] ∧ d = none) ∨ (fs ≠ [] ∧ ∃ a vs, d = some a ∧ H a = some (.xd vs) ∧ RepFs G H fs vs))

/-! ### the judgement -/
def Post (G : Gx) (Wx : WX) (mu : Mu) (H : Hp) (st : L2.St) (Q : VK) : Option (Out W × MH) → Prop
  | some (.ok w, h') => ∀ v H' mu', HR G mu' h' H' → Ext mu H mu' H' → RepW G mu' H H' w v → Q v H'
  | some (.ex c fs, h') => ∀ cls d H' mu', HR G mu' h' H' → Ext mu H mu' H' → RepX G H' c fs cls d → Wx cls d st H'
  | none => False
theorem Post.mono {G : Gx} {Wx : WX} {mu mu1 : Mu} {H H1 : Hp} {st : L2.St} {Q : VK} {r : Option (Out W × MH)} (e : Ext mu H mu1 H1) (p : Post G Wx mu H st Q r) : Post G Wx mu1 H1 st Q r := by
  match r, p with
  | some (.ok w, h'), p => exact fun v H' mu' hr e' rw' => p v H' mu' hr (e.trans e') (rw'.back e)
  | some (.ex c fs, h'), p => exact fun cls d H' mu' hr e' rx => p cls d H' mu' hr (e.trans e') rx
def tden (G : Gx) (Wx : WX) (m : Den W) : TE := fun st H Q => ∃ mu rho h, StR G mu rho h st H ∧ Post G Wx mu H st Q (m rho h)
/-- lists of values -/
def PostA (G : Gx) (Wx : WX) (mu : Mu) (H : Hp) (st : L2.St) (Q : List V → Hp → Prop) : Option (Out (List W) × MH) → Prop
  | some (.ok ws, h') => ∀ vs H' mu', HR G mu' h' H' → Ext mu H mu' H' → RepWs G mu' H H' ws vs → Q vs H'
  | some (.ex c fs, h') => ∀ cls d H' mu', HR G mu' h' H' → Ext mu H mu' H' → RepX G H' c fs cls d → Wx cls d st H'
  | none => False
theorem PostA.mono {G : Gx} {Wx : WX} {mu mu1 : Mu} {H H1 : Hp} {st : L2.St} {Q : List V → Hp → Prop} {r : Option (Out (List W) × MH)} (e : Ext mu H mu1 H1) (p : PostA G Wx mu H st Q r) : PostA G Wx mu1 H1 st Q r := by
  match r, p with
  | some (.ok w, h'), p => exact fun v H' mu' hr e' rw' => p v H' mu' hr (e.trans e') (rw'.back e)
  | some (.ex c fs, h'), p => exact fun cls d H' mu' hr e' rx => p cls d H' mu' hr (e.trans e') rx
def tdenA (G : Gx) (Wx : WX) (m : Den (List W)) : TA := fun st H Q => ∃ mu rho h, StR G mu rho h st H ∧ PostA G Wx mu H st Q (m rho h)

def gx (X : Cx) (T : List (Addr × Str)) : Gx := ⟨X.prog, X.w, X.K, X.mg, X.base, T⟩
/-- what is known of the def whose body it is: its scope, its name, its code object -/
structure Scp where
  s : Scope
  q : Str
  c : Option Addr
def Scp.blk (sc : Scp) (scope : Scope) : Scp := ⟨relS scope sc.s, sc.q, sc.c⟩
structure Fits (X : Cx) (G : Gx) (N : List Str) (sc : Scp) (k : Nat) : Prop where
  g : ∃ T, G = gx X T
  n : X.N = N
  cd : ∀ c, sc.c = some c → X.env.code = .ref c ∧ X.env.qual = sc.q
  sc : X.env.scope = sc.s
  room : Room k X.A
  calm : X.calm = true
  nd : N.Nodup
structure DE (G : Gx) (N : List Str) (sc : Scp) (k : Nat) (e : Expr) (m : Den W) : Prop where
  pe : ∀ (X : Cx) (Wx : WX), Fits X G N sc k → L2N.Takes X Wx → PE X e (tden G Wx m)
structure DA (G : Gx) (N : List Str) (sc : Scp) (k : Nat) (es : List Expr) (m : Den (List W)) : Prop where
  pa : ∀ (X : Cx) (Wx : WX), Fits X G N sc k → L2N.Takes X Wx → PA X es (tdenA G Wx m)

theorem PE.imp {X : Cx} {e : Expr} {t t' : TE} (h : PE X e t) (i : ∀ st H Q, t' st H Q → t st H Q) : PE X e t' := ⟨fun pins s st H Q I q => h.run pins s st H Q I (i st H Q q)⟩
theorem PA.imp {X : Cx} {e : List Expr} {t t' : TA} (h : PA X e t) (i : ∀ st H Q, t' st H Q → t st H Q) : PA X e t' := ⟨fun pos pins s st H Q I q => h.run pos pins s st H Q I (i st H Q q)⟩
theorem PT.imp {X : Cx} {e : Expr} {t t' : TT} (h : PT X e t) (i : ∀ st H Q, t' st H Q → t st H Q) : PT X e t' := ⟨fun pins s st H Q I q => h.run pins s st H Q I (i st H Q q)⟩
theorem PS.imp {X : Cx} {e : Stmt} {t t' : TS} (h : PS X e t) (i : ∀ D st H, t' D st H → t D st H) : PS X e t' := ⟨fun pins s st H D I q => h.run pins s st H D I (i D st H q)⟩
theorem PSs.imp {X : Cx} {e : List Stmt} {t t' : TS} (h : PSs X e t) (i : ∀ D st H, t' D st H → t D st H) : PSs X e t' := ⟨fun pins s st H D I q => h.run pins s st H D I (i D st H q)⟩

/-! ### the monad -/
def mPure {α : Type} (a : α) : M α := fun h => some (.ok a, h)
def mBind {α β : Type} (m : M α) (f : α → M β) : M β := fun h => match m h with
  | some (.ok a, h') => f a h'
  | some (.ex c fs, h') => some (.ex c fs, h')
  | none => none
def dBind {α β : Type} (m : Den α) (f : α → Den β) : Den β := fun rho => mBind (m rho) fun a => f a rho

section
variable {G : Gx} {Wx : WX} {st : L2.St} {H : Hp} {Q : VK} {mu : Mu} {rho : Rho} {h : MH}
theorem bind_post {ma : Den W} {f : W → Den W} {R : V → Hp → Prop} (sr : StR G mu rho h st H) (p : Post G Wx mu H st Q (dBind ma f rho h))
    (hf : ∀ w h1 x H1 mu1, StR G mu1 rho h1 st H1 → Ext mu H mu1 H1 → RepW G mu1 H H1 w x → Post G Wx mu1 H1 st Q (f w rho h1) → R x H1) : tden G Wx ma st H R := by
  refine ⟨mu, rho, h, sr, ?_⟩
  unfold dBind mBind at p
  rcases e : ma rho h with _ | ⟨w | ⟨c, fs⟩, h1⟩
  · rw [e] at p; exact p.elim
  · rw [e] at p
    intro x H1 mu1 hr ex rw'
    exact hf w h1 x H1 mu1 (sr.ext hr ex) ex rw' (Post.mono ex p)
  · rw [e] at p
    exact p
theorem bindA_post {ma : Den (List W)} {f : List W → Den W} {R : List V → Hp → Prop} (sr : StR G mu rho h st H) (p : Post G Wx mu H st Q (dBind ma f rho h))
    (hf : ∀ ws h1 xs H1 mu1, StR G mu1 rho h1 st H1 → Ext mu H mu1 H1 → RepWs G mu1 H H1 ws xs → Post G Wx mu1 H1 st Q (f ws rho h1) → R xs H1) : tdenA G Wx ma st H R := by
  refine ⟨mu, rho, h, sr, ?_⟩
  unfold dBind mBind at p
  rcases e : ma rho h with _ | ⟨w | ⟨c, fs⟩, h1⟩
  · rw [e] at p; exact p.elim
  · rw [e] at p
    intro x H1 mu1 hr ex rw'
    exact hf w h1 x H1 mu1 (sr.ext hr ex) ex rw' (Post.mono ex p)
  · rw [e] at p
    exact p
/-- two things in a row -/
theorem bind2_post {ma mb : Den W} {f : W → W → Den W} {R : V → V → Hp → Prop} (sr : StR G mu rho h st H) (p : Post G Wx mu H st Q (dBind ma (fun a => dBind mb fun b => f a b) rho h))
    (hf : ∀ a b h2 x y H1 H2 mu1 mu2, StR G mu2 rho h2 st H2 → Ext mu H mu1 H1 → Ext mu1 H1 mu2 H2 → RepW G mu2 H H2 a x → RepW G mu2 H H2 b y → Post G Wx mu2 H2 st Q (f a b rho h2) → R x y H2) :
    tden G Wx ma st H fun x H1 => tden G Wx mb st H1 fun y H2 => R x y H2 :=
  bind_post sr p fun a h1 x H1 mu1 sr1 e1 ra p1 => bind_post sr1 p1 fun b h2 y H2 mu2 sr2 e2 rb p2 => hf a b h2 x y H1 H2 mu1 mu2 sr2 e1 e2 (ra.ext e2) (rb.back e1) p2
end
end Dn

set_option maxHeartbeats 4000000
namespace Dn
open PySem PySem.Spec PyProof.Rows L2

abbrev LIM : Nat := 16777216
theorem lim_eq : sizeLine = LIM := sizeLine_eq

/-! ### reading a list -/
/-- the items of a list -/
def obl : Option Ob → Option (List D)
  | some (.lst ds) => some ds
  | _ => none
def lw (h : MH) : W → Option (List D)
  | .own ds => some ds
  | .bor ds => some ds
  | .d (.lst ds) => some ds
  | .ref n => obl h[n]?
  | _ => none
def tw : W → Option (List D)
  | .d (.tup ds) => some ds
  | _ => none
/-- a list's or a tuple's -/
def qw (h : MH) (w : W) : Option (List D) := match tw w with
  | some ds => some ds
  | none => lw h w
theorem lw_rep {G : Gx} {mu : Mu} {h : MH} {H0 H : Hp} {w : W} {v : V} {ds : List D} (hr : HR G mu h H) (r : RepW G mu H0 H w v) (e : lw h w = some ds) : ∃ a vs, v = .ref a ∧ Rd H a (.lst vs) ∧ RepDs G H ds vs := by
  cases w with
  | d x =>
    cases x with
    | lst es =>
      cases e
      cases (show RepD G H (.lst ds) v from r) with
      | lst f q => exact ⟨_, _, rfl, f.rd, q⟩
    | _ => cases e
  | own es =>
    cases e
    obtain ⟨a, vs, rfl, h1, h2, _⟩ := r
    exact ⟨a, vs, rfl, .inl h1, h2⟩
  | bor es =>
    cases e
    obtain ⟨a, vs, rfl, h1, h2, _⟩ := r
    exact ⟨a, vs, rfl, .inl h1, h2⟩
  | od => cases e
  | ref n =>
    obtain ⟨p, hp, rfl⟩ := r
    have e : obl h[n]? = some ds := e
    cases q : h[n]? with
    | none => rw [q] at e; cases e
    | some o =>
      rw [q] at e
      cases o with
      | lst es =>
        cases e
        obtain ⟨vs, h1, h2⟩ := hr.ob n p _ hp q
        exact ⟨p.1, vs, rfl, .inl h1, h2⟩
      | _ => cases e
theorem tw_rep {G : Gx} {mu : Mu} {H0 H : Hp} {w : W} {v : V} {ds : List D} (r : RepW G mu H0 H w v) (e : tw w = some ds) : ∃ a vs, v = .ref a ∧ TupN G.K H a vs ∧ RepDs G H ds vs := by
  cases w with
  | d x =>
    cases x with
    | tup es =>
      cases e
      cases (show RepD G H (.tup ds) v from r) with
      | tup f q => exact ⟨_, _, rfl, f, q⟩
    | _ => cases e
  | _ => cases e
theorem qw_repN {G : Gx} {mu : Mu} {h : MH} {H0 H : Hp} {w : W} {v : V} {ds : List D} (hr : HR G mu h H) (r : RepW G mu H0 H w v) (e : qw h w = some ds) : ∃ a vs, v = .ref a ∧ (SqL G.K H a vs ∨ TupN G.K H a vs) ∧ RepDs G H ds vs := by
  unfold qw at e
  cases q : tw w with
  | some es =>
    rw [q] at e
    cases e
    obtain ⟨a, vs, rfl, h1, h2⟩ := tw_rep r q
    exact ⟨a, vs, rfl, .inr h1, h2⟩
  | none =>
    rw [q] at e
    obtain ⟨a, vs, rfl, h1, h2⟩ := lw_rep hr r e
    exact ⟨a, vs, rfl, .inl (.inl h1), h2⟩
theorem qw_rep {G : Gx} {mu : Mu} {h : MH} {H0 H : Hp} {w : W} {v : V} {ds : List D} (hr : HR G mu h H) (r : RepW G mu H0 H w v) (e : qw h w = some ds) : ∃ a vs, v = .ref a ∧ (SqL G.K H a vs ∨ SqT G.K H a vs) ∧ RepDs G H ds vs := by
  obtain ⟨a, vs, e1, h1, h2⟩ := qw_repN hr r e
  exact ⟨a, vs, e1, h1.imp (fun z => z) (fun z => z.sq), h2⟩
section
variable {X : Cx} {pins : List (Addr × Obj)} {st : L2.St} {H : Hp} {s : Shared} {l : Addr} {xs : List V}
theorem lstR (I : Inv X pins st H s) (hH : Rd H l (.lst xs)) : xs.length ≤ sizeLine ∧ ∃ (its : List Value) (n : Nat), Vals xs its ∧ xs.length = its.length ∧ s.heap.get? l = some { cls := .type "list", data := .seq its.toArray n } := by
  obtain ⟨z, its, n, r, e⟩ := hH.ok I.hok
  exact ⟨z, its, n, r, r.length, e⟩
end

/-! ### a two-place operation that leaves our objects as they are -/
def rd2 (G : Gx) (f : W → W → MH → Option W) : R2 := fun x y H Q => ∃ mu h wa wb H0, HR G mu h H ∧ RepW G mu H0 H wa x ∧ RepW G mu H0 H wb y ∧ ∃ w, f wa wb h = some w ∧ ∀ v H', HR G mu h H' → Ext mu H mu H' → RepW G mu H H' w v → Q v H'
def dP2 (f : W → W → MH → Option W) (ma mb : Den W) : Den W := dBind ma fun a => dBind mb fun b => fun _ h => (f a b h).map fun w => (.ok w, h)
theorem p2_post {G : Gx} {Wx : WX} {st : L2.St} {H : Hp} {Q : VK} {f : W → W → MH → Option W} {ma mb : Den W} (hw : tden G Wx (dP2 f ma mb) st H Q) : tOp (rd2 G f) (tden G Wx ma) (tden G Wx mb) st H Q := by
  obtain ⟨mu, rho, h, sr, p⟩ := hw
  refine bind2_post sr p fun a b h2 x y H1 H2 mu1 mu2 sr2 e1 e2 ra rb p2 => ?_
  have p2' : Post G Wx mu2 H2 st Q ((f a b h2).map fun w => (.ok w, h2)) := p2
  cases e : f a b h2 with
  | none => rw [e] at p2'; exact p2'.elim
  | some w =>
    rw [e] at p2'
    exact ⟨mu2, h2, a, b, H, sr2.hr, ra, rb, w, e, fun v H' hr ex rw' => p2' v H' mu2 hr ex rw'⟩
section
variable {G : Gx} {N : List Str} {sc : Scp} {k : Nat} {a b : Expr} {ma mb : Den W} {pos : Pos}
theorem de_bin {op : Operator} {f : W → W → MH → Option W} (ho : ∀ X, Fits X G N sc k → OpR X (binaryOp op) (rd2 G f)) (ha : DE G N sc k a ma) (hb : DE G N sc k b mb) : DE G N sc k (.BinOp a op b pos) (dP2 f ma mb) :=
  ⟨fun X Wx ft tk => PE.imp (pe_op (ho X ft) (ha.pe X Wx ft tk) (hb.pe X Wx ft tk)) fun st H Q hw => p2_post hw⟩
end
/-- a rule by its own reading -/
theorem OpR.imp {X : Cx} {f : Value → Value → Sem Value} {r r' : R2} (h : OpR X f r) (i : ∀ x y H Q, r' x y H Q → r x y H Q) : OpR X f r' := fun pins s st H x y v u Q I rx ry q => h pins s st H x y v u Q I rx ry (i x y H Q q)

/-! ### plus -/
def b2 (b : Bool) : Int := if b then 1 else 0
def addW (a b : W) (h : MH) : Option W := match a, b with
  | .d (.int i), .d (.int j) => some (.d (.int (i + j)))
  | .d (.bl i), .d (.int j) => some (.d (.int (b2 i + j)))
  | .d (.int i), .d (.bl j) => some (.d (.int (i + b2 j)))
  | .d (.str x), .d (.str y) => if x.length + y.length ≤ LIM then some (.d (.str (x ++ y))) else none
  | .d (.tup xs), .d (.tup ys) => if xs.length + ys.length ≤ LIM then some (.d (.tup (xs ++ ys))) else none
  | a, b => match lw h a, lw h b with
    | some xs, some ys => if xs.length + ys.length ≤ LIM then some (.own (xs ++ ys)) else none
    | _, _ => none
def rCatR : R2 := fun x y H Q => ∃ l b xs zs, x = .ref l ∧ y = .ref b ∧ Rd H l (.lst xs) ∧ Rd H b (.lst zs) ∧ xs.length + zs.length ≤ sizeLine ∧ ∀ p, H p = none → Q (.ref p) (upd H p (.lst (xs ++ zs)))
theorem op_catR {X : Cx} : OpR X (binaryOp .Add) rCatR := by
  intro pins s σ H x y v u Q I rx ry h
  obtain ⟨l, b, xs, zs, rfl, rfl, hH, hB, hz, q⟩ := h
  cases rx
  cases ry
  obtain ⟨z, its, n, r, hl, e⟩ := lstR I hH
  obtain ⟨z2, its2, n2, r2, hl2, e2⟩ := lstR I hB
  refine PySem.P.add_list e e2 ?_ (by rw [List.size_toArray, List.size_toArray]; omega)
  have ea : its.toArray ++ its2.toArray = (its ++ its2).toArray := by simp
  rw [ea]
  exact ⟨.ref _, _, I.lnew (t' := s.toks) (r.append r2) (by rw [List.length_append]; omega), rfl, q _ I.fresh⟩
theorem op_add_bi {X : Cx} : OpR X (binaryOp .Add) (fun x y H Q => ∃ i k, x = .bl i ∧ y = .int k ∧ Q (.int (b2 i + k)) H) := by
  intro pins s σ H x y v u Q I rx ry h
  obtain ⟨i, k, rfl, rfl, q⟩ := h
  cases rx
  obtain ⟨t, rfl⟩ := ry
  exact PySem.IntBool.add_bool_int ⟨.int (b2 i + k), H, I.tok _, ⟨_, rfl⟩, q⟩
/-- a fresh list handed on -/
theorem own_new {G : Gx} {mu : Mu} {h : MH} {H : Hp} {ds : List D} {vs : List V} {Q : VK} (hr : HR G mu h H) (r : RepDs G H ds vs) (q : ∀ v H', HR G mu h H' → Ext mu H mu H' → RepW G mu H H' (.own ds) v → Q v H') (p : Addr) (hp : H p = none) (np : p ∉ addrs mu) : Q (.ref p) (upd H p (.lst vs)) :=
  q _ _ (hr.new hp) (Ext.new hp) ⟨p, vs, rfl, upd_same, r.stay (Stay.new hp), np, hp⟩
theorem HR.nin {G : Gx} {mu : Mu} {h : MH} {H : Hp} (hr : HR G mu h H) {p : Addr} (hp : H p = none) : p ∉ addrs mu := fun hm => by
  obtain ⟨o, e, _⟩ := hr.live p hm
  rw [hp] at e; cases e

theorem repd_new {G : Gx} {mu : Mu} {h : MH} {H : Hp} {d : D} {v : V} {Q : VK} (hr : HR G mu h H) (r : RepD G H d v) (q : ∀ v H', HR G mu h H' → Ext mu H mu H' → RepW G mu H H' (.d d) v → Q v H') : Q v H :=
  q _ _ hr (Ext.refl mu H) r
/-- a fresh tuple handed on -/
theorem tup_new {G : Gx} {mu : Mu} {h : MH} {H : Hp} {ds : List D} {vs : List V} {Q : VK} (hr : HR G mu h H) (r : RepDs G H ds vs) (q : ∀ v H', HR G mu h H' → Ext mu H mu H' → RepW G mu H H' (.d (.tup ds)) v → Q v H') (p : Addr) (o : Obj) (hp : H p = none) (ho : o.dict = none) : Q (.ref p) (upd H p (.frz o (.tup vs))) :=
  q _ _ (hr.new hp) (Ext.new hp) (RepD.tup (.inl ⟨o, ho, upd_same⟩) (r.stay (Stay.new hp)))
theorem fits_gx {X : Cx} {G : Gx} {N : List Str} {sc : Scp} {k : Nat} (ft : Fits X G N sc k) : G.K = X.K ∧ G.mg = X.mg := by
  obtain ⟨T, rfl⟩ := ft.g
  exact ⟨rfl, rfl⟩

theorem op_addW {X : Cx} {G : Gx} {N : List Str} {sc : Scp} {k : Nat} (ft : Fits X G N sc k) : OpR X (binaryOp .Add) (rd2 G addW) := by
  intro pins s σ H x y v u Q I rx ry ⟨mu, h, wa, wb, H0, hr, ra, rb, w, e, q⟩
  have hK := (fits_gx ft).1
  unfold addW at e
  split at e
  · cases (Option.some.inj e); cases ra; cases rb
    exact op_add pins s σ H _ _ v u Q I rx ry ⟨_, _, rfl, rfl, repd_new hr (.int _) q⟩
  · cases (Option.some.inj e); cases ra; cases rb
    exact op_add_bi pins s σ H _ _ v u Q I rx ry ⟨_, _, rfl, rfl, repd_new hr (.int _) q⟩
  · cases (Option.some.inj e); cases ra; cases rb
    exact op_add_ib pins s σ H _ _ v u Q I rx ry ⟨_, _, rfl, rfl, repd_new hr (.int _) q⟩
  · split at e
    · rename_i hz
      cases (Option.some.inj e); cases ra; cases rb
      exact op_add_str pins s σ H _ _ v u Q I rx ry ⟨_, _, rfl, rfl, by rw [lim_eq]; exact hz, repd_new hr (.str _) q⟩
    · cases e
  · split at e
    · rename_i hz
      cases (Option.some.inj e)
      cases ra with
      | tup a1 a2 =>
        cases rb with
        | tup b1 b2 =>
          refine op_catN pins s σ H _ _ v u Q I rx ry ⟨_, _, _, _, rfl, rfl, hK ▸ a1.sq, hK ▸ b1.sq, by rw [lim_eq, ← a2.length, ← b2.length]; exact hz, fun z => ?_, fun z z2 => ?_, fun _ _ p o hp ho => tup_new hr (a2.app b2) q p o hp ho⟩
          · subst z
            cases a2
            exact repd_new hr (.tup b1 b2) q
          · subst z2
            cases b2
            rw [List.append_nil] at q
            exact repd_new hr (.tup a1 a2) q
    · cases e
  · split at e
    · rename_i xs ys hx hy
      split at e
      · rename_i hz
        cases (Option.some.inj e)
        obtain ⟨a, vs, rfl, a1, a2⟩ := lw_rep hr ra hx
        obtain ⟨b, us, rfl, b1, b2⟩ := lw_rep hr rb hy
        exact op_catR pins s σ H _ _ v u Q I rx ry ⟨_, _, _, _, rfl, rfl, a1, b1, by rw [lim_eq, ← a2.length, ← b2.length]; exact hz, fun p hp => own_new hr (a2.app b2) q p hp (hr.nin hp)⟩
      · cases e
    · cases e

/-! ### the other ones -/
def subW (a b : W) (_ : MH) : Option W := match a, b with
  | .d (.int i), .d (.int j) => some (.d (.int (i - j)))
  | .d (.bl i), .d (.int j) => some (.d (.int (b2 i - j)))
  | _, _ => none
theorem op_sub_bi {X : Cx} : OpR X (binaryOp .Sub) (fun x y H Q => ∃ i k, x = .bl i ∧ y = .int k ∧ Q (.int (b2 i - k)) H) := by
  intro pins s σ H x y v u Q I rx ry h
  obtain ⟨i, k, rfl, rfl, q⟩ := h
  cases rx
  obtain ⟨t, rfl⟩ := ry
  exact PySem.IntBool.sub_bool_int ⟨.int (b2 i - k), H, I.tok _, ⟨_, rfl⟩, q⟩
theorem op_mul_ib {X : Cx} : OpR X (binaryOp .Mult) (fun x y H Q => ∃ i k, x = .int i ∧ y = .bl k ∧ Q (.int (i * b2 k)) H) := by
  intro pins s σ H x y v u Q I rx ry h
  obtain ⟨i, k, rfl, rfl, q⟩ := h
  obtain ⟨t, rfl⟩ := rx
  cases ry
  exact PySem.IntBool.mul_int_bool ⟨.int (i * b2 k), H, I.tok _, ⟨_, rfl⟩, q⟩
theorem op_subW {X : Cx} {G : Gx} : OpR X (binaryOp .Sub) (rd2 G subW) := by
  intro pins s σ H x y v u Q I rx ry ⟨mu, h, wa, wb, H0, hr, ra, rb, w, e, q⟩
  unfold subW at e
  split at e
  · cases (Option.some.inj e); cases ra; cases rb
    exact op_sub pins s σ H _ _ v u Q I rx ry ⟨_, _, rfl, rfl, repd_new hr (.int _) q⟩
  · cases (Option.some.inj e); cases ra; cases rb
    exact op_sub_bi pins s σ H _ _ v u Q I rx ry ⟨_, _, rfl, rfl, repd_new hr (.int _) q⟩
  · cases e
def P64 : Int := 18446744073709551616
theorem p64 : P64 = 2 ^ 64 := by decide
def strRep (x : Str) (n : Nat) : Str := ⟨(List.replicate n x.cps.toList).flatten.toArray⟩
def mulW (a b : W) (h : MH) : Option W := match a, b with
  | .d (.int i), .d (.int j) => if (-P64 < i && i < P64) || (-P64 < j && j < P64) then some (.d (.int (i * j))) else none
  | .d (.int i), .d (.bl j) => some (.d (.int (i * b2 j)))
  | .d (.str x), .d (.int n) => if 1 ≤ n ∧ n ≤ 1000 ∧ x.length ≤ 1000 then some (.d (.str (strRep x n.toNat))) else none
  | .d (.tup xs), .d (.int n) => if 2 ≤ n ∧ n ≤ 1000 ∧ xs.length ≤ 1000 ∧ xs.isEmpty = false then some (.d (.tup (List.replicate n.toNat xs).flatten)) else none
  | a, .d (.int n) => match lw h a with
    | some xs => if 0 ≤ n ∧ n ≤ 1000 ∧ xs.length ≤ 1000 then some (.own (List.replicate n.toNat xs).flatten) else none
    | _ => none
  | _, _ => none
theorem foldl_arr (l : List Nat) : ∀ (k : Nat) (acc : List Nat), (List.replicate k l.toArray).foldl (· ++ ·) acc.toArray = (acc ++ (List.replicate k l).flatten).toArray
  | 0, acc => by simp
  | k + 1, acc => by
    have e : acc.toArray ++ l.toArray = (acc ++ l).toArray := by simp
    rw [List.replicate_succ, List.foldl_cons, e, foldl_arr l k (acc ++ l), List.replicate_succ, List.flatten_cons, List.append_assoc]
theorem op_mul_str {X : Cx} : OpR X (binaryOp .Mult) (fun x y H Q => ∃ z n, x = .str z ∧ y = .int n ∧ (1 ≤ n ∧ n ≤ 1000 ∧ z.length ≤ 1000) ∧ Q (.str (strRep z n.toNat)) H) := by
  intro pins s σ H x y v u Q I rx ry h
  obtain ⟨z, n, rfl, rfl, ⟨h1, h2, h3⟩, q⟩ := h
  obtain ⟨t, rfl⟩ := rx
  obtain ⟨t', rfl⟩ := ry
  have hs : sizeLine = 16777216 := sizeLine_eq
  have e : Txt.mul z n = strRep z n.toNat := by
    unfold Txt.mul strRep
    rw [if_neg (by omega)]
    obtain ⟨c⟩ := z
    obtain ⟨l⟩ := c
    by_cases hb : (n == 1 || (⟨⟨l⟩⟩ : Str).length == 0) = true
    · rw [if_pos hb]
      rw [Bool.or_eq_true] at hb
      rcases hb with hb | hb
      · have hn : n = 1 := by simpa using hb
        subst hn
        simp
      · have hl : l = [] := by
          have : l.length = 0 := by simpa [Str.length] using hb
          exact List.length_eq_zero_iff.mp this
        subst hl
        simp
    · rw [if_neg hb]
      have := foldl_arr l n.toNat []
      simp only [List.nil_append] at this
      rw [← this]
  have hle : z.length * n.toNat ≤ 1000 * 1000 := Nat.mul_le_mul h3 (by omega)
  refine PySem.SB.mul ⟨?_, fun _ _ hc => ?_, fun _ _ => ?_⟩ fun t' k => ⟨.str (strRep z n.toNat), H, I.tok _, ⟨t', by rw [e]⟩, q⟩
  · have e1 : decide (n < -(2 ^ 63 : Int)) = false := decide_eq_false (by omega)
    have e2 : decide (n ≥ 2 ^ 63) = false := decide_eq_false (by omega)
    rw [e1, e2]; rfl
  · have h5 : (9223372036854775807 : Int) / n ≥ 9223372036854775807 / 1000 := by
      apply Int.le_ediv_of_mul_le (by omega)
      omega
    have h6 : (2 ^ 63 - 1 : Int) = 9223372036854775807 := by decide
    rw [h6] at hc
    omega
  · unfold PySem.Builtin.Str.tooLong
    first
      | exact decide_eq_false (by omega)
      | (simp; omega)
def rRepR : R2 := fun x y H Q => ∃ l k xs, x = .ref l ∧ y = .int k ∧ Rd H l (.lst xs) ∧ -(2 ^ 63) ≤ k ∧ k < 2 ^ 63 ∧ xs.length * k.toNat ≤ sizeLine ∧
  ∀ p, H p = none → Q (.ref p) (upd H p (.lst (List.replicate k.toNat xs).flatten))
theorem op_repR {X : Cx} : OpR X (binaryOp .Mult) rRepR := by
  intro pins s σ H x y v u Q I rx ry h
  obtain ⟨l, k, xs, rfl, rfl, hH, h1, h2, hz, q⟩ := h
  cases rx
  obtain ⟨t, rfl⟩ := ry
  obtain ⟨z, its, n, r, hl, e⟩ := lstR I hH
  have hlen : its.toArray.size * k.toNat ≤ sizeLine := by rw [List.size_toArray, ← hl]; exact hz
  have hcap : ¬ its.toArray.size * k.toNat > (2 ^ 63 - 1) / 8 := by
    have : (sizeLine : Nat) ≤ (2 ^ 63 - 1) / 8 := by decide
    omega
  have hfit : ¬ (!Builtin.List.listFitsIndex k) = true := by
    rw [fitsIndex_both h1 h2]
    exact Bool.false_ne_true
  have hlong : ¬ Builtin.List.listTooLong (its.toArray.size * k.toNat) = true := by
    rw [notLongL hlen]
    exact Bool.false_ne_true
  have hnew : List.foldl (fun x1 x2 => x1 ++ x2) #[] (List.replicate (if its.toArray.isEmpty = true then 0 else k.toNat) its.toArray) = (List.replicate k.toNat its).flatten.toArray := by
    have f0 : ∀ m : Nat, List.foldl (fun x1 x2 => x1 ++ x2) #[] (List.replicate m its.toArray) = (List.replicate m its).flatten.toArray := fun m => by
      have := foldl_rep its m []
      rw [List.nil_append] at this
      exact this
    rw [f0]
    cases its with
    | nil => simp
    | cons a r' => rw [if_neg (by simp)]
  refine wpAny_binaryOp_repeat_ref (T := "list") (U := "int") (by decide) ⟨_, e, rfl⟩ (fun s' => typeIs_int s' k t) noFill_list_mul F.fills_int_mul F.slot_int_rmul repeat_list F.slot_int_index.lookup
    (call_meets F.slot_int_rmul (typeIs_int s k t) F.entry_int_rmul (F.args_int_rmul_2 _ _) (int___rmul___int_list k t l its.toArray n)
      ⟨e, rfl, ⟨_, e, rfl⟩, call_meets F.slot_list_mul ⟨_, e, rfl⟩ F.entry_list_mul (F.args_list_mul_2 _ _) (AutoListH.list___mul___list_int_3 l its.toArray n k t hfit hcap hlong) ⟨e, ?_⟩⟩)
  rw [hnew]
  exact ⟨.ref _, _, I.lnew (t' := s.toks) (r.rep k.toNat) (by rw [PyProof.Rows.lm_len_rep_flat, Nat.mul_comm]; exact hz), rfl, q _ I.fresh⟩
theorem op_mulW {X : Cx} {G : Gx} {N : List Str} {sc : Scp} {k : Nat} (ft : Fits X G N sc k) : OpR X (binaryOp .Mult) (rd2 G mulW) := by
  intro pins s σ H x y v u Q I rx ry ⟨mu, h, wa, wb, H0, hr, ra, rb, w, e, q⟩
  have hK := (fits_gx ft).1
  have hs : sizeLine = 16777216 := sizeLine_eq
  unfold mulW at e
  split at e
  · split at e
    · rename_i hz
      cases (Option.some.inj e); cases ra; cases rb
      refine op_mul pins s σ H _ _ v u Q I rx ry ⟨_, _, rfl, rfl, ?_, repd_new hr (.int _) q⟩
      simp only [Bool.or_eq_true, Bool.and_eq_true, decide_eq_true_eq, p64] at hz
      exact hz
    · cases e
  · cases (Option.some.inj e); cases ra; cases rb
    exact op_mul_ib pins s σ H _ _ v u Q I rx ry ⟨_, _, rfl, rfl, repd_new hr (.int _) q⟩
  · split at e
    · rename_i hz
      cases (Option.some.inj e); cases ra; cases rb
      exact op_mul_str pins s σ H _ _ v u Q I rx ry ⟨_, _, rfl, rfl, hz, repd_new hr (.str _) q⟩
    · cases e
  · split at e
    · rename_i hz
      obtain ⟨h1, h2, h3, h4⟩ := hz
      cases (Option.some.inj e); cases rb
      cases ra with
      | tup a1 a2 =>
        exact op_repN pins s σ H _ _ v u Q I rx ry ⟨_, _, _, rfl, rfl, hK ▸ a1.sq, (fun z => by have hl := a2.length; rw [z] at hl; rw [List.length_eq_zero_iff.mp hl] at h4; cases h4), h1, h2, by rw [← a2.length]; exact h3, fun p o hp ho => tup_new hr (a2.rep _) q p o hp ho⟩
    · cases e
  · split at e
    · rename_i hx
      split at e
      · rename_i hz
        obtain ⟨h1, h2, h3⟩ := hz
        cases (Option.some.inj e); cases rb
        obtain ⟨a, vs, rfl, a1, a2⟩ := lw_rep hr ra hx
        have hl := a2.length
        have hle' : ∀ m : Int, 0 ≤ m → m ≤ 1000 → vs.length * m.toNat ≤ 1000 * 1000 := fun m _ _ => Nat.mul_le_mul (by omega) (by omega)
        have hle := hle' _ h1 h2
        exact op_repR pins s σ H _ _ v u Q I rx ry ⟨_, _, _, rfl, rfl, a1, by omega, by omega, by omega, fun p hp => own_new hr (a2.rep _) q p hp (hr.nin hp)⟩
      · cases e
    · cases e
  · cases e
def divW (a b : W) (_ : MH) : Option W := match a, b with
  | .d (.int i), .d (.int j) => if 0 < j ∧ j < 1073741824 then some (.d (.int (i / j))) else none
  | _, _ => none
def modW (a b : W) (_ : MH) : Option W := match a, b with
  | .d (.int i), .d (.int j) => if 0 < j then some (.d (.int (i % j))) else none
  | _, _ => none
def powW (a b : W) (_ : MH) : Option W := match a, b with
  | .d (.int i), .d (.int j) => if 0 ≤ j ∧ j ≤ 1000 ∧ 0 ≤ i ∧ i ≤ 1000 then some (.d (.int (i ^ j.toNat))) else none
  | _, _ => none
theorem op_divW {X : Cx} {G : Gx} : OpR X (binaryOp .FloorDiv) (rd2 G divW) := by
  intro pins s σ H x y v u Q I rx ry ⟨mu, h, wa, wb, H0, hr, ra, rb, w, e, q⟩
  unfold divW at e
  split at e
  · split at e
    · rename_i hz
      cases (Option.some.inj e); cases ra; cases rb
      exact op_fdiv pins s σ H _ _ v u Q I rx ry ⟨_, _, rfl, rfl, hz, repd_new hr (.int _) q⟩
    · cases e
  · cases e
theorem op_modW {X : Cx} {G : Gx} : OpR X (binaryOp .Mod) (rd2 G modW) := by
  intro pins s σ H x y v u Q I rx ry ⟨mu, h, wa, wb, H0, hr, ra, rb, w, e, q⟩
  unfold modW at e
  split at e
  · split at e
    · rename_i hz
      cases (Option.some.inj e); cases ra; cases rb
      exact op_mod pins s σ H _ _ v u Q I rx ry ⟨_, _, rfl, rfl, hz, repd_new hr (.int _) q⟩
    · cases e
  · cases e
theorem op_powW {X : Cx} {G : Gx} : OpR X (binaryOp .Pow) (rd2 G powW) := by
  intro pins s σ H x y v u Q I rx ry ⟨mu, h, wa, wb, H0, hr, ra, rb, w, e, q⟩
  unfold powW at e
  split at e
  · split at e
    · rename_i hz
      cases (Option.some.inj e); cases ra; cases rb
      exact op_pow pins s σ H _ _ v u Q I rx ry ⟨_, _, rfl, rfl, ⟨hz.1, by omega, by omega⟩, repd_new hr (.int _) q⟩
    · cases e
  · cases e
end Dn

set_option maxHeartbeats 4000000
namespace Dn
open PySem PySem.Spec PyProof.Rows L2

/-! ### data as the library's data -/
mutual
def toPy : D → PyData
  | .non => .none
  | .bl b => .bool b
  | .int i => .int i
  | .str x => .str x
  | .tup ds => .tuple (toPys ds)
  | .lst ds => .list (toPys ds)
  | .fr _ => .none
def toPys : List D → List PyData
  | [] => []
  | d :: ds => toPy d :: toPys ds
end
def okD : Nat → D → Bool
  | _, .non => true
  | _, .bl _ => true
  | _, .int _ => true
  | _, .str _ => true
  | 0, _ => false
  | n + 1, .tup ds => ds.all (okD n)
  | n + 1, .lst ds => ds.all (okD n)
  | _, .fr _ => false
mutual
theorem toPy_plain : ∀ d : D, (toPy d).plain = true
  | .non => rfl
  | .bl _ => rfl
  | .int _ => rfl
  | .str _ => rfl
  | .tup ds => by simp only [toPy, PyData.plain]; exact toPys_plain ds
  | .lst ds => by simp only [toPy, PyData.plain]; exact toPys_plain ds
  | .fr _ => rfl
theorem toPys_plain : ∀ ds : List D, PyData.plainAll (toPys ds) = true
  | [] => rfl
  | d :: ds => by simp only [toPys, PyData.plainAll, toPy_plain d, toPys_plain ds, Bool.and_self]
end
theorem okD_depth : ∀ (n : Nat), (∀ d : D, okD n d = true → (toPy d).depth ≤ n) ∧ (∀ ds : List D, ds.all (okD n) = true → PyData.depthAll (toPys ds) ≤ n) := by
  have all : ∀ (n : Nat), (∀ d : D, okD n d = true → (toPy d).depth ≤ n) → ∀ ds : List D, ds.all (okD n) = true → PyData.depthAll (toPys ds) ≤ n := by
    intro n h ds
    induction ds with
    | nil => intro _; simp [toPys, PyData.depthAll]
    | cons d ds ih =>
      intro e
      rw [List.all_cons, Bool.and_eq_true] at e
      have h1 := h d e.1
      have h2 := ih e.2
      simp only [toPys, PyData.depthAll]
      omega
  intro n
  induction n with
  | zero =>
    have z : ∀ d : D, okD 0 d = true → (toPy d).depth ≤ 0 := fun d e => by
      cases d <;> first | (simp [toPy, PyData.depth]; done) | (cases e)
    exact ⟨z, all 0 z⟩
  | succ n ih =>
    have z : ∀ d : D, okD (n + 1) d = true → (toPy d).depth ≤ n + 1 := fun d e => by
      cases d with
      | tup ds => have := ih.2 ds e; simp only [toPy, PyData.depth]; omega
      | lst ds => have := ih.2 ds e; simp only [toPy, PyData.depth]; omega
      | fr x => cases e
      | _ => simp [toPy, PyData.depth]
    exact ⟨z, all _ z⟩
section
variable {G : Gx} {H : Hp}
theorem dp_of : ∀ (n : Nat), (∀ (d : D) (v : V), okD n d = true → RepD G H d v → Dp G.K H v (toPy d)) ∧ (∀ (ds : List D) (vs : List V), ds.all (okD n) = true → RepDs G H ds vs → DpAll G.K H vs (toPys ds)) := by
  have all : ∀ (n : Nat), (∀ (d : D) (v : V), okD n d = true → RepD G H d v → Dp G.K H v (toPy d)) → ∀ (ds : List D) (vs : List V), ds.all (okD n) = true → RepDs G H ds vs → DpAll G.K H vs (toPys ds) := by
    intro n h ds
    induction ds with
    | nil => intro vs _ r; cases r; exact .nil
    | cons d ds ih =>
      intro vs e r
      rw [List.all_cons, Bool.and_eq_true] at e
      cases r with
      | cons r1 r2 => exact .cons (h _ _ e.1 r1) (ih _ e.2 r2)
  intro n
  induction n with
  | zero =>
    have z : ∀ (d : D) (v : V), okD 0 d = true → RepD G H d v → Dp G.K H v (toPy d) := fun d v e r => by
      cases r with
      | non => exact .non
      | bl b => exact .bl b
      | int i => exact .int i
      | str x => exact .str x
      | _ => cases e
    exact ⟨z, all 0 z⟩
  | succ n ih =>
    have z : ∀ (d : D) (v : V), okD (n + 1) d = true → RepD G H d v → Dp G.K H v (toPy d) := fun d v e r => by
      cases r with
      | non => exact .non
      | bl b => exact .bl b
      | int i => exact .int i
      | str x => exact .str x
      | tup a b => exact .tup a.sq (ih.2 _ _ e b)
      | lst a b => exact .lst (.inl a.rd) (ih.2 _ _ e b)
      | fr _ _ => cases e
    exact ⟨z, all _ z⟩
end
/-- the datum of a value as it is now -/
def pyW (h : MH) : W → Option D
  | .d x => some x
  | w => (lw h w).map .lst
theorem pyW_dp {G : Gx} {mu : Mu} {h : MH} {H0 H : Hp} {w : W} {v : V} {x : D} {n : Nat} (hr : HR G mu h H) (r : RepW G mu H0 H w v) (e : pyW h w = some x) (ok : okD (n + 1) x = true) : Dp G.K H v (toPy x) := by
  have lst : ∀ ds, lw h w = some ds → x = .lst ds → Dp G.K H v (toPy x) := fun ds h1 h2 => by
    obtain ⟨a, vs, rfl, a1, a2⟩ := lw_rep hr r h1
    subst h2
    exact .lst (.inl a1) ((dp_of n).2 _ _ ok a2)
  cases w with
  | d y =>
    cases e
    exact (dp_of (n + 1)).1 _ _ ok r
  | own ds => cases e; exact lst ds rfl rfl
  | bor ds => cases e; exact lst ds rfl rfl
  | od => cases e
  | ref m =>
    have e : (obl h[m]?).map D.lst = some x := e
    cases q : obl h[m]? with
    | none => rw [q] at e; cases e
    | some ds => rw [q] at e; cases e; exact lst ds q rfl

/-! ### comparisons -/
def eqD (x y : D) : Bool := PyData.eqv (toPy x) (toPy y)
def eqW (a b : W) (h : MH) : Option Bool := match pyW h a, pyW h b with
  | some x, some y => if okD 60 x && okD 60 y then some (eqD x y) else none
  | _, _ => none
def ltW (a b : W) (_ : MH) : Option Bool := match a, b with
  | .d (.int i), .d (.int j) => some (decide (i < j))
  | .d (.str x), .d (.str y) => some (decide (x.cps.toList < y.cps.toList))
  | _, _ => none
def leW (a b : W) (_ : MH) : Option Bool := match a, b with
  | .d (.int i), .d (.int j) => some (decide (i ≤ j))
  | .d (.str x), .d (.str y) => some (!decide (y.cps.toList < x.cps.toList))
  | _, _ => none
def isW (a b : W) (_ : MH) : Option Bool := match a, b with
  | .d (.bl x), .d (.bl y) => some (decide (x = y))
  | .d .non, .d .non => some true
  | .d (.bl _), .d .non => some false
  | .d (.int _), .d .non => some false
  | .d (.str _), .d .non => some false
  | .d (.tup _), .d .non => some false
  | .d (.lst _), .d .non => some false
  | .own _, .d .non => some false
  | .ref _, .d .non => some false
  | _, _ => none
/-- one text within another -/
def strIn (x y : Str) : Bool := !(Builtin.Str.occurrences y x 0 y.length 1).isEmpty
def inW (a b : W) (h : MH) : Option Bool := match a, b with
  | .d (.str x), .d (.str y) => some (strIn x y)
  | a, b => match pyW h a, qw h b with
    | some x, some ys => if okD 60 x && ys.all (okD 60) then some (ys.any fun y => eqD y x) else none
    | _, _ => none
def cmpW (op : CmpOp) (a b : W) (h : MH) : Option Bool := match op with
  | .Eq => eqW a b h
  | .NotEq => (eqW a b h).map (!·)
  | .Lt => ltW a b h
  | .LtE => leW a b h
  | .Gt => ltW b a h
  | .GtE => leW b a h
  | .Is => isW a b h
  | .IsNot => (isW a b h).map (!·)
  | .In => inW a b h
  | .NotIn => (inW a b h).map (!·)
/-- a comparison's answer -/
def rdc (G : Gx) (f : W → W → MH → Option Bool) : R2 := fun x y H Q => ∃ mu h wa wb H0, HR G mu h H ∧ RepW G mu H0 H wa x ∧ RepW G mu H0 H wb y ∧ ∃ b, f wa wb h = some b ∧ Q (.bl b) H

section
variable {X : Cx} {G : Gx} {N : List Str} {sc : Scp} {k : Nat}
theorem units_fits (ft : Fits X G N sc k) : X.A.units + 64 < cLine := ft.room.units
theorem toPys_any (x : D) : ∀ ys : List D, (toPys ys).any (fun y => PyData.eqv y (toPy x)) = ys.any fun y => eqD y x
  | [] => rfl
  | y :: ys => by simp only [toPys, List.any_cons, toPys_any x ys]; rfl
theorem eqv_reads (ft : Fits X G N sc k) {mu : Mu} {h : MH} {H0 H : Hp} {w : W} {v : V} {u : Value} {x : D} {pins : List (Addr × Obj)} {st : L2.St} {s : Shared} (I : Inv X pins st H s) (ru : RelV v u) (hr : HR G mu h H) (r : RepW G mu H0 H w v) (e : pyW h w = some x) (ok : okD 60 x = true) :
    ∃ as, Reads s.heap u (toPy x) as := by
  have q := pyW_dp (n := 59) hr r e ok
  rw [(fits_gx ft).1] at q
  exact Dp.reads I _ _ _ q ru
theorem op_eqW (ft : Fits X G N sc k) : OpR X (compareOp .Eq) (rdc G eqW) := by
  intro pins s σ H x y v u Q I rx ry ⟨mu, h, wa, wb, H0, hr, ra, rb, b, e, q⟩
  unfold eqW at e
  split at e
  · rename_i dx dy ex ey
    split at e
    · rename_i ok
      rw [Bool.and_eq_true] at ok
      cases (Option.some.inj e)
      obtain ⟨as, r1⟩ := eqv_reads ft I rx hr ra ex ok.1
      obtain ⟨bs, r2⟩ := eqv_reads ft I ry hr rb ey ok.2
      have hd := (okD_depth 60).1 _ ok.1
      have hu := units_fits ft
      exact SeqAt.eq_plain r1 r2 (toPy_plain _) (toPy_plain _) (by omega) ⟨.bl _, H, I, rfl, q⟩
    · cases e
  · cases e
theorem op_neW (ft : Fits X G N sc k) : OpR X (compareOp .NotEq) (rdc G fun a b h => (eqW a b h).map (!·)) := by
  intro pins s σ H x y v u Q I rx ry ⟨mu, h, wa, wb, H0, hr, ra, rb, b, e, q⟩
  obtain ⟨r, e', eb⟩ := Option.map_eq_some_iff.mp e
  subst eb
  clear e
  have e := e'
  clear e'
  unfold eqW at e
  split at e
  · rename_i dx dy ex ey
    split at e
    · rename_i ok
      rw [Bool.and_eq_true] at ok
      cases (Option.some.inj e)
      obtain ⟨as, r1⟩ := eqv_reads ft I rx hr ra ex ok.1
      obtain ⟨bs, r2⟩ := eqv_reads ft I ry hr rb ey ok.2
      have hd := (okD_depth 60).1 _ ok.1
      have hu := units_fits ft
      exact SeqAt.ne_plain r1 r2 (toPy_plain _) (toPy_plain _) (by omega) ⟨.bl _, H, I, rfl, q⟩
    · cases e
  · cases e
theorem inW_gen (ft : Fits X G N sc k) (neg : Bool) : OpR X (compareOp (if neg then .NotIn else .In)) (rdc G fun a b h => (inW a b h).map (fun z => if neg then !z else z)) := by
  intro pins s σ H x y v u Q I rx ry ⟨mu, h, wa, wb, H0, hr, ra, rb, b, e, q⟩
  have fin : ∀ dx ys, pyW h wa = some dx → qw h wb = some ys → okD 60 dx = true → ys.all (okD 60) = true → b = (if neg then !(ys.any fun y => eqD y dx) else ys.any fun y => eqD y dx) → wpAny (model X.prog X.w) X.A (compareOp (if neg then .NotIn else .In) v u) (EP X pins σ Q) X.xe s := by
    intro dx ys ex ey o1 o2 eb
    obtain ⟨as, r1⟩ := eqv_reads ft I rx hr ra ex o1
    have hd := (okD_depth 60).1 _ o1
    have hu := units_fits ft
    obtain ⟨a, vs, rfl, hq, rds⟩ := qw_rep hr rb ey
    have dpa := (dp_of (G := G) (H := H) 60).2 _ _ o2 rds
    rw [(fits_gx ft).1] at dpa hq
    cases ry
    rcases hq with hq | hq
    · obtain ⟨bs, r2⟩ := Dp.reads I (.list (toPys ys)) (.ref a) (.ref a) (.lst hq dpa) rfl
      cases neg with
      | true => exact SeqAt.notIn_list_data r2 r1 (toPys_plain _) (toPy_plain _) (by omega) (by rw [toPys_any]; exact ⟨.bl b, H, I, by rw [eb]; rfl, q⟩)
      | false => exact SeqAt.in_list_data r2 r1 (toPys_plain _) (toPy_plain _) (by omega) (by rw [toPys_any]; exact ⟨.bl b, H, I, by rw [eb]; rfl, q⟩)
    · obtain ⟨bs, r2⟩ := Dp.reads I (.tuple (toPys ys)) (.ref a) (.ref a) (.tup hq dpa) rfl
      cases neg with
      | true => exact SeqAt.notIn_tuple_data r2 r1 (toPys_plain _) (toPy_plain _) (by omega) (by rw [toPys_any]; exact ⟨.bl b, H, I, by rw [eb]; rfl, q⟩)
      | false => exact SeqAt.in_tuple_data r2 r1 (toPys_plain _) (toPy_plain _) (by omega) (by rw [toPys_any]; exact ⟨.bl b, H, I, by rw [eb]; rfl, q⟩)
  obtain ⟨r, e, eb⟩ := Option.map_eq_some_iff.mp e
  unfold inW at e
  split at e
  · cases ra; cases rb
    cases (Option.some.inj e)
    cases neg with
    | true => subst eb; exact op_notin_str pins s σ H _ _ v u Q I rx ry ⟨_, _, rfl, rfl, q⟩
    | false => subst eb; exact op_in_str pins s σ H _ _ v u Q I rx ry ⟨_, _, rfl, rfl, q⟩
  · split at e
    · rename_i dx ys ex ey
      split at e
      · rename_i ok
        rw [Bool.and_eq_true] at ok
        cases (Option.some.inj e)
        exact fin dx ys ex ey ok.1 ok.2 eb.symm
      · cases e
    · cases e
theorem op_ltW : OpR X (compareOp .Lt) (rdc G ltW) := by
  intro pins s σ H x y v u Q I rx ry ⟨mu, h, wa, wb, H0, hr, ra, rb, b, e, q⟩
  unfold ltW at e
  split at e
  · cases (Option.some.inj e); cases ra; cases rb
    exact op_lt pins s σ H _ _ v u Q I rx ry ⟨_, _, rfl, rfl, q⟩
  · cases (Option.some.inj e); cases ra; cases rb
    exact op_lt_str pins s σ H _ _ v u Q I rx ry ⟨_, _, rfl, rfl, q⟩
  · cases e
theorem op_leW : OpR X (compareOp .LtE) (rdc G leW) := by
  intro pins s σ H x y v u Q I rx ry ⟨mu, h, wa, wb, H0, hr, ra, rb, b, e, q⟩
  unfold leW at e
  split at e
  · cases (Option.some.inj e); cases ra; cases rb
    exact op_le pins s σ H _ _ v u Q I rx ry ⟨_, _, rfl, rfl, q⟩
  · cases (Option.some.inj e); cases ra; cases rb
    exact op_le_str pins s σ H _ _ v u Q I rx ry ⟨_, _, rfl, rfl, q⟩
  · cases e
theorem op_gtW : OpR X (compareOp .Gt) (rdc G fun a b h => ltW b a h) := by
  intro pins s σ H x y v u Q I rx ry ⟨mu, h, wa, wb, H0, hr, ra, rb, b, e, q⟩
  have e : ltW wb wa h = some b := e
  unfold ltW at e
  split at e
  · cases (Option.some.inj e); cases ra; cases rb
    exact op_gt pins s σ H _ _ v u Q I rx ry ⟨_, _, rfl, rfl, q⟩
  · cases (Option.some.inj e); cases ra; cases rb
    exact op_gt_str pins s σ H _ _ v u Q I rx ry ⟨_, _, rfl, rfl, q⟩
  · cases e
theorem op_geW : OpR X (compareOp .GtE) (rdc G fun a b h => leW b a h) := by
  intro pins s σ H x y v u Q I rx ry ⟨mu, h, wa, wb, H0, hr, ra, rb, b, e, q⟩
  have e : leW wb wa h = some b := e
  unfold leW at e
  split at e
  · cases (Option.some.inj e); cases ra; cases rb
    exact op_ge pins s σ H _ _ v u Q I rx ry ⟨_, _, rfl, rfl, q⟩
  · cases (Option.some.inj e); cases ra; cases rb
    exact op_ge_str pins s σ H _ _ v u Q I rx ry ⟨_, _, rfl, rfl, q⟩
  · cases e
/-- what isW says of the right side -/
theorem isW_cases {a b : W} {h : MH} {r : Bool} {mu : Mu} {H0 H : Hp} {x y : V} (e : isW a b h = some r) (ra : RepW G mu H0 H a x) (rb : RepW G mu H0 H b y) :
    (∃ p q : Bool, x = .bl p ∧ y = .bl q ∧ r = decide (p = q)) ∨ (y = .non ∧ r = decide (x = .non)) := by
  unfold isW at e
  split at e
  · cases (Option.some.inj e); cases ra; cases rb; exact .inl ⟨_, _, rfl, rfl, rfl⟩
  · cases (Option.some.inj e); cases ra; cases rb; exact .inr ⟨rfl, by simp⟩
  · cases (Option.some.inj e); cases ra; cases rb; exact .inr ⟨rfl, by simp⟩
  · cases (Option.some.inj e); cases ra; cases rb; exact .inr ⟨rfl, by simp⟩
  · cases (Option.some.inj e); cases ra; cases rb; exact .inr ⟨rfl, by simp⟩
  · cases (Option.some.inj e); cases ra; cases rb; exact .inr ⟨rfl, by simp⟩
  · cases (Option.some.inj e); cases ra; cases rb; exact .inr ⟨rfl, by simp⟩
  · cases (Option.some.inj e); cases rb; obtain ⟨a, vs, rfl, _⟩ := ra; exact .inr ⟨rfl, by simp⟩
  · cases (Option.some.inj e); cases rb; obtain ⟨a, vs, rfl⟩ := ra; exact .inr ⟨rfl, by simp⟩
  · cases e
theorem op_isW : OpR X (compareOp .Is) (rdc G isW) := by
  intro pins s σ H x y v u Q I rx ry ⟨mu, h, wa, wb, H0, hr, ra, rb, b, e, q⟩
  rcases isW_cases e ra rb with ⟨p, r, rfl, rfl, rfl⟩ | ⟨rfl, rfl⟩
  · exact op_isBl pins s σ H _ _ v u Q I rx ry ⟨_, _, rfl, rfl, q⟩
  · exact op_isN pins s σ H _ _ v u Q I rx ry ⟨rfl, q⟩
theorem op_isNotW : OpR X (compareOp .IsNot) (rdc G fun a b h => (isW a b h).map (!·)) := by
  intro pins s σ H x y v u Q I rx ry ⟨mu, h, wa, wb, H0, hr, ra, rb, b, e, q⟩
  have e : (isW wa wb h).map (!·) = some b := e
  cases e1 : isW wa wb h with
  | none => rw [e1] at e; cases e
  | some r =>
    rw [e1] at e
    cases (Option.some.inj e)
    rcases isW_cases e1 ra rb with ⟨p, r, rfl, rfl, rfl⟩ | ⟨rfl, rfl⟩
    · exact op_notBl pins s σ H _ _ v u Q I rx ry ⟨_, _, rfl, rfl, q⟩
    · exact op_notN pins s σ H _ _ v u Q I rx ry ⟨rfl, q⟩
theorem op_cmpW (ft : Fits X G N sc k) : ∀ op : CmpOp, OpR X (compareOp op) (rdc G (cmpW op))
  | .Eq => op_eqW ft
  | .NotEq => op_neW ft
  | .Lt => op_ltW
  | .LtE => op_leW
  | .Gt => op_gtW
  | .GtE => op_geW
  | .Is => op_isW
  | .IsNot => op_isNotW
  | .In => OpR.imp (inW_gen ft false) fun x y H Q ⟨mu, h, wa, wb, H0, hr, ra, rb, b, e, q⟩ => ⟨mu, h, wa, wb, H0, hr, ra, rb, b, (show (inW wa wb h).map _ = some b by rw [show inW wa wb h = some b from e]; rfl), q⟩
  | .NotIn => OpR.imp (inW_gen ft true) fun x y H Q ⟨mu, h, wa, wb, H0, hr, ra, rb, b, e, q⟩ => ⟨mu, h, wa, wb, H0, hr, ra, rb, b, e, q⟩
end
end Dn

set_option maxHeartbeats 4000000
namespace Dn
open PySem PySem.Spec PyProof.Rows L2

/-! ### tests -/
def PostT (G : Gx) (Wx : WX) (mu : Mu) (H : Hp) (st : L2.St) (Q : Bool → Hp → Prop) : Option (Out Bool × MH) → Prop
  | some (.ok b, h') => ∀ H' mu', HR G mu' h' H' → Ext mu H mu' H' → Q b H'
  | some (.ex c fs, h') => ∀ cls d H' mu', HR G mu' h' H' → Ext mu H mu' H' → RepX G H' c fs cls d → Wx cls d st H'
  | none => False
theorem PostT.mono {G : Gx} {Wx : WX} {mu mu1 : Mu} {H H1 : Hp} {st : L2.St} {Q : Bool → Hp → Prop} {r : Option (Out Bool × MH)} (e : Ext mu H mu1 H1) (p : PostT G Wx mu H st Q r) : PostT G Wx mu1 H1 st Q r := by
  match r, p with
  | some (.ok w, h'), p => exact fun H' mu' hr e' => p H' mu' hr (e.trans e')
  | some (.ex c fs, h'), p => exact fun cls d H' mu' hr e' rx => p cls d H' mu' hr (e.trans e') rx
def tdenT (G : Gx) (Wx : WX) (m : Den Bool) : TT := fun st H Q => ∃ mu rho h, StR G mu rho h st H ∧ PostT G Wx mu H st Q (m rho h)
structure DT (G : Gx) (N : List Str) (sc : Scp) (k : Nat) (e : Expr) (m : Den Bool) : Prop where
  pt : ∀ (X : Cx) (Wx : WX), Fits X G N sc k → L2N.Takes X Wx → PT X e (tdenT G Wx m)
structure DW (G : Gx) (N : List Str) (sc : Scp) (k : Nat) (e : Expr) (m : Den Bool) : Prop where
  pw : ∀ (X : Cx) (Wx : WX), Fits X G N sc k → L2N.Takes X Wx → PW X e (tdenT G Wx m)

section
variable {G : Gx} {Wx : WX} {st : L2.St} {H : Hp} {mu : Mu} {rho : Rho} {h : MH}
/-- a value, then a test of it -/
theorem bindT_post {Q : Bool → Hp → Prop} {ma : Den W} {f : W → Den Bool} {R : V → Hp → Prop} (sr : StR G mu rho h st H) (p : PostT G Wx mu H st Q (dBind ma f rho h))
    (hf : ∀ w h1 x H1 mu1, StR G mu1 rho h1 st H1 → Ext mu H mu1 H1 → RepW G mu1 H H1 w x → PostT G Wx mu1 H1 st Q (f w rho h1) → R x H1) : tden G Wx ma st H R := by
  refine ⟨mu, rho, h, sr, ?_⟩
  unfold dBind mBind at p
  rcases e : ma rho h with _ | ⟨w | ⟨c, fs⟩, h1⟩
  · rw [e] at p; exact p.elim
  · rw [e] at p
    intro x H1 mu1 hr ex rw'
    exact hf w h1 x H1 mu1 (sr.ext hr ex) ex rw' (PostT.mono ex p)
  · rw [e] at p
    exact p
theorem bindTT_post {Q : Bool → Hp → Prop} {ma : Den Bool} {f : Bool → Den Bool} {R : Bool → Hp → Prop} (sr : StR G mu rho h st H) (p : PostT G Wx mu H st Q (dBind ma f rho h))
    (hf : ∀ b h1 H1 mu1, StR G mu1 rho h1 st H1 → Ext mu H mu1 H1 → PostT G Wx mu1 H1 st Q (f b rho h1) → R b H1) : tdenT G Wx ma st H R := by
  refine ⟨mu, rho, h, sr, ?_⟩
  unfold dBind mBind at p
  rcases e : ma rho h with _ | ⟨w | ⟨c, fs⟩, h1⟩
  · rw [e] at p; exact p.elim
  · rw [e] at p
    intro H1 mu1 hr ex
    exact hf w h1 H1 mu1 (sr.ext hr ex) ex (PostT.mono ex p)
  · rw [e] at p
    exact p
theorem bindTE_post {Q : VK} {ma : Den Bool} {f : Bool → Den W} {R : Bool → Hp → Prop} (sr : StR G mu rho h st H) (p : Post G Wx mu H st Q (dBind ma f rho h))
    (hf : ∀ b h1 H1 mu1, StR G mu1 rho h1 st H1 → Ext mu H mu1 H1 → Post G Wx mu1 H1 st Q (f b rho h1) → R b H1) : tdenT G Wx ma st H R := by
  refine ⟨mu, rho, h, sr, ?_⟩
  unfold dBind mBind at p
  rcases e : ma rho h with _ | ⟨w | ⟨c, fs⟩, h1⟩
  · rw [e] at p; exact p.elim
  · rw [e] at p
    intro H1 mu1 hr ex
    exact hf w h1 H1 mu1 (sr.ext hr ex) ex (Post.mono ex p)
  · rw [e] at p
    exact p
end

/-! ### names and constants -/
def dVar (i : Nat) : Den W := fun rho h => match rho[i]? with
  | some (some (.own ds)) => some (.ok (.bor ds), h)
  | some (some (.d x)) => some (.ok (.d x), h)
  | some (some (.ref n)) => some (.ok (.ref n), h)
  | _ => none
def dCst (x : D) : Den W := fun _ h => some (.ok (.d x), h)
theorem repS_bor {G : Gx} {mu : Mu} {H : Hp} {w : W} {v : V} (r : RepS G mu H w v) : RepW G mu H H (match w with | .own ds => .bor ds | w => w) v := by
  cases w with
  | d x => exact r
  | own ds => exact r
  | bor ds => exact r.elim
  | od => exact r.elim
  | ref n => exact r
theorem RepW.h0 {G : Gx} {mu : Mu} {H0 H1 H : Hp} {w : W} {v : V} (hw : (∀ ds, w ≠ .own ds) ∧ w ≠ .od) (r : RepW G mu H0 H w v) : RepW G mu H1 H w v := by
  cases w with
  | own ds => exact absurd rfl (hw.1 ds)
  | od => exact absurd rfl hw.2
  | _ => exact r
section
variable {G : Gx} {N : List Str} {sc : Scp} {k : Nat} {pos : Pos}
theorem de_var {i : Nat} {x : Str} (hN : N[i]? = some x) (hv : Vis sc.s x) (hd : (x == ("__debug__" : Str)) = false) (hcd : (x == ("__classdict__" : Str)) = false) : DE G N sc k (.Name x pos) (dVar i) := by
  refine ⟨fun X Wx ft tk => PE.imp (pe_var (i := i) (by rw [ft.n]; exact hN) (by rw [ft.sc]; exact hv) hd hcd) ?_⟩
  rintro st H Q ⟨mu, rho, h, sr, p⟩
  unfold dVar at p
  split at p
  · rename_i ds e
    obtain ⟨v, h1, h2⟩ := sr.slot i _ e
    exact ⟨v, h1, p v H mu sr.hr (Ext.refl mu H) h2⟩
  · rename_i x e
    obtain ⟨v, h1, h2⟩ := sr.slot i _ e
    exact ⟨v, h1, p v H mu sr.hr (Ext.refl mu H) h2⟩
  · rename_i n e
    obtain ⟨v, h1, h2⟩ := sr.slot i _ e
    exact ⟨v, h1, p v H mu sr.hr (Ext.refl mu H) h2⟩
  · exact p.elim
theorem cst_imp {Wx : WX} {d : D} {v : V} (r : ∀ H, RepD G H d v) (st : L2.St) (H : Hp) (Q : VK) (t : tden G Wx (dCst d) st H Q) : tC v st H Q := by
  obtain ⟨mu, rho, h, sr, p⟩ := t
  exact p v H mu sr.hr (Ext.refl mu H) (r H)
theorem de_int {i j} : DE G N sc k (.Constant (.int i) j pos) (dCst (.int i)) := ⟨fun X Wx ft tk => PE.imp pe_int (cst_imp fun _ => .int i)⟩
theorem de_bl {i j} : DE G N sc k (.Constant (.bool i) j pos) (dCst (.bl i)) := ⟨fun X Wx ft tk => PE.imp pe_bl (cst_imp fun _ => .bl i)⟩
theorem de_non {j} : DE G N sc k (.Constant .none j pos) (dCst .non) := ⟨fun X Wx ft tk => PE.imp pe_non (cst_imp fun _ => .non)⟩
theorem de_str {i j} : DE G N sc k (.Constant (.str i) j pos) (dCst (.str i)) := ⟨fun X Wx ft tk => PE.imp pe_str (cst_imp fun _ => .str i)⟩
/-- a module's name -/
theorem de_glob {x : Str} {d : D} {v : V} {u : Value} (hg : sc.s.names.lookup x = some .globalImplicit) (hm : G.mg x = some u) (r : RelV v u) (rd : ∀ H, RepD G H d v) (hd : (x == ("__debug__" : Str)) = false) : DE G N sc k (.Name x pos) (dCst d) :=
  ⟨fun X Wx ft tk => PE.imp (pe_glob (by show X.env.scope.names.lookup x = _; rw [ft.sc]; exact hg) (by rw [← (fits_gx ft).2]; exact hm) r hd) (cst_imp rd)⟩
end

/-! ### comparisons -/
def dCmp (op : CmpOp) (ma mb : Den W) : Den W := dBind ma fun a => dBind mb fun b => fun _ h => (cmpW op a b h).map fun r => (.ok (.d (.bl r)), h)
def dChain (op op' : CmpOp) (ma mb mc : Den W) : Den W := dBind ma fun a => dBind mb fun b => fun rho h => match cmpW op a b h with
  | some true => dBind mc (fun c _ h => (cmpW op' b c h).map fun r => (.ok (.d (.bl r)), h)) rho h
  | some false => some (.ok (.d (.bl false)), h)
  | none => none
def notSet : Expr → Bool
  | .Set .. => false
  | _ => true
theorem mark_of {op : CmpOp} {b : Expr} (h : notSet b = true) : behindInMarks op b = false := by
  cases b <;> first | rfl | (cases h)
section
variable {G : Gx} {N : List Str} {sc : Scp} {k : Nat} {pos : Pos} {a b c : Expr} {ma mb mc : Den W}
theorem cmp_imp {X : Cx} {Wx : WX} {op : CmpOp} (st : L2.St) (H : Hp) (Q : VK) (t : tden G Wx (dCmp op ma mb) st H Q) : tOp (rdc G (cmpW op)) (tden G Wx ma) (tden G Wx mb) st H Q := by
  obtain ⟨mu, rho, h, sr, p⟩ := t
  refine bind2_post sr p fun a b h2 x y H1 H2 mu1 mu2 sr2 e1 e2 ra rb p2 => ?_
  have p2' : Post G Wx mu2 H2 st Q ((cmpW op a b h2).map fun r => (.ok (.d (.bl r)), h2)) := p2
  cases e : cmpW op a b h2 with
  | none => rw [e] at p2'; exact p2'.elim
  | some r =>
    rw [e] at p2'
    exact ⟨mu2, h2, a, b, H, sr2.hr, ra, rb, r, e, p2' (.bl r) H2 mu2 sr2.hr (Ext.refl mu2 H2) (.bl r)⟩
theorem de_cmp {op : CmpOp} (ha : DE G N sc k a ma) (hb : DE G N sc k b mb) (hs : notSet b = true) : DE G N sc k (.Compare a [op] [b] pos) (dCmp op ma mb) :=
  ⟨fun X Wx ft tk => PE.imp (pe_cmpR (op_cmpW ft op) (ha.pe X Wx ft tk) (hb.pe X Wx ft tk) (mark_of hs)) (cmp_imp (X := X))⟩
theorem chain_imp {X : Cx} {Wx : WX} {op op' : CmpOp} (st : L2.St) (H : Hp) (Q : VK) (t : tden G Wx (dChain op op' ma mb mc) st H Q) : tChain (rdc G (cmpW op)) (rdc G (cmpW op')) (tden G Wx ma) (tden G Wx mb) (tden G Wx mc) st H Q := by
  obtain ⟨mu, rho, h, sr, p⟩ := t
  refine bind2_post sr p fun a b h2 x y H1 H2 mu1 mu2 sr2 e1 e2 ra rb p2 => ?_
  cases e : cmpW op a b h2 with
  | none => simp only [e] at p2; exact p2.elim
  | some r =>
    simp only [e] at p2
    refine ⟨mu2, h2, a, b, H, sr2.hr, ra, rb, r, e, r, rfl, ?_⟩
    cases r with
    | false => exact p2 (.bl false) H2 mu2 sr2.hr (Ext.refl mu2 H2) (.bl false)
    | true =>
      rw [if_pos rfl]
      refine bind_post sr2 p2 fun c h3 z H3 mu3 sr3 e3 rc p3 => ?_
      have p3' : Post G Wx mu3 H3 st Q ((cmpW op' b c h3).map fun r => (.ok (.d (.bl r)), h3)) := p3
      cases e' : cmpW op' b c h3 with
      | none => rw [e'] at p3'; exact p3'.elim
      | some r =>
        rw [e'] at p3'
        exact ⟨mu3, h3, b, c, H, sr3.hr, rb.ext e3, (rc.back e2).back e1, r, e', p3' (.bl r) H3 mu3 sr3.hr (Ext.refl mu3 H3) (.bl r)⟩
theorem de_chain {op op' : CmpOp} (ha : DE G N sc k a ma) (hb : DE G N sc k b mb) (hc : DE G N sc k c mc) (hs : notSet c = true) : DE G N sc k (.Compare a [op, op'] [b, c] pos) (dChain op op' ma mb mc) :=
  ⟨fun X Wx ft tk => PE.imp (pe_chain (op_cmpW ft op) (op_cmpW ft op') (ha.pe X Wx ft tk) (hb.pe X Wx ft tk) (hc.pe X Wx ft tk) (mark_of hs)) (chain_imp (X := X))⟩
/-- a bool as a test -/
def asB (m : Den W) : Den Bool := dBind m fun w => match w with
  | .d (.bl b) => fun _ h => some (.ok b, h)
  | _ => fun _ _ => none
theorem asB_imp {Wx : WX} {m : Den W} (st : L2.St) (H : Hp) (Q : Bool → Hp → Prop) (t : tdenT G Wx (asB m) st H Q) : tden G Wx m st H fun x H' => ∃ k, x = .bl k ∧ Q k H' := by
  obtain ⟨mu, rho, h, sr, p⟩ := t
  refine bindT_post sr p fun w h1 x H1 mu1 sr1 e1 rw' p1 => ?_
  split at p1
  · cases rw'
    exact ⟨_, rfl, p1 H1 mu1 sr1.hr (Ext.refl mu1 H1)⟩
  · exact p1.elim
theorem dt_cmp {op : CmpOp} (ha : DE G N sc k a ma) (hb : DE G N sc k b mb) (hs : notSet b = true) : DT G N sc k (.Compare a [op] [b] pos) (asB (dCmp op ma mb)) :=
  ⟨fun X Wx ft tk => PT.imp (pt_cmpR (op_cmpW ft op) (ha.pe X Wx ft tk) (hb.pe X Wx ft tk) (mark_of hs)) fun st H Q t => cmp_imp (X := X) st H _ (asB_imp st H Q t)⟩
theorem dt_chain {op op' : CmpOp} (ha : DE G N sc k a ma) (hb : DE G N sc k b mb) (hc : DE G N sc k c mc) (hs : notSet c = true) : DT G N sc k (.Compare a [op, op'] [b, c] pos) (asB (dChain op op' ma mb mc)) :=
  ⟨fun X Wx ft tk => PT.imp (pt_chain (op_cmpW ft op) (op_cmpW ft op') (ha.pe X Wx ft tk) (hb.pe X Wx ft tk) (hc.pe X Wx ft tk) (mark_of hs)) fun st H Q t => chain_imp (X := X) st H _ (asB_imp st H Q t)⟩

/-! ### truth -/
def truW (h : MH) : W → Option Bool
  | .d .non => some false
  | .d (.bl b) => some b
  | .d (.int i) => some (i != 0)
  | .d (.str x) => if x.length ≤ LIM then some ((x.length : Int) != 0) else none
  | .d (.tup ds) => some (!ds.isEmpty)
  | w => (lw h w).map fun ds => !ds.isEmpty
def tru (m : Den W) : Den Bool := dBind m fun w _ h => (truW h w).map fun b => (.ok b, h)
theorem RepDs.isEmpty {H : Hp} {ds : List D} {vs : List V} (r : RepDs G H ds vs) : ds.isEmpty = vs.isEmpty := by cases r <;> rfl
/-- which expressions are tested by their value alone -/
def plainTest : Expr → Bool
  | .Name .. => true
  | .Call .. => true
  | .Attribute .. => true
  | .Subscript .. => true
  | _ => false
theorem dt_tru (ha : DE G N sc k a ma) (hp : plainTest a = true) : DT G N sc k a (tru ma) := by
  refine ⟨fun X Wx ft tk => PT.imp (pt_truth (ha.pe X Wx ft tk) ?_) ?_⟩
  · intro whole
    cases a <;> first | rfl | (cases hp)
  · rintro st H Q ⟨mu, rho, h, sr, p⟩
    refine bindT_post sr p fun w h1 x H1 mu1 sr1 e1 rw' p1 => ?_
    have p1' : PostT G Wx mu1 H1 st Q ((truW h1 w).map fun b => (.ok b, h1)) := p1
    cases e : truW h1 w with
    | none => rw [e] at p1'; exact p1'.elim
    | some b =>
      rw [e] at p1'
      refine ⟨b, ?_, p1' H1 mu1 sr1.hr (Ext.refl mu1 H1)⟩
      have hK := (fits_gx ft).1
      have lst : ∀ ds, lw h1 w = some ds → b = !ds.isEmpty → TruV X.K x H1 b := fun ds e1 e2 => by
        obtain ⟨a, vs, rfl, a1, a2⟩ := lw_rep sr1.hr rw' e1
        exact .inl ⟨vs, .inl a1, by rw [e2, a2.isEmpty]⟩
      have opt : (lw h1 w).map (fun ds => !ds.isEmpty) = some b → TruV X.K x H1 b := fun q => by
        obtain ⟨ds, q1, q2⟩ := Option.map_eq_some_iff.mp q
        exact lst ds q1 q2.symm
      unfold truW at e
      split at e
      · cases (Option.some.inj e); cases rw'; rfl
      · cases (Option.some.inj e); cases rw'; rfl
      · cases (Option.some.inj e); cases rw'; rfl
      · split at e
        · rename_i hz
          cases (Option.some.inj e); cases rw'
          exact ⟨by rw [lim_eq]; exact hz, rfl⟩
        · cases e
      · cases (Option.some.inj e)
        obtain ⟨a, vs, rfl, a1, a2⟩ := tw_rep rw' rfl
        exact .inr (.inl ⟨vs, hK ▸ a1.sq, by rw [a2.isEmpty]⟩)
      · exact opt e

/-! ### and, or, not, if -/
def dNot (m : Den Bool) : Den Bool := dBind m fun b _ h => some (.ok (!b), h)
theorem dt_not {m : Den Bool} (ha : DT G N sc k a m) : DT G N sc k (.UnaryOp .Not a pos) (dNot m) :=
  ⟨fun X Wx ft tk => PT.imp (pt_not (ha.pt X Wx ft tk)) fun st H Q ⟨mu, rho, h, sr, p⟩ => bindTT_post sr p fun b h1 H1 mu1 sr1 e1 p1 => p1 H1 mu1 sr1.hr (Ext.refl mu1 H1)⟩
def dAnds : List (Den Bool) → Den Bool
  | [] => fun _ _ => none
  | [m] => m
  | m :: ms => dBind m fun b => if b = true then dAnds ms else fun _ h => some (.ok false, h)
def dOrs : List (Den Bool) → Den Bool
  | [] => fun _ _ => none
  | [m] => m
  | m :: ms => dBind m fun b => if b = true then (fun _ h => some (.ok true, h)) else dOrs ms
inductive DTs (G : Gx) (N : List Str) (sc : Scp) (k : Nat) : List Expr → List (Den Bool) → Prop
  | nil : DTs G N sc k [] []
  | cons {e : Expr} {m : Den Bool} {es : List Expr} {ms : List (Den Bool)} : DT G N sc k e m → DTs G N sc k es ms → DTs G N sc k (e :: es) (m :: ms)
theorem dw_and : ∀ {es : List Expr} {ms : List (Den Bool)}, DTs G N sc k es ms → DW G N sc k (.BoolOp .And es pos) (dAnds ms)
  | _, _, .nil => ⟨fun X Wx ft tk => ⟨fun _ _ _ _ _ _ _ t => by obtain ⟨_, _, _, _, p⟩ := t; exact p.elim⟩⟩
  | _, _, .cons h .nil => ⟨fun X Wx ft tk => pw_and1 (h.pt X Wx ft tk)⟩
  | _, _, .cons h (.cons h2 t) => ⟨fun X Wx ft tk => by
      have ih := (dw_and (.cons h2 t)).pw X Wx ft tk
      have q := pw_and (pos := pos) (h.pt X Wx ft tk) ih
      refine ⟨fun wh pins s st H Q I tq => q.run wh pins s st H Q I ?_⟩
      obtain ⟨mu, rho, h', sr, p⟩ := tq
      refine bindTT_post sr p fun b h1 H1 mu1 sr1 e1 p1 => ?_
      cases b with
      | true => rw [if_pos rfl] at p1 ⊢; exact ⟨mu1, rho, h1, sr1, p1⟩
      | false => rw [if_neg Bool.false_ne_true] at p1 ⊢; exact p1 H1 mu1 sr1.hr (Ext.refl mu1 H1)⟩
theorem dw_or : ∀ {es : List Expr} {ms : List (Den Bool)}, DTs G N sc k es ms → DW G N sc k (.BoolOp .Or es pos) (dOrs ms)
  | _, _, .nil => ⟨fun X Wx ft tk => ⟨fun _ _ _ _ _ _ _ t => by obtain ⟨_, _, _, _, p⟩ := t; exact p.elim⟩⟩
  | _, _, .cons h .nil => ⟨fun X Wx ft tk => pw_or1 (h.pt X Wx ft tk)⟩
  | _, _, .cons h (.cons h2 t) => ⟨fun X Wx ft tk => by
      have ih := (dw_or (.cons h2 t)).pw X Wx ft tk
      have q := pw_or (pos := pos) (h.pt X Wx ft tk) ih
      refine ⟨fun wh pins s st H Q I tq => q.run wh pins s st H Q I ?_⟩
      obtain ⟨mu, rho, h', sr, p⟩ := tq
      refine bindTT_post sr p fun b h1 H1 mu1 sr1 e1 p1 => ?_
      cases b with
      | true => rw [if_pos rfl] at p1 ⊢; exact p1 H1 mu1 sr1.hr (Ext.refl mu1 H1)
      | false => rw [if_neg Bool.false_ne_true] at p1 ⊢; exact ⟨mu1, rho, h1, sr1, p1⟩⟩
theorem dt_and {es : List Expr} {ms : List (Den Bool)} (h : DTs G N sc k es ms) : DT G N sc k (.BoolOp .And es pos) (dAnds ms) := ⟨fun X Wx ft tk => ((dw_and h).pw X Wx ft tk).pt⟩
theorem dt_or {es : List Expr} {ms : List (Den Bool)} (h : DTs G N sc k es ms) : DT G N sc k (.BoolOp .Or es pos) (dOrs ms) := ⟨fun X Wx ft tk => ((dw_or h).pw X Wx ft tk).pt⟩
def dIf (t : Den Bool) (ma mb : Den W) : Den W := dBind t fun b => if b = true then ma else mb
theorem de_if {t : Den Bool} (hc : DT G N sc k c t) (ha : DE G N sc k a ma) (hb : DE G N sc k b mb) : DE G N sc k (.IfExp c a b pos) (dIf t ma mb) :=
  ⟨fun X Wx ft tk => PE.imp (pe_ifExp (hc.pt X Wx ft tk) (ha.pe X Wx ft tk) (hb.pe X Wx ft tk)) fun st H Q ⟨mu, rho, h, sr, p⟩ => bindTE_post sr p fun b h1 H1 mu1 sr1 e1 p1 => by
    cases b with
    | true => rw [if_pos rfl] at p1 ⊢; exact ⟨mu1, rho, h1, sr1, p1⟩
    | false => rw [if_neg Bool.false_ne_true] at p1 ⊢; exact ⟨mu1, rho, h1, sr1, p1⟩⟩
/-- as values -/
def dAndV : List (Den W) → Den W
  | [] => fun _ _ => none
  | [m] => m
  | m :: ms => dBind m fun w => match w with
    | .d (.bl true) => dAndV ms
    | .d (.bl false) => fun _ h => some (.ok (.d (.bl false)), h)
    | _ => fun _ _ => none
def dOrV : List (Den W) → Den W
  | [] => fun _ _ => none
  | [m] => m
  | m :: ms => dBind m fun w => match w with
    | .d (.bl true) => fun _ h => some (.ok (.d (.bl true)), h)
    | .d (.bl false) => dOrV ms
    | _ => fun _ _ => none
inductive DEs (G : Gx) (N : List Str) (sc : Scp) (k : Nat) : List Expr → List (Den W) → Prop
  | nil : DEs G N sc k [] []
  | cons {e : Expr} {m : Den W} {es : List Expr} {ms : List (Den W)} : DE G N sc k e m → DEs G N sc k es ms → DEs G N sc k (e :: es) (m :: ms)
theorem de_and : ∀ {es : List Expr} {ms : List (Den W)}, DEs G N sc k es ms → DE G N sc k (.BoolOp .And es pos) (dAndV ms)
  | _, _, .nil => ⟨fun X Wx ft tk => ⟨fun _ _ _ _ _ _ t => by obtain ⟨_, _, _, _, p⟩ := t; exact p.elim⟩⟩
  | _, _, .cons h .nil => ⟨fun X Wx ft tk => pe_one (h.pe X Wx ft tk)⟩
  | _, _, .cons h (.cons h2 t) => ⟨fun X Wx ft tk => PE.imp (pe_and (h.pe X Wx ft tk) ((de_and (.cons h2 t)).pe X Wx ft tk)) fun st H Q ⟨mu, rho, h', sr, p⟩ =>
      bind_post sr p fun w h1 x H1 mu1 sr1 e1 rw' p1 => by
        split at p1
        · cases rw'; exact ⟨true, rfl, by rw [if_pos rfl]; exact ⟨mu1, rho, h1, sr1, p1⟩⟩
        · cases rw'; exact ⟨false, rfl, by rw [if_neg Bool.false_ne_true]; exact p1 (.bl false) H1 mu1 sr1.hr (Ext.refl mu1 H1) (.bl false)⟩
        · exact p1.elim⟩
theorem de_or : ∀ {es : List Expr} {ms : List (Den W)}, DEs G N sc k es ms → DE G N sc k (.BoolOp .Or es pos) (dOrV ms)
  | _, _, .nil => ⟨fun X Wx ft tk => ⟨fun _ _ _ _ _ _ t => by obtain ⟨_, _, _, _, p⟩ := t; exact p.elim⟩⟩
  | _, _, .cons h .nil => ⟨fun X Wx ft tk => pe_one (h.pe X Wx ft tk)⟩
  | _, _, .cons h (.cons h2 t) => ⟨fun X Wx ft tk => PE.imp (pe_or (h.pe X Wx ft tk) ((de_or (.cons h2 t)).pe X Wx ft tk)) fun st H Q ⟨mu, rho, h', sr, p⟩ =>
      bind_post sr p fun w h1 x H1 mu1 sr1 e1 rw' p1 => by
        split at p1
        · cases rw'; exact ⟨true, rfl, by rw [if_pos rfl]; exact p1 (.bl true) H1 mu1 sr1.hr (Ext.refl mu1 H1) (.bl true)⟩
        · cases rw'; exact ⟨false, rfl, by rw [if_neg Bool.false_ne_true]; exact ⟨mu1, rho, h1, sr1, p1⟩⟩
        · exact p1.elim⟩
/-- not, as a value -/
def dNotV (m : Den Bool) : Den W := dBind m fun b _ h => some (.ok (.d (.bl (!b))), h)
/-- minus -/
def negW : W → Option W
  | .d (.int i) => some (.d (.int (-i)))
  | .d (.bl b) => some (.d (.int (-(b2 b))))
  | _ => none
theorem gives_bool_neg (b : Bool) : Gives (Builtin.«int.__neg__» ⟨[.bool b], []⟩) (.int (-(b2 b))) := .of_eq (by cases b <;> rfl)
theorem un_negW {X : Cx} : UnR X (unaryOp .USub) (fun x H Q => (∃ i, x = .int i ∧ Q (.int (-i)) H) ∨ ∃ b, x = .bl b ∧ Q (.int (-(b2 b))) H) := by
  intro pins s σ H x v Q I rx h
  rcases h with ⟨i, rfl, q⟩ | ⟨b, rfl, q⟩
  · exact un_neg pins s σ H _ v Q I rx ⟨i, rfl, q⟩
  · cases rx
    exact PySem.unaryOp_gives (op := .USub) (PySem.typeIs_bool s b) rfl PySem.F.slot_bool_neg PySem.F.entry_int_neg (PySem.F.args_int_neg_1 _) (gives_bool_neg b) ⟨.int (-(b2 b)), H, I.tok _, ⟨_, rfl⟩, q⟩
def dNeg (m : Den W) : Den W := dBind m fun w _ h => (negW w).map fun r => (.ok r, h)
theorem de_neg (ha : DE G N sc k a ma) : DE G N sc k (.UnaryOp .USub a pos) (dNeg ma) :=
  ⟨fun X Wx ft tk => PE.imp (pe_un un_negW (ha.pe X Wx ft tk)) fun st H Q ⟨mu, rho, h, sr, p⟩ => bind_post sr p fun w h1 x H1 mu1 sr1 e1 rw' p1 => by
    have p1' : Post G Wx mu1 H1 st Q ((negW w).map fun r => (.ok r, h1)) := p1
    unfold negW at p1'
    split at p1'
    · cases rw'; exact .inl ⟨_, rfl, p1' (.int _) H1 mu1 sr1.hr (Ext.refl mu1 H1) (.int _)⟩
    · cases rw'; exact .inr ⟨_, rfl, p1' (.int _) H1 mu1 sr1.hr (Ext.refl mu1 H1) (.int _)⟩
    · exact p1'.elim⟩
end
end Dn

set_option maxHeartbeats 4000000
namespace Dn
open PySem PySem.Spec PyProof.Rows L2

/-! ### a list is locked for good -/
section
variable {X : Cx} {pins : List (Addr × Obj)} {st : L2.St} {H : Hp} {s : Shared} {a : Addr} {xs : List V}
theorem inv_frz (I : Inv X pins st H s) (h : H a = some (.lst xs)) : ∃ o, Inv X pins st (upd H a (.frz o (.lst xs))) s := by
  obtain ⟨z, its, n, r, e⟩ := I.hok a _ h
  refine ⟨{ cls := .type "list", data := .seq its.toArray n }, ?_⟩
  have nb : ∀ b u, H b = some u → (∀ ys, u ≠ .lst ys) → b ≠ a := fun b u q hn z => by
    subst z
    rw [h] at q
    exact hn xs (Option.some.inj q).symm
  have un : Un X.fs [] H (upd H a (.frz { cls := .type "list", data := .seq its.toArray n } (.lst xs))) s.heap s.heap := by
    refine ⟨fun b o q _ _ _ => q, fun b o q _ _ _ => ⟨o.slots, q⟩, fun b o q hn _ => ?_, fun b o q _ => ⟨o, q⟩, fun b ys q => ?_, fun b o u q => ?_, fun b ps q => ⟨#[], ?_⟩⟩
    · rw [upd_ne (fun z => by rw [z, h] at hn; cases hn)]; exact hn
    · rw [upd_ne (nb b _ q fun _ z => by cases z)]; exact q
    · rw [upd_ne (nb b _ q fun _ z => by cases z)]; exact q
    · rw [upd_ne (nb b _ q fun _ z => by cases z), q]; simp
  have hok : HOk X.prog X.w (upd H a (.frz { cls := .type "list", data := .seq its.toArray n } (.lst xs))) s.heap := by
    intro b u q
    by_cases hb : b = a
    · subst hb
      rw [upd_same] at q
      cases q
      exact ⟨e, z, its, n, r, e⟩
    · rw [upd_ne hb] at q
      exact (I.hok b u q).stay (fun c v _ r => r) (fun c r => by rw [upd_ne (nb c _ r fun _ z => by cases z)]; exact r) (fun c ys r => by rw [upd_ne (nb c _ r fun _ z => by cases z)]; exact r)
  exact I.un (t' := s.toks) un hok
end
theorem Stay.frz_new {H : Hp} {a : Addr} {xs : List V} {o : Obj} (h : H a = some (.lst xs)) : Stay H (upd H a (.frz o (.lst xs))) :=
  ⟨fun b ys e => by rw [upd_ne (fun z => by rw [z, h] at e; cases e)]; exact e, fun b o u e => by rw [upd_ne (fun z => by rw [z, h] at e; cases e)]; exact e⟩
theorem HR.frz {G : Gx} {mu : Mu} {h : MH} {H : Hp} {a : Addr} {xs : List V} {o : Obj} (r : HR G mu h H) (ha : H a = some (.lst xs)) (hn : a ∉ addrs mu) : HR G mu h (upd H a (.frz o (.lst xs))) := by
  have nb : ∀ b u, H b = some u → (∀ ys, u ≠ .lst ys) → b ≠ a := fun b u q hl z => by
    subst z
    rw [ha] at q
    exact hl xs (Option.some.inj q).symm
  refine ⟨r.len, r.nd, fun n p ob h1 h2 => ?_, fun p hp => ?_, fun b hb => ?_⟩
  · refine (r.ob n p ob h1 h2).keep (Stay.frz_new ha) (fun b hb u e _ => ?_) (fun b x e => ?_)
    · rw [upd_ne (fun z => hn (by subst z; rcases List.mem_cons.mp hb with z | z; exact z ▸ addrs_mem h1; exact addrs_mem2 h1 z))]; exact e
    · rw [upd_ne (nb b _ e fun _ z => by cases z)]; exact e
  · obtain ⟨ps, h1, h2, h3⟩ := r.tabs p hp
    refine ⟨ps, by rw [upd_ne (nb _ _ h1 fun _ z => by cases z)]; exact h1, h2, fun pos cv hc => ?_⟩
    obtain ⟨c, e1, e2⟩ := h3 pos cv hc
    exact ⟨c, e1, by rw [upd_ne (nb _ _ e2 fun _ z => by unfold LamX.CodeO at z; cases z)]; exact e2⟩
  · obtain ⟨u, e, nt⟩ := r.live b hb
    exact ⟨u, by rw [upd_ne (fun z => hn (by rw [← z]; exact hb))]; exact e, nt⟩
/-- a fresh list made data -/
def datW : W → Option W
  | .d x => some (.d x)
  | .own ds => some (.d (.lst ds))
  | _ => none
def dDat (m : Den W) : Den W := dBind m fun w _ h => (datW w).map fun r => (.ok r, h)
theorem frz_ok {G : Gx} {mu mu1 : Mu} {h1 : MH} {H H1 : Hp} {ds : List D} {v : V} {X : Cx} {pins : List (Addr × Obj)} {st : L2.St} {s : Shared} (I : Inv X pins st H1 s) (hr : HR G mu1 h1 H1) (ex : Ext mu H mu1 H1) (r : RepW G mu1 H H1 (.own ds) v) :
    ∃ H2, Inv X pins st H2 s ∧ HR G mu1 h1 H2 ∧ Ext mu H mu1 H2 ∧ RepD G H2 (.lst ds) v ∧ (∀ b u, H1 b = some u → v ≠ .ref b → H2 b = some u) := by
  obtain ⟨a, vs, rfl, e1, e2, e3, e4⟩ := r
  obtain ⟨o, I2⟩ := inv_frz I e1
  refine ⟨_, I2, hr.frz e1 e3, ⟨ex.pre, fun b u q hn ht => ?_, ex.fresh, ex.stay.trans (Stay.frz_new e1), fun b q => ?_⟩, RepD.lst ⟨o, upd_same⟩ (e2.stay (Stay.frz_new e1)), fun b u q hn => by rw [upd_ne (fun z => hn (by rw [z]))]; exact q⟩
  · rw [upd_ne (fun z => by rw [z, e4] at q; cases q)]
    exact ex.keep b u q hn ht
  · by_cases hb : b = a
    · rw [hb]; exact e4
    · rw [upd_ne hb] at q; exact ex.there b q
section
variable {G : Gx} {N : List Str} {sc : Scp} {k : Nat} {pos : Pos} {a b c : Expr} {ma mb mc : Den W}
theorem de_dat (ha : DE G N sc k a ma) : DE G N sc k a (dDat ma) := by
  refine ⟨fun X Wx ft tk => ⟨fun pins s st H Q I t => ?_⟩⟩
  obtain ⟨mu, rho, h, sr, p⟩ := t
  have p' : Post G Wx mu H st Q (mBind (ma rho) (fun w h => (datW w).map fun r => (.ok r, h)) h) := p
  unfold mBind at p'
  refine thn ((ha.pe X Wx ft tk).run pins s st H (fun x H1 => ∃ w h1 mu1, ma rho h = some (.ok w, h1) ∧ HR G mu1 h1 H1 ∧ Ext mu H mu1 H1 ∧ RepW G mu1 H H1 w x) I ⟨mu, rho, h, sr, ?_⟩) fun v s1 ⟨x, H1, I1, r1, w, h1, mu1, e, hr, ex, rw'⟩ => ?_
  · rcases e : ma rho h with _ | ⟨w | ⟨c, fs⟩, h1⟩
    · rw [e] at p'; exact p'.elim
    · exact fun v H1 mu1 hr ex rw' => ⟨w, h1, mu1, rfl, hr, ex, rw'⟩
    · rw [e] at p'; exact p'
  · rw [e] at p'
    cases w with
    | d y => exact ⟨x, H1, I1, r1, p' x H1 mu1 hr ex rw'⟩
    | own ds =>
      obtain ⟨H2, I2, hr2, ex2, rd, _⟩ := frz_ok I1 hr ex rw'
      exact ⟨x, H2, I2, r1, p' x H2 mu1 hr2 ex2 rd⟩
    | bor ds => exact p'.elim
    | od => exact p'.elim
    | ref n => exact p'.elim
end

/-! ### argument lists, displays -/
def dNil : Den (List W) := fun _ h => some (.ok [], h)
def dCons (m : Den W) (ms : Den (List W)) : Den (List W) := dBind m fun w => dBind ms fun ws _ h => some (.ok (w :: ws), h)
section
variable {G : Gx} {N : List Str} {sc : Scp} {k : Nat} {pos : Pos} {e : Expr} {es : List Expr} {m : Den W} {ms : Den (List W)}
theorem bindAW0 {Wx : WX} {st : L2.St} {H0 H : Hp} {mu0 mu : Mu} {rho : Rho} {h : MH} {Q : List V → Hp → Prop} {ma : Den W} {f : W → Den (List W)} {R : V → Hp → Prop} (sr : StR G mu rho h st H) (e0 : Ext mu0 H0 mu H) (p : PostA G Wx mu0 H0 st Q (dBind ma f rho h))
    (hf : ∀ w h1 x H1 mu1, StR G mu1 rho h1 st H1 → Ext mu0 H0 mu1 H1 → RepW G mu1 H0 H1 w x → PostA G Wx mu0 H0 st Q (f w rho h1) → R x H1) : tden G Wx ma st H R := by
  refine ⟨mu, rho, h, sr, ?_⟩
  unfold dBind mBind at p
  rcases e : ma rho h with _ | ⟨w | ⟨c, fs⟩, h1⟩
  · rw [e] at p; exact p.elim
  · rw [e] at p
    intro x H1 mu1 hr ex rw'
    exact hf w h1 x H1 mu1 (sr.ext hr ex) (e0.trans ex) (rw'.back e0) p
  · rw [e] at p
    exact fun cls d H' mu' hr ex rx => p cls d H' mu' hr (e0.trans ex) rx
theorem bindAA0 {Wx : WX} {st : L2.St} {H0 H : Hp} {mu0 mu : Mu} {rho : Rho} {h : MH} {Q : List V → Hp → Prop} {ma : Den (List W)} {f : List W → Den (List W)} {R : List V → Hp → Prop} (sr : StR G mu rho h st H) (e0 : Ext mu0 H0 mu H) (p : PostA G Wx mu0 H0 st Q (dBind ma f rho h))
    (hf : ∀ ws h1 xs H1 mu1, StR G mu1 rho h1 st H1 → Ext mu H mu1 H1 → RepWs G mu1 H H1 ws xs → PostA G Wx mu0 H0 st Q (f ws rho h1) → R xs H1) : tdenA G Wx ma st H R := by
  refine ⟨mu, rho, h, sr, ?_⟩
  unfold dBind mBind at p
  rcases e : ma rho h with _ | ⟨w | ⟨c, fs⟩, h1⟩
  · rw [e] at p; exact p.elim
  · rw [e] at p
    intro x H1 mu1 hr ex rw'
    exact hf w h1 x H1 mu1 (sr.ext hr ex) ex rw' p
  · rw [e] at p
    exact fun cls d H' mu' hr ex rx => p cls d H' mu' hr (e0.trans ex) rx
theorem da_nil : DA G N sc k [] dNil := ⟨fun X Wx ft tk => PA.imp pa_nil fun st H Q ⟨mu, rho, h, sr, p⟩ => p [] H mu sr.hr (Ext.refl mu H) .nil⟩
/-- which expressions are plain arguments -/
def notStar : Expr → Bool
  | .Starred .. => false
  | _ => true
theorem star_of {env : Env} (h : notStar e = true) : starEach (e :: es) env = (false, eval e env) :: starEach es env := by
  cases e <;> first | rfl | (cases h)
theorem da_cons (hm : DE G N sc k e m) (ht : DA G N sc k es ms) (hs : notStar e = true) : DA G N sc k (e :: es) (dCons m ms) := by
  refine ⟨fun X Wx ft tk => PA.imp (pa_cons (hm.pe X Wx ft tk) (ht.pa X Wx ft tk) (star_of hs)) ?_⟩
  rintro st H Q ⟨mu, rho, h, sr, p⟩
  refine bindAW0 sr (Ext.refl mu H) p fun w h1 x H1 mu1 sr1 e1 rw' p1 => bindAA0 sr1 e1 p1 fun ws h2 xs H2 mu2 sr2 e2 rws p2 => ?_
  exact p2 (x :: xs) H2 mu2 sr2.hr (e1.trans e2) (.cons (rw'.ext e2) (fun ds hd es v' hm z => by
    obtain ⟨a, ha, hn⟩ := rws.fresh es v' hm
    subst hd
    subst z
    obtain ⟨b, vs, hb, k1, _⟩ := rw'
    rw [ha] at hb
    cases hb
    rw [k1] at hn; cases hn) (rws.back e1))
end
end Dn

set_option maxHeartbeats 4000000
namespace Dn
open PySem PySem.Spec PyProof.Rows L2

/-! ### displays -/
def allD : List W → Option (List D)
  | [] => some []
  | .d x :: ws => (allD ws).map (x :: ·)
  | _ :: _ => none
theorem allD_rep {G : Gx} {mu : Mu} {H0 H : Hp} : ∀ {ws : List W} {vs : List V} {ds : List D}, RepWs G mu H0 H ws vs → allD ws = some ds → RepDs G H ds vs
  | [], _, _, .nil, e => by cases e; exact .nil
  | .d x :: ws, _, _, .cons r _ t, e => by
    unfold allD at e
    obtain ⟨es, e1, rfl⟩ := Option.map_eq_some_iff.mp e
    exact .cons r (allD_rep t e1)
  | .own _ :: _, _, _, _, e => by cases e
  | .bor _ :: _, _, _, _, e => by cases e
  | .od :: _, _, _, _, e => by cases e
  | .ref _ :: _, _, _, _, e => by cases e
/-- a call by values that leaves our objects as they are -/
def rdN (G : Gx) (f : List W → MH → Option W) : List V → Hp → VK → Prop := fun xs H Q => ∃ mu h ws H0, HR G mu h H ∧ RepWs G mu H0 H ws xs ∧ ∃ w, f ws h = some w ∧ ∀ v H', HR G mu h H' → Ext mu H mu H' → RepW G mu H H' w v → Q v H'
def dApp (f : List W → MH → Option W) (ms : Den (List W)) : Den W := dBind ms fun ws _ h => (f ws h).map fun w => (.ok w, h)
theorem app_post {G : Gx} {Wx : WX} {st : L2.St} {H : Hp} {Q : VK} {f : List W → MH → Option W} {ms : Den (List W)} (t : tden G Wx (dApp f ms) st H Q) : tdenA G Wx ms st H fun xs H1 => rdN G f xs H1 Q := by
  obtain ⟨mu, rho, h, sr, p⟩ := t
  refine bindA_post sr p fun ws h1 xs H1 mu1 sr1 e1 rws p1 => ?_
  have p1' : Post G Wx mu1 H1 st Q ((f ws h1).map fun w => (.ok w, h1)) := p1
  cases e : f ws h1 with
  | none => rw [e] at p1'; exact p1'.elim
  | some w =>
    rw [e] at p1'
    exact ⟨mu1, h1, ws, H, sr1.hr, rws, w, e, fun v H' hr ex rw' => p1' v H' mu1 hr ex rw'⟩
def tupF (ws : List W) (_ : MH) : Option W := match allD ws with
  | some ds => if ds.length ≤ LIM then some (.d (.tup ds)) else none
  | none => none
def lstF (ws : List W) (_ : MH) : Option W := match allD ws with
  | some ds => if ds.length ≤ LIM then some (.own ds) else none
  | none => none
section
variable {G : Gx} {N : List Str} {sc : Scp} {k : Nat} {pos : Pos} {es : List Expr} {ms : Den (List W)}
theorem de_tup {x1 : Nat} (ha : DA G N sc k es ms) : DE G N sc k (.Tuple es x1 pos) (dApp tupF ms) := by
  refine ⟨fun X Wx ft tk => PE.imp (pe_tupN (ha.pa X Wx ft tk)) fun st H Q t => ?_⟩
  obtain ⟨mu, rho, h, sr, p⟩ := app_post t
  refine ⟨mu, rho, h, sr, ?_⟩
  rcases e : ms rho h with _ | ⟨ws | ⟨c, fs⟩, h1⟩
  · rw [e] at p; exact p
  · rw [e] at p
    intro xs H1 mu1 hr ex rws
    obtain ⟨mu2, h2, ws2, H0, hr2, rws2, w, e2, q⟩ := p xs H1 mu1 hr ex rws
    unfold tupF at e2
    split at e2
    · rename_i ds hd
      split at e2
      · rename_i hz
        cases (Option.some.inj e2)
        have rd := allD_rep rws2 hd
        exact ⟨by rw [lim_eq, ← rd.length]; exact hz, fun p o hp ho => tup_new hr2 rd q p o hp ho⟩
      · cases e2
    · cases e2
  · rw [e] at p; exact p
theorem de_lst (ha : DA G N sc k es ms) : DE G N sc k (.List es pos) (dApp lstF ms) := by
  refine ⟨fun X Wx ft tk => PE.imp (pe_lst (ha.pa X Wx ft tk)) fun st H Q t => ?_⟩
  obtain ⟨mu, rho, h, sr, p⟩ := app_post t
  refine ⟨mu, rho, h, sr, ?_⟩
  rcases e : ms rho h with _ | ⟨ws | ⟨c, fs⟩, h1⟩
  · rw [e] at p; exact p
  · rw [e] at p
    intro xs H1 mu1 hr ex rws
    obtain ⟨mu2, h2, ws2, H0, hr2, rws2, w, e2, q⟩ := p xs H1 mu1 hr ex rws
    unfold lstF at e2
    split at e2
    · rename_i ds hd
      split at e2
      · rename_i hz
        cases (Option.some.inj e2)
        have rd := allD_rep rws2 hd
        exact ⟨by rw [lim_eq, ← rd.length]; exact hz, fun p hp => own_new hr2 rd q p hp (hr2.nin hp)⟩
      · cases e2
    · cases e2
  · rw [e] at p; exact p

/-! ### calls of built-ins -/
theorem stars_of {env : Env} : ∀ {es : List Expr}, es.all notStar = true → (backTo pos (starEach es env)).any (·.1) = false
  | [], _ => rfl
  | e :: es, h => by
    rw [List.all_cons, Bool.and_eq_true] at h
    rw [star_of h.1]
    show (false || (backTo pos (starEach es env)).any (·.1)) = false
    rw [Bool.false_or]
    exact stars_of h.2
theorem de_callB {x : Str} {id : String} {p : Pos} {e : Expr} {f : List W → MH → Option W} (hc : ∀ X, Fits X G N sc k → CallR X (.builtin id) (rdN G f)) (hg : sc.s.names.lookup x = some .globalImplicit) (hm : G.mg x = none) (hv : bootBuiltins x = some (.builtin id)) (ha : DA G N sc k (e :: es) ms)
    (hs : (e :: es).all notStar = true) (hn : x ≠ "__name__") (hd : (x == ("__debug__" : Str)) = false) : DE G N sc k (.Call (.Name x p) (e :: es) [] pos) (dApp f ms) := by
  have hs' := hs
  rw [List.all_cons, Bool.and_eq_true] at hs
  refine ⟨fun X Wx ft tk => PE.imp (pe_callB (hc X ft) (by show X.env.scope.names.lookup x = _; rw [ft.sc]; exact hg) (by rw [← (fits_gx ft).2]; exact hm) hv (ha.pa X Wx ft tk) hn hd (star_of hs.1) (stars_of hs.2)) fun st H Q t => app_post t⟩
theorem de_callTy {x : Str} {T : String} {p : Pos} {e : Expr} {f : List W → MH → Option W} (hc : ∀ X, Fits X G N sc k → CallR X (.type T) (rdN G f)) (hg : sc.s.names.lookup x = some .globalImplicit) (hm : G.mg x = none) (hv : bootBuiltins x = some (.type T)) (ha : DA G N sc k (e :: es) ms)
    (hs : (e :: es).all notStar = true) (hn : x ≠ "__name__") (hd : (x == ("__debug__" : Str)) = false) : DE G N sc k (.Call (.Name x p) (e :: es) [] pos) (dApp f ms) := by
  rw [List.all_cons, Bool.and_eq_true] at hs
  refine ⟨fun X Wx ft tk => PE.imp (pe_callTy (hc X ft) (by show X.env.scope.names.lookup x = _; rw [ft.sc]; exact hg) (by rw [← (fits_gx ft).2]; exact hm) hv (ha.pa X Wx ft tk) hn hd (star_of hs.1) (stars_of hs.2)) fun st H Q t => app_post t⟩
end

/-! ### the built-ins -/
def intsD : List D → Option (List Int)
  | [] => some []
  | .int i :: ds => (intsD ds).map (i :: ·)
  | _ :: _ => none
def bools : List D → Option (List Bool)
  | [] => some []
  | .bl i :: ds => (bools ds).map (i :: ·)
  | _ :: _ => none
theorem ints_eq : ∀ {ds : List D} {ns : List Int}, intsD ds = some ns → ds = ns.map D.int
  | [], _, e => by cases e; rfl
  | d :: ds, ns, e => by
    cases d with
    | int i =>
      obtain ⟨ms, e1, rfl⟩ := Option.map_eq_some_iff.mp (show (intsD ds).map (i :: ·) = some ns from e)
      rw [ints_eq e1]; rfl
    | _ => cases e
theorem bools_eq : ∀ {ds : List D} {ns : List Bool}, bools ds = some ns → ds = ns.map D.bl
  | [], _, e => by cases e; rfl
  | d :: ds, ns, e => by
    cases d with
    | bl i =>
      obtain ⟨ms, e1, rfl⟩ := Option.map_eq_some_iff.mp (show (bools ds).map (i :: ·) = some ns from e)
      rw [bools_eq e1]; rfl
    | _ => cases e
theorem ints_map : ∀ ns : List Int, intsD (ns.map D.int) = some ns
  | [] => rfl
  | n :: ns => by show (intsD (ns.map D.int)).map (n :: ·) = _; rw [ints_map ns]; rfl
theorem bools_map : ∀ ns : List Bool, bools (ns.map D.bl) = some ns
  | [] => rfl
  | n :: ns => by show (bools (ns.map D.bl)).map (n :: ·) = _; rw [bools_map ns]; rfl
def lenF (ws : List W) (h : MH) : Option W := match ws with
  | [.d (.str x)] => if x.length ≤ LIM then some (.d (.int x.length)) else none
  | [w] => (qw h w).map fun ds => .d (.int ds.length)
  | _ => none
def sumF (ws : List W) (h : MH) : Option W := match ws with
  | [w] => match lw h w with
    | some ds => (intsD ds).map fun ns => .d (.int ns.sum)
    | none => none
  | _ => none
def allF (ws : List W) (h : MH) : Option W := match ws with
  | [w] => match lw h w with
    | some ds => (bools ds).map fun bs => .d (.bl (bs.all id))
    | none => none
  | _ => none
def anyF (ws : List W) (h : MH) : Option W := match ws with
  | [w] => match lw h w with
    | some ds => (bools ds).map fun bs => .d (.bl (bs.any id))
    | none => none
  | _ => none
def listF (ws : List W) (h : MH) : Option W := match ws with
  | [w] => (qw h w).map .own
  | _ => none
def tupleF (ws : List W) (h : MH) : Option W := match ws with
  | [w] => (qw h w).map fun ds => .d (.tup ds)
  | _ => none
def intF (ws : List W) (_ : MH) : Option W := match ws with
  | [.d (.int i)] => some (.d (.int i))
  | [.d (.bl b)] => some (.d (.int (b2 b)))
  | [.d (.str x)] => if x.length ≤ 640 then (PySem.intText? x).map fun i => .d (.int i) else none
  | _ => none
def absF (ws : List W) (_ : MH) : Option W := match ws with
  | [.d (.int i)] => some (.d (.int (if i < 0 then -i else i)))
  | _ => none
def maxF (ws : List W) (_ : MH) : Option W := match ws with
  | [.d (.int i), .d (.int j)] => some (.d (.int (if j > i then j else i)))
  | _ => none
def minF (ws : List W) (_ : MH) : Option W := match ws with
  | [.d (.int i), .d (.int j)] => some (.d (.int (if j < i then j else i)))
  | _ => none
def boolS (b : Bool) : Str := if b then "True" else "False"
def strF (ws : List W) (_ : MH) : Option W := match ws with
  | [.d (.int i)] => if i.natAbs < 10 ^ 70 then some (.d (.str (toString i))) else none
  | [.d (.bl b)] => some (.d (.str (boolS b)))
  | _ => none
def boolF (ws : List W) (_ : MH) : Option W := match ws with
  | [.d (.int i)] => some (.d (.bl (i != 0)))
  | [.d (.bl b)] => some (.d (.bl b))
  | _ => none

section
variable {X : Cx} {G : Gx} {N : List Str} {sc : Scp} {k : Nat}
theorem vals1w {mu : Mu} {H0 H : Hp} {w : W} {xs : List V} (r : RepWs G mu H0 H [w] xs) : ∃ x, xs = [x] ∧ RepW G mu H0 H w x := by
  cases r with
  | cons r _ t => cases t; exact ⟨_, rfl, r⟩
theorem vals2w {mu : Mu} {H0 H : Hp} {w w' : W} {xs : List V} (r : RepWs G mu H0 H [w, w'] xs) : ∃ x y, xs = [x, y] ∧ RepW G mu H0 H w x ∧ RepW G mu H0 H w' y := by
  cases r with
  | cons r _ t => cases t with
    | cons r' _ t => cases t; exact ⟨_, _, rfl, r, r'⟩
theorem cr_lenF (ft : Fits X G N sc k) : CallR X (.builtin "len") (rdN G lenF) := by
  intro pins s σ H xs us Q I rv ⟨mu, h, ws, H0, hr, rws, w, e, q⟩
  have hK := (fits_gx ft).1
  unfold lenF at e
  split at e
  · obtain ⟨x, rfl, r⟩ := vals1w rws
    split at e
    · rename_i hz
      cases (Option.some.inj e); cases r
      exact call_len_str pins s σ H _ us Q I rv ⟨_, rfl, by rw [lim_eq]; exact hz, repd_new hr (.int _) q⟩
    · cases e
  · obtain ⟨x, rfl, r⟩ := vals1w rws
    obtain ⟨ds, e1, rfl⟩ := Option.map_eq_some_iff.mp e
    obtain ⟨a, vs, rfl, hq, rd⟩ := qw_rep hr r e1
    rw [rd.length] at q
    exact call_len_seq pins s σ H _ us Q I rv ⟨a, vs, rfl, hK ▸ hq, repd_new hr (.int _) q⟩
  · cases e
theorem cr_sumF (ft : Fits X G N sc k) : CallR X (.builtin "sum") (rdN G sumF) := by
  intro pins s σ H xs us Q I rv ⟨mu, h, ws, H0, hr, rws, w, e, q⟩
  unfold sumF at e
  split at e
  · obtain ⟨x, rfl, r⟩ := vals1w rws
    split at e
    · rename_i ds e1
      obtain ⟨ns, e2, rfl⟩ := Option.map_eq_some_iff.mp e
      rw [ints_eq e2] at e1
      obtain ⟨a, vs, rfl, a1, rd⟩ := lw_rep hr r e1
      rw [rd.ints] at a1
      exact cr_sum ft.calm pins s σ H _ us Q I rv ⟨a, ns, rfl, .inl a1, repd_new hr (.int _) q⟩
    · cases e
  · cases e
theorem cr_allF (ft : Fits X G N sc k) : CallR X (.builtin "all") (rdN G allF) := by
  intro pins s σ H xs us Q I rv ⟨mu, h, ws, H0, hr, rws, w, e, q⟩
  unfold allF at e
  split at e
  · obtain ⟨x, rfl, r⟩ := vals1w rws
    split at e
    · rename_i ds e1
      obtain ⟨ns, e2, rfl⟩ := Option.map_eq_some_iff.mp e
      rw [bools_eq e2] at e1
      obtain ⟨a, vs, rfl, a1, rd⟩ := lw_rep hr r e1
      rw [rd.bls] at a1
      exact cr_all ft.calm pins s σ H _ us Q I rv ⟨a, ns, rfl, .inl a1, repd_new hr (.bl _) q⟩
    · cases e
  · cases e
theorem cr_anyF (ft : Fits X G N sc k) : CallR X (.builtin "any") (rdN G anyF) := by
  intro pins s σ H xs us Q I rv ⟨mu, h, ws, H0, hr, rws, w, e, q⟩
  unfold anyF at e
  split at e
  · obtain ⟨x, rfl, r⟩ := vals1w rws
    split at e
    · rename_i ds e1
      obtain ⟨ns, e2, rfl⟩ := Option.map_eq_some_iff.mp e
      rw [bools_eq e2] at e1
      obtain ⟨a, vs, rfl, a1, rd⟩ := lw_rep hr r e1
      rw [rd.bls] at a1
      exact cr_any ft.calm pins s σ H _ us Q I rv ⟨a, ns, rfl, .inl a1, repd_new hr (.bl _) q⟩
    · cases e
  · cases e
theorem cr_listF (ft : Fits X G N sc k) : CallR X (.type "list") (rdN G listF) := by
  intro pins s σ H xs us Q I rv ⟨mu, h, ws, H0, hr, rws, w, e, q⟩
  have hK := (fits_gx ft).1
  unfold listF at e
  split at e
  · obtain ⟨x, rfl, r⟩ := vals1w rws
    obtain ⟨ds, e1, rfl⟩ := Option.map_eq_some_iff.mp e
    obtain ⟨a, vs, rfl, hq, rd⟩ := qw_rep hr r e1
    exact call_list_of pins s σ H _ us Q I rv ⟨a, vs, rfl, hK ▸ hq, fun p hp => own_new hr rd q p hp (hr.nin hp)⟩
  · cases e
theorem cr_tupleF (ft : Fits X G N sc k) : CallR X (.type "tuple") (rdN G tupleF) := by
  intro pins s σ H xs us Q I rv ⟨mu, h, ws, H0, hr, rws, w, e, q⟩
  have hK := (fits_gx ft).1
  unfold tupleF at e
  split at e
  · obtain ⟨x, rfl, r⟩ := vals1w rws
    obtain ⟨ds, e1, rfl⟩ := Option.map_eq_some_iff.mp e
    obtain ⟨a, vs, rfl, hq, rd⟩ := qw_repN hr r e1
    refine call_tupleN pins s σ H _ us Q I rv ⟨a, vs, rfl, ?_⟩
    rcases hq with hq | hq
    · exact .inl ⟨hK ▸ hq, fun p o hp ho => tup_new hr rd q p o hp ho⟩
    · exact .inr ⟨hK ▸ hq.sq, repd_new hr (.tup hq rd) q⟩
  · cases e
theorem cr_intF : CallR X (.type "int") (rdN G intF) := by
  intro pins s σ H xs us Q I rv ⟨mu, h, ws, H0, hr, rws, w, e, q⟩
  unfold intF at e
  split at e
  · obtain ⟨x, rfl, r⟩ := vals1w rws
    cases (Option.some.inj e); cases r
    exact call_int1 pins s σ H _ us Q I rv (.inl ⟨_, rfl, repd_new hr (.int _) q⟩)
  · obtain ⟨x, rfl, r⟩ := vals1w rws
    cases (Option.some.inj e); cases r
    exact call_int1 pins s σ H _ us Q I rv (.inr ⟨_, rfl, repd_new hr (.int _) q⟩)
  · obtain ⟨x, rfl, r⟩ := vals1w rws
    split at e
    · rename_i hz
      obtain ⟨i, ei, rfl⟩ := Option.map_eq_some_iff.mp e
      cases r
      exact call_int_str pins s σ H _ us Q I rv ⟨_, _, rfl, ei, hz, repd_new hr (.int _) q⟩
    · cases e
  · cases e
theorem cr_boolF : CallR X (.type "bool") (rdN G boolF) := by
  intro pins s σ H xs us Q I rv ⟨mu, h, ws, H0, hr, rws, w, e, q⟩
  unfold boolF at e
  split at e
  · obtain ⟨x, rfl, r⟩ := vals1w rws
    cases (Option.some.inj e); cases r
    exact call_bool1 pins s σ H _ us Q I rv (.inl ⟨_, rfl, repd_new hr (.bl _) q⟩)
  · obtain ⟨x, rfl, r⟩ := vals1w rws
    cases (Option.some.inj e); cases r
    exact call_bool1 pins s σ H _ us Q I rv (.inr ⟨_, rfl, repd_new hr (.bl _) q⟩)
  · cases e
theorem cr_absF : CallR X (.builtin "abs") (rdN G absF) := by
  intro pins s σ H xs us Q I rv ⟨mu, h, ws, H0, hr, rws, w, e, q⟩
  unfold absF at e
  split at e
  · obtain ⟨x, rfl, r⟩ := vals1w rws
    cases (Option.some.inj e); cases r
    exact call_abs pins s σ H _ us Q I rv ⟨_, rfl, repd_new hr (.int _) q⟩
  · cases e
theorem cr_maxF (ft : Fits X G N sc k) : CallR X (.builtin "max") (rdN G maxF) := by
  intro pins s σ H xs us Q I rv ⟨mu, h, ws, H0, hr, rws, w, e, q⟩
  unfold maxF at e
  split at e
  · obtain ⟨x, y, rfl, r, r'⟩ := vals2w rws
    cases (Option.some.inj e); cases r; cases r'
    exact call_max2 ft.calm pins s σ H _ us Q I rv ⟨_, _, rfl, repd_new hr (.int _) q⟩
  · cases e
theorem cr_minF (ft : Fits X G N sc k) : CallR X (.builtin "min") (rdN G minF) := by
  intro pins s σ H xs us Q I rv ⟨mu, h, ws, H0, hr, rws, w, e, q⟩
  unfold minF at e
  split at e
  · obtain ⟨x, y, rfl, r, r'⟩ := vals2w rws
    cases (Option.some.inj e); cases r; cases r'
    exact call_min2 ft.calm pins s σ H _ us Q I rv ⟨_, _, rfl, repd_new hr (.int _) q⟩
  · cases e
theorem log_small {n : Nat} (h : n < 10 ^ 70) : n.log2 < 1920 := by
  by_cases hz : n = 0
  · subst hz; decide
  · have h1 : (10 : Nat) ^ 70 ≤ 2 ^ 240 := by decide
    have h2 := (Nat.log2_lt hz (k := 240)).mpr (by omega)
    omega
theorem cr_strF : CallR X (.type "str") (rdN G strF) := by
  intro pins s σ H xs us Q I rv ⟨mu, h, ws, H0, hr, rws, w, e, q⟩
  unfold strF at e
  split at e
  · obtain ⟨x, rfl, r⟩ := vals1w rws
    split at e
    · rename_i hz
      cases (Option.some.inj e); cases r
      exact call_str_int pins s σ H _ us Q I rv ⟨_, rfl, log_small hz, repd_new hr (.str _) q⟩
    · cases e
  · obtain ⟨x, rfl, r⟩ := vals1w rws
    rename_i b
    cases (Option.some.inj e); cases r
    obtain ⟨u, rfl, r1⟩ : ∃ u, us = [u] ∧ RelV (.bl b) u := by
      cases rv with
      | cons r t => cases t; exact ⟨_, rfl, r⟩
    cases r1
    refine PySem.P.str_of_bool ?_
    have eb : (if b = true then Str.ofString "True" else Str.ofString "False") = boolS b := by cases b <;> rfl
    rw [eb]
    exact ⟨.str (boolS b), H, I.tok _, ⟨_, rfl⟩, repd_new hr (.str _) q⟩
  · cases e
end

/-! ### isinstance with a built-in class -/
def kindW (h : MH) : W → Option String
  | .d .non => some "NoneType"
  | .d (.bl _) => some "bool"
  | .d (.int _) => some "int"
  | .d (.str _) => some "str"
  | .d (.tup _) => some "tuple"
  | .d (.fr _) => none
  | .od => none
  | w => (lw h w).map fun _ => "list"
def isaB (a T : String) : Option Bool :=
  if T = "int" then some (a = "int" || a = "bool") else if T = "bool" ∨ T = "str" ∨ T = "tuple" ∨ T = "list" then some (a = T) else none
theorem isaB_ok {a T : String} {b : Bool} (ha : a = "NoneType" ∨ a = "bool" ∨ a = "int" ∨ a = "str" ∨ a = "tuple" ∨ a = "list") (h : isaB a T = some b) : kitB a T = some b := by
  unfold isaB at h
  split at h
  · rename_i e
    subst e
    cases (Option.some.inj h)
    rcases ha with rfl | rfl | rfl | rfl | rfl | rfl <;> decide +kernel
  · split at h
    · rename_i e
      cases (Option.some.inj h)
      rcases e with rfl | rfl | rfl | rfl <;> rcases ha with rfl | rfl | rfl | rfl | rfl | rfl <;> decide +kernel
    · cases h
/-- the second one is the class by its name -/
def isaF (T : String) (ws : List W) (h : MH) : Option W := match ws with
  | [w] => match kindW h w with
    | some a => (isaB a T).map fun b => .d (.bl b)
    | none => none
  | _ => none
def dIsa (T : String) (m : Den W) : Den W := dBind m fun w _ h => (isaF T [w] h).map fun r => (.ok r, h)
theorem kind_ty {X : Cx} {G : Gx} {N : List Str} {sc : Scp} {k : Nat} (ft : Fits X G N sc k) {mu : Mu} {h : MH} {H0 H : Hp} {w : W} {v : V} {a : String} (hr : HR G mu h H) (r : RepW G mu H0 H w v) (e : kindW h w = some a) :
    TyX X.K H v (.type a) ∧ (a = "NoneType" ∨ a = "bool" ∨ a = "int" ∨ a = "str" ∨ a = "tuple" ∨ a = "list") := by
  have hK := (fits_gx ft).1
  have lst : ∀ ds, lw h w = some ds → TyX X.K H v (.type "list") := fun ds q => by
    obtain ⟨c, vs, rfl, h1, _⟩ := lw_rep hr r q
    rcases h1 with h1 | ⟨o, h1⟩
    · exact .base (.lst h1)
    · exact .base (.frz h1)
  have opt : (lw h w).map (fun _ => "list") = some a → TyX X.K H v (.type a) ∧ (a = "NoneType" ∨ a = "bool" ∨ a = "int" ∨ a = "str" ∨ a = "tuple" ∨ a = "list") := fun q => by
    obtain ⟨ds, q1, q2⟩ := Option.map_eq_some_iff.mp q
    subst q2
    exact ⟨lst ds q1, by simp⟩
  unfold kindW at e
  split at e
  · cases (Option.some.inj e); cases r; exact ⟨.base .non, by simp⟩
  · cases (Option.some.inj e); cases r; exact ⟨.base (.bl _), by simp⟩
  · cases (Option.some.inj e); cases r; exact ⟨.base (.int _), by simp⟩
  · cases (Option.some.inj e); cases r; exact ⟨.base (.str _), by simp⟩
  · cases (Option.some.inj e)
    obtain ⟨c, vs, rfl, h1, _⟩ := tw_rep r rfl
    have h1 := h1.sq
    rw [hK] at h1
    refine ⟨?_, by simp⟩
    rcases h1 with (h1 | ⟨o, h1⟩) | ⟨o, its, n, h1, h2, _⟩
    · exact .base (.tup h1)
    · exact .fTuple h1
    · exact .kTuple h1 h2
  · cases e
  · cases e
  · exact opt e
section
variable {G : Gx} {N : List Str} {sc : Scp} {k : Nat} {pos p p2 : Pos} {a : Expr} {ma : Den W}
theorem de_isa {T : String} (ha : DE G N sc k a ma) (hs : notStar a = true) (hg : sc.s.names.lookup ("isinstance" : Str) = some .globalImplicit) (hm : G.mg ("isinstance" : Str) = none) (hgT : sc.s.names.lookup (Str.ofString T) = some .globalImplicit) (hmT : G.mg (Str.ofString T) = none)
    (hT : bootBuiltins (Str.ofString T) = some (.type T)) (hn : Str.ofString T ≠ "__name__") (hd : (Str.ofString T == ("__debug__" : Str)) = false) : DE G N sc k (.Call (.Name "isinstance" p) [a, .Name (Str.ofString T) p2] [] pos) (dIsa T ma) := by
  refine ⟨fun X Wx ft tk => ?_⟩
  have hgX : Gl X "isinstance" := by show X.env.scope.names.lookup _ = _; rw [ft.sc]; exact hg
  have hgTX : Gl X (Str.ofString T) := by show X.env.scope.names.lookup _ = _; rw [ft.sc]; exact hgT
  refine PE.imp (pe_callB call_isi hgX (by rw [← (fits_gx ft).2]; exact hm) PyProof.Rows.boot_isinstance (pa_cons (ha.pe X Wx ft tk) (pa_cons (pe_bltn (v := .ty T) hgTX (by rw [← (fits_gx ft).2]; exact hmT) hT rfl hn hd) pa_nil) (star_of hs)) (by decide) (by decide) (star_of hs) (by rfl)) ?_
  rintro st H Q ⟨mu, rho, h, sr, q⟩
  refine bind_post sr q fun w h1 x H1 mu1 sr1 e1 rw' p1 => ?_
  have p1' : Post G Wx mu1 H1 st Q ((isaF T [w] h1).map fun r => (.ok r, h1)) := p1
  unfold isaF at p1'
  simp only at p1'
  split at p1'
  · rename_i c hc
    cases e : isaB c T with
    | none => rw [e] at p1'; exact p1'.elim
    | some b =>
      rw [e] at p1'
      obtain ⟨ty, hc2⟩ := kind_ty ft sr1.hr rw' hc
      exact ⟨x, .ty T, _, _, b, rfl, .ty T, ty, kit_ty (isaB_ok hc2 e), p1' (.bl b) H1 mu1 sr1.hr (Ext.refl mu1 H1) (.bl b)⟩
  · exact p1'.elim
end
end Dn

set_option maxHeartbeats 4000000
namespace Dn
open PySem PySem.Spec PyProof.Rows L2

/-! ### items and slices -/
def ixW (a b : W) (h : MH) : Option W := match a, b with
  | .d (.str z), .d (.int i) => if z.length ≤ LIM then (atI z.cps.toList i).map fun c => .d (.str ⟨#[c]⟩) else none
  | a, .d (.int i) => match qw h a with
    | some ds => (atI ds i).map .d
    | none => none
  | _, _ => none
theorem atI_rep {G : Gx} {H : Hp} {ds : List D} {vs : List V} {i : Int} {d : D} (r : RepDs G H ds vs) (e : atI ds i = some d) : ∃ v, atI vs i = some v ∧ RepD G H d v := by
  unfold atI at e ⊢
  rw [← r.length]
  cases q : ixN ds.length i with
  | none => rw [q] at e; cases e
  | some j =>
    rw [q] at e
    exact r.get (show ds[j]? = some d from e)
theorem ix_any {X : Cx} {G : Gx} {N : List Str} {sc : Scp} {k : Nat} (ft : Fits X G N sc k) : IxR X (rd2 G ixW) := by
  intro e1 e2 pins s σ H x y v u Q I rx ry hw hs
  obtain ⟨mu, h, wa, wb, H0, hr, ra, rb, w, e, q⟩ := hw
  have hK := (fits_gx ft).1
  unfold ixW at e
  split at e
  · split at e
    · rename_i hz
      obtain ⟨c, ec, rfl⟩ := Option.map_eq_some_iff.mp e
      cases ra; cases rb
      exact ix_str e1 e2 pins s σ H _ _ v u Q I rx ry ⟨_, _, c, rfl, rfl, by rw [lim_eq]; exact hz, ec, repd_new hr (.str _) q⟩ hs
    · cases e
  · split at e
    · rename_i ds eq
      obtain ⟨d, ed, rfl⟩ := Option.map_eq_some_iff.mp e
      cases rb
      obtain ⟨a, vs, rfl, hq, rd⟩ := qw_rep hr ra eq
      obtain ⟨z, ez, rz⟩ := atI_rep rd ed
      rcases hq with hq | hq
      · exact ix_list e1 e2 pins s σ H _ _ v u Q I rx ry ⟨a, vs, _, z, rfl, rfl, hK ▸ hq, ez, repd_new hr rz q⟩ hs
      · exact ix_tup e1 e2 pins s σ H _ _ v u Q I rx ry ⟨a, vs, _, z, rfl, rfl, hK ▸ hq, ez, repd_new hr rz q⟩ hs
    · cases e
  · cases e
def notSlice : Expr → Bool
  | .Slice .. => false
  | _ => true
theorem plain_ix {b : Expr} (h : notSlice b = true) : PlainIx b := by
  cases b <;> first | (intro _ _; rfl) | (cases h)
section
variable {G : Gx} {N : List Str} {sc : Scp} {k : Nat} {pos : Pos} {a b : Expr} {ma mb : Den W}
theorem de_ix (ha : DE G N sc k a ma) (hb : DE G N sc k b mb) (hs : notSlice b = true) : DE G N sc k (.Subscript a b pos) (dP2 ixW ma mb) :=
  ⟨fun X Wx ft tk => PE.imp (pe_ix (ix_any ft) (ha.pe X Wx ft tk) (hb.pe X Wx ft tk) (plain_ix hs)) fun st H Q t => p2_post t⟩
end
def cutD (ds : List D) (lo hi : Option Int) : List D := (ds.drop (HT.sIx ds.length 0 lo)).take (HT.sIx ds.length ds.length hi - HT.sIx ds.length 0 lo)
theorem cutD_rep {G : Gx} {H : Hp} {ds : List D} {vs : List V} {lo hi : Option Int} (r : RepDs G H ds vs) : RepDs G H (cutD ds lo hi) (cutV vs lo hi) := by
  unfold cutD cutV
  rw [← r.length]
  exact (r.drop _).take _
def slW (a : W) (lo hi : Option Int) (h : MH) : Option W := match a with
  | .d (.str z) => if z.length ≤ LIM then some (.d (.str (cutS z lo hi))) else none
  | .d (.tup ds) => some (.d (.tup (cutD ds lo hi)))
  | w => (lw h w).map fun ds => .own (cutD ds lo hi)
def rSlR : V → Option Int → Option Int → Hp → VK → Prop := fun x lo hi H Q => ∃ a xs, x = .ref a ∧ Rd H a (.lst xs) ∧ ∀ p, H p = none → Q (.ref p) (upd H p (.lst (cutV xs lo hi)))
def rdS (G : Gx) : V → Option Int → Option Int → Hp → VK → Prop := fun x lo hi H Q => ∃ mu h wa H0, HR G mu h H ∧ RepW G mu H0 H wa x ∧ ∃ w, slW wa lo hi h = some w ∧ ∀ v H', HR G mu h H' → Ext mu H mu H' → RepW G mu H H' w v → Q v H'
theorem slice_R {X : Cx} : SlR X rSlR := by
  intro pins s σ H x v vl vu lo hi sl Q I rx hs pl pu h
  obtain ⟨a, xs, rfl, hx, q⟩ := h
  exact sl_list pins s σ H _ v vl vu lo hi sl Q I rx hs pl pu ⟨a, xs, rfl, .inl hx, q⟩
theorem sl_any {X : Cx} {G : Gx} {N : List Str} {sc : Scp} {k : Nat} (ft : Fits X G N sc k) : SlR X (rdS G) := by
  intro pins s σ H x v vl vu lo hi sl Q I rx hs pl pu hw
  obtain ⟨mu, h, wa, H0, hr, ra, w, e, q⟩ := hw
  have hK := (fits_gx ft).1
  unfold slW at e
  split at e
  · split at e
    · rename_i hz
      cases (Option.some.inj e); cases ra
      exact sl_str pins s σ H _ v vl vu lo hi sl Q I rx hs pl pu ⟨_, rfl, by rw [lim_eq]; exact hz, repd_new hr (.str _) q⟩
    · cases e
  · rename_i ds
    cases (Option.some.inj e)
    obtain ⟨a, vs, rfl, hq, rd⟩ := tw_rep ra rfl
    refine sl_tupN pins s σ H _ v vl vu lo hi sl Q I rx hs pl pu ⟨a, vs, rfl, hK ▸ hq.sq, fun hw => ?_, fun hw p o hp ho => tup_new hr (cutD_rep rd) q p o hp ho⟩
    have e2 : cutD ds lo hi = ds := by
      unfold cutD
      rw [rd.length, hw.1, hw.2, List.drop_zero, Nat.sub_zero, ← rd.length, List.take_length]
    rw [e2] at q
    exact repd_new hr (.tup hq rd) q
  · obtain ⟨ds, ed, rfl⟩ := Option.map_eq_some_iff.mp e
    obtain ⟨a, vs, rfl, hq, rd⟩ := lw_rep hr ra ed
    exact slice_R pins s σ H _ v vl vu lo hi sl Q I rx hs pl pu ⟨a, vs, rfl, hq, fun p hp => own_new hr (cutD_rep rd) q p hp (hr.nin hp)⟩
/-- a bound -/
def dPart : Option (Den W) → Den (Option Int)
  | none => fun _ h => some (.ok none, h)
  | some m => dBind m fun w => match w with
    | .d (.int i) => fun _ h => some (.ok (some i), h)
    | _ => fun _ _ => none
def dSl (ma : Den W) (lo hi : Option (Den W)) : Den W := dBind ma fun a => dBind (dPart lo) fun l => dBind (dPart hi) fun u _ h => (slW a l u h).map fun w => (.ok w, h)
section
variable {G : Gx} {N : List Str} {sc : Scp} {k : Nat} {pos p2 : Pos} {a b : Expr} {ma mb : Den W}
inductive DO (G : Gx) (N : List Str) (sc : Scp) (k : Nat) : Option Expr → Option (Den W) → Prop
  | none : DO G N sc k none none
  | some {e : Expr} {m : Den W} : DE G N sc k e m → DO G N sc k (some e) (some m)
def tdenO (G : Gx) (Wx : WX) : Option (Den W) → TO
  | none => tNoPart
  | some m => tPart (tden G Wx m)
theorem po_of {X : Cx} {Wx : WX} {o : Option Expr} {m : Option (Den W)} (h : DO G N sc k o m) (ft : Fits X G N sc k) (tk : L2N.Takes X Wx) : PO X o (tdenO G Wx m) := by
  cases h with
  | none => exact po_none
  | some h => exact po_some (h.pe X Wx ft tk)
theorem part_post {Wx : WX} {st : L2.St} {H : Hp} {mu : Mu} {rho : Rho} {h : MH} {Q : VK} {o : Option (Den W)} {f : Option Int → Den W} {R : Option Int → Hp → Prop} (sr : StR G mu rho h st H) (p : Post G Wx mu H st Q (dBind (dPart o) f rho h))
    (hf : ∀ i h1 H1 mu1, StR G mu1 rho h1 st H1 → Ext mu H mu1 H1 → Post G Wx mu1 H1 st Q (f i rho h1) → R i H1) : tdenO G Wx o st H R := by
  cases o with
  | none => exact hf none h H mu sr (Ext.refl mu H) p
  | some m =>
    have e : dBind (dPart (some m)) f = dBind m fun w => match w with
      | .d (.int i) => f (some i)
      | _ => fun _ _ => none := by
      funext rho h
      show mBind (mBind (m rho) fun a => _) _ h = mBind (m rho) _ h
      unfold mBind
      rcases m rho h with _ | ⟨w | ⟨c, fs⟩, h1⟩
      · rfl
      · rcases w with (_ | _ | _ | _ | _ | _ | _) | _ | _ | _ | _ <;> rfl
      · rfl
    rw [e] at p
    refine bind_post sr p fun w h1 x H1 mu1 sr1 e1 rw' p1 => ?_
    split at p1
    · cases rw'
      exact ⟨_, rfl, hf _ h1 H1 mu1 sr1 e1 p1⟩
    · exact p1.elim
theorem de_sl {lo hi : Option Expr} {ml mh : Option (Den W)} (ha : DE G N sc k a ma) (hl : DO G N sc k lo ml) (hh : DO G N sc k hi mh) : DE G N sc k (.Subscript a (.Slice lo hi none p2) pos) (dSl ma ml mh) := by
  refine ⟨fun X Wx ft tk => PE.imp (pe_slice (sl_any ft) (ha.pe X Wx ft tk) (po_of hl ft tk) (po_of hh ft tk)) ?_⟩
  rintro st H Q ⟨mu, rho, h, sr, p⟩
  refine bind_post sr p fun w h1 x H1 mu1 sr1 e1 rw' p1 => part_post sr1 p1 fun l h2 H2 mu2 sr2 e2 p2 => part_post sr2 p2 fun u h3 H3 mu3 sr3 e3 p3 => ?_
  have p3' : Post G Wx mu3 H3 st Q ((slW w l u h3).map fun w => (.ok w, h3)) := p3
  cases e : slW w l u h3 with
  | none => rw [e] at p3'; exact p3'.elim
  | some r =>
    rw [e] at p3'
    exact ⟨mu3, h3, w, H, sr3.hr, (rw'.ext e2).ext e3, r, e, fun v H' hr ex rw' => p3' v H' mu3 hr ex rw'⟩

/-! ### x[::-1] -/
def revW (a : W) (h : MH) : Option W := match a with
  | .d (.str z) => if z.length ≤ LIM then some (.d (.str ⟨z.cps.toList.reverse.toArray⟩)) else none
  | .d (.tup ds) => none
  | w => (lw h w).map fun ds => .own ds.reverse
def dRev (ma : Den W) : Den W := dBind ma fun a _ h => (revW a h).map fun w => (.ok w, h)
end

/-! ### calls of defs -/
def PostF (G : Gx) (mu : Mu) (H : Hp) (Q : VK) (E : XK) : Option (Out W × MH) → Prop
  | some (.ok w, h') => ∀ v H' mu', HR G mu' h' H' → Ext mu H mu' H' → RepW G mu' H H' w v → Q v H'
  | some (.ex c fs, h') => ∀ cls d H' mu', HR G mu' h' H' → Ext mu H mu' H' → RepX G H' c fs cls d → E cls d H'
  | none => False
abbrev Phi := List W → MH → Option (Out W × MH)
def spD (G : Gx) (n : Nat) (phi : Phi) : Sp := fun vs H Q E => vs.length = n ∧ ∃ mu h ws H0, HR G mu h H ∧ RepWs G mu H0 H ws vs ∧ (∀ w ∈ ws, (∀ ds, w ≠ .own ds) ∧ (∀ ds, w ≠ .bor ds) ∧ w ≠ .od) ∧ PostF G mu H Q E (phi ws h)
/-- a def at level k -/
structure FnS (G : Gx) (k : Nat) (x : Str) (n : Nat) (phi : Phi) : Prop where
  ex : ∃ (f : Addr) (fd : FuncData) (ps : List Str), ps.length = n ∧ G.mg x = some (.ref f) ∧ PySem.W.keepIn G.K (.ref f) = true ∧ Binds G.K fd ps [] ∧ FnOk G.prog G.w G.K G.mg G.base (L2N.CX G.prog G.w) k f fd ps (spD G n phi)
/-- behind a call what only the callee made is dropped -/
def keptRef (n : Nat) : W → Bool
  | .ref m => decide (m < n)
  | _ => true
def trunc (n : Nat) : Option (Out W × MH) → Option (Out W × MH)
  | some (.ok w, h) => if keptRef n w = true then some (.ok w, h.take n) else some (.ok w, h)
  | some (.ex c fs, h) => some (.ex c fs, h.take n)
  | none => none
theorem addrs_take {mu : Mu} {n : Nat} {a : Addr} (h : a ∈ addrs (mu.take n)) : a ∈ addrs mu := by
  obtain ⟨p, hp, ha⟩ := List.mem_flatMap.mp h
  exact List.mem_flatMap.mpr ⟨p, List.mem_of_mem_take hp, ha⟩
theorem HR.take {G : Gx} {mu : Mu} {h : MH} {H : Hp} (r : HR G mu h H) (n : Nat) : HR G (mu.take n) (h.take n) H := by
  refine ⟨by rw [List.length_take, List.length_take, r.len], ?_, fun m p o h1 h2 => ?_, r.tabs, fun a ha => r.live a (addrs_take ha)⟩
  · have e : addrs mu = addrs (mu.take n) ++ addrs (mu.drop n) := by rw [← addrs_app, List.take_append_drop]
    have nd := r.nd
    rw [e] at nd
    exact (List.nodup_append.mp nd).1
  · have hm : m < n := by
      have := (List.getElem?_eq_some_iff.mp h1).1
      rw [List.length_take] at this
      omega
    rw [List.getElem?_take_of_lt hm] at h1 h2
    exact r.ob m p o h1 h2
theorem Ext.take {mu mu' : Mu} {H H' : Hp} (e : Ext mu H mu' H') {n : Nat} (hn : mu.length ≤ n) : Ext mu H (mu'.take n) H' := by
  refine ⟨fun m p h => ?_, e.keep, fun a ha => e.fresh a (addrs_take ha), e.stay, e.there⟩
  obtain ⟨ds, h2⟩ := e.pre m p h
  have hm : m < n := Nat.lt_of_lt_of_le (List.getElem?_eq_some_iff.mp h).1 hn
  exact ⟨ds, by rw [List.getElem?_take_of_lt hm]; exact h2⟩
theorem RepW.take {G : Gx} {mu : Mu} {H0 H : Hp} {w : W} {v : V} {n : Nat} (r : RepW G mu H0 H w v) (hk : keptRef n w = true) : RepW G (mu.take n) H0 H w v := by
  cases w with
  | d x => exact r
  | own ds => obtain ⟨a, vs, rfl, h1, h2, h3, h4⟩ := r; exact ⟨a, vs, rfl, h1, h2, fun z => h3 (addrs_take z), h4⟩
  | bor ds => obtain ⟨a, vs, rfl, h1, h2, h3⟩ := r; exact ⟨a, vs, rfl, h1, h2, fun z => h3 (addrs_take z)⟩
  | od => obtain ⟨a, rfl, h1, h3, h4⟩ := r; exact ⟨a, rfl, h1, fun z => h3 (addrs_take z), h4⟩
  | ref m =>
    obtain ⟨p, h1, rfl⟩ := r
    exact ⟨p, by rw [List.getElem?_take_of_lt (of_decide_eq_true hk)]; exact h1, rfl⟩
theorem postF_trunc {G : Gx} {Wx : WX} {mu : Mu} {h : MH} {H : Hp} {st : L2.St} {Q : VK} (hr : HR G mu h H) {r : Option (Out W × MH)} (p : Post G Wx mu H st Q (trunc h.length r)) : PostF G mu H Q (fun cls d H' => Wx cls d st H') r := by
  have hl : mu.length ≤ h.length := Nat.le_of_eq hr.len
  match r, p with
  | some (.ok w, h'), p =>
    intro v H' mu' hr' ex rw'
    have p' : Post G Wx mu H st Q (if keptRef h.length w = true then some (.ok w, h'.take h.length) else some (.ok w, h')) := p
    by_cases hk : keptRef h.length w = true
    · rw [if_pos hk] at p'
      exact p' v H' _ (hr'.take _) (ex.take hl) (rw'.take hk)
    · rw [if_neg hk] at p'
      exact p' v H' mu' hr' ex rw'
  | some (.ex c fs, h'), p => exact fun cls d H' mu' hr' ex rx => p cls d H' _ (hr'.take _) (ex.take hl) rx
/-- arguments: data, objects of ours -/
def argOk : W → Bool
  | .d _ => true
  | .ref _ => true
  | _ => false
def dCall (n : Nat) (phi : Phi) (ms : Den (List W)) : Den W := dBind ms fun ws _ h => if (ws.length == n && ws.all argOk) = true then trunc h.length (phi ws h) else none
theorem argOk_ne {ws : List W} (h : ws.all argOk = true) : ∀ w ∈ ws, (∀ ds, w ≠ .own ds) ∧ (∀ ds, w ≠ .bor ds) ∧ w ≠ .od := fun w hw => by
  have := List.all_eq_true.mp h w hw
  cases w with
  | d x => exact ⟨fun _ z => W.noConfusion z, fun _ z => W.noConfusion z, fun z => W.noConfusion z⟩
  | ref n => exact ⟨fun _ z => W.noConfusion z, fun _ z => W.noConfusion z, fun z => W.noConfusion z⟩
  | _ => cases this
section
variable {G : Gx} {N : List Str} {sc : Scp} {k : Nat} {pos p2 : Pos} {e : Expr} {es : List Expr} {ms : Den (List W)}
theorem RepWs.len {mu : Mu} {H0 H : Hp} : ∀ {ws : List W} {xs : List V}, RepWs G mu H0 H ws xs → xs.length = ws.length
  | _, _, .nil => rfl
  | _, _, .cons _ _ t => congrArg (· + 1) t.len
theorem call_post {Wx : WX} {st : L2.St} {H : Hp} {Q : VK} {n : Nat} {phi : Phi} (t : tden G Wx (dCall n phi ms) st H Q) : tdenA G Wx ms st H fun vs H1 => spD G n phi (vs ++ []) H1 Q fun cls d H => Wx cls d st H := by
  obtain ⟨mu, rho, h, sr, p⟩ := t
  refine bindA_post sr p fun ws h1 xs H1 mu1 sr1 e1 rws p1 => ?_
  have p1' : Post G Wx mu1 H1 st Q (if (ws.length == n && ws.all argOk) = true then trunc h1.length (phi ws h1) else none) := p1
  by_cases c : (ws.length == n && ws.all argOk) = true
  · rw [if_pos c] at p1'
    rw [Bool.and_eq_true] at c
    rw [List.append_nil]
    exact ⟨by rw [rws.len]; exact beq_iff_eq.mp c.1, mu1, h1, ws, H, sr1.hr, rws, argOk_ne c.2, postF_trunc sr1.hr p1'⟩
  · rw [if_neg c] at p1'
    exact p1'.elim
/-- f(e, ..) of a def of the module -/
theorem de_call {x : Str} {n : Nat} {phi : Phi} (F : FnS G k x n phi) (hg : sc.s.names.lookup x = some .globalImplicit) (ha : DA G N sc k (e :: es) ms) (hs : (e :: es).all notStar = true) (hd : (x == ("__debug__" : Str)) = false)
    : DE G N sc k (.Call (.Name x p2) (e :: es) [] pos) (dCall n phi ms) := by
  rw [List.all_cons, Bool.and_eq_true] at hs
  obtain ⟨f, fd, ps, hps, hm, hk, hb, hF⟩ := F.ex
  refine ⟨fun X Wx ft tk => ?_⟩
  obtain ⟨T, hG⟩ := ft.g
  have room := ft.room
  subst hG
  refine PE.imp (pe_callSD (dvs := []) (ds := []) (E := fun st cls d H => Wx cls d st H) hF room (by show X.env.scope.names.lookup x = _; rw [ft.sc]; exact hg) hm hk hb .nil (fun st pins H s e s' I c => tk e s' (L2N.XE.of_call I (fun cls d H' h => h) c)) (ha.pa X Wx ft tk) hd (star_of hs.1) (stars_of hs.2)) ?_
  intro st H Q t
  exact call_post t
end
end Dn

set_option maxHeartbeats 4000000
namespace Dn
open PySem PySem.Spec PyProof.Rows L2

inductive OutS where
  | nx (r : Rho) | rt (w : W) | bk (r : Rho) | ct (r : Rho) | ex (c : Str) (fs : List (Str × D)) (r : Rho)
abbrev DenS := Rho → MH → Option (OutS × MH)

/-- the state within a def's body that was entered at mu0, H0 -/
structure StS (G : Gx) (mu0 : Mu) (H0 : Hp) (mu : Mu) (rho : Rho) (h : MH) (st : L2.St) (H : Hp) : Prop where
  sr : StR G mu rho h st H
  ex : Ext mu0 H0 mu H
  own : ∀ (i : Nat) (ds : List D) (a : Addr), rho[i]? = some (some (.own ds)) → st[i]? = some (some (.ref a)) → H0 a = none
  len : rho.length = st.length
theorem StS.ext {G : Gx} {mu0 : Mu} {H0 : Hp} {mu mu' : Mu} {rho : Rho} {h h' : MH} {st : L2.St} {H H' : Hp} (s : StS G mu0 H0 mu rho h st H) (hr : HR G mu' h' H') (e : Ext mu H mu' H') : StS G mu0 H0 mu' rho h' st H' :=
  ⟨s.sr.ext hr e, s.ex.trans e, s.own, s.len⟩
def PostS (G : Gx) (Wx : WX) (mu0 : Mu) (H0 Hs : Hp) (D : Ends) : Option (OutS × MH) → Prop
  | some (.nx r, h') => ∀ st' H' mu', StS G mu0 H0 mu' r h' st' H' → Stay Hs H' → D.nx st' H'
  | some (.bk r, h') => ∀ st' H' mu', StS G mu0 H0 mu' r h' st' H' → Stay Hs H' → D.bk st' H'
  | some (.ct r, h') => ∀ st' H' mu', StS G mu0 H0 mu' r h' st' H' → Stay Hs H' → D.ct st' H'
  | some (.rt w, h') => ∀ v H' mu', HR G mu' h' H' → Ext mu0 H0 mu' H' → Stay Hs H' → RepW G mu' H0 H' w v → D.rt v H'
  | some (.ex c fs r, h') => ∀ cls d st' H' mu', StS G mu0 H0 mu' r h' st' H' → Stay Hs H' → RepX G H' c fs cls d → Wx cls d st' H'
  | none => False
theorem PostS.mono {G : Gx} {Wx : WX} {mu0 : Mu} {H0 Hs H1 : Hp} {D : Ends} {r : Option (OutS × MH)} (e : Stay Hs H1) (p : PostS G Wx mu0 H0 Hs D r) : PostS G Wx mu0 H0 H1 D r := by
  match r, p with
  | some (.nx r, h'), p => exact fun st' H' mu' s t => p st' H' mu' s (e.trans t)
  | some (.bk r, h'), p => exact fun st' H' mu' s t => p st' H' mu' s (e.trans t)
  | some (.ct r, h'), p => exact fun st' H' mu' s t => p st' H' mu' s (e.trans t)
  | some (.rt w, h'), p => exact fun v H' mu' hr ex t rw' => p v H' mu' hr ex (e.trans t) rw'
  | some (.ex c fs r, h'), p => exact fun cls d st' H' mu' s t rx => p cls d st' H' mu' s (e.trans t) rx
def tdenS (G : Gx) (Wx : WX) (m : DenS) : TS := fun D st H => ∃ mu0 H0 mu rho h, StS G mu0 H0 mu rho h st H ∧ PostS G Wx mu0 H0 H D (m rho h)
/-- contexts of statements -/
structure FitsS (X : Cx) (G : Gx) (N : List Str) (sc : Scp) (k : Nat) : Prop where
  ft : Fits X G N sc k
  own : PassesOwn (model X.prog X.w) X.A X.env X.xe
  stk : X.stack = X.env :: X.outer
  frame : X.env.frame = some X.env.locals
  kind : sc.s.kind = .function
  fn : X.fn = fun _ => true
structure DS (G : Gx) (N : List Str) (sc : Scp) (k : Nat) (s : Stmt) (m : DenS) : Prop where
  ps : ∀ (X : Cx) (Wx : WX), FitsS X G N sc k → L2N.Takes X Wx → PS X s (tdenS G Wx m)
structure DSs (G : Gx) (N : List Str) (sc : Scp) (k : Nat) (s : List Stmt) (m : DenS) : Prop where
  ps : ∀ (X : Cx) (Wx : WX), FitsS X G N sc k → L2N.Takes X Wx → PSs X s (tdenS G Wx m)

/-- an expression, then statements of its value -/
def eBind {α : Type} (m : Den α) (f : α → DenS) : DenS := fun rho h => match m rho h with
  | some (.ok a, h') => f a rho h'
  | some (.ex c fs, h') => some (.ex c fs rho, h')
  | none => none
section
variable {G : Gx} {Wx : WX} {st : L2.St} {H0 H : Hp} {mu0 mu : Mu} {rho : Rho} {h : MH} {D : Ends}
theorem eb_post {ma : Den W} {f : W → DenS} {R : V → Hp → Prop} (ss : StS G mu0 H0 mu rho h st H) (p : PostS G Wx mu0 H0 H D (eBind ma f rho h))
    (hf : ∀ w h1 x H1 mu1, StS G mu0 H0 mu1 rho h1 st H1 → Ext mu H mu1 H1 → RepW G mu1 H H1 w x → PostS G Wx mu0 H0 H1 D (f w rho h1) → R x H1) : tden G Wx ma st H R := by
  refine ⟨mu, rho, h, ss.sr, ?_⟩
  unfold eBind at p
  rcases e : ma rho h with _ | ⟨w | ⟨c, fs⟩, h1⟩
  · rw [e] at p; exact p.elim
  · rw [e] at p
    intro x H1 mu1 hr ex rw'
    exact hf w h1 x H1 mu1 (ss.ext hr ex) ex rw' (PostS.mono ex.stay p)
  · rw [e] at p
    exact fun cls d H' mu' hr ex rx => p cls d st H' mu' (ss.ext hr ex) ex.stay rx
theorem ebT_post {ma : Den Bool} {f : Bool → DenS} {R : Bool → Hp → Prop} (ss : StS G mu0 H0 mu rho h st H) (p : PostS G Wx mu0 H0 H D (eBind ma f rho h))
    (hf : ∀ b h1 H1 mu1, StS G mu0 H0 mu1 rho h1 st H1 → Ext mu H mu1 H1 → PostS G Wx mu0 H0 H1 D (f b rho h1) → R b H1) : tdenT G Wx ma st H R := by
  refine ⟨mu, rho, h, ss.sr, ?_⟩
  unfold eBind at p
  rcases e : ma rho h with _ | ⟨w | ⟨c, fs⟩, h1⟩
  · rw [e] at p; exact p.elim
  · rw [e] at p
    intro H1 mu1 hr ex
    exact hf w h1 H1 mu1 (ss.ext hr ex) ex (PostS.mono ex.stay p)
  · rw [e] at p
    exact fun cls d H' mu' hr ex rx => p cls d st H' mu' (ss.ext hr ex) ex.stay rx
end

/-! ### blocks -/
def sSeq (a b : DenS) : DenS := fun rho h => match a rho h with
  | some (.nx r, h') => b r h'
  | o => o
def sNil : DenS := fun rho h => some (.nx rho, h)
section
variable {G : Gx} {N : List Str} {sc : Scp} {k : Nat} {pos : Pos} {s : Stmt} {ss : List Stmt} {m n : DenS}
theorem seq_imp {Wx : WX} (D : Ends) (st : L2.St) (H : Hp) (t : tdenS G Wx (sSeq m n) D st H) : tSeq (tdenS G Wx m) (tdenS G Wx n) D st H := by
  obtain ⟨mu0, H0, mu, rho, h, sr, p⟩ := t
  refine ⟨mu0, H0, mu, rho, h, sr, ?_⟩
  unfold sSeq at p
  rcases e : m rho h with _ | ⟨r | w | r | r | ⟨c, fs, r⟩, h'⟩
  · rw [e] at p; exact p
  · rw [e] at p
    exact fun st' H' mu' s' ty => ⟨mu0, H0, mu', r, h', s', p.mono ty⟩
  · rw [e] at p; exact p
  · rw [e] at p; exact p
  · rw [e] at p; exact p
  · rw [e] at p; exact p
theorem ds_nil : DSs G N sc k [] sNil := ⟨fun X Wx ft tk => PSs.imp pss_nil fun D st H ⟨mu0, H0, mu, rho, h, sr, p⟩ => p st H mu sr (Stay.refl H)⟩
theorem ds_cons (h1 : DS G N sc k s m) (h2 : DSs G N sc k ss n) : DSs G N sc k (s :: ss) (sSeq m n) := ⟨fun X Wx ft tk => PSs.imp (pss_cons (h1.ps X Wx ft tk) (h2.ps X Wx ft tk)) seq_imp⟩
theorem ds_pass : DS G N sc k (.Pass pos) sNil := ⟨fun X Wx ft tk => PS.imp ps_pass fun D st H ⟨mu0, H0, mu, rho, h, sr, p⟩ => p st H mu sr (Stay.refl H)⟩
def sCont : DenS := fun rho h => some (.ct rho, h)
def sBreak : DenS := fun rho h => some (.bk rho, h)
theorem ds_cont : DS G N sc k (.Continue pos) sCont := ⟨fun X Wx ft tk => PS.imp ps_continue fun D st H ⟨mu0, H0, mu, rho, h, sr, p⟩ => p st H mu sr (Stay.refl H)⟩
theorem ds_break : DS G N sc k (.Break pos) sBreak := ⟨fun X Wx ft tk => PS.imp ps_break fun D st H ⟨mu0, H0, mu, rho, h, sr, p⟩ => p st H mu sr (Stay.refl H)⟩
def sIf (t : Den Bool) (a b : DenS) : DenS := eBind t fun c => if c = true then a else b
theorem ds_if {c : Expr} {a b : List Stmt} {t : Den Bool} (hc : DT G N sc k c t) (ha : DSs G N sc k a m) (hb : DSs G N sc k b n) : DS G N sc k (.If c a b pos) (sIf t m n) :=
  ⟨fun X Wx ft tk => PS.imp (ps_if (hc.pt X Wx ft.ft tk) (ha.ps X Wx ft tk) (hb.ps X Wx ft tk)) fun D st H ⟨mu0, H0, mu, rho, h, sr, p⟩ => ebT_post sr p fun b h1 H1 mu1 s1 e1 p1 => by
    cases b with
    | true => rw [if_pos rfl] at p1 ⊢; exact ⟨mu0, H0, mu1, rho, h1, s1, p1⟩
    | false => rw [if_neg Bool.false_ne_true] at p1 ⊢; exact ⟨mu0, H0, mu1, rho, h1, s1, p1⟩⟩
/-- return -/
def retW : W → Option W
  | .bor _ => none
  | .od => none
  | w => some w
def sRet (m : Den W) : DenS := eBind m fun w _ h => (retW w).map fun w => (.rt w, h)
def sRetN : DenS := fun _ h => some (.rt (.d .non), h)
theorem ds_retN : DS G N sc k (.Return none pos) sRetN := ⟨fun X Wx ft tk => PS.imp ps_retN fun D st H ⟨mu0, H0, mu, rho, h, sr, p⟩ => p .non H mu sr.sr.hr sr.ex (Stay.refl H) .non⟩
theorem RepW.start {G : Gx} {mu0 mu1 mu : Mu} {H0 H1 H : Hp} {w : W} {v : V} (t : ∀ a, H1 a = none → H0 a = none) (r : RepW G mu H1 H w v) : RepW G mu H0 H w v := by
  cases w with
  | d x => exact r
  | own ds =>
    obtain ⟨a, vs, rfl, h1, h2, h3, h4⟩ := r
    exact ⟨a, vs, rfl, h1, h2, h3, t a h4⟩
  | bor ds => exact r
  | od =>
    obtain ⟨a, rfl, h1, h3, h4⟩ := r
    exact ⟨a, rfl, h1, h3, t a h4⟩
  | ref n => exact r
theorem ds_ret {e : Expr} {ma : Den W} (ha : DE G N sc k e ma) : DS G N sc k (.Return (some e) pos) (sRet ma) :=
  ⟨fun X Wx ft tk => PS.imp (ps_ret (ha.pe X Wx ft.ft tk)) fun D st H ⟨mu0, H0, mu, rho, h, sr, p⟩ => eb_post sr p fun w h1 x H1 mu1 s1 e1 rw' p1 => by
    have p1' : PostS G Wx mu0 H0 H1 D ((retW w).map fun w => (.rt w, h1)) := p1
    cases e : retW w with
    | none => rw [e] at p1'; exact p1'.elim
    | some w' =>
      rw [e] at p1'
      have ew : w' = w := by
        cases w <;> first | (cases e; rfl) | (cases e)
      subst ew
      exact p1' x H1 mu1 s1.sr.hr s1.ex (Stay.refl H1) (RepW.start (mu0 := mu0) (mu1 := mu1) sr.ex.there rw')⟩
/-- return of a name that holds a list of its own -/
def sRetV (i : Nat) : DenS := fun rho h => match rho[i]? with
  | some (some (.own ds)) => some (.rt (.own ds), h)
  | some (some (.d x)) => some (.rt (.d x), h)
  | some (some (.ref n)) => some (.rt (.ref n), h)
  | _ => none
theorem ds_retV {i : Nat} {x : Str} {p2 : Pos} (hN : N[i]? = some x) (hv : Vis sc.s x) (hd : (x == ("__debug__" : Str)) = false) (hcd : (x == ("__classdict__" : Str)) = false) : DS G N sc k (.Return (some (.Name x p2)) pos) (sRetV i) := by
  refine ⟨fun X Wx ft tk => PS.imp (ps_ret (pe_var (i := i) (by rw [ft.ft.n]; exact hN) (by rw [ft.ft.sc]; exact hv) hd hcd)) ?_⟩
  rintro D st H ⟨mu0, H0, mu, rho, h, ss, p⟩
  unfold sRetV at p
  split at p
  · rename_i ds e
    obtain ⟨v, h1, a, vs, rfl, h2, h3, h4⟩ := ss.sr.slot i _ e
    exact ⟨_, h1, p (.ref a) H mu ss.sr.hr ss.ex (Stay.refl H) ⟨a, vs, rfl, h2, h3, h4, ss.own i ds a e h1⟩⟩
  · rename_i x e
    obtain ⟨v, h1, h2⟩ := ss.sr.slot i _ e
    exact ⟨v, h1, p v H mu ss.sr.hr ss.ex (Stay.refl H) h2⟩
  · rename_i n e
    obtain ⟨v, h1, h2⟩ := ss.sr.slot i _ e
    exact ⟨v, h1, p v H mu ss.sr.hr ss.ex (Stay.refl H) h2⟩
  · exact p.elim
end

/-! ### names stored -/
theorem getset {α : Type} {l : List α} {i j : Nat} {a b : α} (h : (l.set i a)[j]? = some b) : (i = j ∧ b = a) ∨ (i ≠ j ∧ l[j]? = some b) := by
  by_cases e : i = j
  · subst e
    rw [List.getElem?_set] at h
    simp at h
    exact .inl ⟨rfl, h.2.symm⟩
  · rw [List.getElem?_set_ne e] at h
    exact .inr ⟨e, h⟩
/-- a slot gets data or an object of ours -/
theorem StS.setD {G : Gx} {mu0 : Mu} {H0 : Hp} {mu : Mu} {rho : Rho} {h : MH} {st : L2.St} {H : Hp} {i : Nat} {w : W} {v : V} (s : StS G mu0 H0 mu rho h st H) (r : RepS G mu H w v) (hn : ∀ ds, w ≠ .own ds) : StS G mu0 H0 mu (rho.set i (some w)) h (st.set i (some v)) H := by
  refine ⟨⟨s.sr.hr, fun j w' e => ?_, fun j l ds es a e1 e2 e3 e4 => ?_, by rw [List.length_set, List.length_set]; exact s.len⟩, s.ex, fun j ds a e1 e2 => ?_, by rw [List.length_set, List.length_set]; exact s.len⟩
  · rcases getset e with ⟨rfl, e'⟩ | ⟨hne, e'⟩
    · cases e'
      have hi : i < st.length := by
        have := (List.getElem?_eq_some_iff.mp e).1
        rw [List.length_set, s.len] at this
        exact this
      exact ⟨v, List.getElem?_set_self hi, r⟩
    · obtain ⟨u, h1, h2⟩ := s.sr.slot j w' e'
      exact ⟨u, by rw [List.getElem?_set_ne hne]; exact h1, h2⟩
  · rcases getset e1 with ⟨rfl, e'⟩ | ⟨h1, e1'⟩
    · cases e'; exact absurd rfl (hn ds)
    · rcases getset e2 with ⟨rfl, e'⟩ | ⟨h2, e2'⟩
      · cases e'; exact absurd rfl (hn es)
      · rw [List.getElem?_set_ne h1] at e3
        rw [List.getElem?_set_ne h2] at e4
        exact s.sr.one j l ds es a e1' e2' e3 e4
  · rcases getset e1 with ⟨rfl, e'⟩ | ⟨h1, e1'⟩
    · cases e'; exact absurd rfl (hn ds)
    · rw [List.getElem?_set_ne h1] at e2
      exact s.own j ds a e1' e2
/-- a slot gets a fresh list of its own -/
theorem StS.setO {G : Gx} {mu0 : Mu} {H0 : Hp} {mu : Mu} {rho : Rho} {h : MH} {st : L2.St} {H : Hp} {i : Nat} {ds : List D} {v : V} (s : StS G mu0 H0 mu rho h st H) (r : RepS G mu H (.own ds) v) (h0 : ∀ a, v = .ref a → H0 a = none)
    (hf : ∀ (j : Nat) (es : List D) (a : Addr), j ≠ i → rho[j]? = some (some (.own es)) → st[j]? = some (some (.ref a)) → v ≠ .ref a) : StS G mu0 H0 mu (rho.set i (some (.own ds))) h (st.set i (some v)) H := by
  have hlt : ∀ {w : Option W}, (rho.set i (some (.own ds)))[i]? = some w → i < st.length := fun e => by
    have := (List.getElem?_eq_some_iff.mp e).1
    rw [List.length_set, s.len] at this
    exact this
  refine ⟨⟨s.sr.hr, fun j w' e => ?_, fun j l ds1 es a e1 e2 e3 e4 => ?_, by rw [List.length_set, List.length_set]; exact s.len⟩, s.ex, fun j ds1 a e1 e2 => ?_, by rw [List.length_set, List.length_set]; exact s.len⟩
  · rcases getset e with ⟨rfl, e'⟩ | ⟨hne, e'⟩
    · cases e'
      exact ⟨v, List.getElem?_set_self (hlt e), r⟩
    · obtain ⟨u, h1, h2⟩ := s.sr.slot j w' e'
      exact ⟨u, by rw [List.getElem?_set_ne hne]; exact h1, h2⟩
  · rcases getset e1 with ⟨rfl, e'⟩ | ⟨h1, e1'⟩
    · rcases getset e2 with ⟨rfl, _⟩ | ⟨h2, e2'⟩
      · rfl
      · rw [List.getElem?_set_self (hlt e1)] at e3
        rw [List.getElem?_set_ne h2] at e4
        exact absurd (Option.some.inj (Option.some.inj e3)) (hf l es a (Ne.symm h2) e2' e4)
    · rcases getset e2 with ⟨rfl, _⟩ | ⟨h2, e2'⟩
      · rw [List.getElem?_set_self (hlt e2)] at e4
        rw [List.getElem?_set_ne h1] at e3
        exact absurd (Option.some.inj (Option.some.inj e4)) (hf j ds1 a (Ne.symm h1) e1' e3)
      · rw [List.getElem?_set_ne h1] at e3
        rw [List.getElem?_set_ne h2] at e4
        exact s.sr.one j l ds1 es a e1' e2' e3 e4
  · rcases getset e1 with ⟨rfl, e'⟩ | ⟨h1, e1'⟩
    · rw [List.getElem?_set_self (hlt e1)] at e2
      exact h0 a (Option.some.inj (Option.some.inj e2))
    · rw [List.getElem?_set_ne h1] at e2
      exact s.own j ds1 a e1' e2
end Dn

set_option maxHeartbeats 4000000
namespace Dn
open PySem PySem.Spec PyProof.Rows L2

/-! ### a local list locked for good, a list handed to us: steps that the program does not see -/
def sFrz (i : Nat) : DenS := fun rho h => match rho[i]? with
  | some (some (.own ds)) => some (.nx (rho.set i (some (.d (.lst ds)))), h)
  | some (some (.d (.lst ds))) => some (.nx rho, h)
  | _ => none
theorem StS.frz {G : Gx} {mu0 : Mu} {H0 : Hp} {mu : Mu} {rho : Rho} {h : MH} {st : L2.St} {H : Hp} {i : Nat} {ds : List D} {X : Cx} {pins : List (Addr × Obj)} {s : Shared} (I : Inv X pins st H s) (ss : StS G mu0 H0 mu rho h st H) (e : rho[i]? = some (some (.own ds))) :
    ∃ H2, Inv X pins st H2 s ∧ StS G mu0 H0 mu (rho.set i (some (.d (.lst ds)))) h st H2 ∧ Stay H H2 := by
  obtain ⟨v, hv, a, vs, rfl, h1, h2, h3⟩ := ss.sr.slot i _ e
  have h0 := ss.own i ds a e hv
  obtain ⟨o, I2⟩ := inv_frz I h1
  refine ⟨_, I2, ⟨⟨ss.sr.hr.frz h1 h3, fun j w ej => ?_, fun j l es fs b e1 e2 e3 e4 => ?_, by rw [List.length_set]; exact ss.len⟩, ⟨ss.ex.pre, fun b u q hn ht => ?_, ss.ex.fresh, ss.ex.stay.trans (Stay.frz_new h1), fun b q => ?_⟩, fun j es b e1 e2 => ?_, by rw [List.length_set]; exact ss.len⟩, Stay.frz_new h1⟩
  · rcases getset ej with ⟨rfl, z⟩ | ⟨hne, z⟩
    · cases z
      exact ⟨_, hv, RepD.lst ⟨o, upd_same⟩ (h2.stay (Stay.frz_new h1))⟩
    · obtain ⟨u, q1, q2⟩ := ss.sr.slot j w z
      refine ⟨u, q1, ?_⟩
      cases w with
      | d x => exact RepD.stay (Stay.frz_new h1) (show RepD G H x u from q2)
      | own es =>
        obtain ⟨b, us, rfl, k1, k2, k3⟩ := q2
        refine ⟨b, us, rfl, ?_, k2.stay (Stay.frz_new h1), k3⟩
        rw [upd_ne (fun zz => hne (ss.sr.one i j ds es a e z hv (by rw [← zz]; exact q1)))]
        exact k1
      | bor es => exact q2.elim
      | od => exact q2.elim
      | ref n => exact q2
  · rcases getset e1 with ⟨rfl, z⟩ | ⟨_, e1⟩
    · cases z
    · rcases getset e2 with ⟨rfl, z⟩ | ⟨_, e2⟩
      · cases z
      · exact ss.sr.one j l es fs b e1 e2 e3 e4
  · rw [upd_ne (fun z => by rw [z, h0] at q; cases q)]
    exact ss.ex.keep b u q hn ht
  · by_cases hb : b = a
    · rw [hb]; exact h0
    · rw [upd_ne hb] at q; exact ss.ex.there b q
  · rcases getset e1 with ⟨rfl, z⟩ | ⟨_, e1⟩
    · cases z
    · exact ss.own j es b e1 e2
section
variable {G : Gx} {N : List Str} {sc : Scp} {k : Nat} {pos : Pos} {s : Stmt} {m : DenS} {i : Nat}
theorem frz_pre {X : Cx} {Wx : WX} {pins : List (Addr × Obj)} {sh : Shared} {st : L2.St} {H : Hp} {D : Ends} {f : DenS} (I : Inv X pins st H sh) (t : tdenS G Wx (sSeq (sFrz i) f) D st H) : ∃ H2, Inv X pins st H2 sh ∧ tdenS G Wx f D st H2 := by
  obtain ⟨mu0, H0, mu, rho, h, ss, p⟩ := t
  rcases e : rho[i]? with _ | _ | w
  · simp only [sSeq, sFrz, e] at p; exact p.elim
  · simp only [sSeq, sFrz, e] at p; exact p.elim
  · cases w with
    | own ds =>
      simp only [sSeq, sFrz, e] at p
      obtain ⟨H2, I2, s2, ty⟩ := ss.frz I e
      exact ⟨H2, I2, mu0, H0, mu, _, h, s2, p.mono ty⟩
    | d x =>
      cases x with
      | lst ds => simp only [sSeq, sFrz, e] at p; exact ⟨H, I, mu0, H0, mu, rho, h, ss, p⟩
      | _ => simp only [sSeq, sFrz, e] at p; exact p.elim
    | _ => simp only [sSeq, sFrz, e] at p; exact p.elim
/-- ahead of a statement -/
theorem ds_frz (hm : DS G N sc k s m) : DS G N sc k s (sSeq (sFrz i) m) :=
  ⟨fun X Wx ft tk => ⟨fun pins sh st H D I t => by
    obtain ⟨H2, I2, t2⟩ := frz_pre I t
    exact (hm.ps X Wx ft tk).run pins sh st H2 D I2 t2⟩⟩
theorem dss_frz {ss : List Stmt} (hm : DSs G N sc k ss m) : DSs G N sc k ss (sSeq (sFrz i) m) :=
  ⟨fun X Wx ft tk => ⟨fun pins sh st H D I t => by
    obtain ⟨H2, I2, t2⟩ := frz_pre I t
    exact (hm.ps X Wx ft tk).run pins sh st H2 D I2 t2⟩⟩
end

/-- a fresh list or dict made an object of ours -/
def shrW (w : W) (h : MH) : Option (W × MH) := match w with
  | .own ds => some (.ref h.length, h ++ [.lst ds])
  | .od => some (.ref h.length, h ++ [.dict []])
  | _ => none
def dShr (m : Den W) : Den W := dBind m fun w _ h => (shrW w h).map fun r => (.ok r.1, r.2)
theorem HR.push {G : Gx} {mu : Mu} {h : MH} {H : Hp} {a : Addr} {o : Ob} {u : HO} (r : HR G mu h H) (hn : a ∉ addrs mu) (hu : H a = some u) (ht : ∀ ps, u ≠ .tbl ps) (ho : RepOb G H (a, []) o) : HR G (mu ++ [(a, [])]) (h ++ [o]) H := by
  have ea : addrs (mu ++ [(a, [])]) = addrs mu ++ [a] := by rw [addrs_app]; rfl
  refine ⟨by simp [r.len], ?_, fun n p ob h1 h2 => ?_, r.tabs, fun b hb => ?_⟩
  · rw [ea]
    refine List.nodup_append.mpr ⟨r.nd, by simp, fun x hx y hy e => ?_⟩
    have : y = a := by simpa using hy
    subst this
    subst e
    exact hn hx
  · by_cases hl : n < mu.length
    · rw [List.getElem?_append_left hl] at h1
      rw [List.getElem?_append_left (by rw [← r.len]; exact hl)] at h2
      exact r.ob n p ob h1 h2
    · have hl' : n = mu.length := by
        have := (List.getElem?_eq_some_iff.mp h1).1
        rw [List.length_append] at this
        simp at this
        omega
      subst hl'
      rw [List.getElem?_append_right (Nat.le_refl _), Nat.sub_self] at h1
      rw [List.getElem?_append_right (by rw [r.len]; exact Nat.le_refl _), r.len, Nat.sub_self] at h2
      cases h1; cases h2
      exact ho
  · rw [ea] at hb
    rcases List.mem_append.mp hb with hb | hb
    · exact r.live b hb
    · have : b = a := by simpa using hb
      subst this
      exact ⟨u, hu, ht⟩
theorem Ext.push {mu0 mu : Mu} {H0 H : Hp} {a : Addr} (e : Ext mu0 H0 mu H) (h0 : H0 a = none) : Ext mu0 H0 (mu ++ [(a, [])]) H := by
  refine ⟨fun n p h => ?_, e.keep, fun b hb => ?_, e.stay, e.there⟩
  · obtain ⟨ds, h2⟩ := e.pre n p h
    exact ⟨ds, by rw [List.getElem?_append_left (List.getElem?_eq_some_iff.mp h2).1]; exact h2⟩
  · rw [addrs_app] at hb
    rcases List.mem_append.mp hb with hb | hb
    · exact e.fresh b hb
    · have : b = a := by simpa [addrs] using hb
      subst this
      exact .inr h0
section
variable {G : Gx} {N : List Str} {sc : Scp} {k : Nat} {pos : Pos} {a b c : Expr} {ma mb mc : Den W}
theorem bind_post0 {Wx : WX} {st : L2.St} {H : Hp} {Q : VK} {mu : Mu} {rho : Rho} {h : MH} {f : W → Den W} {R : V → Hp → Prop} (sr : StR G mu rho h st H) (p : Post G Wx mu H st Q (dBind ma f rho h))
    (hf : ∀ w h1 x H1 mu1, StR G mu1 rho h1 st H1 → Ext mu H mu1 H1 → RepW G mu1 H H1 w x → Post G Wx mu H st Q (f w rho h1) → R x H1) : tden G Wx ma st H R := by
  refine ⟨mu, rho, h, sr, ?_⟩
  unfold dBind mBind at p
  rcases e : ma rho h with _ | ⟨w | ⟨c, fs⟩, h1⟩
  · rw [e] at p; exact p.elim
  · rw [e] at p
    intro x H1 mu1 hr ex rw'
    exact hf w h1 x H1 mu1 (sr.ext hr ex) ex rw' p
  · rw [e] at p
    exact p
theorem de_shr (ha : DE G N sc k a ma) : DE G N sc k a (dShr ma) := by
  refine ⟨fun X Wx ft tk => PE.imp (ha.pe X Wx ft tk) ?_⟩
  rintro st H Q ⟨mu, rho, h, sr, p⟩
  refine bind_post0 sr p fun w h1 x H1 mu1 sr1 e1 rw' p1 => ?_
  have p1' : Post G Wx mu H st Q ((shrW w h1).map fun r => (.ok r.1, r.2)) := p1
  have fin : ∀ (a : Addr) (u : HO) (o : Ob), x = .ref a → a ∉ addrs mu1 → H a = none → H1 a = some u → (∀ ps, u ≠ .tbl ps) → RepOb G H1 (a, []) o → Post G Wx mu H st Q (some (.ok (.ref h1.length), h1 ++ [o])) → Q x H1 := by
    intro a u o hx hn h0 hu ht ho q
    subst hx
    refine q (.ref a) H1 (mu1 ++ [(a, [])]) (sr1.hr.push hn hu ht ho) (e1.push h0) ⟨(a, []), ?_, rfl⟩
    rw [List.getElem?_append_right (by rw [sr1.hr.len]; exact Nat.le_refl _), sr1.hr.len, Nat.sub_self]
    rfl
  cases w with
  | d x => exact p1'.elim
  | bor ds => exact p1'.elim
  | ref n => exact p1'.elim
  | own ds =>
    obtain ⟨a, vs, hx, k1, k2, k3, k4⟩ := rw'
    exact fin a _ (.lst ds) hx k3 k4 k1 (fun _ z => by cases z) ⟨vs, k1, k2⟩ p1'
  | od =>
    obtain ⟨a, hx, k1, k3, k4⟩ := rw'
    exact fin a _ (.dict []) hx k3 k4 k1 (fun _ z => by cases z) (.inl ⟨[], k1, .nil⟩) p1'
/-- an argument: data as it is, a fresh list locked, an object of ours -/
def argW : W → Option W
  | .d x => some (.d x)
  | .own ds => some (.d (.lst ds))
  | .ref n => some (.ref n)
  | _ => none
def dArg (m : Den W) : Den W := dBind m fun w _ h => (argW w).map fun r => (.ok r, h)
theorem de_arg (ha : DE G N sc k a ma) : DE G N sc k a (dArg ma) := by
  refine ⟨fun X Wx ft tk => ⟨fun pins s st H Q I t => ?_⟩⟩
  obtain ⟨mu, rho, h, sr, p⟩ := t
  have p' : Post G Wx mu H st Q (mBind (ma rho) (fun w h => (argW w).map fun r => (.ok r, h)) h) := p
  unfold mBind at p'
  refine thn ((ha.pe X Wx ft tk).run pins s st H (fun x H1 => ∃ w h1 mu1, ma rho h = some (.ok w, h1) ∧ HR G mu1 h1 H1 ∧ Ext mu H mu1 H1 ∧ RepW G mu1 H H1 w x) I ⟨mu, rho, h, sr, ?_⟩) fun v s1 ⟨x, H1, I1, r1, w, h1, mu1, e, hr, ex, rw'⟩ => ?_
  · rcases e : ma rho h with _ | ⟨w | ⟨c, fs⟩, h1⟩
    · rw [e] at p'; exact p'.elim
    · exact fun v H1 mu1 hr ex rw' => ⟨w, h1, mu1, rfl, hr, ex, rw'⟩
    · rw [e] at p'; exact p'
  · rw [e] at p'
    cases w with
    | d y => exact ⟨x, H1, I1, r1, p' x H1 mu1 hr ex rw'⟩
    | own ds =>
      obtain ⟨H2, I2, hr2, ex2, rd, _⟩ := frz_ok I1 hr ex rw'
      exact ⟨x, H2, I2, r1, p' x H2 mu1 hr2 ex2 rd⟩
    | bor ds => exact p'.elim
    | od => exact p'.elim
    | ref n => exact ⟨x, H1, I1, r1, p' x H1 mu1 hr ex rw'⟩
end

/-! ### name = value -/
def sPut (i : Nat) (w : W) : DenS := fun rho h => match w with
  | .bor _ => none
  | .od => none
  | w => some (.nx (rho.set i (some w)), h)
def sSet (i : Nat) (m : Den W) : DenS := eBind m (sPut i)
theorem put_post {G : Gx} {Wx : WX} {mu0 : Mu} {H0 H1 : Hp} {mu mu1 : Mu} {H : Hp} {rho : Rho} {h : MH} {st : L2.St} {D : Ends} {i : Nat} {w : W} {x : V} (s0 : StS G mu0 H0 mu rho h st H) (e1 : Ext mu H mu1 H1) {h1 : MH} (s1 : StS G mu0 H0 mu1 rho h1 st H1) (rw' : RepW G mu1 H H1 w x) (p : PostS G Wx mu0 H0 H1 D (sPut i w rho h1)) :
    D.nx (st.set i (some x)) H1 := by
  cases w with
  | d y => exact p _ _ _ (s1.setD (w := .d y) rw' (fun ds z => by cases z)) (Stay.refl _)
  | bor ds => exact p.elim
  | od => exact p.elim
  | ref n => exact p _ _ _ (s1.setD (w := .ref n) rw' (fun ds z => by cases z)) (Stay.refl _)
  | own ds =>
    obtain ⟨a, vs, rfl, k1, k2, k3, k4⟩ := rw'
    refine p _ _ _ (s1.setO ⟨a, vs, rfl, k1, k2, k3⟩ (fun b z => by cases z; exact s0.ex.there _ k4) fun j es b hj e2 e3 z => ?_) (Stay.refl _)
    cases z
    obtain ⟨v, q1, c, us, rfl, q2, _⟩ := s0.sr.slot j _ e2
    rw [e3] at q1
    cases q1
    rw [k4] at q2; cases q2
section
variable {G : Gx} {N : List Str} {sc : Scp} {k : Nat} {pos p2 : Pos} {i : Nat} {x : Str} {e : Expr} {ma : Den W}
/-- two parts: the heap ahead of the value too -/
theorem eb_post2 {Wx : WX} {st : L2.St} {H0 H : Hp} {mu0 mu : Mu} {rho : Rho} {h : MH} {D : Ends} {f : W → DenS} {R : V → Hp → Prop} (ss : StS G mu0 H0 mu rho h st H) (p : PostS G Wx mu0 H0 H D (eBind ma f rho h))
    (hf : ∀ w h1 x H1 mu1, StS G mu0 H0 mu1 rho h1 st H1 → Ext mu H mu1 H1 → RepW G mu1 H H1 w x → PostS G Wx mu0 H0 H1 D (f w rho h1) → R x H1) : tden G Wx ma st H R := eb_post ss p hf
theorem set_imp {Wx : WX} {D : Ends} {st : L2.St} {H : Hp} (t : tdenS G Wx (sSet i ma) D st H) : tAsg (tden G Wx ma) (gName i) D st H := by
  obtain ⟨mu0, H0, mu, rho, h, ss, p⟩ := t
  exact eb_post ss p fun w h1 x H1 mu1 s1 e1 rw' p1 => put_post ss e1 s1 rw' p1
theorem ds_set (hN : N[i]? = some x) (hl : Loc sc.s x) (he : DE G N sc k e ma) (hs : ∀ env : Env, env.scope = sc.s → swapsWith e (some (.Name x p2)) pos.line env = pure false) : DS G N sc k (.Assign [.Name x p2] e pos) (sSet i ma) :=
  ⟨fun X Wx ft tk => PS.imp (ps_set (by rw [ft.ft.n]; exact ft.ft.nd) (by rw [ft.ft.n]; exact hN) (by rw [ft.ft.sc]; exact hl) (he.pe X Wx ft.ft tk) (hs X.env ft.ft.sc) (.inl (by rw [ft.fn]))) fun D st H t => set_imp t⟩
end
end Dn

set_option maxHeartbeats 4000000
namespace Dn
open PySem PySem.Spec PyProof.Rows L2

theorem PI.imp {X : Cx} {tg e : Expr} {t t' : TI} (h : PI X tg e t) (i : ∀ st H R, t' st H R → t st H R) : PI X tg e t' := ⟨fun pins s st H R I q => h.run pins s st H R I (i st H R q)⟩

/-! ### what is walked -/
def Grow (H H' : Hp) : Prop := H' = H ∨ ∃ p o, H p = none ∧ H' = upd H p o
theorem Grow.stay {H H' : Hp} (g : Grow H H') : Stay H H' := by
  rcases g with rfl | ⟨p, o, hp, rfl⟩
  · exact Stay.refl _
  · exact Stay.new hp
theorem Grow.hr {G : Gx} {mu : Mu} {h : MH} {H H' : Hp} (g : Grow H H') (r : HR G mu h H) : HR G mu h H' := by
  rcases g with rfl | ⟨p, o, hp, rfl⟩
  · exact r
  · exact r.new hp
theorem Grow.ext {mu : Mu} {H H' : Hp} (g : Grow H H') : Ext mu H mu H' := by
  rcases g with rfl | ⟨p, o, hp, rfl⟩
  · exact Ext.refl _ _
  · exact Ext.new hp
structure Walks (G : Gx) (J : It) (ds : List D) (H1 : Hp) : Prop where
  go : ∀ i H, Stay H1 H → i < ds.length → J.go i H
  yld : ∀ i H x H', Stay H1 H → J.yld i H x H' → ∀ d, ds[i]? = some d → RepD G H' d x ∧ Grow H H'
  stop : ∀ H, Stay H1 H → J.stop ds.length H
def PostI (G : Gx) (Wx : WX) (mu : Mu) (H : Hp) (st : L2.St) (R : It → Hp → Prop) : Option (Out (List D) × MH) → Prop
  | some (.ok ds, h') => ∀ J H' mu', HR G mu' h' H' → Ext mu H mu' H' → Walks G J ds H' → R J H'
  | some (.ex c fs, h') => ∀ cls d H' mu', HR G mu' h' H' → Ext mu H mu' H' → RepX G H' c fs cls d → Wx cls d st H'
  | none => False
def tdenI (G : Gx) (Wx : WX) (m : Den (List D)) : TI := fun st H R => ∃ mu rho h, StR G mu rho h st H ∧ PostI G Wx mu H st R (m rho h)
structure DI (G : Gx) (N : List Str) (sc : Scp) (k : Nat) (tg e : Expr) (m : Den (List D)) : Prop where
  pi : ∀ (X : Cx) (Wx : WX), Fits X G N sc k → L2N.Takes X Wx → PI X tg e (tdenI G Wx m)
section
variable {G : Gx} {Wx : WX} {st : L2.St} {H : Hp} {mu : Mu} {rho : Rho} {h : MH} {R : It → Hp → Prop}
theorem PostI.mono {mu1 : Mu} {H1 : Hp} {r : Option (Out (List D) × MH)} (e : Ext mu H mu1 H1) (p : PostI G Wx mu H st R r) : PostI G Wx mu1 H1 st R r := by
  match r, p with
  | some (.ok w, h'), p => exact fun J H' mu' hr e' w => p J H' mu' hr (e.trans e') w
  | some (.ex c fs, h'), p => exact fun cls d H' mu' hr e' rx => p cls d H' mu' hr (e.trans e') rx
theorem bindI_post {ma : Den W} {f : W → Den (List D)} {S : V → Hp → Prop} (sr : StR G mu rho h st H) (p : PostI G Wx mu H st R (dBind ma f rho h))
    (hf : ∀ w h1 x H1 mu1, StR G mu1 rho h1 st H1 → Ext mu H mu1 H1 → RepW G mu1 H H1 w x → PostI G Wx mu1 H1 st R (f w rho h1) → S x H1) : tden G Wx ma st H S := by
  refine ⟨mu, rho, h, sr, ?_⟩
  unfold dBind mBind at p
  rcases e : ma rho h with _ | ⟨w | ⟨c, fs⟩, h1⟩
  · rw [e] at p; exact p.elim
  · rw [e] at p
    intro x H1 mu1 hr ex rw'
    exact hf w h1 x H1 mu1 (sr.ext hr ex) ex rw' (PostI.mono ex p)
  · rw [e] at p; exact p
theorem bindAI_post {ma : Den (List W)} {f : List W → Den (List D)} {S : List V → Hp → Prop} (sr : StR G mu rho h st H) (p : PostI G Wx mu H st R (dBind ma f rho h))
    (hf : ∀ ws h1 xs H1 mu1, StR G mu1 rho h1 st H1 → Ext mu H mu1 H1 → RepWs G mu1 H H1 ws xs → PostI G Wx mu1 H1 st R (f ws rho h1) → S xs H1) : tdenA G Wx ma st H S := by
  refine ⟨mu, rho, h, sr, ?_⟩
  unfold dBind mBind at p
  rcases e : ma rho h with _ | ⟨w | ⟨c, fs⟩, h1⟩
  · rw [e] at p; exact p.elim
  · rw [e] at p
    intro x H1 mu1 hr ex rw'
    exact hf w h1 x H1 mu1 (sr.ext hr ex) ex rw' (PostI.mono ex p)
  · rw [e] at p; exact p
end
def charsD (x : Str) : List D := x.cps.toList.map fun c => .str ⟨#[c]⟩
def itemsW : W → Option (List D)
  | .d (.tup ds) => some ds
  | .d (.lst ds) => some ds
  | .d (.str x) => some (charsD x)
  | _ => none
def iSeq (m : Den W) : Den (List D) := dBind m fun w _ h => (itemsW w).map fun ds => (.ok ds, h)
/-- by its kind -/
def iAny (K : PySem.W.Frag) (te : TE) : TI := fun σ H R => te σ H fun x H1 => (∃ a, x = .ref a ∧ (∃ xs, SqL K H1 a xs) ∧ R (Itl K a) H1) ∨ (∃ a, x = .ref a ∧ (∃ xs, SqT K H1 a xs) ∧ R (Itt K a) H1) ∨ (∃ z, x = .str z ∧ R (Its z) H1)
theorem pi_any {X : Cx} {tg e : Expr} {te : TE} (he : PE X e te) : PI X tg e (iAny X.K te) := by
  refine ⟨fun pins s σ H R I h => ?_⟩
  refine thn (he.run pins s σ H _ I h) fun v s1 ⟨x, H1, I1, r1, q1⟩ => ?_
  rcases q1 with ⟨a, e, ⟨xs, hq⟩, q⟩ | ⟨a, e, ⟨xs, hq⟩, q⟩ | ⟨z, e, q⟩
  · subst e
    cases r1
    obtain ⟨its, rv, p, hz⟩ := I1.list hq
    refine wpAny_pyIter_list p.isList ?_
    refine ⟨s1.heap.objs.size, [s1.heap.objs.size], _, _, H1, rfl, I1.kept (t' := s1.toks) fun b o e => Heap.get?_push_of_some _ e, turn_list a _, ⟨_, Heap.get?_push_size _ rfl, rfl, rfl⟩, fun b hb => ?_, q⟩
    have e : b = s1.heap.objs.size := by simpa using hb
    subst e
    exact I1.fpOk (Nat.le_refl _) (I1.hok.fresh (Nat.le_refl _))
  · subst e
    cases r1
    obtain ⟨its, rv, p, hz⟩ := I1.tuple hq
    refine wpAny_pyIter_tuple (show s1.heap.IsTuple a its.toArray from p) ?_
    refine ⟨s1.heap.objs.size, [s1.heap.objs.size], _, _, H1, rfl, I1.kept (t' := s1.toks) fun b o e => Heap.get?_push_of_some _ e, turn_tuple a _, ⟨_, Heap.get?_push_size _ rfl, rfl, rfl⟩, fun b hb => ?_, q⟩
    have e : b = s1.heap.objs.size := by simpa using hb
    subst e
    exact I1.fpOk (Nat.le_refl _) (I1.hok.fresh (Nat.le_refl _))
  · subst e
    obtain ⟨t, rfl⟩ := r1
    cases ha : z.cps.all (· < 128)
    · exact wpAny_pyIter_wide ha (pi_one (tk := s1.toks) I1 _ (turn_str _ z t "str_iterator" (.inr rfl)) ⟨_, Heap.get?_push_size _ rfl, rfl, rfl⟩ q)
    · exact wpAny_pyIter_ascii ha (pi_one (tk := s1.toks) I1 _ (turn_str _ z t "str_ascii_iterator" (.inl rfl)) ⟨_, Heap.get?_push_size _ rfl, rfl, rfl⟩ q)
theorem FzL.sq {K : PySem.W.Frag} {H : Hp} {a : Addr} {xs : List V} (h : FzL H a xs) : SqL K H a xs := .inl h.rd
theorem walk_lst {G : Gx} {H1 : Hp} {a : Addr} {vs : List V} {ds : List D} (f : FzL H1 a vs) (r : RepDs G H1 ds vs) : Walks G (Itl G.K a) ds H1 := by
  refine ⟨fun i H s hi => ?_, fun i H x H' s y d hd => ?_, fun H s => ?_⟩
  · rw [r.length] at hi
    exact ⟨vs, vs[i], (FzL.stay s f).sq, List.getElem?_eq_getElem hi⟩
  · obtain ⟨rfl, y⟩ := y
    obtain ⟨v, h1, h2⟩ := r.get hd
    have := y vs (FzL.stay s f).sq
    rw [h1] at this
    cases this
    exact ⟨h2.stay s, .inl rfl⟩
  · exact ⟨vs, (FzL.stay s f).sq, by rw [r.length]; exact Nat.le_refl _⟩
theorem walk_tup {G : Gx} {H1 : Hp} {a : Addr} {vs : List V} {ds : List D} (f : SqT G.K H1 a vs) (r : RepDs G H1 ds vs) : Walks G (Itt G.K a) ds H1 := by
  refine ⟨fun i H s hi => ?_, fun i H x H' s y d hd => ?_, fun H s => ?_⟩
  · rw [r.length] at hi
    exact ⟨vs, vs[i], SqT.stay s f, List.getElem?_eq_getElem hi⟩
  · obtain ⟨rfl, y⟩ := y
    obtain ⟨v, h1, h2⟩ := r.get hd
    have := y vs (SqT.stay s f)
    rw [h1] at this
    cases this
    exact ⟨h2.stay s, .inl rfl⟩
  · exact ⟨vs, SqT.stay s f, by rw [r.length]; exact Nat.le_refl _⟩
theorem charsD_len (x : Str) : (charsD x).length = x.cps.size := by unfold charsD; simp
theorem charsD_get {x : Str} {i : Nat} {d : D} (h : (charsD x)[i]? = some d) : ∃ c, x.cps[i]? = some c ∧ d = .str ⟨#[c]⟩ := by
  unfold charsD at h
  rw [List.getElem?_map] at h
  obtain ⟨c, h1, h2⟩ := Option.map_eq_some_iff.mp h
  exact ⟨c, by simpa using h1, h2.symm⟩
theorem walk_str {G : Gx} {H1 : Hp} {x : Str} : Walks G (Its x) (charsD x) H1 := by
  refine ⟨fun i H s hi => ?_, fun i H v H' s y d hd => ?_, fun H s => ?_⟩
  · rw [charsD_len] at hi; exact hi
  · obtain ⟨rfl, c, y, rfl⟩ := y
    obtain ⟨c', h1, rfl⟩ := charsD_get hd
    rw [h1] at y
    cases y
    exact ⟨.str _, .inl rfl⟩
  · show x.cps.size ≤ _
    rw [charsD_len]; exact Nat.le_refl _
theorem walk_any {G : Gx} {mu : Mu} {H0 H : Hp} {w : W} {v : V} {ds : List D} (r : RepW G mu H0 H w v) (e : itemsW w = some ds) :
    ((∃ a, v = .ref a ∧ (∃ xs, SqL G.K H a xs) ∧ Walks G (Itl G.K a) ds H) ∨ (∃ a, v = .ref a ∧ (∃ xs, SqT G.K H a xs) ∧ Walks G (Itt G.K a) ds H) ∨ (∃ z, v = .str z ∧ Walks G (Its z) ds H)) := by
  unfold itemsW at e
  split at e
  · cases e
    cases r with
    | tup a b => exact .inr (.inl ⟨_, rfl, ⟨_, a.sq⟩, walk_tup a.sq b⟩)
  · cases e
    cases r with
    | lst a b => exact .inl ⟨_, rfl, ⟨_, a.sq⟩, walk_lst a b⟩
  · cases e
    cases r
    exact .inr (.inr ⟨_, rfl, walk_str⟩)
  · cases e
section
variable {G : Gx} {N : List Str} {sc : Scp} {k : Nat} {pos p : Pos} {tg e : Expr} {es : List Expr} {m : Den W} {ms : Den (List W)}
theorem di_seq (he : DE G N sc k e m) : DI G N sc k tg e (iSeq m) := by
  refine ⟨fun X Wx ft tk => PI.imp (pi_any (he.pe X Wx ft tk)) ?_⟩
  rintro st H R ⟨mu, rho, h, sr, p⟩
  refine bindI_post sr p fun w h1 x H1 mu1 sr1 e1 rw' p1 => ?_
  have p1' : PostI G Wx mu1 H1 st R ((itemsW w).map fun ds => (.ok ds, h1)) := p1
  cases e : itemsW w with
  | none => rw [e] at p1'; exact p1'.elim
  | some ds =>
    rw [e] at p1'
    have hK := (fits_gx ft).1
    rcases walk_any rw' e with ⟨a, q1, q2, q3⟩ | ⟨a, q1, q2, q3⟩ | ⟨z, q1, q3⟩
    · rw [hK] at q2 q3
      exact .inl ⟨a, q1, q2, p1' _ H1 mu1 sr1.hr (Ext.refl mu1 H1) q3⟩
    · rw [hK] at q2 q3
      exact .inr (.inl ⟨a, q1, q2, p1' _ H1 mu1 sr1.hr (Ext.refl mu1 H1) q3⟩)
    · exact .inr (.inr ⟨z, q1, p1' _ H1 mu1 sr1.hr (Ext.refl mu1 H1) q3⟩)

/-! ### ranges -/
def L62 : Int := 4611686018427387904
theorem l62 : L62 = 2 ^ 62 := by decide
def rangeD (lo : Int) (n : Nat) : List D := (List.range n).map fun i => D.int (lo + (i : Nat))
theorem walk_rng {lo : Int} {n : Nat} {H1 : Hp} : Walks G (Itr lo n) (rangeD lo n) H1 := by
  have hl : (rangeD lo n).length = n := by unfold rangeD; simp
  refine ⟨fun i H s hi => ?_, fun i H v H' s y d hd => ?_, fun H s => ?_⟩
  · rw [hl] at hi; exact hi
  · obtain ⟨rfl, rfl⟩ := y
    unfold rangeD at hd
    rw [List.getElem?_map] at hd
    obtain ⟨c, h1, h2⟩ := Option.map_eq_some_iff.mp hd
    have hi : i < n := by
      have := (List.getElem?_eq_some_iff.mp h1).1
      simpa using this
    rw [List.getElem?_range hi] at h1
    cases h1
    cases h2
    exact ⟨.int _, .inl rfl⟩
  · show n ≤ _
    rw [hl]; exact Nat.le_refl _
def rng1W : List W → Option (List D)
  | [.d (.int j)] => if -L62 ≤ j ∧ j < L62 then some (rangeD 0 j.toNat) else none
  | _ => none
def rng2W : List W → Option (List D)
  | [.d (.int i), .d (.int j)] => if -L62 ≤ i ∧ i < L62 ∧ -L62 ≤ j ∧ j < L62 then some (rangeD i (j - i).toNat) else none
  | _ => none
def iApp (f : List W → Option (List D)) (ms : Den (List W)) : Den (List D) := dBind ms fun ws _ h => (f ws).map fun ds => (.ok ds, h)
theorem iapp_post {Wx : WX} {st : L2.St} {H : Hp} {R : It → Hp → Prop} {f : List W → Option (List D)} (t : tdenI G Wx (iApp f ms) st H R) (S : List V → Hp → Prop)
    (hf : ∀ ws xs ds H1 mu1 h1, HR G mu1 h1 H1 → RepWs G mu1 H H1 ws xs → f ws = some ds → (∀ J, Walks G J ds H1 → R J H1) → S xs H1) : tdenA G Wx ms st H S := by
  obtain ⟨mu, rho, h, sr, p⟩ := t
  refine bindAI_post sr p fun ws h1 xs H1 mu1 sr1 e1 rws p1 => ?_
  have p1' : PostI G Wx mu1 H1 st R ((f ws).map fun ds => (.ok ds, h1)) := p1
  cases e : f ws with
  | none => rw [e] at p1'; exact p1'.elim
  | some ds =>
    rw [e] at p1'
    exact hf ws xs ds H1 mu1 h1 sr1.hr rws e fun J w => p1' J H1 mu1 sr1.hr (Ext.refl mu1 H1) w
theorem di_range1 {a : Expr} (hg : sc.s.names.lookup ("range" : Str) = some .globalImplicit) (hm : G.mg ("range" : Str) = none) (ha : DA G N sc k [a] ms) (hs : notStar a = true) : DI G N sc k tg (.Call (.Name "range" p) [a] [] pos) (iApp rng1W ms) := by
  refine ⟨fun X Wx ft tk => PI.imp (pi_range1 (by show X.env.scope.names.lookup _ = _; rw [ft.sc]; exact hg) (by rw [← (fits_gx ft).2]; exact hm) (ha.pa X Wx ft tk) (star_of hs)) fun st H R t => iapp_post t _ fun ws xs ds H1 mu1 h1 hr rws e q => ?_⟩
  unfold rng1W at e
  split at e
  · split at e
    · rename_i hz
      cases e
      obtain ⟨x, rfl, r⟩ := vals1w rws
      cases r
      rw [l62] at hz
      exact ⟨_, rfl, hz.1, hz.2, q _ walk_rng⟩
    · cases e
  · cases e
theorem di_range2 {a b : Expr} (hg : sc.s.names.lookup ("range" : Str) = some .globalImplicit) (hm : G.mg ("range" : Str) = none) (ha : DA G N sc k [a, b] ms) (hs : notStar a = true) (hs2 : notStar b = true) : DI G N sc k tg (.Call (.Name "range" p) [a, b] [] pos) (iApp rng2W ms) := by
  refine ⟨fun X Wx ft tk => PI.imp (pi_range2 (by show X.env.scope.names.lookup _ = _; rw [ft.sc]; exact hg) (by rw [← (fits_gx ft).2]; exact hm) (ha.pa X Wx ft tk) (by rw [star_of hs, star_of hs2]; rfl) (star_of hs2)) fun st H R t => iapp_post t _ fun ws xs ds H1 mu1 h1 hr rws e q => ?_⟩
  unfold rng2W at e
  split at e
  · split at e
    · rename_i hz
      cases e
      obtain ⟨x, y, rfl, r, r'⟩ := vals2w rws
      cases r
      cases r'
      rw [l62] at hz
      exact ⟨_, _, rfl, hz, q _ walk_rng⟩
    · cases e
  · cases e
end

/-! ### targets -/
inductive Tgt where
  | nm (i : Nat) | tp (is : List Nat)
def zipIx : List Nat → List D → Option (List (Nat × D))
  | [], [] => some []
  | i :: is, d :: ds => (zipIx is ds).map ((i, d) :: ·)
  | _, _ => none
def Tgt.asg : Tgt → D → Option (List (Nat × D))
  | .nm i, d => some [(i, d)]
  | .tp is, .tup ds => zipIx is ds
  | .tp _, _ => none
def setR : List (Nat × D) → Rho → Rho
  | [], r => r
  | (i, d) :: bs, r => setR bs (r.set i (some (.d d)))
def setV : List (Nat × V) → L2.St → L2.St
  | [], r => r
  | (i, d) :: bs, r => setV bs (r.set i (some d))
inductive RepB (G : Gx) (H : Hp) : List (Nat × D) → List (Nat × V) → Prop
  | nil : RepB G H [] []
  | cons {i : Nat} {d : D} {v : V} {bs : List (Nat × D)} {vs : List (Nat × V)} : RepD G H d v → RepB G H bs vs → RepB G H ((i, d) :: bs) ((i, v) :: vs)
def tgAll : List Nat → TGs
  | [] => gNil
  | i :: is => gCons (gName i) (tgAll is)
def tgG (K : PySem.W.Frag) : Tgt → TG
  | .nm i => gName i
  | .tp is => gTup K is.length (tgAll is)
theorem tgAll_ok {G : Gx} {H : Hp} : ∀ {is : List Nat} {ds : List D} {vs : List V} {bs : List (Nat × D)}, zipIx is ds = some bs → RepDs G H ds vs → ∃ us, RepB G H bs us ∧ ∀ (st : L2.St) (Q : L2.St → Hp → Prop), Q (setV us st) H → tgAll is vs st H Q
  | [], [], _, bs, e, .nil => by cases e; exact ⟨[], .nil, fun st Q q => ⟨rfl, q⟩⟩
  | i :: is, d :: ds, _, bs, e, .cons (v := v) (vs := vs) r t => by
    obtain ⟨bs', e1, rfl⟩ := Option.map_eq_some_iff.mp (show (zipIx is ds).map ((i, d) :: ·) = some bs from e)
    obtain ⟨us, h1, h2⟩ := tgAll_ok e1 t
    exact ⟨(i, v) :: us, .cons r h1, fun st Q q => ⟨v, vs, rfl, h2 _ Q q⟩⟩
  | [], _ :: _, _, _, e, _ => by cases e
  | _ :: _, [], _, _, e, _ => by cases e
theorem tgG_ok {G : Gx} {H : Hp} {T : Tgt} {d : D} {v : V} {bs : List (Nat × D)} (e : T.asg d = some bs) (r : RepD G H d v) : ∃ us, RepB G H bs us ∧ ∀ (st : L2.St) (Q : L2.St → Hp → Prop), Q (setV us st) H → tgG G.K T v st H Q := by
  cases T with
  | nm i => cases e; exact ⟨[(i, v)], .cons r .nil, fun st Q q => q⟩
  | tp is =>
    cases r with
    | tup f r =>
      obtain ⟨us, h1, h2⟩ := tgAll_ok e r
      have hl : ∀ {is : List Nat} {ds : List D} {bs}, zipIx is ds = some bs → is.length = ds.length := by
        intro is
        induction is with
        | nil => intro ds bs e; cases ds with
          | nil => rfl
          | cons _ _ => cases e
        | cons i is ih => intro ds bs e; cases ds with
          | nil => cases e
          | cons d ds =>
            obtain ⟨bs', e1, _⟩ := Option.map_eq_some_iff.mp (show (zipIx is ds).map ((i, d) :: ·) = some bs from e)
            show is.length + 1 = ds.length + 1
            rw [ih e1]
      exact ⟨us, h1, fun st Q q => ⟨_, _, rfl, f.sq, by rw [← r.length, ← hl e], h2 st Q q⟩⟩
    | _ => cases e
structure DG (N : List Str) (sg : Scope) (tg : Expr) (T : Tgt) (all : Str → Bool) : Prop where
  pg : ∀ X : Cx, X.N = N → N.Nodup → X.env.scope = sg → X.calm = true → (∀ y, all y = true → X.fn y = true) → PG X tg (tgG X.K T)
structure DGs (N : List Str) (sg : Scope) (tgs : List Expr) (is : List Nat) (all : Str → Bool) : Prop where
  pgs : ∀ X : Cx, X.N = N → N.Nodup → X.env.scope = sg → X.calm = true → (∀ y, all y = true → X.fn y = true) → PGs X tgs (tgAll is)
section
variable {N : List Str} {sg : Scope} {all : Str → Bool} {i : Nat} {x : Str} {p : Pos} {es : List Expr} {is : List Nat}
theorem dg_pg (hN : N[i]? = some x) (hl : sg.names.lookup x = some .local ∨ (all x = true ∧ Loc sg x)) : ∀ X : Cx, X.N = N → N.Nodup → X.env.scope = sg → X.calm = true → (∀ y, all y = true → X.fn y = true) → PG X (.Name x p) (gName i) := by
  intro X h1 h2 h3 h4 h5
  rcases hl with hl | ⟨ha, hl⟩
  · exact pg_name (by rw [h1]; exact h2) (by rw [h1]; exact hN) (by rw [h3]; exact .inl hl) (.inr (by rw [h3]; exact hl))
  · exact pg_name (by rw [h1]; exact h2) (by rw [h1]; exact hN) (by rw [h3]; exact hl) (.inl (h5 x ha))
theorem dg_nm (hN : N[i]? = some x) (hl : sg.names.lookup x = some .local ∨ (all x = true ∧ Loc sg x)) : DG N sg (.Name x p) (.nm i) all := ⟨dg_pg hN hl⟩
theorem dgs_nil : DGs N sg [] [] all := ⟨fun X _ _ _ _ _ => pgs_nil⟩
theorem dgs_cons (hN : N[i]? = some x) (hl : sg.names.lookup x = some .local ∨ (all x = true ∧ Loc sg x)) (t : DGs N sg es is all) : DGs N sg (.Name x p :: es) (i :: is) all :=
  ⟨fun X h1 h2 h3 h4 h5 => pgs_cons (dg_pg hN hl X h1 h2 h3 h4 h5) (t.pgs X h1 h2 h3 h4 h5)⟩
theorem dg_tp {k : Nat} (t : DGs N sg es is all) (hn : ∀ env, (assignEach es env).length = is.length) (hst : ∀ env, (assignEach es env).findIdx? (·.1) = none) : DG N sg (.Tuple es k p) (.tp is) all :=
  ⟨fun X h1 h2 h3 h4 h5 => pg_tup h4 (t.pgs X h1 h2 h3 h4 h5) (hn X.env) (hst X.env)⟩
end
theorem StS.setAll {G : Gx} {mu0 : Mu} {H0 : Hp} {mu : Mu} {h : MH} {H : Hp} : ∀ {bs : List (Nat × D)} {us : List (Nat × V)} {rho : Rho} {st : L2.St}, StS G mu0 H0 mu rho h st H → RepB G H bs us → StS G mu0 H0 mu (setR bs rho) h (setV us st) H
  | _, _, _, _, s, .nil => s
  | _, _, rho, st, s, .cons (i := i) (d := d) (v := v) r t => by
    have := s.setD (i := i) (w := .d d) (v := v) r (fun ds z => by cases z)
    unfold setR setV
    exact StS.setAll this t

/-! ### for -/
def sLoop (T : Tgt) (body : DenS) : List D → DenS
  | [] => sNil
  | d :: ds => fun rho h => match T.asg d with
    | none => none
    | some bs => match body (setR bs rho) h with
      | some (.nx r, h') => sLoop T body ds r h'
      | some (.ct r, h') => sLoop T body ds r h'
      | some (.bk r, h') => some (.nx r, h')
      | some (.rt w, h') => some (.rt w, h')
      | some (.ex c fs r, h') => some (.ex c fs r, h')
      | none => none
def sFor (T : Tgt) (mi : Den (List D)) (body : DenS) : DenS := eBind mi fun ds => sLoop T body ds
section
variable {G : Gx} {N : List Str} {sc : Scp} {k : Nat} {pos : Pos} {tg e : Expr} {body : List Stmt} {mi : Den (List D)} {mb : DenS} {T : Tgt}
theorem for_post {X : Cx} {Wx : WX} {D : Ends} {st : L2.St} {H : Hp} (ft : Fits X G N sc k) (t : tdenS G Wx (sFor T mi mb) D st H) : tFor (tdenI G Wx mi) (tgG X.K T) (tdenS G Wx mb) D st H := by
  obtain ⟨mu0, H0, mu, rho, h, ss, p⟩ := t
  have hK := (fits_gx ft).1
  refine ⟨mu, rho, h, ss.sr, ?_⟩
  unfold sFor eBind at p
  rcases e : mi rho h with _ | ⟨ds | ⟨c, fs⟩, h1⟩
  · rw [e] at p; exact p.elim
  · rw [e] at p
    intro J H1 mu1 hr1 e1 wk
    refine ⟨fun i m st' H' => m = ds.length - i ∧ i ≤ ds.length ∧ Stay H1 H' ∧ ∃ mu' rho' h', StS G mu0 H0 mu' rho' h' st' H' ∧ PostS G Wx mu0 H0 H' D (sLoop T mb (ds.drop i) rho' h'), ⟨ds.length, by simp, Nat.zero_le _, Stay.refl _, mu1, rho, h1, ss.ext hr1 e1, by rw [List.drop_zero]; exact p.mono e1.stay⟩, ?_⟩
    rintro i m st' H' ⟨rfl, hi, ty, mu', rho', h', s', p'⟩
    by_cases hlt : i < ds.length
    · right
      refine ⟨wk.go i H' ty hlt, fun st2 H2 => Stay H1 H2 ∧ ∃ mu2 rho2 h2, StS G mu0 H0 mu2 rho2 h2 st2 H2 ∧ PostS G Wx mu0 H0 H2 D (sLoop T mb (ds.drop (i + 1)) rho2 h2), ?_, ?_⟩
      · rintro st2 H2 ⟨t2, mu2, rho2, h2, s2, p2⟩
        exact ⟨ds.length - (i + 1), by omega, rfl, by omega, t2, mu2, rho2, h2, s2, p2⟩
      · intro x H2 y
        obtain ⟨rd, gr⟩ := wk.yld i H' x H2 ty y ds[i] (List.getElem?_eq_getElem hlt)
        rw [List.drop_eq_getElem_cons hlt] at p'
        unfold sLoop at p'
        cases ea : T.asg ds[i] with
        | none => rw [ea] at p'; exact p'.elim
        | some bs =>
          rw [ea] at p'
          dsimp only at p'
          obtain ⟨us, rb, go⟩ := tgG_ok ea rd
          rw [hK] at go
          refine go st' _ ⟨mu0, H0, mu', setR bs rho', h', StS.setAll (s'.ext (gr.hr s'.sr.hr) gr.ext) rb, ?_⟩
          have p2 := p'.mono gr.stay
          have ty2 : Stay H1 H2 := ty.trans gr.stay
          rcases eb : mb (setR bs rho') h' with _ | ⟨r | w | r | r | ⟨c, fs, r⟩, h2⟩
          · rw [eb] at p2; exact p2.elim
          · rw [eb] at p2
            exact fun st3 H3 mu3 s3 t3 => ⟨ty2.trans t3, mu3, r, h2, s3, p2.mono t3⟩
          · rw [eb] at p2; exact p2
          · rw [eb] at p2; exact p2
          · rw [eb] at p2
            exact fun st3 H3 mu3 s3 t3 => ⟨ty2.trans t3, mu3, r, h2, s3, p2.mono t3⟩
          · rw [eb] at p2; exact p2
    · have hi2 : i = ds.length := by omega
      subst hi2
      rw [List.drop_length] at p'
      exact .inl ⟨wk.stop H' ty, p' st' H' mu' s' (Stay.refl H')⟩
  · rw [e] at p
    exact fun cls d H' mu' hr ex rx => p cls d st H' mu' (ss.ext hr ex) ex.stay rx
theorem ds_for (hi : DI G N sc k tg e mi) (hg : DG N sc.s tg T fun _ => true) (hb : DSs G N sc k body mb) (hs : ∀ env x, foldedSetIterable e env x = pure x) : DS G N sc k (.For tg e body [] pos) (sFor T mi mb) :=
  ⟨fun X Wx ft tk => PS.imp (ps_for ft.own ft.ft.calm (hi.pi X Wx ft.ft tk) (hg.pg X ft.ft.n ft.ft.nd ft.ft.sc ft.ft.calm fun y _ => by rw [ft.fn]) (hb.ps X Wx ft tk) (hs X.env)) fun D st H t => for_post ft.ft t⟩
end
end Dn

set_option maxHeartbeats 4000000
namespace Dn
open PySem PySem.Spec PyProof.Rows L2

/-! ### a fresh list of the frame's own that grows -/
theorem Stay.upd_lst {H : Hp} {a : Addr} {xs : List V} {o : HO} (h : H a = some (.lst xs)) : Stay H (upd H a o) :=
  ⟨fun b ys e => by rw [upd_ne (fun z => by rw [z, h] at e; cases e)]; exact e, fun b o u e => by rw [upd_ne (fun z => by rw [z, h] at e; cases e)]; exact e⟩
theorem HR.upd_lst {G : Gx} {mu : Mu} {h : MH} {H : Hp} {a : Addr} {xs : List V} {o : HO} (r : HR G mu h H) (ha : H a = some (.lst xs)) (hn : a ∉ addrs mu) : HR G mu h (upd H a o) := by
  have nb : ∀ b u, H b = some u → (∀ ys, u ≠ .lst ys) → b ≠ a := fun b u q hl z => by
    subst z
    rw [ha] at q
    exact hl xs (Option.some.inj q).symm
  refine ⟨r.len, r.nd, fun n p ob h1 h2 => ?_, fun p hp => ?_, fun b hb => ?_⟩
  · refine (r.ob n p ob h1 h2).keep (Stay.upd_lst ha) (fun b hb u e _ => ?_) (fun b x e => ?_)
    · rw [upd_ne (fun z => hn (by subst z; rcases List.mem_cons.mp hb with z | z; exact z ▸ addrs_mem h1; exact addrs_mem2 h1 z))]; exact e
    · rw [upd_ne (nb b _ e fun _ z => by cases z)]; exact e
  · obtain ⟨ps, h1, h2, h3⟩ := r.tabs p hp
    refine ⟨ps, by rw [upd_ne (nb _ _ h1 fun _ z => by cases z)]; exact h1, h2, fun pos cv hc => ?_⟩
    obtain ⟨c, e1, e2⟩ := h3 pos cv hc
    exact ⟨c, e1, by rw [upd_ne (nb _ _ e2 fun _ z => by unfold LamX.CodeO at z; cases z)]; exact e2⟩
  · obtain ⟨u, e, nt⟩ := r.live b hb
    exact ⟨u, by rw [upd_ne (fun z => hn (by rw [← z]; exact hb))]; exact e, nt⟩
theorem Ext.upd_own {mu0 mu : Mu} {H0 H : Hp} {a : Addr} {xs : List V} {o : HO} (e : Ext mu0 H0 mu H) (h0 : H0 a = none) (ha : H a = some (.lst xs)) : Ext mu0 H0 mu (upd H a o) := by
  refine ⟨e.pre, fun b u q hn ht => ?_, e.fresh, e.stay.trans (Stay.upd_lst ha), fun b q => ?_⟩
  · rw [upd_ne (fun z => by rw [z, h0] at q; cases q)]
    exact e.keep b u q hn ht
  · by_cases hb : b = a
    · rw [hb]; exact h0
    · rw [upd_ne hb] at q; exact e.there b q
theorem Ext.nin {mu mu' : Mu} {H H' : Hp} {a : Addr} {u : HO} (e : Ext mu H mu' H') (h : H a = some u) (hn : a ∉ addrs mu) : a ∉ addrs mu' := fun hm => by
  rcases e.fresh a hm with z | z
  · exact hn z
  · rw [h] at z; cases z

/-! ### the slots within a block -/
def wipeR (rho : Rho) : List Nat → Rho
  | [] => rho
  | v :: vs => (wipeR rho vs).set v none
theorem StR.setN {G : Gx} {mu : Mu} {rho : Rho} {h : MH} {st : L2.St} {H : Hp} (r : StR G mu rho h st H) (i : Nat) : StR G mu (rho.set i none) h (st.set i none) H := by
  refine ⟨r.hr, fun j w e => ?_, fun j l es fs b e1 e2 e3 e4 => ?_, by rw [List.length_set, List.length_set]; exact r.len⟩
  · rcases getset e with ⟨rfl, z⟩ | ⟨hne, z⟩
    · cases z
    · obtain ⟨v, h1, h2⟩ := r.slot j w z
      exact ⟨v, by rw [List.getElem?_set_ne hne]; exact h1, h2⟩
  · rcases getset e1 with ⟨_, z⟩ | ⟨n1, e1⟩
    · cases z
    · rcases getset e2 with ⟨_, z⟩ | ⟨n2, e2⟩
      · cases z
      · rw [List.getElem?_set_ne n1] at e3
        rw [List.getElem?_set_ne n2] at e4
        exact r.one j l es fs b e1 e2 e3 e4
theorem StR.wipe {G : Gx} {mu : Mu} {rho : Rho} {h : MH} {st : L2.St} {H : Hp} (r : StR G mu rho h st H) : ∀ vs : List Nat, StR G mu (wipeR rho vs) h (L2.wipe st vs) H
  | [] => r
  | v :: vs => (StR.wipe r vs).setN v
theorem StR.setD {G : Gx} {mu : Mu} {rho : Rho} {h : MH} {st : L2.St} {H : Hp} {i : Nat} {d : D} {v : V} (r : StR G mu rho h st H) (rd : RepD G H d v) : StR G mu (rho.set i (some (.d d))) h (st.set i (some v)) H := by
  refine ⟨r.hr, fun j w e => ?_, fun j l es fs b e1 e2 e3 e4 => ?_, by rw [List.length_set, List.length_set]; exact r.len⟩
  · rcases getset e with ⟨rfl, z⟩ | ⟨hne, z⟩
    · cases z
      have hi : i < st.length := by
        have := (List.getElem?_eq_some_iff.mp e).1
        rw [List.length_set, r.len] at this
        exact this
      exact ⟨v, List.getElem?_set_self hi, rd⟩
    · obtain ⟨v, h1, h2⟩ := r.slot j w z
      exact ⟨v, by rw [List.getElem?_set_ne hne]; exact h1, h2⟩
  · rcases getset e1 with ⟨_, z⟩ | ⟨n1, e1⟩
    · cases z
    · rcases getset e2 with ⟨_, z⟩ | ⟨n2, e2⟩
      · cases z
      · rw [List.getElem?_set_ne n1] at e3
        rw [List.getElem?_set_ne n2] at e4
        exact r.one j l es fs b e1 e2 e3 e4
theorem setR_len : ∀ (bs : List (Nat × D)) (r : Rho), (setR bs r).length = r.length
  | [], _ => rfl
  | (i, d) :: bs, r => by unfold setR; rw [setR_len bs, List.length_set]
theorem setV_len : ∀ (bs : List (Nat × V)) (r : L2.St), (setV bs r).length = r.length
  | [], _ => rfl
  | (i, d) :: bs, r => by unfold setV; rw [setV_len bs, List.length_set]
theorem StR.setAll {G : Gx} {mu : Mu} {h : MH} {H : Hp} : ∀ {bs : List (Nat × D)} {us : List (Nat × V)} {rho : Rho} {st : L2.St}, StR G mu rho h st H → RepB G H bs us → StR G mu (setR bs rho) h (setV us st) H
  | _, _, _, _, s, .nil => s
  | _, _, rho, st, s, .cons (i := i) (d := d) (v := v) r t => by
    have := s.setD (i := i) r
    unfold setR setV
    exact StR.setAll this t
theorem wipeR_len (rho : Rho) : ∀ vs : List Nat, (wipeR rho vs).length = rho.length
  | [] => rfl
  | v :: vs => by unfold wipeR; rw [List.length_set, wipeR_len rho vs]
theorem wipe_set {st : L2.St} {x : Option V} : ∀ {vs : List Nat} {i : Nat}, i ∈ vs → L2.wipe (st.set i x) vs = L2.wipe st vs
  | v :: vs, i, h => by
    unfold L2.wipe
    by_cases hv : i = v
    · subst hv
      by_cases hm : i ∈ vs
      · rw [wipe_set hm]
      · have : ∀ ws : List Nat, i ∉ ws → L2.wipe (st.set i x) ws = (L2.wipe st ws).set i x := by
          intro ws
          induction ws with
          | nil => intro _; rfl
          | cons w ws ih =>
            intro hn
            unfold L2.wipe
            rw [ih (fun z => hn (List.mem_cons_of_mem _ z)), List.set_comm _ _ (fun z => hn (by rw [z]; exact List.mem_cons_self))]
        rw [this vs hm, List.set_set]
    · rcases List.mem_cons.mp h with z | z
      · exact absurd z hv
      · rw [wipe_set z]
theorem wipe_idem {st : L2.St} : ∀ {ws vs : List Nat}, (∀ i ∈ ws, i ∈ vs) → L2.wipe (L2.wipe st ws) vs = L2.wipe st vs
  | [], _, _ => rfl
  | w :: ws, vs, h => by
    show L2.wipe ((L2.wipe st ws).set w none) vs = _
    rw [wipe_set (h w List.mem_cons_self), wipe_idem fun i hi => h i (List.mem_cons_of_mem _ hi)]
theorem wipe_setV {vs : List Nat} : ∀ {us : List (Nat × V)} {st : L2.St}, (∀ p ∈ us, p.1 ∈ vs) → L2.wipe (setV us st) vs = L2.wipe st vs
  | [], _, _ => rfl
  | (i, v) :: us, st, h => by
    unfold setV
    rw [wipe_setV fun p hp => h p (List.mem_cons_of_mem _ hp), wipe_set (h (i, v) List.mem_cons_self)]
def Tgt.ix : Tgt → List Nat
  | .nm i => [i]
  | .tp is => is
theorem zipIx_ix : ∀ {is : List Nat} {ds : List D} {bs : List (Nat × D)}, zipIx is ds = some bs → ∀ p ∈ bs, p.1 ∈ is
  | [], [], _, e, p, hp => by cases e; cases hp
  | i :: is, d :: ds, bs, e, p, hp => by
    obtain ⟨bs', e1, rfl⟩ := Option.map_eq_some_iff.mp (show (zipIx is ds).map ((i, d) :: ·) = some bs from e)
    rcases List.mem_cons.mp hp with z | z
    · rw [z]; exact List.mem_cons_self
    · exact List.mem_cons_of_mem _ (zipIx_ix e1 p z)
  | [], _ :: _, _, e, _, _ => by cases e
  | _ :: _, [], _, e, _, _ => by cases e
theorem asg_ix {T : Tgt} {d : D} {bs : List (Nat × D)} (e : T.asg d = some bs) : ∀ p ∈ bs, p.1 ∈ T.ix := by
  cases T with
  | nm i => cases e; intro p hp; rw [List.mem_singleton.mp hp]; exact List.mem_cons_self
  | tp is => cases d <;> first | exact zipIx_ix e | cases e
theorem repB_ix {G : Gx} {H : Hp} {ix : List Nat} : ∀ {bs : List (Nat × D)} {us : List (Nat × V)}, RepB G H bs us → (∀ p ∈ bs, p.1 ∈ ix) → ∀ p ∈ us, p.1 ∈ ix
  | _, _, .nil, _, _, hp => by cases hp
  | _, _, .cons r t, h, p, hp => by
    rcases List.mem_cons.mp hp with z | z
    · rw [z]; exact h (_, _) List.mem_cons_self
    · exact repB_ix t (fun q hq => h q (List.mem_cons_of_mem _ hq)) p z

/-! ### [elt for target in iter if ..] -/
structure DC (G : Gx) (N : List Str) (sc : Scp) (k : Nat) (ifs : List Expr) (m : Den Bool) : Prop where
  pts : ∀ (X : Cx) (Wx : WX), Fits X G N sc k → L2N.Takes X Wx → PTs X ifs (tdenT G Wx m)
def dYes : Den Bool := fun _ h => some (.ok true, h)
section
variable {G : Gx} {N : List Str} {sc : Scp} {k : Nat} {c : Expr} {m : Den Bool}
theorem dc_nil : DC G N sc k [] dYes := ⟨fun X Wx ft tk => ⟨fun pins s st H Q I ⟨mu, rho, h, sr, p⟩ => pts_nil.run pins s st H Q I (p H mu sr.hr (Ext.refl mu H))⟩⟩
theorem dc_one (h : DT G N sc k c m) : DC G N sc k [c] m := ⟨fun X Wx ft tk => pts_one (h.pt X Wx ft tk)⟩
end
def lcGo (T : Tgt) (mt : Den Bool) (me : Den W) (rho : Rho) : List D → MH → Option (List D × MH)
  | [], h => some ([], h)
  | d :: ds, h => match T.asg d with
    | none => none
    | some bs => match mt (setR bs rho) h with
      | some (.ok true, h1) => match me (setR bs rho) h1 with
        | some (.ok (.d y), h2) => match lcGo T mt me rho ds h2 with
          | some (ys, h3) => some (y :: ys, h3)
          | none => none
        | _ => none
      | some (.ok false, h1) => lcGo T mt me rho ds h1
      | _ => none
def dLc (T : Tgt) (mi : Den (List D)) (mt : Den Bool) (me : Den W) (vs : List Nat) : Den W := dBind mi fun ds rho h => match lcGo T mt me (wipeR rho vs) ds h with
  | some (ys, h') => if ys.length ≤ LIM then some (.ok (.own ys), h') else none
  | none => none
section
variable {G : Gx} {N : List Str} {sc : Scp} {k : Nat} {pos : Pos} {tg iter elt : Expr} {ifs : List Expr} {scope : Scope} {own : List (Str × Nat)} {mi : Den (List D)} {mt : Den Bool} {me : Den W} {T : Tgt}
theorem takesF {X : Cx} : L2N.Takes X (fun _ _ _ _ => False) := fun _ _ x => by
  obtain ⟨_, _, _, _, _, _, _, _, _, _, _, _, _, _, _, _, z⟩ := x
  exact z.elim
theorem fits_blk {X : Cx} {s : Shared} {H : Hp} {cl : List (Str × Addr)} {C : Addr} {fp : List Addr} (ft : Fits X G N sc k) : Fits (X.blk s H scope (compEnvC scope cl C X.env) fp) G N (sc.blk scope) k :=
  ⟨ft.g, ft.n, ft.cd, by show _ = relS scope sc.s; rw [← ft.sc]; rfl, ft.room, ft.calm, ft.nd⟩
theorem lc_post {X : Cx} {Wx : WX} {st : L2.St} {H : Hp} {Q : VK} {vs : List Nat} (ft : Fits X G N sc k) (hix : ∀ i ∈ T.ix, i ∈ vs) (t : tden G Wx (dLc T mi mt me vs) st H Q) :
    tLc (tdenI G Wx mi) (tgG X.K T) (tdenT G (fun _ _ _ _ => False) mt) (tden G (fun _ _ _ _ => False) me) vs st H Q := by
  obtain ⟨mu, rho, h, sr, p⟩ := t
  have hK := (fits_gx ft).1
  refine ⟨mu, rho, h, sr, ?_⟩
  unfold dLc dBind mBind at p
  rcases e : mi rho h with _ | ⟨ds | ⟨c, fs⟩, h1⟩
  · rw [e] at p; exact p.elim
  · rw [e] at p
    intro J H1 mu1 hr1 e1 wk D hD
    dsimp only at p
    have sr1 := sr.ext hr1 e1
    have start : ∃ ys h', lcGo T mt me (wipeR rho vs) ds h1 = some (ys, h') ∧ ys.length ≤ LIM ∧ Post G Wx mu H st Q (some (.ok (.own ys), h')) := by
      rcases el : lcGo T mt me (wipeR rho vs) ds h1 with _ | ⟨ys, h'⟩
      · rw [el] at p; exact p.elim
      · rw [el] at p
        dsimp only at p
        by_cases hz : ys.length ≤ LIM
        · rw [if_pos hz] at p; exact ⟨ys, h', rfl, hz, p⟩
        · rw [if_neg hz] at p; exact p.elim
    obtain ⟨ys, hE, el, hz, fin⟩ := start
    refine ⟨fun i m H' => m = ds.length - i ∧ i ≤ ds.length ∧ Stay H1 H' ∧ ∃ mu' h' acc us rest, HR G mu' h' H' ∧ Ext mu1 H1 mu' H' ∧ H' D = some (.lst us) ∧ RepDs G H' acc us ∧ D ∉ addrs mu' ∧ lcGo T mt me (wipeR rho vs) (ds.drop i) h' = some (rest, hE) ∧ acc ++ rest = ys,
      ⟨ds.length, by simp, Nat.zero_le _, Stay.new hD, mu1, h1, [], [], ys, hr1.new hD, Ext.new hD, upd_same, .nil, hr1.nin hD, by rw [List.drop_zero]; exact el, rfl⟩, ?_⟩
    rintro i m H' ⟨rfl, hi, ty, mu', h', acc, us, rest, hr', ex', hDl, rac, nD, eg, eacc⟩
    by_cases hlt : i < ds.length
    · right
      refine ⟨wk.go i H' ty hlt, fun H2 => Stay H1 H2 ∧ ∃ mu2 h2 acc us rest, HR G mu2 h2 H2 ∧ Ext mu1 H1 mu2 H2 ∧ H2 D = some (.lst us) ∧ RepDs G H2 acc us ∧ D ∉ addrs mu2 ∧ lcGo T mt me (wipeR rho vs) (ds.drop (i + 1)) h2 = some (rest, hE) ∧ acc ++ rest = ys, ?_, ?_⟩
      · rintro H2 ⟨t2, r2⟩
        exact ⟨ds.length - (i + 1), by omega, rfl, by omega, t2, r2⟩
      · intro x H2 y
        obtain ⟨rd, gr⟩ := wk.yld i H' x H2 ty y ds[i] (List.getElem?_eq_getElem hlt)
        rw [List.drop_eq_getElem_cons hlt] at eg
        unfold lcGo at eg
        cases ea : T.asg ds[i] with
        | none => rw [ea] at eg; cases eg
        | some bs =>
          rw [ea] at eg
          dsimp only at eg
          obtain ⟨ub, rb, go⟩ := tgG_ok ea rd
          rw [hK] at go
          refine go _ _ ⟨?_, ?_⟩
          · rw [wipe_setV (fun q hq => hix _ (repB_ix rb (asg_ix ea) q hq)), wipe_idem (fun _ z => z)]
          · have ex2 : Ext mu1 H1 mu' H2 := ex'.trans gr.ext
            have ty2 : Stay H1 H2 := ty.trans gr.stay
            have hr2 := gr.hr hr'
            have hD2 : H2 D = some (.lst us) := gr.ext.keep (mu := mu') D _ hDl nD (fun _ z => by cases z)
            have s2 : StR G mu' (setR bs (wipeR rho vs)) h' (setV ub (L2.wipe st vs)) H2 := StR.setAll ((sr1.ext hr2 ex2).wipe vs) rb
            refine ⟨mu', _, h', s2, ?_⟩
            have rac2 := rac.stay gr.stay
            rcases et : mt (setR bs (wipeR rho vs)) h' with _ | ⟨b | ⟨c, fs⟩, h2⟩
            · rw [et] at eg; cases eg
            · rw [et] at eg
              intro H3 mu3 hr3 e3
              have hD3 : H3 D = some (.lst us) := e3.keep D _ hD2 nD (fun _ z => by cases z)
              have nD3 : D ∉ addrs mu3 := e3.nin hD2 nD
              cases b with
              | false =>
                rw [if_neg Bool.false_ne_true]
                exact ⟨ty2.trans e3.stay, mu3, h2, acc, us, rest, hr3, ex2.trans e3, hD3, rac2.stay e3.stay, nD3, eg, eacc⟩
              | true =>
                rw [if_pos rfl]
                dsimp only at eg
                refine ⟨mu3, _, h2, s2.ext hr3 e3, ?_⟩
                rcases ee : me (setR bs (wipeR rho vs)) h2 with _ | ⟨w | ⟨c, fs⟩, h3⟩
                · rw [ee] at eg; cases eg
                · rw [ee] at eg
                  intro v H4 mu4 hr4 e4 rw4
                  cases w with
                  | d z =>
                    dsimp only at eg
                    rcases er : lcGo T mt me (wipeR rho vs) (ds.drop (i + 1)) h3 with _ | ⟨zs, h4⟩
                    · rw [er] at eg; cases eg
                    · rw [er] at eg
                      cases eg
                      have hD4 : H4 D = some (.lst us) := e4.keep D _ hD3 nD3 (fun _ z => by cases z)
                      have nD4 : D ∉ addrs mu4 := e4.nin hD3 nD3
                      have rac4 := (rac2.stay e3.stay).stay e4.stay
                      refine ⟨us, hD4, ?_, ?_⟩
                      · rw [← rac4.length, lim_eq]
                        have := congrArg List.length eacc
                        rw [List.length_append, List.length_cons] at this
                        omega
                      · refine ⟨((ty2.trans e3.stay).trans e4.stay).trans (Stay.upd_lst hD4), mu4, h3, acc ++ [z], us ++ [v], zs, hr4.upd_lst hD4 nD4, ((ex2.trans e3).trans e4).upd_own hD hD4, upd_same, (rac4.app (.cons rw4 .nil)).stay (Stay.upd_lst hD4), nD4, er, ?_⟩
                        rw [← eacc, List.append_assoc]; rfl
                  | _ => cases eg
                · rw [ee] at eg; cases eg
            · rw [et] at eg; cases eg
    · have hi2 : i = ds.length := by omega
      subst hi2
      rw [List.drop_length] at eg
      cases eg
      rw [List.append_nil] at eacc
      subst eacc
      refine .inl ⟨wk.stop H' ty, fin (.ref D) H' mu' hr' (e1.trans ex') ⟨D, us, rfl, hDl, rac, nD, e1.there _ hD⟩⟩
  · rw [e] at p
    exact p
theorem de_lc (hi : DI G N sc k tg iter mi) (ok : blkC N sc.s scope own = true) (hg : DG N (relS scope sc.s) tg T fun y => scope.names.lookup y == some .cell) (hix : (T.ix.all fun i => (own.map (·.2)).contains i) = true) (ht : DC G N (sc.blk scope) k ifs mt) (he : DE G N (sc.blk scope) k elt me) (hs : ∀ env x, foldedSetIterable iter env x = pure x) :
    DE G N sc k (.ListComp elt [⟨tg, iter, ifs, 0⟩] scope pos) (dLc T mi mt me (own.map (·.2))) := by
  refine ⟨fun X Wx ft tk => ?_⟩
  have hN : X.N.Nodup := by rw [ft.n]; exact ft.nd
  refine PE.imp (pe_lc ft.calm hN (hi.pi X Wx ft tk) (by rw [ft.n, ft.sc]; exact blkOk_by ok) (fun s H C cl fp => hg.pg (X.blk s H scope (compEnvC scope cl C X.env) fp) ft.n ft.nd (fits_blk ft).sc ft.calm fun y hy => hy) (fun s H C cl fp => ht.pts (X.blk s H scope (compEnvC scope cl C X.env) fp) _ (fits_blk ft) takesF) (fun s H C cl fp => he.pe (X.blk s H scope (compEnvC scope cl C X.env) fp) _ (fits_blk ft) takesF) (hs X.env)) fun st H Q t => lc_post ft (fun i hi => ?_) t
  have := List.all_eq_true.mp hix i hi
  simpa using this
/-- name = [..] -/
theorem ds_setLc {i : Nat} {y : Str} {py spos : Pos} (hN : N[i]? = some y) (hl : sc.s.names.lookup y = some .local) (hw : ∀ env : Env, env.scope = sc.s → swapsWith (.ListComp elt [⟨tg, iter, ifs, 0⟩] scope pos) (some (.Name y py)) spos.line env = pure true) (hi : DI G N sc k tg iter mi) (ok : blkC N sc.s scope own = true) (hg : DG N (relS scope sc.s) tg T fun y => scope.names.lookup y == some .cell) (hix : (T.ix.all fun i => (own.map (·.2)).contains i) = true) (ht : DC G N (sc.blk scope) k ifs mt) (he : DE G N (sc.blk scope) k elt me) (hs : ∀ env x, foldedSetIterable iter env x = pure x) :
    DS G N sc k (.Assign [.Name y py] (.ListComp elt [⟨tg, iter, ifs, 0⟩] scope pos) spos) (sSet i (dLc T mi mt me (own.map (·.2)))) := by
  refine ⟨fun X Wx ft tk => ?_⟩
  have hN' : X.N.Nodup := by rw [ft.ft.n]; exact ft.ft.nd
  refine PS.imp (ps_setLc (g := tgG X.K T) (tt := tdenT G (fun _ _ _ _ => False) mt) (te := tden G (fun _ _ _ _ => False) me) ft.ft.calm hN' (by rw [ft.ft.n]; exact hN) (by rw [ft.ft.sc]; exact hl) (hw X.env ft.ft.sc) (hi.pi X Wx ft.ft tk) (by rw [ft.ft.n, ft.ft.sc]; exact blkOk_by ok) (fun s H C cl fp => hg.pg (X.blk s H scope (compEnvC scope cl C X.env) fp) ft.ft.n ft.ft.nd (fits_blk ft.ft).sc ft.ft.calm fun y hy => hy) (fun s H C cl fp => ht.pts (X.blk s H scope (compEnvC scope cl C X.env) fp) _ (fits_blk ft.ft) takesF) (fun s H C cl fp => he.pe (X.blk s H scope (compEnvC scope cl C X.env) fp) _ (fits_blk ft.ft) takesF) (hs X.env)) fun D st H t => ?_
  have t2 := set_imp t
  refine lc_post ft.ft (fun i hi => ?_) t2
  have := List.all_eq_true.mp hix i hi
  simpa using this
end
end Dn

set_option maxHeartbeats 4000000
namespace Dn
open PySem PySem.Spec PyProof.Rows L2

/-! ### our objects are apart -/
theorem addrs_disj {mu : Mu} (nd : (addrs mu).Nodup) {n m : Nat} {p q : Addr × List Addr} {a : Addr} (h1 : mu[n]? = some p) (h2 : mu[m]? = some q) (ha : a ∈ p.1 :: p.2) (hb : a ∈ q.1 :: q.2) : n = m := by
  have pw := (List.pairwise_flatMap.mp nd).2
  obtain ⟨l1, e1⟩ := List.getElem?_eq_some_iff.mp h1
  obtain ⟨l2, e2⟩ := List.getElem?_eq_some_iff.mp h2
  rcases Nat.lt_trichotomy n m with hlt | he | hgt
  · have := List.pairwise_iff_getElem.mp pw n m l1 l2 hlt a (by rw [e1]; exact ha) a (by rw [e2]; exact hb)
    exact absurd rfl this
  · exact he
  · have := List.pairwise_iff_getElem.mp pw m n l2 l1 hgt a (by rw [e2]; exact hb) a (by rw [e1]; exact ha)
    exact absurd rfl this
/-- a list of ours written -/
theorem HR.setLst {G : Gx} {mu : Mu} {h : MH} {H : Hp} {n : Nat} {p : Addr × List Addr} {ds es : List D} {vs us : List V} (r : HR G mu h H) (hp : mu[n]? = some p) (hv : H p.1 = some (.lst vs)) (re : RepDs G H es us) : HR G mu (h.set n (.lst es)) (upd H p.1 (.lst us)) := by
  have st := Stay.upd_lst (o := .lst us) hv
  have nb : ∀ b u, H b = some u → (∀ ys, u ≠ .lst ys) → b ≠ p.1 := fun b u q hl z => by
    subst z
    rw [hv] at q
    exact hl vs (Option.some.inj q).symm
  refine ⟨by rw [List.length_set]; exact r.len, r.nd, fun m q ob h1 h2 => ?_, fun p' hp' => ?_, fun b hb => ?_⟩
  · rcases getset h2 with ⟨rfl, z⟩ | ⟨hne, z⟩
    · rw [hp] at h1
      cases h1
      cases z
      exact ⟨us, upd_same, re.stay st⟩
    · refine (r.ob m q ob h1 z).keep st (fun b hb u e _ => ?_) (fun b x e => ?_)
      · rw [upd_ne (fun zz => hne (addrs_disj r.nd hp h1 (by subst zz; exact List.mem_cons_self) hb))]; exact e
      · rw [upd_ne (nb b _ e fun _ z => by cases z)]; exact e
  · obtain ⟨ps, h1, h2, h3⟩ := r.tabs p' hp'
    refine ⟨ps, by rw [upd_ne (nb _ _ h1 fun _ z => by cases z)]; exact h1, h2, fun pos cv hc => ?_⟩
    obtain ⟨c, e1, e2⟩ := h3 pos cv hc
    exact ⟨c, e1, by rw [upd_ne (nb _ _ e2 fun _ z => by unfold LamX.CodeO at z; cases z)]; exact e2⟩
  · by_cases hb' : b = p.1
    · exact ⟨_, by rw [hb']; exact upd_same, fun _ z => by cases z⟩
    · obtain ⟨u, e, nt⟩ := r.live b hb
      exact ⟨u, by rw [upd_ne hb']; exact e, nt⟩
theorem Ext.upd_in {mu : Mu} {H : Hp} {a : Addr} {vs : List V} {o : HO} (ha : a ∈ addrs mu) (hv : H a = some (.lst vs)) : Ext mu H mu (upd H a o) := by
  refine ⟨fun n p h => ⟨p.2, h⟩, fun b u e hn ht => by rw [upd_ne (fun z => hn (by rw [z]; exact ha))]; exact e, fun _ h => .inl h, Stay.upd_lst hv, fun b e => ?_⟩
  by_cases hb : b = a
  · rw [hb, upd_same] at e; cases e
  · rw [upd_ne hb] at e; exact e

/-! ### a local list written -/
theorem StS.updOwn {G : Gx} {mu0 : Mu} {H0 : Hp} {mu : Mu} {rho : Rho} {h : MH} {st : L2.St} {H : Hp} {i : Nat} {ds es : List D} {a : Addr} {vs us : List V} (ss : StS G mu0 H0 mu rho h st H) (e : rho[i]? = some (some (.own ds))) (hv : st[i]? = some (some (.ref a))) (h1 : H a = some (.lst vs)) (re : RepDs G H es us) :
    StS G mu0 H0 mu (rho.set i (some (.own es))) h st (upd H a (.lst us)) ∧ Stay H (upd H a (.lst us)) := by
  have h0 := ss.own i ds a e hv
  have sy := Stay.upd_lst (o := .lst us) h1
  obtain ⟨v, hv', a', vs', rfl, _, _, h3⟩ := ss.sr.slot i _ e
  rw [hv] at hv'
  cases hv'
  refine ⟨⟨⟨ss.sr.hr.upd_lst h1 h3, fun j w ej => ?_, fun j l fs gs b e1 e2 e3 e4 => ?_, by rw [List.length_set]; exact ss.len⟩, ss.ex.upd_own h0 h1, fun j fs b e1 e2 => ?_, by rw [List.length_set]; exact ss.len⟩, sy⟩
  · rcases getset ej with ⟨rfl, z⟩ | ⟨hne, z⟩
    · cases z
      exact ⟨_, hv, a, us, rfl, upd_same, re.stay sy, h3⟩
    · obtain ⟨u, q1, q2⟩ := ss.sr.slot j w z
      refine ⟨u, q1, ?_⟩
      cases w with
      | d x => exact RepD.stay sy (show RepD G H x u from q2)
      | own fs =>
        obtain ⟨b, ws, rfl, k1, k2, k3⟩ := q2
        refine ⟨b, ws, rfl, ?_, k2.stay sy, k3⟩
        rw [upd_ne (fun zz => hne (ss.sr.one i j ds fs a e z hv (by rw [← zz]; exact q1)))]
        exact k1
      | bor es => exact q2.elim
      | od => exact q2.elim
      | ref n => exact q2
  · have nm : ∀ {j : Nat} {gs : List D}, (rho.set i (some (.own es)))[j]? = some (some (.own gs)) → ∃ gs', rho[j]? = some (some (.own gs')) := fun {j gs} q => by
      rcases getset q with ⟨rfl, _⟩ | ⟨_, q⟩
      · exact ⟨ds, e⟩
      · exact ⟨gs, q⟩
    obtain ⟨f1, q1⟩ := nm e1
    obtain ⟨f2, q2⟩ := nm e2
    exact ss.sr.one j l f1 f2 b q1 q2 e3 e4
  · rcases getset e1 with ⟨rfl, z⟩ | ⟨_, e1⟩
    · exact ss.own i ds b e e2
    · exact ss.own j fs b e1 e2

/-! ### x.append(e), x.extend(e), x.remove(e), x.pop(e) -/
section
variable {X : Cx}
def rExtR : V → List V → Hp → VK → Prop := fun x vs H Q => ∃ l b xs zs, x = .ref l ∧ vs = [.ref b] ∧ H l = some (.lst xs) ∧ Rd H b (.lst zs) ∧ xs.length + zs.length ≤ sizeLine ∧ Q .non (upd H l (.lst (xs ++ zs)))
theorem mt_extR : MtM X "list.extend" rExtR := by
  intro pins s σ H x vs v us Q I rx rv h
  obtain ⟨l, b, xs, zs, rfl, rfl, hH, hB, hz, q⟩ := h
  cases rx
  obtain ⟨u, rfl, ru⟩ := rv.one
  cases ru
  obtain ⟨z, its, n, r, hl, e⟩ := I.lstM hH
  obtain ⟨z2, its2, n2, r2, hl2, e2⟩ := lstR I hB
  have hsz : its.toArray.size + its2.toArray.size ≤ sizeLine := by rw [List.size_toArray, List.size_toArray]; omega
  have hlong : ¬ (!its.toArray.isEmpty && Builtin.List.listTooLong (its.toArray.size + its2.toArray.size)) = true := by
    rw [notLongL hsz, Bool.and_false]
    exact Bool.false_ne_true
  refine call_meets F.slot_list_extend ⟨_, e, rfl⟩ F.entry_list_extend (F.args_list_extend_2 _ _)
    (AutoSeq1.list_extend_list_list_0 l its.toArray n b its2.toArray n2 hlong (by rw [List.size_toArray]; omega) (by omega)) ⟨e, e2, ?_⟩
  refine ⟨.non, _, I.lset (its' := its ++ its2) hH e (by simp) (r.append r2) ?_, rfl, q⟩
  rw [List.length_append]
  omega
def rRemD (K : PySem.W.Frag) : V → List V → Hp → VK → Prop := fun x xs H Q => ∃ (l : Addr) (vs : List V) (ds : List PyData) (y : V) (d : PyData) (j : Nat), x = .ref l ∧ xs = [y] ∧ H l = some (.lst vs) ∧ DpAll K H vs ds ∧ Dp K H y d ∧
  PyData.plainAll ds = true ∧ d.plain = true ∧ d.depth ≤ 61 ∧ SeqAt.dataPlace ds d = some j ∧ Q .non (upd H l (.lst (vs.eraseIdx j)))
theorem mt_remD (hu : X.A.units + 64 < cLine) : MtM X "list.remove" (rRemD X.K) := by
  intro pins s σ H x xs v us Q I rx rv h
  obtain ⟨l, vs, ds, y, d, j, rfl, rfl, hH, hds, hd, p1, p2, hde, hj, q⟩ := h
  cases rx
  obtain ⟨u, rfl, ru⟩ := rv.one
  obtain ⟨z, its, n, r, hl, e⟩ := I.lstM hH
  obtain ⟨as, ra⟩ := Dp.readsAll I ds vs its hds r
  obtain ⟨bs, rb⟩ := Dp.reads I d y u hd ru
  refine SeqAt.remove_list_data (vs := its.toArray) ⟨_, e, rfl, n, rfl⟩ (by simpa using ra) rb p1 p2 (by omega) hj (by rw [List.size_toArray]; omega) ?_
  refine ⟨.non, _, I.lset (its' := its.eraseIdx j) (t' := s.toks) hH e ?_ (r.eraseIdx j) ?_, rfl, q⟩
  · show its.toArray.eraseIdxIfInBounds j = (its.eraseIdx j).toArray
    rw [List.eraseIdxIfInBounds_toArray]
  · have := len_erase vs j
    omega
end
end Dn

set_option maxHeartbeats 4000000
namespace Dn
open PySem PySem.Spec PyProof.Rows L2

/-! ### methods that write a local list -/
def OwnR (G : Gx) (r : V → List V → Hp → VK → Prop) (f : List D → List W → MH → Option (D × List D)) : Prop :=
  ∀ (mu : Mu) (h : MH) (H0 H : Hp) (a : Addr) (vs : List V) (ds : List D) (ws : List W) (xs : List V) (w : D) (es : List D) (Q : VK), HR G mu h H → H a = some (.lst vs) → RepDs G H ds vs → RepWs G mu H0 H ws xs → f ds ws h = some (w, es) →
    ∃ us v, RepDs G H es us ∧ RepD G H w v ∧ (Q v (upd H a (.lst us)) → r (.ref a) xs H Q)
def appF (ds : List D) (ws : List W) (_ : MH) : Option (D × List D) := match ws with
  | [.d x] => if ds.length < LIM then some (.non, ds ++ [x]) else none
  | _ => none
def extF (ds : List D) (ws : List W) (h : MH) : Option (D × List D) := match ws with
  | [.d (.lst zs)] => if ds.length + zs.length ≤ LIM then some (.non, ds ++ zs) else none
  | _ => none
def remF (ds : List D) (ws : List W) (_ : MH) : Option (D × List D) := match ws with
  | [.d x] => if okD 60 x && ds.all (okD 60) then (SeqAt.dataPlace (toPys ds) (toPy x)).map fun j => (.non, ds.eraseIdx j) else none
  | _ => none
def popF (ds : List D) (ws : List W) (_ : MH) : Option (D × List D) := match ws with
  | [.d (.int i)] => if -9223372036854775808 ≤ i ∧ i < 9223372036854775808 then match seqIndex? i ds.length with
    | some k => (ds[k]?).map fun y => (y, ds.eraseIdx k)
    | none => none
    else none
  | _ => none
section
variable {X : Cx} {G : Gx} {N : List Str} {sc : Scp} {k : Nat}
theorem own_append : OwnR G rAppend appF := by
  intro mu h H0 H a vs ds ws xs w es Q hr ha rd rws e
  unfold appF at e
  split at e
  · obtain ⟨x, rfl, r⟩ := vals1w rws
    split at e
    · rename_i hz
      cases e
      exact ⟨vs ++ [x], .non, rd.app (.cons r .nil), .non, fun q => ⟨a, vs, x, rfl, rfl, ha, by rw [lim_eq, ← rd.length]; exact hz, q⟩⟩
    · cases e
  · cases e
theorem own_extend : OwnR G rExtR extF := by
  intro mu h H0 H a vs ds ws xs w es Q hr ha rd rws e
  unfold extF at e
  split at e
  · obtain ⟨x, rfl, r⟩ := vals1w rws
    split at e
    · rename_i hz
      cases e
      cases r with
      | lst f r =>
        exact ⟨vs ++ _, .non, rd.app r, .non, fun q => ⟨a, _, vs, _, rfl, rfl, ha, f.rd, by rw [lim_eq, ← rd.length, ← r.length]; exact hz, q⟩⟩
    · cases e
  · cases e
theorem own_remove (ft : Fits X G N sc k) : OwnR G (rRemD X.K) remF := by
  intro mu h H0 H a vs ds ws xs w es Q hr ha rd rws e
  unfold remF at e
  split at e
  · obtain ⟨x, rfl, r⟩ := vals1w rws
    split at e
    · rename_i ok
      rw [Bool.and_eq_true] at ok
      obtain ⟨j, ej, e2⟩ := Option.map_eq_some_iff.mp e
      cases e2
      have d1 := (dp_of (G := G) (H := H) 60).2 _ _ ok.2 rd
      have d2 := (dp_of (G := G) (H := H) 60).1 _ _ ok.1 r
      rw [(fits_gx ft).1] at d1 d2
      exact ⟨vs.eraseIdx j, .non, rd.erase j, .non, fun q => ⟨a, vs, _, x, _, j, rfl, rfl, ha, d1, d2, toPys_plain _, toPy_plain _, Nat.le_succ_of_le ((okD_depth 60).1 _ ok.1), ej, q⟩⟩
    · cases e
  · cases e
theorem own_pop : OwnR G rPopAt popF := by
  intro mu h H0 H a vs ds ws xs w es Q hr ha rd rws e
  unfold popF at e
  split at e
  · obtain ⟨x, rfl, r⟩ := vals1w rws
    split at e
    · rename_i hz
      split at e
      · rename_i j hj
        obtain ⟨y, ey, e2⟩ := Option.map_eq_some_iff.mp e
        cases e2
        cases r
        obtain ⟨v, ev, rv⟩ := rd.get ey
        exact ⟨vs.eraseIdx j, v, rd.erase j, rv, fun q => ⟨a, vs, _, j, v, rfl, rfl, ha, by omega, by omega, by rw [← rd.length]; exact hj, ev, q⟩⟩
      · cases e
    · cases e
  · cases e
end
def sOwnM (i : Nat) (ms : Den (List W)) (f : List D → List W → MH → Option (D × List D)) (put : D → Rho → Rho) : DenS := fun rho h => match rho[i]? with
  | some (some (.own ds)) => eBind ms (fun ws rho h => match f ds ws h with
    | some (w, es) => some (.nx (put w (rho.set i (some (.own es)))), h)
    | none => none) rho h
  | _ => none
def sOwn (i : Nat) (ms : Den (List W)) (f : List D → List W → MH → Option (D × List D)) : DenS := sOwnM i ms f fun _ r => r
def sOwnSet (j i : Nat) (ms : Den (List W)) (f : List D → List W → MH → Option (D × List D)) : DenS := sOwnM i ms f fun w r => r.set j (some (.d w))
section
variable {G : Gx} {N : List Str} {sc : Scp} {k : Nat} {pos apos cpos p2 p3 : Pos} {i j : Nat} {x y : Str} {e : Expr} {es : List Expr} {ms : Den (List W)} {f : List D → List W → MH → Option (D × List D)}
theorem ebA_post {Wx : WX} {st : L2.St} {H0 H : Hp} {mu0 mu : Mu} {rho : Rho} {h : MH} {DD : Ends} {ma : Den (List W)} {f : List W → DenS} {R : List V → Hp → Prop} (ss : StS G mu0 H0 mu rho h st H) (p : PostS G Wx mu0 H0 H DD (eBind ma f rho h))
    (hf : ∀ ws h1 xs H1 mu1, StS G mu0 H0 mu1 rho h1 st H1 → Ext mu H mu1 H1 → RepWs G mu1 H H1 ws xs → PostS G Wx mu0 H0 H1 DD (f ws rho h1) → R xs H1) : tdenA G Wx ma st H R := by
  refine ⟨mu, rho, h, ss.sr, ?_⟩
  unfold eBind at p
  rcases e : ma rho h with _ | ⟨w | ⟨c, fs⟩, h1⟩
  · rw [e] at p; exact p.elim
  · rw [e] at p
    intro x H1 mu1 hr ex rw'
    exact hf w h1 x H1 mu1 (ss.ext hr ex) ex rw' (PostS.mono ex.stay p)
  · rw [e] at p
    exact fun cls d H' mu' hr ex rx => p cls d st H' mu' (ss.ext hr ex) ex.stay rx
theorem own_post {Wx : WX} {K : PySem.W.Frag} {DD : Ends} {st : L2.St} {H : Hp} {r : V → List V → Hp → VK → Prop} {put : D → Rho → Rho} (hr : OwnR G r f) (R : V → Hp → Prop) (t : tdenS G Wx (sOwnM i ms f put) DD st H)
    (hR : ∀ mu0 H0 mu rho h H' w v, StS G mu0 H0 mu rho h st H' → RepD G H' w v → PostS G Wx mu0 H0 H' DD (some (.nx (put w rho), h)) → R v H') :
    ∃ v, st[i]? = some (some v) ∧ tyV K "list" v H ∧ tdenA G Wx ms st H fun xs H2 => r v xs H2 R := by
  obtain ⟨mu0, H0, mu, rho, h, ss, p⟩ := t
  unfold sOwnM at p
  split at p
  · rename_i ds e
    obtain ⟨v, hv, a, vs, rfl, h1, h2, h3⟩ := ss.sr.slot i _ e
    refine ⟨_, hv, .inl ⟨rfl, vs, .inl (.inl h1)⟩, ?_⟩
    refine ebA_post ss p fun ws h1' xs H1 mu1 s1 e1 rws p1 => ?_
    obtain ⟨v', hv', a', vs', hva, k1, k2, k3⟩ := s1.sr.slot i _ e
    rw [hv] at hv'
    cases hv'
    cases hva
    cases ef : f ds ws h1' with
    | none => rw [ef] at p1; exact p1.elim
    | some z =>
      obtain ⟨w, es⟩ := z
      rw [ef] at p1
      obtain ⟨us, v, re, rv, fin⟩ := hr mu1 h1' H H1 a vs' ds ws xs w es R s1.sr.hr k1 k2 rws ef
      refine fin ?_
      obtain ⟨s2, sy⟩ := s1.updOwn e hv k1 re
      exact hR mu0 H0 mu1 _ h1' _ w v s2 (rv.stay sy) (p1.mono sy)
  · exact p.elim
theorem ds_own {name : Str} {id : String} {r : V → List V → Hp → VK → Prop} (slot : Slot "list" name id) (hty : typeOf (.builtin id) = pure (.type "method_descriptor")) (hr : ∀ X, Fits X G N sc k → MtR X id r ∧ OwnR G r f) (hN : N[i]? = some x) (hv : Vis sc.s x) (hd : (x == ("__debug__" : Str)) = false) (hcd : (x == ("__classdict__" : Str)) = false) (ha : DA G N sc k (e :: es) ms)
    (hb : ∀ env : Env, env.scope = sc.s → attributeBase (.Name x p2) name env (eval (.Name x p2) env) = eval (.Name x p2) env) (hfew : ∀ env : Env, ((backTo cpos (starEach (e :: es) env)).all (fun x => !x.1) && (backToKw cpos (keywordEach [] env)).all (fun x => x.1.isSome) && decide ((e :: es).length + ([] : List Keyword).length + (if ([] : List Keyword).isEmpty then 0 else 1) < 30)) = true)
    (hline : (apos.endLine == cpos.line) = true) (hst : (e :: es).all notStar = true) (hs : ∀ env : Env, swapsWith (.Call (.Attribute (.Name x p2) name apos) (e :: es) [] cpos) none pos.line env = pure false) :
    DS G N sc k (.Expr (.Call (.Attribute (.Name x p2) name apos) (e :: es) [] cpos) pos) (sOwn i ms f) := by
  rw [List.all_cons, Bool.and_eq_true] at hst
  refine ⟨fun X Wx ft tk => ?_⟩
  obtain ⟨hm, hO⟩ := hr X ft.ft
  refine PS.imp (ps_expr (pe_bm F.plainAttrs_list slot hty hm (pe_var (i := i) (by rw [ft.ft.n]; exact hN) (by rw [ft.ft.sc]; exact hv) hd hcd) (ha.pa X Wx ft.ft tk) (hb X.env ft.ft.sc) (hfew X.env) hline (star_of hst.1) (stars_of hst.2)) (hs X.env)) fun DD st H t => ?_
  exact own_post hO _ t fun mu0 H0 mu rho h H' w v s2 rv p2 => p2 st H' mu s2 (Stay.refl _)
theorem ds_ownSet {name : Str} {id : String} {r : V → List V → Hp → VK → Prop} (slot : Slot "list" name id) (hty : typeOf (.builtin id) = pure (.type "method_descriptor")) (hr : ∀ X, Fits X G N sc k → MtR X id r ∧ OwnR G r f) (hN : N[i]? = some x) (hv : Vis sc.s x) (hd : (x == ("__debug__" : Str)) = false) (hcd : (x == ("__classdict__" : Str)) = false) (ha : DA G N sc k (e :: es) ms)
    (hb : ∀ env : Env, env.scope = sc.s → attributeBase (.Name x p2) name env (eval (.Name x p2) env) = eval (.Name x p2) env) (hfew : ∀ env : Env, ((backTo cpos (starEach (e :: es) env)).all (fun x => !x.1) && (backToKw cpos (keywordEach [] env)).all (fun x => x.1.isSome) && decide ((e :: es).length + ([] : List Keyword).length + (if ([] : List Keyword).isEmpty then 0 else 1) < 30)) = true)
    (hline : (apos.endLine == cpos.line) = true) (hst : (e :: es).all notStar = true) (hNy : N[j]? = some y) (hl : Loc sc.s y) (hs : ∀ env : Env, env.scope = sc.s → swapsWith (.Call (.Attribute (.Name x p2) name apos) (e :: es) [] cpos) (some (.Name y p3)) pos.line env = pure false) :
    DS G N sc k (.Assign [.Name y p3] (.Call (.Attribute (.Name x p2) name apos) (e :: es) [] cpos) pos) (sOwnSet j i ms f) := by
  rw [List.all_cons, Bool.and_eq_true] at hst
  refine ⟨fun X Wx ft tk => ?_⟩
  obtain ⟨hm, hO⟩ := hr X ft.ft
  refine PS.imp (ps_set (by rw [ft.ft.n]; exact ft.ft.nd) (by rw [ft.ft.n]; exact hNy) (by rw [ft.ft.sc]; exact hl) (pe_bm F.plainAttrs_list slot hty hm (pe_var (i := i) (by rw [ft.ft.n]; exact hN) (by rw [ft.ft.sc]; exact hv) hd hcd) (ha.pa X Wx ft.ft tk) (hb X.env ft.ft.sc) (hfew X.env) hline (star_of hst.1) (stars_of hst.2)) (hs X.env ft.ft.sc) (.inl (by rw [ft.fn]))) fun DD st H t => ?_
  exact own_post hO _ t fun mu0 H0 mu rho h H' w v s2 rv p2 => p2 _ H' mu (s2.setD (w := .d w) rv (fun ds z => by cases z)) (Stay.refl _)
end

/-! ### name[i] = v on a list of ours -/
def sItem (i : Nat) (mv mk : Den W) : DenS := eBind mv fun w rho h => match rho[i]? with
  | some (some (.ref n)) => eBind mk (fun z rho h => match w, z, obl h[n]? with
    | .d x, .d (.int k), some ds => match ixN ds.length k with
      | some j => some (.nx rho, h.set n (.lst (ds.set j x)))
      | none => none
    | _, _, _ => none) rho h
  | _ => none
section
variable {G : Gx} {N : List Str} {sc : Scp} {k : Nat} {pos p2 p3 : Pos} {i : Nat} {x : Str} {e ix : Expr} {mv mk : Den W}
theorem ds_item (hN : N[i]? = some x) (hv : Vis sc.s x) (hd : (x == ("__debug__" : Str)) = false) (hcd : (x == ("__classdict__" : Str)) = false) (he : DE G N sc k e mv) (hi : DE G N sc k ix mk)
    (ha : ∀ env v, assign (.Subscript (.Name x p3) ix p2) env v = (do
      let ov ← holding [v] (eval (.Name x p3) env)
      let iv ← holding [v, ov] (eval ix env)
      standAt p2
      holding [v, ov, iv] (setItem ov iv v)
      release [v, ov, iv] []))
    (hs : ∀ env : Env, swapsWithSole [.Subscript (.Name x p3) ix p2] e pos.line env = pure false) (hw : ∀ env : Env, swappedStores [.Subscript (.Name x p3) ix p2] e env = pure none)
    (h1 : ∀ env : Env, (assignEach [.Subscript (.Name x p3) ix p2] env).map (·.2) = [assign (.Subscript (.Name x p3) ix p2) env]) : DS G N sc k (.Assign [.Subscript (.Name x p3) ix p2] e pos) (sItem i mv mk) := by
  refine ⟨fun X Wx ft tk => PS.imp (ps_asg (he.pe X Wx ft.ft tk) (pg_sub (pe_var (i := i) (by rw [ft.ft.n]; exact hN) (by rw [ft.ft.sc]; exact hv) hd hcd) (hi.pe X Wx ft.ft tk) set_list (ha X.env)) (hs X.env) (hw X.env) (h1 X.env)) ?_⟩
  rintro DD st H ⟨mu0, H0, mu, rho, h, ss, p⟩
  refine eb_post ss p fun w h1 z H1 mu1 s1 e1 rw' p1 => ?_
  split at p1
  · rename_i n en
    obtain ⟨v, hv, q, hq, rfl⟩ := s1.sr.slot i _ en
    refine ⟨_, hv, eb_post s1 p1 fun w2 h2 y H2 mu2 s2 e2 rw2 p2 => ?_⟩
    split at p2
    · rename_i xd kd ds hds
      split at p2
      · rename_i j hj
        cases (show RepD G H2 (.int kd) y from rw2)
        obtain ⟨es', hq2⟩ := e2.pre n q hq
        have ho : ∃ ob, h2[n]? = some ob ∧ ob = .lst ds := by
          cases hh : h2[n]? with
          | none => rw [hh] at hds; cases hds
          | some ob =>
            rw [hh] at hds
            cases ob with
            | lst es => cases hds; exact ⟨_, rfl, rfl⟩
            | _ => cases hds
        obtain ⟨ob, ho, rfl⟩ := ho
        obtain ⟨vs, k1, k2⟩ := s2.sr.hr.ob n _ _ hq2 ho
        have rx : RepD G H2 xd z := RepD.stay e2.stay (show RepD G H1 xd z from rw')
        refine ⟨q.1, vs, kd, j, rfl, rfl, k1, by rw [← k2.length]; exact hj, ?_⟩
        have hE : Ext mu2 H2 mu2 (upd H2 q.1 (.lst (vs.set j z))) := Ext.upd_in (addrs_mem (p := (q.1, es')) hq2) k1
        exact p2 st _ mu2 (s2.ext (s2.sr.hr.setLst (ds := ds) (p := (q.1, es')) hq2 k1 (RepDs.set rx j k2)) hE) hE.stay
      · exact p2.elim
    · exact p2.elim
  · exact p1.elim
end
/-! ### name[i] = v on a list of the frame's own -/
def sItemO (i : Nat) (mv mk : Den W) : DenS := eBind mv fun w rho h => match rho[i]? with
  | some (some (.own _)) => eBind mk (fun z rho h => match w, z, rho[i]? with
    | .d x, .d (.int k), some (some (.own ds)) => match ixN ds.length k with
      | some j => some (.nx (rho.set i (some (.own (ds.set j x)))), h)
      | none => none
    | _, _, _ => none) rho h
  | _ => none
section
variable {G : Gx} {N : List Str} {sc : Scp} {k : Nat} {pos p2 p3 : Pos} {i : Nat} {x : Str} {e ix : Expr} {mv mk : Den W}
theorem ds_itemO (hN : N[i]? = some x) (hv : Vis sc.s x) (hd : (x == ("__debug__" : Str)) = false) (hcd : (x == ("__classdict__" : Str)) = false) (he : DE G N sc k e mv) (hi : DE G N sc k ix mk)
    (ha : ∀ env v, assign (.Subscript (.Name x p3) ix p2) env v = (do
      let ov ← holding [v] (eval (.Name x p3) env)
      let iv ← holding [v, ov] (eval ix env)
      standAt p2
      holding [v, ov, iv] (setItem ov iv v)
      release [v, ov, iv] []))
    (hs : ∀ env : Env, swapsWithSole [.Subscript (.Name x p3) ix p2] e pos.line env = pure false) (hw : ∀ env : Env, swappedStores [.Subscript (.Name x p3) ix p2] e env = pure none)
    (h1 : ∀ env : Env, (assignEach [.Subscript (.Name x p3) ix p2] env).map (·.2) = [assign (.Subscript (.Name x p3) ix p2) env]) : DS G N sc k (.Assign [.Subscript (.Name x p3) ix p2] e pos) (sItemO i mv mk) := by
  refine ⟨fun X Wx ft tk => PS.imp (ps_asg (he.pe X Wx ft.ft tk) (pg_sub (pe_var (i := i) (by rw [ft.ft.n]; exact hN) (by rw [ft.ft.sc]; exact hv) hd hcd) (hi.pe X Wx ft.ft tk) set_list (ha X.env)) (hs X.env) (hw X.env) (h1 X.env)) ?_⟩
  rintro DD st H ⟨mu0, H0, mu, rho, h, ss, p⟩
  refine eb_post ss p fun w h1 z H1 mu1 s1 e1 rw' p1 => ?_
  split at p1
  · rename_i ds0 en
    obtain ⟨v, hv, a, vs0, rfl, k0, _, _⟩ := s1.sr.slot i _ en
    refine ⟨_, hv, eb_post s1 p1 fun w2 h2 y H2 mu2 s2 e2 rw2 p2 => ?_⟩
    split at p2
    · rename_i xd kd ds hds
      split at p2
      · rename_i j hj
        cases (show RepD G H2 (.int kd) y from rw2)
        obtain ⟨v', hv', a', vs, hva, k1, k2, k3⟩ := s2.sr.slot i _ hds
        rw [hv] at hv'
        cases hv'
        cases hva
        have rx : RepD G H2 xd z := RepD.stay e2.stay (show RepD G H1 xd z from rw')
        refine ⟨a, vs, kd, j, rfl, rfl, k1, by rw [← k2.length]; exact hj, ?_⟩
        obtain ⟨s3, sy⟩ := s2.updOwn hds hv k1 (RepDs.set rx j k2)
        exact p2 st _ mu2 s3 sy
      · exact p2.elim
    · exact p2.elim
  · exact p1.elim
end
end Dn

set_option maxHeartbeats 4000000
namespace Dn
open PySem PySem.Spec PyProof.Rows L2

/-! ### a value put into a slot -/
def FreshTo (rho : Rho) (st : L2.St) (v : V) : Prop := ∀ (j : Nat) (es : List D) (b : Addr), rho[j]? = some (some (.own es)) → st[j]? = some (some (.ref b)) → v ≠ .ref b
theorem StS.put {G : Gx} {mu0 : Mu} {H0 Hx : Hp} {mu : Mu} {rho rho' : Rho} {h h' : MH} {st : L2.St} {H1 : Hp} {i : Nat} {w : W} {v : V} (s : StS G mu0 H0 mu rho h st H1) (r : RepW G mu Hx H1 w v) (h0 : ∀ a, Hx a = none → H0 a = none) (fr : ∀ ds, w = .own ds → FreshTo rho st v) (e : sPut i w rho h = some (.nx rho', h')) :
    h' = h ∧ rho' = rho.set i (some w) ∧ StS G mu0 H0 mu (rho.set i (some w)) h (st.set i (some v)) H1 := by
  cases w with
  | d y => cases e; exact ⟨rfl, rfl, s.setD (w := .d y) r (fun ds z => by cases z)⟩
  | bor ds => cases e
  | od => cases e
  | ref n => cases e; exact ⟨rfl, rfl, s.setD (w := .ref n) r (fun ds z => by cases z)⟩
  | own ds =>
    cases e
    obtain ⟨a, vs, rfl, k1, k2, k3, k4⟩ := r
    exact ⟨rfl, rfl, s.setO ⟨a, vs, rfl, k1, k2, k3⟩ (fun b z => by cases z; exact h0 _ k4) fun j es b hj e2 e3 => fr ds rfl j es b e2 e3⟩
theorem put_some {i : Nat} {w : W} {rho : Rho} {h : MH} {o : OutS × MH} (e : sPut i w rho h = some o) : o = (.nx (rho.set i (some w)), h) := by
  cases w <;> first | (cases e; rfl) | (cases e)
theorem freshTo_old {G : Gx} {mu0 mu : Mu} {H0 H : Hp} {rho : Rho} {h : MH} {st : L2.St} (s0 : StS G mu0 H0 mu rho h st H) {v : V} {a : Addr} (hv : v = .ref a) (hn : H a = none) : FreshTo rho st v := fun j es b e1 e2 z => by
  subst hv
  cases z
  obtain ⟨u, q1, c, us, rfl, q2, _⟩ := s0.sr.slot j _ e1
  rw [e2] at q1
  cases q1
  rw [hn] at q2; cases q2
theorem freshTo_set {rho : Rho} {st : L2.St} {v u : V} {i : Nat} {w : W} (f : FreshTo rho st v) (hw : ∀ ds, w = .own ds → u ≠ v) : FreshTo (rho.set i (some w)) (st.set i (some u)) v := fun j es b e1 e2 => by
  rcases getset e1 with ⟨rfl, z⟩ | ⟨hne, z⟩
  · have hi : i < st.length := by
      have := (List.getElem?_eq_some_iff.mp e2).1
      rwa [List.length_set] at this
    rw [List.getElem?_set_self hi] at e2
    cases e2
    cases z
    exact fun q => hw es rfl q.symm
  · rw [List.getElem?_set_ne hne] at e2
    exact f j es b z e2
def sPar2 (i j : Nat) (ms : Den (List W)) : DenS := eBind ms fun ws => match ws with
  | [a, b] => sSeq (sPut i a) (sPut j b)
  | _ => fun _ _ => none
def sPar3 (i j l : Nat) (ms : Den (List W)) : DenS := eBind ms fun ws => match ws with
  | [a, b, c] => sSeq (sPut i a) (sSeq (sPut j b) (sPut l c))
  | _ => fun _ _ => none
section
variable {G : Gx} {N : List Str} {sc : Scp} {k : Nat} {pos px py pz pt p2 pt2 : Pos} {i j l : Nat} {x y z : Str} {e a b c : Expr} {m : Den W} {ms : Den (List W)} {kt k2 : Nat}
theorem ownF {mu : Mu} {Hx H : Hp} {w : W} {v : V} (r : RepW G mu Hx H w v) : ∀ ds, w = .own ds → ∃ a, v = .ref a ∧ Hx a = none := fun ds e => by
  subst e
  obtain ⟨a, vs, rfl, _, _, _, h4⟩ := r
  exact ⟨a, rfl, h4⟩
theorem par2_imp {Wx : WX} {DD : Ends} {st : L2.St} {H : Hp} (t : tdenS G Wx (sPar2 i j ms) DD st H) : tPar i j (tdenA G Wx ms) DD st H := by
  obtain ⟨mu0, H0, mu, rho, h, ss, p⟩ := t
  refine ebA_post ss p fun ws h1 xs H1 mu1 s1 e1 rws p1 => ?_
  split at p1
  · rename_i wa wb
    cases rws with
    | cons ra ap t =>
      cases t with
      | cons rb ap2 t =>
        cases t
        refine ⟨_, _, rfl, ?_⟩
        rcases q1 : sPut i wa rho h1 with _ | o
        · unfold sSeq at p1; rw [q1] at p1; exact p1.elim
        · have := put_some q1
          subst this
          obtain ⟨_, _, s2⟩ := s1.put ra (fun a z => ss.ex.there a z) (fun ds e => let ⟨a, ha, hn⟩ := ownF ra ds e; freshTo_old ss ha hn) q1
          unfold sSeq at p1
          rw [q1] at p1
          dsimp only at p1
          rcases q2 : sPut j wb (rho.set i (some wa)) h1 with _ | o
          · rw [q2] at p1; exact p1.elim
          · have := put_some q2
            subst this
            obtain ⟨_, _, s3⟩ := s2.put rb (fun a z => ss.ex.there a z) (fun ds e => let ⟨a, ha, hn⟩ := ownF rb ds e; freshTo_set (freshTo_old ss ha hn) fun ds' e' z => ap ds' e' ds _ (by rw [e]; exact List.mem_cons_self) z) q2
            rw [q2] at p1
            exact p1 _ _ _ s3 (Stay.refl _)
  · exact p1.elim
theorem ds_par2 (hi : N[i]? = some x) (hj : N[j]? = some y) (hij : i ≠ j) (hx : sc.s.names.lookup x = some .local) (hy : sc.s.names.lookup y = some .local) (ha : DA G N sc k [a, b] ms)
    (hw : ∀ env : Env, env.scope = sc.s → swappedStores [.Tuple [.Name x px, .Name y py] kt pt] (.Tuple [a, b] k2 pt2) env = pure (some [x, y])) (hs : ∀ env : Env, swapsWithSole [.Tuple [.Name x px, .Name y py] kt pt] (.Tuple [a, b] k2 pt2) pos.line env = pure false) :
    DS G N sc k (.Assign [.Tuple [.Name x px, .Name y py] kt pt] (.Tuple [a, b] k2 pt2) pos) (sPar2 i j ms) :=
  ⟨fun X Wx ft tk => PS.imp (ps_par ft.ft.calm (by rw [ft.ft.n]; exact ft.ft.nd) (by rw [ft.ft.n]; exact hi) (by rw [ft.ft.n]; exact hj) hij (by rw [ft.ft.sc]; exact hx) (by rw [ft.ft.sc]; exact hy) (ha.pa X Wx ft.ft tk) (hw X.env ft.ft.sc) (hs X.env)) fun DD st H t => par2_imp t⟩
theorem par3_imp {Wx : WX} {DD : Ends} {st : L2.St} {H : Hp} (t : tdenS G Wx (sPar3 i j l ms) DD st H) : tPar3 i j l (tdenA G Wx ms) DD st H := by
  obtain ⟨mu0, H0, mu, rho, h, ss, p⟩ := t
  refine ebA_post ss p fun ws h1 xs H1 mu1 s1 e1 rws p1 => ?_
  split at p1
  · rename_i wa wb wc
    cases rws with
    | cons ra ap t =>
      cases t with
      | cons rb ap2 t =>
        cases t with
        | cons rc ap3 t =>
          cases t
          refine ⟨_, _, _, rfl, ?_⟩
          rcases q1 : sPut i wa rho h1 with _ | o
          · unfold sSeq at p1; rw [q1] at p1; exact p1.elim
          · have := put_some q1
            subst this
            obtain ⟨_, _, s2⟩ := s1.put ra (fun a z => ss.ex.there a z) (fun ds e => let ⟨a, ha, hn⟩ := ownF ra ds e; freshTo_old ss ha hn) q1
            unfold sSeq at p1
            rw [q1] at p1
            dsimp only at p1
            rcases q2 : sPut j wb (rho.set i (some wa)) h1 with _ | o
            · rw [q2] at p1; exact p1.elim
            · have := put_some q2
              subst this
              obtain ⟨_, _, s3⟩ := s2.put rb (fun a z => ss.ex.there a z) (fun ds e => let ⟨a, ha, hn⟩ := ownF rb ds e; freshTo_set (freshTo_old ss ha hn) fun ds' e' z => ap ds' e' ds _ (by rw [e]; exact List.mem_cons_self) z) q2
              rw [q2] at p1
              dsimp only at p1
              rcases q3 : sPut l wc ((rho.set i (some wa)).set j (some wb)) h1 with _ | o
              · rw [q3] at p1; exact p1.elim
              · have := put_some q3
                subst this
                obtain ⟨_, _, s4⟩ := s3.put rc (fun a z => ss.ex.there a z) (fun ds e => let ⟨a, ha, hn⟩ := ownF rc ds e; freshTo_set (freshTo_set (freshTo_old ss ha hn) fun ds' e' z => ap ds' e' ds _ (by rw [e]; exact List.mem_cons_of_mem _ List.mem_cons_self) z) fun ds' e' z => ap2 ds' e' ds _ (by rw [e]; exact List.mem_cons_self) z) q3
                rw [q3] at p1
                exact p1 _ _ _ s4 (Stay.refl _)
  · exact p1.elim
theorem ds_par3 (hi : N[i]? = some x) (hj : N[j]? = some y) (hl : N[l]? = some z) (hij : i ≠ j) (hil : i ≠ l) (hjl : j ≠ l) (hx : sc.s.names.lookup x = some .local) (hy : sc.s.names.lookup y = some .local) (hz : sc.s.names.lookup z = some .local) (ha : DA G N sc k [a, b, c] ms)
    (hw : ∀ env : Env, env.scope = sc.s → swappedStores [.Tuple [.Name x px, .Name y py, .Name z pz] kt pt] (.Tuple [a, b, c] k2 pt2) env = pure (some [x, y, z])) (hs : ∀ env : Env, swapsWithSole [.Tuple [.Name x px, .Name y py, .Name z pz] kt pt] (.Tuple [a, b, c] k2 pt2) pos.line env = pure false) :
    DS G N sc k (.Assign [.Tuple [.Name x px, .Name y py, .Name z pz] kt pt] (.Tuple [a, b, c] k2 pt2) pos) (sPar3 i j l ms) :=
  ⟨fun X Wx ft tk => PS.imp (ps_par3 ft.ft.calm (by rw [ft.ft.n]; exact ft.ft.nd) (by rw [ft.ft.n]; exact hi) (by rw [ft.ft.n]; exact hj) (by rw [ft.ft.n]; exact hl) hij hil hjl (by rw [ft.ft.sc]; exact hx) (by rw [ft.ft.sc]; exact hy) (by rw [ft.ft.sc]; exact hz) (ha.pa X Wx ft.ft tk) (hw X.env ft.ft.sc) (hs X.env)) fun DD st H t => par3_imp t⟩

/-! ### a, b = a tuple -/
def sUnp (T : Tgt) (m : Den W) : DenS := eBind m fun w rho h => match w with
  | .d d => (T.asg d).map fun bs => (.nx (setR bs rho), h)
  | _ => none
theorem ds_unp {tg : Expr} {T : Tgt} (hg : DG N sc.s tg T fun _ => true) (he : DE G N sc k e m) (hs : ∀ env : Env, env.scope = sc.s → swapsWithSole [tg] e pos.line env = pure false) (hw : ∀ env : Env, env.scope = sc.s → swappedStores [tg] e env = pure none) (h1 : ∀ env : Env, (assignEach [tg] env).map (·.2) = [assign tg env]) :
    DS G N sc k (.Assign [tg] e pos) (sUnp T m) := by
  refine ⟨fun X Wx ft tk => PS.imp (ps_asg (he.pe X Wx ft.ft tk) (hg.pg X ft.ft.n ft.ft.nd ft.ft.sc ft.ft.calm fun y _ => by rw [ft.fn]) (hs X.env ft.ft.sc) (hw X.env ft.ft.sc) (h1 X.env)) ?_⟩
  rintro DD st H ⟨mu0, H0, mu, rho, h, ss, p⟩
  refine eb_post ss p fun w h1 z H1 mu1 s1 e1 rw' p1 => ?_
  cases w with
  | d d =>
    have p1' : PostS G Wx mu0 H0 H1 DD ((T.asg d).map fun bs => (.nx (setR bs rho), h1)) := p1
    cases ea : T.asg d with
    | none => rw [ea] at p1'; exact p1'.elim
    | some bs =>
      rw [ea] at p1'
      obtain ⟨us, rb, go⟩ := tgG_ok ea (show RepD G H1 d z from rw')
      rw [(fits_gx ft.ft).1] at go
      exact go st _ (p1' _ _ _ (s1.setAll rb) (Stay.refl _))
  | _ => exact p1.elim

/-! ### name += value -/
def augF (a b : D) : Option D := match a, b with
  | .int x, .int y => some (.int (x + y))
  | .str x, .str y => if x.length + y.length ≤ LIM then some (.str (x ++ y)) else none
  | _, _ => none
def sAug (i : Nat) (m : Den W) : DenS := fun rho h => match rho[i]? with
  | some (some (.d a)) => eBind m (fun w rho h => match w with
    | .d b => (augF a b).map fun r => (.nx (rho.set i (some (.d r))), h)
    | _ => none) rho h
  | _ => none
def rAug : V → V → Hp → VK → Prop := fun x y H Q => (∃ i j, x = .int i ∧ y = .int j ∧ Q (.int (i + j)) H) ∨ (∃ i j, x = .str i ∧ y = .str j ∧ i.length + j.length ≤ sizeLine ∧ Q (.str (i ++ j)) H)
theorem ip_aug {X : Cx} : PIp X .Add rAug := by
  intro pins s σ H x y v u Q I r1 r2 h
  rcases h with h | h
  · exact ip_add pins s σ H x y v u Q I r1 r2 h
  · exact in_addS pins s σ H x y v u Q I r1 r2 h
theorem ds_aug (hN : N[i]? = some x) (hl : Loc sc.s x) (he : DE G N sc k e m) : DS G N sc k (.AugAssign (.Name x p2) .Add e pos) (sAug i m) := by
  refine ⟨fun X Wx ft tk => PS.imp (ps_aug (by rw [ft.ft.n]; exact ft.ft.nd) (by rw [ft.ft.n]; exact hN) (by rw [ft.ft.sc]; exact hl) (he.pe X Wx ft.ft tk) ip_aug (.inl (by rw [ft.fn]))) ?_⟩
  rintro DD st H ⟨mu0, H0, mu, rho, h, ss, p⟩
  unfold sAug at p
  split at p
  · rename_i a ea
    obtain ⟨v, hv, rv⟩ := ss.sr.slot i _ ea
    refine ⟨v, hv, eb_post ss p fun w h1 z H1 mu1 s1 e1 rw' p1 => ?_⟩
    cases w with
    | d b =>
      have p1' : PostS G Wx mu0 H0 H1 DD ((augF a b).map fun r => (.nx (rho.set i (some (.d r))), h1)) := p1
      unfold augF at p1'
      split at p1'
      · cases rv; cases (show RepD G H1 _ z from rw')
        exact .inl ⟨_, _, rfl, rfl, p1' _ _ _ (s1.setD (w := .d _) (.int _) (fun ds z => by cases z)) (Stay.refl _)⟩
      · split at p1'
        · rename_i hz
          cases rv; cases (show RepD G H1 _ z from rw')
          exact .inr ⟨_, _, rfl, rfl, by rw [lim_eq]; exact hz, p1' _ _ _ (s1.setD (w := .d _) (.str _) (fun ds z => by cases z)) (Stay.refl _)⟩
        · exact p1'.elim
      · exact p1'.elim
    | _ => exact p1.elim
  · exact p.elim

/-! ### while -/
def sWhile (t : Den Bool) (body : DenS) : Nat → DenS
  | 0 => fun _ _ => none
  | n + 1 => eBind t fun c => if c = true then (fun rho h => match body rho h with
      | some (.nx r, h') => sWhile t body n r h'
      | some (.ct r, h') => sWhile t body n r h'
      | some (.bk r, h') => some (.nx r, h')
      | some (.rt w, h') => some (.rt w, h')
      | some (.ex c fs r, h') => some (.ex c fs r, h')
      | none => none) else sNil
theorem while_imp {Wx : WX} {t : Den Bool} {mb : DenS} {n : Nat} {DD : Ends} {st : L2.St} {H : Hp} (h : tdenS G Wx (sWhile t mb n) DD st H) : tWhile (tdenT G Wx t) (tdenS G Wx mb) DD st H := by
  obtain ⟨mu0, H0, mu, rho, h, ss, p⟩ := h
  refine ⟨fun n st' H' => ∃ mu rho h, StS G mu0 H0 mu rho h st' H' ∧ PostS G Wx mu0 H0 H' DD (sWhile t mb n rho h), ⟨n, mu, rho, h, ss, p⟩, ?_⟩
  rintro n st' H' ⟨mu1, rho1, h1, s1, p1⟩
  cases n with
  | zero => exact p1.elim
  | succ n =>
    unfold sWhile at p1
    refine ebT_post s1 p1 fun b h2 H2 mu2 s2 e2 p2 => ?_
    cases b with
    | true =>
      rw [if_pos rfl] at p2 ⊢
      refine ⟨fun st3 H3 => ∃ mu rho h, StS G mu0 H0 mu rho h st3 H3 ∧ PostS G Wx mu0 H0 H3 DD (sWhile t mb n rho h), fun st3 H3 q => ⟨n, Nat.lt_succ_self n, q⟩, mu0, H0, mu2, rho1, h2, s2, ?_⟩
      rcases eb : mb rho1 h2 with _ | ⟨r | w | r | r | ⟨c, fs, r⟩, h3⟩
      · rw [eb] at p2; exact p2.elim
      · rw [eb] at p2
        exact fun st3 H3 mu3 s3 t3 => ⟨mu3, r, h3, s3, p2.mono t3⟩
      · rw [eb] at p2; exact p2
      · rw [eb] at p2; exact p2
      · rw [eb] at p2
        exact fun st3 H3 mu3 s3 t3 => ⟨mu3, r, h3, s3, p2.mono t3⟩
      · rw [eb] at p2; exact p2
    | false =>
      rw [if_neg Bool.false_ne_true] at p2 ⊢
      exact p2 _ _ _ s2 (Stay.refl _)
theorem ds_while {body : List Stmt} {t : Den Bool} {mb : DenS} (n : Nat) (hc : DT G N sc k e t) (hb : DSs G N sc k body mb) : DS G N sc k (.While e body [] pos) (sWhile t mb n) :=
  ⟨fun X Wx ft tk => PS.imp (ps_while ft.own (hc.pt X Wx ft.ft tk) (hb.ps X Wx ft tk)) fun DD st H h => while_imp h⟩
/-- an expression as a statement -/
def sDrop (m : Den W) : DenS := eBind m fun _ rho h => some (.nx rho, h)
theorem ds_expr (he : DE G N sc k e m) (hs : ∀ env : Env, swapsWith e none pos.line env = pure false) : DS G N sc k (.Expr e pos) (sDrop m) :=
  ⟨fun X Wx ft tk => PS.imp (ps_expr (he.pe X Wx ft.ft tk) (hs X.env)) fun DD st H ⟨mu0, H0, mu, rho, h, ss, p⟩ => eb_post ss p fun w h1 z H1 mu1 s1 e1 rw' p1 => p1 _ _ _ s1 (Stay.refl _)⟩
theorem ds_doc {x : Str} {jj : Option Str} : True := trivial
end
end Dn

set_option maxHeartbeats 4000000
namespace Dn
open PySem PySem.Spec PyProof.Rows L2

/-! ### sorted of a tuple, at the library's level -/
section
variable {prog : Program} {w : World} {A : Around} {E : Value → Shared → Prop} {s : Shared}
theorem collect_tuple {l : Addr} {vs : List Value} {Q : List Value → Shared → Prop} (hl : s.heap.IsTuple l vs.toArray)
    (h : Q vs { s with heap := (s.heap.push (seqObj "list" #[] 0)).update s.heap.objs.size (Obj.mapSeq (· ++ vs.toArray)) }) (hsz : vs.length ≤ sizeLine) :
    wpAny (model prog w) A (collect (.ref l)) Q E s := by
  obtain ⟨o, ho, hc, n, hd⟩ := id hl
  unfold collect
  refine wpAny_bind (wpAny_runValue (codeAny_builtin entry_proto_collect' ?_))
  show wpAny _ _ (do again (.builtin "list.__iadd__" ⟨[← newList [], .ref l], []⟩)) _ _ s
  refine wpAny_bind (wpAny_newList (wpAny_pure ⟨Code.quiet_builtin _ (by decide +kernel), codeAny_builtin entry_list_iadd' ?_⟩))
  show wpAny _ _ (Builtin.List.listExtendWith (.ref s.heap.objs.size) (.ref l) (.ref s.heap.objs.size)) _ _ { s with heap := s.heap.push (seqObj "list" #[] 0) }
  unfold Builtin.List.listExtendWith
  have ho' : (s.heap.push (seqObj "list" #[] 0)).get? l = some o := Heap.get?_push_of_some _ ho
  refine wpAny_bind (wpAny_typeOf (T := "tuple") ⟨o, ho', hc⟩ ?_)
  have ht : (Value.type "tuple" == Value.type "tuple") = true := by rfl
  rw [if_pos (by rw [ht]; simp)]
  refine wpAny_bind (listItems_at ho' hd ?_)
  refine wpAny_bind (listItems_at (xs := #[]) (n := 0) (Heap.get?_push_size _ rfl) rfl ?_)
  rw [if_neg (by simp)]
  refine wpAny_bind (listUpdate_at (xs := #[]) (n := 0) (Heap.get?_push_size _ rfl) rfl ?_ (Nat.zero_le _) (by show (#[] ++ vs.toArray).size ≤ sizeLine + 1; simp only [Array.size_append, List.size_toArray, List.length_nil]; omega))
  refine wpAny_pure ?_
  show wpAny (model prog w) A (do
      let o ← load s.heap.objs.size
      match o.data with
      | .seq xs _ => pure xs.toList
      | _ => unsupported "internal:collect") Q E { s with heap := (s.heap.push (seqObj "list" #[] 0)).update s.heap.objs.size (Obj.mapSeq (· ++ vs.toArray)) }
  refine wpAny_bind (wpAny_load (get?_update_seq (Heap.get?_push_size _ rfl) _) ?_)
  show wpAny _ _ (pure ((#[] : Array Value) ++ vs.toArray).toList) Q E _
  rw [show ((#[] : Array Value) ++ vs.toArray).toList = vs by simp]
  exact wpAny_pure h
open PySem.W PySem.Calls in
theorem sorted_of_sortT {l : Addr} {vs : List Value} {kw : List (Str × Value)} {Q : Value → Shared → Prop} (hl : s.heap.IsTuple l vs.toArray) (hL : vs.length ≤ sizeLine) (ha1 : argsOk "sorted" ⟨[.ref l], kw⟩) (ha2 : ∀ x, argsOk "list.sort" ⟨[.ref x], kw⟩)
    (body : ∀ E' : Value → Shared → Prop, wpAny (model prog w) A.in1.in1 (Builtin.«list.sort» ⟨[.ref (s.heap.objs.size + 1)], kw⟩) (fun f s' => f = .done (.ret .none) ∧ Q (.ref (s.heap.objs.size + 1)) s') E' { s with heap := copyHeap s.heap vs }) :
    wpAny (model prog w) A (call (.builtin "sorted") [.ref l] kw) Q E s := by
  refine call_function_entry_kw kind_sorted plain_sorted entry_sorted ha1 ?_
  unfold Builtin.«sorted»
  refine wpAny_bind (m := checkCount "sorted" 1 1 _) (wpAny_pure ?_)
  refine wpAny_bind (collect_tuple hl ?_ hL)
  refine wpAny_bind (wpAny_newList ?_ hL)
  have hsz : ((s.heap.push (seqObj "list" #[] 0)).update s.heap.objs.size (Obj.mapSeq (· ++ vs.toArray))).objs.size = s.heap.objs.size + 1 := by
    rw [Heap.size_update, size_push']
  show wpAny _ _ _ _ _ { s with heap := copyHeap s.heap vs }
  rw [hsz]
  refine wpAny_bind (wpAny_holding (wpAny_call_entry_kw slot_list_sort ⟨_, copyHeap_at s.heap vs, rfl⟩ entry_list_sort ?body (ha2 _)))
  case body =>
    show wpAny (model prog w) A.in1.in1 (Builtin.«list.sort» ⟨[.ref (s.heap.objs.size + 1)], kw⟩) _ _ _
    refine wpAny_mono (body _) (fun f s' hf => ?_) fun _ _ e => e
    obtain ⟨rfl, hq⟩ := hf
    exact ⟨_, rfl, wpAny_pure ⟨_, rfl, hq⟩⟩
open PySem.W PySem.Calls in
theorem sorted_dataT {β : Type} {vs : List Value} {bs : List β} {enc : β → PyData} {R : Value → β → Prop} {l : Addr} {Q : Value → Shared → Prop} (hl : s.heap.IsTuple l vs.toArray) (e : EachIs R vs bs) (er : EachIs (fun v b => ∃ as, Reads s.heap v (enc b) as) vs bs) (hal : AllAlike (bs.map enc)) (hk : Sortable (bs.map enc)) (hL : bs.length ≤ sizeLine)
    (hu : ∀ b, b ∈ bs → A.units + 2 + (enc b).depth < cLine) (h : ∀ out, out.length = bs.length → EachIs R out (bs.mergeSort (dataLe false enc)) → Q (.ref (s.heap.objs.size + 1)) { s with heap := sortedAll s.heap vs (List.toArray out) }) :
    wpAny (model prog w) A (call (.builtin "sorted") [.ref l]) Q E s := by
  have er' : EachIs (fun v b => ∃ as, Reads (sortingHeap (copyHeap s.heap vs) (s.heap.objs.size + 1) vs) v (enc b) as) vs bs := er.mono fun _ _ ⟨as, r⟩ => ⟨as, PyProof.Rows.Reads.keeps (fun _ _ => sorting_copy_old) r⟩
  have hL' : vs.length ≤ sizeLine := by rw [e.length]; exact hL
  exact sorted_of_sortT hl hL' (args_sorted1 _) (fun _ => args_list_sort _) fun _ => list_sort_vals (s := { s with heap := copyHeap s.heap vs }) (copyHeap_at s.heap vs) (SortsAt.data (s := { s with heap := sortingHeap (copyHeap s.heap vs) (s.heap.objs.size + 1) vs }) (each_map (R := fun v d => ∃ as, Reads (sortingHeap (copyHeap s.heap vs) (s.heap.objs.size + 1) vs) v d as) enc er') hal hk (bound_map hu)) hL'
    ⟨rfl, h _ (by rw [sortVals_length false rfl]; exact e.length) (sortVals_data false e er' hal)⟩
end

/-! ### sorted -/
open PySem.W (EachIs)
def sortD (ds : List D) : List D := ds.mergeSort (PySem.W.dataLe false toPy)
def notTN : D → Bool
  | .non => false
  | .tup _ => false
  | .fr _ => false
  | _ => true
def tupNE : D → Bool
  | .tup (_ :: _) => true
  | _ => false
def sortableB (ds : List D) : Bool := (ds.all fun d => ds.all fun e => PySem.W.alike (toPy d) (toPy e)) && (ds.all tupNE || ds.all notTN) && ds.all (okD 60) && decide (ds.length ≤ LIM)
def sortF (ws : List W) (h : MH) : Option W := match ws with
  | [w] => match qw h w with
    | some ds => if sortableB ds = true then some (.own (sortD ds)) else none
    | none => none
  | _ => none
section
variable {X : Cx} {G : Gx} {N : List Str} {sc : Scp} {k : Nat}
theorem sortable_ok {ds : List D} (h : sortableB ds = true) : PySem.W.AllAlike (ds.map toPy) ∧ PySem.W.Sortable (ds.map toPy) ∧ (∀ d ∈ ds, okD 60 d = true) ∧ ds.length ≤ LIM := by
  unfold sortableB at h
  simp only [Bool.and_eq_true, List.all_eq_true, Bool.or_eq_true, decide_eq_true_eq] at h
  obtain ⟨⟨⟨h1, h2⟩, h3⟩, h4⟩ := h
  refine ⟨fun d hd d' hd' => ?_, ?_, h3, h4⟩
  · obtain ⟨b, hb, rfl⟩ := List.mem_map.mp hd
    obtain ⟨b', hb', rfl⟩ := List.mem_map.mp hd'
    exact h1 b hb b' hb'
  · rcases h2 with h2 | h2
    · refine .inl fun d hd => ?_
      obtain ⟨b, hb, rfl⟩ := List.mem_map.mp hd
      have := h2 b hb
      cases b with
      | tup ds => cases ds with
        | nil => cases this
        | cons x r => exact ⟨_, _, rfl⟩
      | _ => cases this
    · refine .inr fun d hd => ?_
      obtain ⟨b, hb, rfl⟩ := List.mem_map.mp hd
      have := h2 b hb
      cases b with
      | bl b => simp [toPy]
      | int b => simp [toPy]
      | str b => simp [toPy]
      | lst b => simp [toPy]
      | _ => cases this
def RelD (G : Gx) (H : Hp) (v : Value) (d : D) : Prop := ∃ x, RelV x v ∧ RepD G H d x
theorem each_of {H : Hp} : ∀ {ds : List D} {vs : List V} {us : List Value}, RepDs G H ds vs → Vals vs us → EachIs (RelD G H) us ds
  | _, _, _, .nil, .nil => .nil
  | _, _, _, .cons r t, .cons q s => .cons ⟨_, q, r⟩ (each_of t s)
theorem each_back {H : Hp} : ∀ {us : List Value} {ds : List D}, EachIs (RelD G H) us ds → ∃ vs, RepDs G H ds vs ∧ Vals vs us
  | _, _, .nil => ⟨[], .nil, .nil⟩
  | _, _, .cons ⟨x, q, r⟩ t => by
    obtain ⟨vs, h1, h2⟩ := each_back t
    exact ⟨x :: vs, .cons r h1, .cons q h2⟩
theorem sortD_len (ds : List D) : (sortD ds).length = ds.length := List.length_mergeSort ds
theorem cr_sortF (ft : Fits X G N sc k) : CallR X (.builtin "sorted") (rdN G sortF) := by
  intro pins s σ H xs us Q I rv ⟨mu, h, ws, H0, hr, rws, w, e, q⟩
  have hK := (fits_gx ft).1
  unfold sortF at e
  split at e
  · obtain ⟨x, rfl, r⟩ := vals1w rws
    split at e
    · rename_i ds eq
      split at e
      · rename_i ok
        cases (Option.some.inj e)
        obtain ⟨al, so, od, ln⟩ := sortable_ok ok
        obtain ⟨a, vs, rfl, hq, rd⟩ := qw_rep hr r eq
        rw [Vals.ref1 rv]
        have hu := units_fits ft
        have bd : ∀ b ∈ ds, X.A.units + 2 + (toPy b).depth < cLine := fun b hb => by
          have := (okD_depth 60).1 b (od b hb)
          omega
        have fin : ∀ (its : List Value) (out : List Value), EachIs (RelD G H) out (sortD ds) → EP X pins σ Q (.ref (s.heap.objs.size + 1)) { s with heap := sortedAll s.heap its (List.toArray out) } := fun its out eo => by
          obtain ⟨ep, he'⟩ := PyProof.Rows.sortedAll_at s.heap its (List.toArray out)
          obtain ⟨us', r1, r2⟩ := each_back eo
          have hlen : us'.length ≤ sizeLine := by rw [← r1.length, sortD_len, lim_eq]; exact ln
          refine ⟨.ref _, upd H (s.heap.objs.size + 1) (.lst us'), I.laid (t' := s.toks) (fun _ _ => PyProof.Rows.sortedAll_old) (Nat.le_succ _) ⟨hlen, out, ep, r2, he'⟩, rfl, ?_⟩
          exact own_new hr r1 q _ (I.hok.fresh (Nat.le_succ _)) (hr.nin (I.hok.fresh (Nat.le_succ _)))
        have rdr : ∀ its, Vals vs its → EachIs (fun v b => ∃ as, Reads s.heap v (toPy b) as) its ds := fun its rv => by
          have dps := (dp_of (G := G) (H := H) 60).2 ds vs (List.all_eq_true.mpr od) rd
          rw [hK] at dps
          have : ∀ {ds : List D} {vs : List V} {its : List Value}, DpAll X.K H vs (toPys ds) → Vals vs its → EachIs (fun v b => ∃ as, Reads s.heap v (toPy b) as) its ds := by
            intro ds
            induction ds with
            | nil => intro vs its h1 h2; cases h1; cases h2; exact .nil
            | cons d ds ih =>
              intro vs its h1 h2
              cases h1 with
              | cons a b => cases h2 with
                | cons p q => exact .cons (Dp.reads I _ _ _ a p) (ih b q)
          exact this dps rv
        rcases hq with hq | hq
        · rw [hK] at hq
          obtain ⟨its, rvl, hl, _⟩ := I.list hq
          exact PySem.W.sorted_data hl.isList (each_of rd rvl) (rdr its rvl) al so (by rw [lim_eq]; exact ln) bd fun out _ eo => fin its out eo
        · rw [hK] at hq
          obtain ⟨its, rvl, hl, _⟩ := I.tuple hq
          exact sorted_dataT (show s.heap.IsTuple a its.toArray from hl) (each_of rd rvl) (rdr its rvl) al so (by rw [lim_eq]; exact ln) bd fun out _ eo => fin its out eo
      · cases e
    · cases e
  · cases e
end
end Dn

set_option maxHeartbeats 4000000
namespace Dn
open PySem PySem.Spec PyProof.Rows L2

/-! ### zip over lists, tuples, texts in any mix -/
inductive Sk where
  | l (a : Addr) | t (a : Addr) | s (x : Str) (t : Tok)
def Sk.addr : Sk → Option Addr
  | .l a => some a
  | .t a => some a
  | .s _ _ => none
def Sk.val : Sk → Value
  | .l a => .ref a
  | .t a => .ref a
  | .s x u => .str x u
def SkIter : Sk → Addr → Nat → Heap → Prop
  | .l a, it, i, h => h.IsListIter it a i
  | .t a, it, i, h => h.IsTupleIter it a i
  | .s x t, it, i, h => h.IsStrIter it (strIterType x) x t i
def SkAt (K : PySem.W.Frag) : Sk → Hp → List V → Prop
  | .l a, H, vs => SqL K H a vs
  | .t a, H, vs => SqT K H a vs
  | .s x _, _, vs => vs = x.cps.toList.map fun c => V.str ⟨#[c]⟩
theorem SkIter.ob {k : Sk} {it : Addr} {i : Nat} {h : Heap} (st : SkIter k it i h) : ∃ o, h.get? it = some o ∧ ∀ v, o.data ≠ .cell v := by
  cases k with
  | l a => obtain ⟨o, e, c, d⟩ := st; exact ⟨o, e, fun v z => by rw [d] at z; cases z⟩
  | t a => obtain ⟨o, e, c, d⟩ := st; exact ⟨o, e, fun v z => by rw [d] at z; cases z⟩
  | s x t => obtain ⟨o, e, c, d⟩ := st; exact ⟨o, e, fun v z => by rw [d] at z; cases z⟩
theorem SkIter.keep {k : Sk} {it : Addr} {i : Nat} {h h' : Heap} (st : SkIter k it i h) (q : ∀ o, h.get? it = some o → h'.get? it = some o) : SkIter k it i h' := by
  cases k with
  | l a => exact Heap.IsListIter.at st q
  | t a => exact Heap.IsTupleIter.at st q
  | s x t => obtain ⟨o, e, r⟩ := st; exact ⟨o, q o e, r⟩
section
variable {X : Cx} {pins : List (Addr × Obj)} {σ : L2.St} {H : Hp} {s : Shared}
theorem sk_inj {k : Sk} {vs us : List V} (I : Inv X pins σ H s) (a : SkAt X.K k H vs) (b : SkAt X.K k H us) : vs = us := by
  cases k with
  | l c => exact I.list_inj a b
  | t c => exact I.tuple_inj a b
  | s x t => rw [show vs = _ from a, show us = _ from b]
/-- what it draws -/
theorem sk_draws {k : Sk} {it : Addr} {i : Nat} {vs : List V} (I : Inv X pins σ H s) (hh : X.A.handled = none) (sk : SkAt X.K k H vs) (st : SkIter k it i s.heap) (hn : ∀ a, k.addr = some a → a ≠ it) :
    ∃ (fp : List Addr) (P : Nat → Value → Prop) (S : Nat → Heap → Prop), Draws X.prog X.w X.A.in1 it fp vs.length P S ∧ it ∈ fp ∧ (∀ b ∈ fp, b = it ∨ k.addr = some b) ∧ S i s.heap ∧ (∀ j v x, P j v → vs[j]? = some x → RelV x v) ∧ ∀ j h, S j h → SkIter k it j h := by
  cases k with
  | l a =>
    obtain ⟨its, rv, p, hz⟩ := I.list sk
    have hl : vs.length = its.toArray.size := by rw [List.size_toArray]; exact rv.length
    refine ⟨[it, a], _, _, hl ▸ Draws.list (A := X.A.in1) hh it a (hn a rfl) its.toArray, by simp, fun b hb => ?_, ⟨st, p.isList⟩, fun j v x hp hx => ?_, fun j h q => q.1⟩
    · rcases List.mem_cons.mp hb with z | z
      · exact .inl z
      · exact .inr (by rw [List.mem_singleton.mp z]; rfl)
    · obtain ⟨u, hu, ru⟩ := rv.get hx
      have hp' : its[j]? = some v := by simpa using hp
      rw [hu] at hp'
      cases hp'
      exact ru
  | t a =>
    obtain ⟨its, rv, p, hz⟩ := I.tuple sk
    have hl : vs.length = its.toArray.size := by rw [List.size_toArray]; exact rv.length
    refine ⟨[it, a], _, _, hl ▸ Draws.tuple (A := X.A.in1) hh it a (hn a rfl) its.toArray, by simp, fun b hb => ?_, ⟨st, show s.heap.IsTuple a its.toArray from p⟩, fun j v x hp hx => ?_, fun j h q => q.1⟩
    · rcases List.mem_cons.mp hb with z | z
      · exact .inl z
      · exact .inr (by rw [List.mem_singleton.mp z]; rfl)
    · obtain ⟨u, hu, ru⟩ := rv.get hx
      have hp' : its[j]? = some v := by simpa using hp
      rw [hu] at hp'
      cases hp'
      exact ru
  | s x t =>
    have sk : vs = x.cps.toList.map fun c => V.str ⟨#[c]⟩ := sk
    subst sk
    have hl : (x.cps.toList.map fun c => V.str ⟨#[c]⟩).length = x.cps.size := by simp
    refine ⟨[it], _, _, hl ▸ Draws.text (A := X.A.in1) hh it x t, by simp, fun b hb => .inl (List.mem_singleton.mp hb), st, fun j v y hp hy => ?_, fun j h q => q⟩
    obtain ⟨c, u, h1, rfl⟩ := hp
    rw [List.getElem?_map] at hy
    have h1' : x.cps.toList[j]? = some c := by simpa using h1
    rw [h1'] at hy
    cases hy
    exact ⟨u, rfl⟩
end
def Itzz (K : PySem.W.Frag) (a b : Sk) : It :=
  ⟨fun i H => ∃ (xs ys : List V), SkAt K a H xs ∧ SkAt K b H ys ∧ i < xs.length ∧ i < ys.length,
    fun i H v H' => ∃ T x y, v = .ref T ∧ H T = none ∧ (∃ o : Obj, o.dict = none ∧ H' = upd H T (.frz o (.tup [x, y]))) ∧ (∀ xs, SkAt K a H xs → xs[i]? = some x) ∧ ∀ ys, SkAt K b H ys → ys[i]? = some y,
    fun i H => ∃ xs ys : List V, SkAt K a H xs ∧ SkAt K b H ys ∧ i ≤ xs.length ∧ i ≤ ys.length ∧ (i = xs.length ∨ i = ys.length)⟩
theorem zz_sep {n : Nat} {fp1 fp2 : List Addr} {a b : Sk} (ha : ∀ c, a.addr = some c → c < n) (hb : ∀ c, b.addr = some c → c < n) (m1 : n ∈ fp1) (m2 : n + 1 ∈ fp2) (f1 : ∀ c ∈ fp1, c = n ∨ a.addr = some c) (f2 : ∀ c ∈ fp2, c = n + 1 ∨ b.addr = some c) :
    ZipSep2 (n + 4) (n + 2) (n + 3) n (n + 1) fp1 fp2 := by
  have g1 : ∀ c ∈ fp1, c ≤ n := fun c hc => by rcases f1 c hc with z | z; exact Nat.le_of_eq z; exact Nat.le_of_lt (ha c z)
  have g2 : ∀ c ∈ fp2, c = n + 1 ∨ c < n := fun c hc => by rcases f2 c hc with z | z; exact .inl z; exact .inr (hb c z)
  have n1 : ∀ c, n < c → c ∉ fp1 := fun c h hm => absurd (g1 c hm) (Nat.not_le.mpr h)
  have n2 : ∀ c, c ≠ n + 1 → n ≤ c → c ∉ fp2 := fun c h h' hm => by rcases g2 c hm with z | z; exact h z; exact absurd z (Nat.not_lt.mpr h')
  have a1 : (n + 2 : Nat) ≠ n + 4 := by omega
  have a2 : (n + 3 : Nat) ≠ n + 4 := by omega
  have a3 : (n + 2 : Nat) ≠ n + 3 := by omega
  have a4 : (n + 2 : Nat) ≠ n := by omega
  have a5 : (n + 2 : Nat) ≠ n + 1 := by omega
  exact ⟨a1, a2, a3, a4, m1, n1 _ (by omega), n1 _ (by omega), a5, m2, n2 _ (by omega) (by omega), n2 _ (by omega) (by omega), n2 _ (by omega) (by omega), n1 _ (by omega)⟩
theorem turn_zz {P : Program} {w : World} {K : PySem.W.Frag} {elts : List Expr} {kk : Nat} {tpos : Pos} {n : Nat} {a b : Sk} (ha : ∀ c, a.addr = some c → c < n) (hb : ∀ c, b.addr = some c → c < n) :
    Turn P w K (.Tuple elts kk tpos) (Itzz K a b) [n + 4, n + 2, n + 3, n, n + 1] (n + 4) (fun i h => IsZip h (n + 4) (n + 2) (n + 3) .none ∧ IsTupOf2 h (n + 2) (.ref n) (.ref (n + 1)) ∧ (∃ x y, IsTupOf2 h (n + 3) x y) ∧ SkIter a n i h ∧ SkIter b (n + 1) i h) where
  mem := by simp
  obj := fun i h st c hc => by
    obtain ⟨hz, hTI, ⟨x, y, hTO⟩, s1, s2⟩ := st
    have e' : c = n + 4 ∨ c = n + 2 ∨ c = n + 3 ∨ c = n ∨ c = n + 1 := by simpa using hc
    rcases e' with q | q | q | q | q
    · rw [q]; exact ⟨_, hz, fun v q => nomatch q⟩
    · rw [q]; exact ⟨_, hTI, fun v q => nomatch q⟩
    · rw [q]; exact ⟨_, hTO, fun v q => nomatch q⟩
    · rw [q]; exact s1.ob
    · rw [q]; exact s2.ob
  keep := fun i h h' st k => by
    obtain ⟨hz, hTI, ⟨x, y, hTO⟩, h1, h2⟩ := st
    exact ⟨k _ (by simp) _ hz, k _ (by simp) _ hTI, ⟨x, y, k _ (by simp) _ hTO⟩, h1.keep fun o q => k n (by simp) o q, h2.keep fun o q => k (n + 1) (by simp) o q⟩
  item := by
    intro X hP hw hK hc i pins s σ H E I hf st hg
    subst hP hw hK
    obtain ⟨hz, hTI, ⟨x0, y0, hTO⟩, h1, h2⟩ := st
    obtain ⟨xs, ys, hqx, hqy, lx, ly⟩ := hg
    obtain ⟨fp1, P1, S1, D1, m1, f1, st1, r1, b1⟩ := sk_draws I (I.ok.hd hc) hqx h1 fun c hc' z => absurd (ha c hc') (by rw [z]; exact Nat.lt_irrefl _)
    obtain ⟨fp2, P2, S2, D2, m2, f2, st2, r2, b2⟩ := sk_draws I (I.ok.hd hc) hqy h2 fun c hc' z => absurd (hb c hc') (by rw [z]; exact Nat.not_lt.mpr (Nat.le_succ n))
    have D := zz_sep ha hb m1 m2 f1 f2
    have hzl : n + 4 < s.heap.objs.size := Heap.lt_size hz
    refine wpAny_pyNext_zipD2_item D D1 D2 hz hTI hTO st1 st2 lx ly fun u u2 h' tk p1 p2 z' TO' h1' h2' hT hsz hk => ?_
    have ru : RelV xs[i] u := r1 i u _ p1 (List.getElem?_eq_getElem lx)
    have ru2 : RelV ys[i] u2 := r2 i u2 _ p2 (List.getElem?_eq_getElem ly)
    refine ⟨_, rfl, wpAny_letOwnedTupleGo_zip (s := { s with heap := h', toks := tk }) z' fun h'' z'' sb => ?_⟩
    have hT2 : h''.get? s.heap.objs.size = some { cls := .type "tuple", data := .seq #[u, u2] } := (sb.2 _ (Nat.ne_of_gt hzl)).trans hT
    have new : ObjOk X.prog X.w (upd H s.heap.objs.size (.frz { cls := .type "tuple", data := .seq #[u, u2] } (.tup [xs[i], ys[i]]))) h'' s.heap.objs.size (.frz { cls := .type "tuple", data := .seq #[u, u2] } (.tup [xs[i], ys[i]])) :=
      ⟨hT2, by show 2 ≤ sizeLine; decide, [u, u2], .cons ru (.cons ru2 .nil), ⟨_, hT2, rfl, _, rfl⟩⟩
    have I1 : Inv X pins σ (upd H s.heap.objs.size (.frz { cls := .type "tuple", data := .seq #[u, u2] } (.tup [xs[i], ys[i]]))) { s with heap := h'', toks := tk } :=
      I.turnedNew (t' := tk) (ch := [n + 4, n + 2, n + 3, n, n + 1]) (fun c o hb q => (sb.2 c (fun q' => hb (by simp [q']))).trans (hk c o (fun q' => hb (by simp [q'])) (fun q' => hb (by simp [q'])) (fun q' => hb (by simp [q'])) (fun q' => hb (by simp [q'])) q)) hf (Nat.le_refl _) new
    refine ⟨.ref s.heap.objs.size, _, I1, rfl, ⟨_, xs[i], ys[i], rfl, I.hok.fresh (Nat.le_refl _), ⟨_, rfl, rfl⟩, fun l hl => by rw [sk_inj I hl hqx]; exact List.getElem?_eq_getElem lx, fun l hl => by rw [sk_inj I hl hqy]; exact List.getElem?_eq_getElem ly⟩, ⟨z'', ?_, ⟨u, u2, ?_⟩, ?_, ?_⟩, fun c hcm => ?_⟩
    · exact (sb.2 _ D.TIz).trans (hk _ _ D.TIz D.TITO D.TIi1 D.TIi2 hTI)
    · exact (sb.2 _ D.TOz).trans TO'
    · exact (b1 _ _ h1').keep fun o q => (sb.2 _ D.zi1.symm).trans q
    · exact (b2 _ _ h2').keep fun o q => (sb.2 _ D.zi2.symm).trans q
    · have hlt : c < s.heap.objs.size := by
        have e' : c = n + 4 ∨ c = n + 2 ∨ c = n + 3 ∨ c = n ∨ c = n + 1 := by simpa using hcm
        have : c ≤ n + 4 := by
          rcases e' with q | q | q | q | q <;> (rw [q]; first | exact Nat.le_refl _ | exact Nat.add_le_add_left (by decide) n | exact Nat.le_add_right _ _)
        exact Nat.lt_of_le_of_lt this hzl
      rw [upd_ne (Nat.ne_of_lt hlt)]
      exact (hf c hcm).1
  done := by
    intro X hP hw hK hc i pins s σ H E I hf st hg
    subst hP hw hK
    obtain ⟨hz, hTI, ⟨x0, y0, hTO⟩, h1, h2⟩ := st
    obtain ⟨xs, ys, hqx, hqy, lx, ly, hend⟩ := hg
    obtain ⟨fp1, P1, S1, D1, m1, f1, st1, r1, b1⟩ := sk_draws I (I.ok.hd hc) hqx h1 fun c hc' z => absurd (ha c hc') (by rw [z]; exact Nat.lt_irrefl _)
    obtain ⟨fp2, P2, S2, D2, m2, f2, st2, r2, b2⟩ := sk_draws I (I.ok.hd hc) hqy h2 fun c hc' z => absurd (hb c hc') (by rw [z]; exact Nat.not_lt.mpr (Nat.le_succ n))
    have D := zz_sep ha hb m1 m2 f1 f2
    exact wpAny_pyNext_zipD2_end D D1 D2 hz hTI hTO st1 st2 lx ly hend fun h' tk hk => ⟨rfl, I.turnedL (t' := tk) (ch := [n + 4, n + 2, n + 3, n, n + 1]) (fun c o hb q =>
      hk c o (fun q' => hb (by simp [q'])) (fun q' => hb (by simp [q'])) (fun q' => hb (by simp [q'])) (fun q' => hb (by simp [q'])) q) hf⟩
  self := fun A i s Q E st h => wpAny_pyIter_zip st.1 h
/-- the kind of a value that can be walked -/
def SkOf (K : PySem.W.Frag) (H : Hp) (v : V) (k : Tok → Sk) (vs : List V) : Prop := (∃ a, v = .ref a ∧ k = (fun _ => .l a) ∧ SqL K H a vs) ∨ (∃ a, v = .ref a ∧ k = (fun _ => .t a) ∧ SqT K H a vs) ∨ (∃ x, v = .str x ∧ k = (fun t => .s x t) ∧ vs = x.cps.toList.map fun c => V.str ⟨#[c]⟩)
def iZz (K : PySem.W.Frag) (ta : TA) : TI := fun σ H R => ta σ H fun vs H1 => ∃ x y k1 k2 xs ys, vs = [x, y] ∧ SkOf K H1 x k1 xs ∧ SkOf K H1 y k2 ys ∧ ∀ t u, R (Itzz K (k1 t) (k2 u)) H1
def skObj : Sk → Obj
  | .l a => { cls := .type "list_iterator", data := .fields #[.ref a, .int 0 0] }
  | .t a => { cls := .type "tuple_iterator", data := .fields #[.ref a, .int 0 0] }
  | .s x t => { cls := .type (strIterType x), data := .fields #[.str x t, .int 0 0] }
theorem sk_begin {X : Cx} {pins : List (Addr × Obj)} {σ : L2.St} {H : Hp} {s : Shared} (I : Inv X pins σ H s) {v : V} {u : Value} {k : Tok → Sk} {vs : List V} (r : RelV v u) (h : SkOf X.K H v k vs) :
    ∃ t Hh, Begins u (skObj (k t)) Hh ∧ Hh s.heap ∧ SkAt X.K (k t) H vs ∧ (∀ c, (k t).addr = some c → c < s.heap.objs.size) ∧ ∀ it h', h'.get? it = some (skObj (k t)) → SkIter (k t) it 0 h' := by
  rcases h with ⟨a, rfl, rfl, h⟩ | ⟨a, rfl, rfl, h⟩ | ⟨x, rfl, rfl, h⟩
  · cases r
    obtain ⟨its, rv, p, hz⟩ := I.list h
    refine ⟨0, _, begins_list a its.toArray, p.isList, h, fun c hc => ?_, fun it h' e => ⟨_, e, rfl, rfl⟩⟩
    cases hc
    exact p.lt
  · cases r
    obtain ⟨its, rv, p, hz⟩ := I.tuple h
    obtain ⟨o1, ho1, _⟩ := id p
    refine ⟨0, _, begins_tuple a its.toArray, (show s.heap.IsTuple a its.toArray from p), h, fun c hc => ?_, fun it h' e => ⟨_, e, rfl, rfl⟩⟩
    cases hc
    exact Heap.lt_size ho1
  · obtain ⟨t, rfl⟩ := r
    exact ⟨t, _, begins_text x t, trivial, h, fun c hc => (by cases hc), fun it h' e => ⟨_, e, rfl, rfl⟩⟩
theorem pi_zz {X : Cx} {e e2 : Expr} {ta : TA} {p pos tpos : Pos} {elts : List Expr} {kk : Nat} (hg : Gl X "zip") (hm : X.mg "zip" = none) (ha : PA X [e, e2] ta)
    (hs : starEach [e, e2] X.env = (false, eval e X.env) :: starEach [e2] X.env) (hpl : (backTo pos (starEach [e2] X.env)).any (·.1) = false) :
    PI X (.Tuple elts kk tpos) (.Call (.Name "zip" p) [e, e2] [] pos) (iZz X.K ta) := by
  refine ⟨fun pins s σ H R I h => ?_⟩
  refine Call_ (ld_blt I hg hm PyProof.Rows.boot_zip (PyProof.Rows.callWith_type1 (thn (ha.run pos pins s σ H _ I h) fun us s1 ⟨vs, H1, I1, r1, q1⟩ => ?_) hs hpl))
  obtain ⟨x, y, k1, k2, xs, ys, ex, c1, c2, q⟩ := q1
  subst ex
  cases r1 with
  | cons r rr =>
    cases rr with
    | cons r' rr =>
      cases rr
      obtain ⟨t1, H1', B1, b1, a1, l1, i1⟩ := sk_begin I1 r c1
      obtain ⟨t2, H2', B2, b2, a2, l2, i2⟩ := sk_begin I1 r' c2
      refine zip_begins2 B1 B2 b1 b2 fun h' hz hTI hTO g1 g2 hsz hk => wpAny_pyIter_zip hz ?_
      have I2 : Inv X pins σ H1 { s1 with heap := h' } := I1.kept (t' := s1.toks) hk
      refine ⟨s1.heap.objs.size + 4, [s1.heap.objs.size + 4, s1.heap.objs.size + 2, s1.heap.objs.size + 3, s1.heap.objs.size, s1.heap.objs.size + 1], _, _, H1, rfl, I2, turn_zz l1 l2, ⟨hz, hTI, ⟨_, _, hTO⟩, i1 _ _ g1, i2 _ _ g2⟩, fun c hcm => ?_, q t1 t2⟩
      have e' : c = s1.heap.objs.size + 4 ∨ c = s1.heap.objs.size + 2 ∨ c = s1.heap.objs.size + 3 ∨ c = s1.heap.objs.size ∨ c = s1.heap.objs.size + 1 := by simpa using hcm
      have hle : s1.heap.objs.size ≤ c := by
        rcases e' with z | z | z | z | z
        · rw [z]; exact Nat.le_add_right _ _
        · rw [z]; exact Nat.le_add_right _ _
        · rw [z]; exact Nat.le_add_right _ _
        · rw [z]; exact Nat.le_refl _
        · rw [z]; exact Nat.le_add_right _ _
      exact I1.fpOk hle (I1.hok.fresh hle)
def zipD : List D → List D → List D
  | x :: xs, y :: ys => .tup [x, y] :: zipD xs ys
  | _, _ => []
def zipW : List W → Option (List D)
  | [a, b] => match itemsW a, itemsW b with
    | some xs, some ys => some (zipD xs ys)
    | _, _ => none
  | _ => none
theorem zipD_get : ∀ {xs ys : List D} {i : Nat} {d : D}, (zipD xs ys)[i]? = some d → ∃ x y, xs[i]? = some x ∧ ys[i]? = some y ∧ d = .tup [x, y]
  | x :: xs, y :: ys, 0, d, h => by cases h; exact ⟨x, y, rfl, rfl, rfl⟩
  | x :: xs, y :: ys, i + 1, d, h => by
    obtain ⟨a, b, h1, h2, h3⟩ := zipD_get (xs := xs) (ys := ys) (i := i) (by simpa [zipD] using h)
    exact ⟨a, b, by simpa using h1, by simpa using h2, h3⟩
  | [], _, _, _, h => by simp [zipD] at h
  | _ :: _, [], _, _, h => by simp [zipD] at h
theorem zipD_len : ∀ (xs ys : List D), (zipD xs ys).length = min xs.length ys.length
  | [], _ => by simp [zipD]
  | _ :: _, [] => by simp [zipD]
  | x :: xs, y :: ys => by simp [zipD, zipD_len xs ys]
section
variable {G : Gx} {N : List Str} {sc : Scp} {k : Nat} {pos p tpos : Pos} {tg a b : Expr} {elts : List Expr} {kk : Nat} {ms : Den (List W)}
theorem sk_of {mu : Mu} {H0 H : Hp} {w : W} {v : V} {ds : List D} (r : RepW G mu H0 H w v) (e : itemsW w = some ds) : ∃ kk vs, SkOf G.K H v kk vs ∧ RepDs G H ds vs ∧ ∀ t H', Stay H H' → SkAt G.K (kk t) H' vs := by
  unfold itemsW at e
  split at e
  · cases e
    cases r with
    | tup a b => exact ⟨_, _, .inr (.inl ⟨_, rfl, rfl, a.sq⟩), b, fun t H' s => SqT.stay s a.sq⟩
  · cases e
    cases r with
    | lst a b => exact ⟨_, _, .inl ⟨_, rfl, rfl, a.sq⟩, b, fun t H' s => (FzL.stay s a).sq⟩
  · cases e
    cases r
    rename_i x
    refine ⟨_, _, .inr (.inr ⟨_, rfl, rfl, rfl⟩), ?_, fun t H' s => rfl⟩
    unfold charsD
    have : ∀ l : List Nat, RepDs G H (l.map fun c => D.str ⟨#[c]⟩) (l.map fun c => V.str ⟨#[c]⟩) := fun l => by
      induction l with
      | nil => exact .nil
      | cons c l ih => exact .cons (.str _) ih
    exact this _
  · cases e
theorem walk_zz {H1 : Hp} {k1 k2 : Sk} {vs us : List V} {ds es : List D} (r1 : RepDs G H1 ds vs) (r2 : RepDs G H1 es us) (s1 : ∀ H', Stay H1 H' → SkAt G.K k1 H' vs) (s2 : ∀ H', Stay H1 H' → SkAt G.K k2 H' us) : Walks G (Itzz G.K k1 k2) (zipD ds es) H1 := by
  have hl := zipD_len ds es
  refine ⟨fun i H s hi => ?_, fun i H v H' s y d hd => ?_, fun H s => ?_⟩
  · rw [hl, r1.length, r2.length] at hi
    exact ⟨vs, us, s1 H s, s2 H s, by omega, by omega⟩
  · obtain ⟨T, x, y, rfl, hT, ⟨o, ho, rfl⟩, q1, q2⟩ := y
    obtain ⟨a, b, h1, h2, rfl⟩ := zipD_get hd
    obtain ⟨va, e1, ra⟩ := r1.get h1
    obtain ⟨vb, e2, rb⟩ := r2.get h2
    have z1 := q1 vs (s1 H s)
    have z2 := q2 us (s2 H s)
    rw [e1] at z1
    rw [e2] at z2
    cases z1
    cases z2
    have st := (s.trans (Stay.new (o := .frz o (.tup [x, y])) hT))
    exact ⟨.tup (.inl ⟨o, ho, upd_same⟩) (.cons (ra.stay st) (.cons (rb.stay st) .nil)), .inr ⟨T, _, hT, rfl⟩⟩
  · refine ⟨vs, us, s1 H s, s2 H s, ?_, ?_, ?_⟩
    · rw [hl, r1.length, r2.length]; exact Nat.min_le_left _ _
    · rw [hl, r1.length, r2.length]; exact Nat.min_le_right _ _
    · rw [hl, r1.length, r2.length]; omega
theorem di_zip (hg : sc.s.names.lookup ("zip" : Str) = some .globalImplicit) (hm : G.mg ("zip" : Str) = none) (ha : DA G N sc k [a, b] ms) (hs : notStar a = true) (hs2 : notStar b = true) : DI G N sc k (.Tuple elts kk tpos) (.Call (.Name "zip" p) [a, b] [] pos) (iApp zipW ms) := by
  refine ⟨fun X Wx ft tk => PI.imp (pi_zz (by show X.env.scope.names.lookup _ = _; rw [ft.sc]; exact hg) (by rw [← (fits_gx ft).2]; exact hm) (ha.pa X Wx ft tk) (star_of hs) (stars_of (by rw [List.all_cons, hs2]; rfl))) fun st H R t => iapp_post t _ fun ws xs ds H1 mu1 h1 hr rws e q => ?_⟩
  unfold zipW at e
  split at e
  · split at e
    · rename_i ds1 ds2 e1 e2
      cases e
      obtain ⟨x, y, rfl, r, r'⟩ := vals2w rws
      obtain ⟨k1, vs, a1, b1, c1⟩ := sk_of r e1
      obtain ⟨k2, us, a2, b2, c2⟩ := sk_of r' e2
      have hK := (fits_gx ft).1
      refine ⟨x, y, k1, k2, vs, us, rfl, hK ▸ a1, hK ▸ a2, fun t u => ?_⟩
      rw [← hK]
      exact q _ (walk_zz b1 b2 (c1 t) (c2 u))
    · cases e
  · cases e
end
end Dn

set_option maxHeartbeats 4000000
namespace Dn
open PySem PySem.Spec PyProof.Rows L2

/-! ### x[::-1] -/
section
variable {prog : Program} {w : World} {A : Around} {E : Value → Shared → Prop} {s : Shared}
theorem applied_rev {sl : Addr} {n : Nat} {vs : Value} {Q : Int × Int × Nat → Shared → Prop} (hs : s.heap.IsSliceOf sl .none .none vs) (pv : IsPart vs (some (-1)))
    (h : Q ((n : Int) - 1, -1, n) s) : wpAny (model prog w) A (Builtin.Slice.sliceApplied (.ref sl) (pure (n : Int))) Q E s := by
  obtain ⟨os, hos, hcs, hds⟩ := id hs
  unfold Builtin.Slice.sliceApplied Builtin.Slice.sliceFields
  refine wpAny_bind (wpAny_bind (wpAny_field hos hds (x := .none) rfl (wpAny_bind (wpAny_field hos hds (x := .none) rfl (wpAny_bind (wpAny_field hos hds (x := vs) rfl (wpAny_pure ?_)))))))
  refine wpAny_bind (HT.slicePart_ pv ?_)
  show wpAny _ _ (if ((-1 : Int) == 0) = true then _ else _) _ _ s
  rw [if_neg (by decide)]
  refine wpAny_bind (HT.slicePart_ .none (wpAny_bind (HT.slicePart_ .none (wpAny_bind (wpAny_pure ?_)))))
  have e : Builtin.Slice.sliceAdjust none none (-1) (n : Int) = ((n : Int) - 1, -1) := rfl
  have e2 : Builtin.Slice.slicePlaces ((n : Int) - 1) (-1) (-1) = n := by
    unfold Builtin.Slice.slicePlaces
    have h1 : ¬ ((-1 : Int) > 0) := by decide
    have h3 : (-(-1) : Int) = 1 := by decide
    simp only [h1, if_false, h3, Int.ediv_one]
    split <;> omega
  show wpAny _ _ (match Builtin.Slice.sliceAdjust none none (-1) (n : Int) with | (lo, hi) => pure (lo, (-1 : Int), Builtin.Slice.slicePlaces lo hi (-1))) _ _ s
  rw [e]
  show wpAny _ _ (pure ((n : Int) - 1, (-1 : Int), Builtin.Slice.slicePlaces ((n : Int) - 1) (-1) (-1))) _ _ s
  rw [e2]
  exact wpAny_pure h
theorem fm_congr {α β : Type} {f g : α → Option β} : ∀ l : List α, (∀ x ∈ l, f x = g x) → l.filterMap f = l.filterMap g
  | [], _ => rfl
  | x :: l, h => by
    rw [List.filterMap_cons, List.filterMap_cons, h x List.mem_cons_self, fm_congr l fun y hy => h y (List.mem_cons_of_mem _ hy)]
theorem pick_rev {α : Type} (xs : Array α) : (List.range xs.size).filterMap (fun (m : Nat) => xs[(((xs.size : Int) - 1) + (m : Int) * (-1)).toNat]?) = xs.toList.reverse := by
  have e : (List.range xs.size).filterMap (fun (m : Nat) => xs[(((xs.size : Int) - 1) + (m : Int) * (-1)).toNat]?) = ((List.range xs.size).map fun k => xs.size - 1 - k).filterMap (xs[·]?) := by
    rw [List.filterMap_map]
    apply fm_congr
    intro m hm
    have := List.mem_range.mp hm
    have e : (((xs.size : Int) - 1) + (m : Int) * (-1)).toNat = xs.size - 1 - m := by omega
    show xs[(((xs.size : Int) - 1) + (m : Int) * (-1)).toNat]? = xs[xs.size - 1 - m]?
    rw [e]
  rw [e, PySem.W.krv_range, List.filterMap_reverse, PySem.W.krv_all]
theorem getItem_tuple_rev {t sl : Addr} {items : Array Value} {vs : Value} {Q : Value → Shared → Prop} (ht : IsTup s.heap t items) (hs : s.heap.IsSliceOf sl .none .none vs) (pv : IsPart vs (some (-1)))
    (h : Q (.ref s.heap.objs.size) { s with heap := s.heap.push { cls := .type "tuple", data := .seq items.toList.reverse.toArray } }) (hsz : items.size ≤ sizeLine) : wpAny (model prog w) A (getItem (.ref t) (.ref sl)) Q E s := by
  have htake : sizeOk (.seq items.toList.reverse.toArray) := by
    show items.toList.reverse.toArray.size ≤ sizeLine
    rw [List.size_toArray, List.length_reverse, Array.length_toList]
    omega
  obtain ⟨os, hos, hcs, hds⟩ := id hs
  have hTs : s.TypeIs (.ref sl) "slice" := ⟨os, hos, hcs⟩
  unfold getItem
  try with_reducible refine wpAny_holding ?_
  first | refine wpAny_bind (wpAny_pure ?_) | skip
  refine wpAny_bind (wpAny_sequenceKey ht.typeIs (by decide) ?_)
  refine wpAny_bind (wpAny_callSpecial?_slot (name := Str.ofString "__getitem__") ht.typeIs PyProof.Rows.slot_tuple_getitem
    (wpAny_call_entry PyProof.Rows.slot_tuple_getitem ht.typeIs PyProof.Rows.entry_tuple_getitem ?_ (PyProof.Rows.args_tuple_getitem _ _)))
  show wpAny _ _ (Builtin.Tuple.tupleItemsOf (.ref t) >>= _) _ _ s
  refine wpAny_bind (tupleItemsOf_ ht ?_)
  refine wpAny_bind (wpAny_typeOf hTs ?_)
  rw [if_pos (by decide)]
  refine wpAny_bind (applied_rev (n := items.size) hs pv ?_)
  have hno : ¬ ((((items.size : Int) - 1) == 0 && (-1 : Int) == 1 && items.size == items.size) = true) := by
    intro q
    rw [Bool.and_eq_true, Bool.and_eq_true] at q
    exact absurd q.1.2 (by decide)
  show wpAny _ _ (if ((((items.size : Int) - 1) == 0 && (-1 : Int) == 1 && items.size == items.size) = true) then _ else _) _ _ s
  rw [if_neg hno, pick_rev]
  first
    | exact wpAny_bind (m := Builtin.Tuple.tupleExact _) (wpAny_newObj_type (wpAny_pure ⟨_, rfl, wpAny_pure h⟩) htake)
    | exact wpAny_bind (m := Builtin.Tuple.tupleExact _) (wpAny_newObj_type (wpAny_bind (wpAny_pure (wpAny_pure ⟨_, rfl, wpAny_pure h⟩))) htake)
    | exact wpAny_bind (wpAny_bind (m := Builtin.Tuple.tupleExact _) (wpAny_newObj_type (wpAny_pure (wpAny_pure ⟨_, rfl, wpAny_pure h⟩)) htake))
    | exact wpAny_bind (wpAny_bind (m := Builtin.Tuple.tupleExact _) (wpAny_newObj_type (wpAny_pure ⟨_, rfl, wpAny_pure h⟩) htake))
end
def strRev (z : Str) : Str := ⟨z.cps.toList.reverse.toArray⟩
def revW' (a : W) (h : MH) : Option W := match a with
  | .d (.str z) => if z.length ≤ LIM then some (.d (.str (strRev z))) else none
  | .d (.tup ds) => some (.d (.tup ds.reverse))
  | w => (lw h w).map fun ds => .own ds.reverse
def dRv (ma : Den W) : Den W := dBind ma fun a _ h => (revW' a h).map fun w => (.ok w, h)
theorem RepDs.reverse {G : Gx} {H : Hp} : ∀ {ds : List D} {vs : List V}, RepDs G H ds vs → RepDs G H ds.reverse vs.reverse
  | _, _, .nil => .nil
  | _, _, .cons r t => by
    rw [List.reverse_cons, List.reverse_cons]
    exact t.reverse.app (.cons r .nil)
/-- by its kind -/
def tRvA (K : PySem.W.Frag) (te : TE) : TE := fun σ H Q => te σ H fun x H1 => (∃ a xs, x = .ref a ∧ SqL K H1 a xs ∧ ∀ p, H1 p = none → Q (.ref p) (upd H1 p (.lst xs.reverse))) ∨
  (∃ a xs, x = .ref a ∧ SqT K H1 a xs ∧ NewT H1 xs.reverse Q) ∨ (∃ z, x = .str z ∧ z.length ≤ sizeLine ∧ Q (.str (strRev z)) H1)
theorem pe_rvA {X : Cx} {e : Expr} {te : TE} {k : Nat} {p1 p2 p3 pos : Pos} (he : PE X e te) : PE X (.Subscript e (.Slice none none (some (.UnaryOp .USub (.Constant (.int 1) k p1) p2)) p3) pos) (tRvA X.K te) := by
  refine ⟨fun pins s σ H Q I h => ?_⟩
  refine Subscript_ (thn (he.run pins s σ H _ I h) fun v s1 ⟨x, H1, I1, r1, q1⟩ => ?_)
  have hst : PO X (some (.UnaryOp .USub (.Constant (.int 1) k p1) p2)) (tPart (tUn (rU fun i => .int (-i)) (tC (.int 1)))) := po_some (pe_un un_neg pe_int)
  refine wpAny_Slice (thn (po_none.run pins s1 σ H1 (fun o H2 => o = none ∧ H2 = H1) I1 ⟨rfl, rfl⟩) fun vl s2 ⟨l, H2, I2, pl, el, e2⟩ => ?_)
  subst el e2
  refine thn (po_none.run pins s2 σ H2 (fun o H3 => o = none ∧ H3 = H2) I2 ⟨rfl, rfl⟩) fun vu s3 ⟨u, H3, I3, pu, eu, e3⟩ => ?_
  subst eu e3
  refine thn (hst.run pins s3 σ H3 (fun o H4 => o = some (-1) ∧ H4 = H3) I3 ⟨1, rfl, -1, rfl, rfl, rfl⟩) fun vs s4 ⟨o, H4, I4, ps, eo, e4⟩ => ?_
  subst eo e4
  have I5 : Inv X pins σ H4 { s4 with heap := s4.heap.push { cls := .type "slice", data := .fields #[vl, vu, vs] } } := I4.kept (t' := s4.toks) fun b ob q => Heap.get?_push_of_some _ q
  show wpAny (model X.prog X.w) X.A (subscriptTail e (.Slice none none (some (.UnaryOp .USub (.Constant (.int 1) k p1) p2)) p3) v (.ref s4.heap.objs.size)) (EP X pins σ Q) X.xe { s4 with heap := s4.heap.push { cls := .type "slice", data := .fields #[vl, vu, vs] } }
  rcases q1 with ⟨a, xs, ex, hx, q⟩ | ⟨a, xs, ex, hx, q⟩ | ⟨z, ex, hz, q⟩
  · subst ex
    cases r1
    obtain ⟨its, r, ht, hz⟩ := I5.list hx
    have hlen := r.length
    refine tail_any (ops := [.ref a, .ref s4.heap.objs.size]) ht.isList.typeIs (PySem.slot_list_getitem.lookup) ?_ (by with_unfolding_all rfl)
    refine wpAny_getItem_list_slice ht.isList (Heap.IsSliceOf.new _ vl vu vs) pl pu ps (by decide) ?_ (by rw [List.size_toArray]; omega)
    rw [PySem.W.krv_pick]
    refine ⟨.ref _, _, I5.laid (t' := s4.toks) (o := .lst xs.reverse) (fun b ob q => Heap.get?_push_of_some _ q) (Nat.le_refl _) ?_, rfl, q _ (I5.hok.fresh (Nat.le_refl _))⟩
    exact ⟨by rw [List.length_reverse]; exact hz, _, 0, r.reverse, Heap.get?_push_size _ rfl⟩
  · subst ex
    cases r1
    obtain ⟨its, r, ht, hz⟩ := I5.tuple hx
    have hlen := r.length
    cases pl
    cases pu
    refine tail_any (ops := [.ref a, .ref s4.heap.objs.size]) ht.typeIs (PyProof.Rows.slot_tuple_getitem.lookup) ?_ (by with_unfolding_all rfl)
    refine getItem_tuple_rev ht (Heap.IsSliceOf.new _ _ _ vs) ps ?_ (by rw [List.size_toArray]; omega)
    exact put_new (t := s4.toks) I5 (fun _ _ e => e) r.reverse (by rw [List.length_reverse]; exact hz) (Nat.le_refl _) q
  · subst ex
    obtain ⟨t, rfl⟩ := r1
    cases pl
    cases pu
    cases ps with
    | int i tk =>
      refine tail_any (ops := [.str z t, .ref s4.heap.objs.size]) (typeIs_str _ _ _) (F.slot_str_getitem.lookup) ?_ (by with_unfolding_all rfl)
      refine wpAny_getItem_str_slice (l := none) (u := none) (st := some (-1, tk)) ⟨_, Heap.get?_push_size _ rfl, rfl, rfl⟩ rfl ?_
      have e : ((Builtin.Str.strSliceIndices none none (-1) z.length).filterMap (z.cps[·]?)).toArray = (strRev z).cps := by
        show ((sliceRange ((z.length : Int) - 1) (-1) (-1)).filterMap (z.cps[·]?)).toArray = _
        rw [PySem.W.krv_sliceRange, PySem.W.krv_range]
        show (((List.range z.cps.size).reverse).filterMap (z.cps[·]?)).toArray = _
        rw [List.filterMap_reverse, PySem.W.krv_all]
        rfl
      show Made.post (if ((-1 : Int) == 1 && (Builtin.Str.strSliceIndices none none (-1) z.length).length == z.length) = true then Made.val (.str z t)
        else Made.str ⟨((Builtin.Str.strSliceIndices none none (-1) z.length).filterMap (z.cps[·]?)).toArray⟩) (EP X pins σ Q) _
      rw [if_neg (by rw [show ((-1 : Int) == 1) = false by decide, Bool.false_and]; exact Bool.false_ne_true), e]
      refine ⟨?_, .str (strRev z), H4, I5.tok _, ⟨_, rfl⟩, q⟩
      show (strRev z).cps.size ≤ sizeLine
      show (z.cps.toList.reverse.toArray).size ≤ sizeLine
      rw [List.size_toArray, List.length_reverse, Array.length_toList]
      exact hz
section
variable {G : Gx} {N : List Str} {sc : Scp} {k : Nat} {pos p1 p2 p3 : Pos} {a : Expr} {ma : Den W} {kk : Nat}
theorem de_rev (ha : DE G N sc k a ma) : DE G N sc k (.Subscript a (.Slice none none (some (.UnaryOp .USub (.Constant (.int 1) kk p1) p2)) p3) pos) (dRv ma) := by
  refine ⟨fun X Wx ft tk => PE.imp (pe_rvA (ha.pe X Wx ft tk)) ?_⟩
  rintro st H Q ⟨mu, rho, h, sr, p⟩
  refine bind_post sr p fun w h1 x H1 mu1 sr1 e1 rw' p1 => ?_
  have p1' : Post G Wx mu1 H1 st Q ((revW' w h1).map fun w => (.ok w, h1)) := p1
  have hK := (fits_gx ft).1
  have opt : ∀ ds, lw h1 w = some ds → Post G Wx mu1 H1 st Q (some (.ok (.own ds.reverse), h1)) → (∃ a xs, x = .ref a ∧ SqL X.K H1 a xs ∧ ∀ p, H1 p = none → Q (.ref p) (upd H1 p (.lst xs.reverse))) := fun ds e q => by
    obtain ⟨a, vs, rfl, a1, rd⟩ := lw_rep sr1.hr rw' e
    exact ⟨a, vs, rfl, .inl a1, fun p hp => q _ _ mu1 (sr1.hr.new hp) (Ext.new hp) ⟨p, vs.reverse, rfl, upd_same, rd.reverse.stay (Stay.new hp), sr1.hr.nin hp, hp⟩⟩
  unfold revW' at p1'
  split at p1'
  · split at p1'
    · rename_i hz
      cases rw'
      exact .inr (.inr ⟨_, rfl, by rw [lim_eq]; exact hz, p1' _ H1 mu1 sr1.hr (Ext.refl _ _) (.str _)⟩)
    · exact p1'.elim
  · cases rw' with
    | tup f r => exact .inr (.inl ⟨_, _, rfl, hK ▸ f.sq, fun p o hp ho => p1' _ _ mu1 (sr1.hr.new hp) (Ext.new hp) (RepD.tup (.inl ⟨o, ho, upd_same⟩) (r.reverse.stay (Stay.new hp)))⟩)
  · cases e : lw h1 w with
    | none => rw [e] at p1'; exact p1'.elim
    | some ds => rw [e] at p1'; exact .inl (opt ds e p1')

/-! ### methods of texts, tuples -/
/-- of a text -/
def dMs (f : Str → W → MH → Option W) (mo me : Den W) : Den W := dBind mo fun a => match a with
  | .d (.str x) => dBind me fun b _ h => (f x b h).map fun w => (.ok w, h)
  | _ => fun _ _ => none
def rdM (G : Gx) (f : Str → W → MH → Option W) : V → List V → Hp → VK → Prop := fun x xs H Q => ∃ mu h a y wb H0, HR G mu h H ∧ x = .str a ∧ xs = [y] ∧ RepW G mu H0 H wb y ∧ ∃ w, f a wb h = some w ∧ ∀ v H', HR G mu h H' → Ext mu H mu H' → RepW G mu H H' w v → Q v H'
theorem ms_post {Wx : WX} {st : L2.St} {H : Hp} {Q : VK} {f : Str → W → MH → Option W} {mo me : Den W} (t : tden G Wx (dMs f mo me) st H Q) : tM1 (rdM G f) (tden G Wx mo) (tden G Wx me) st H Q := by
  obtain ⟨mu, rho, h, sr, p⟩ := t
  refine bind_post sr p fun w h1 x H1 mu1 sr1 e1 rw' p1 => ?_
  split at p1
  · cases rw'
    rename_i z
    refine ⟨⟨_, rfl⟩, bind_post sr1 p1 fun w2 h2 y H2 mu2 sr2 e2 rw2 p2 => ?_⟩
    have p2' : Post G Wx mu2 H2 st Q ((f z w2 h2).map fun w => (.ok w, h2)) := p2
    cases e : f z w2 h2 with
    | none => rw [e] at p2'; exact p2'.elim
    | some r =>
      rw [e] at p2'
      exact ⟨mu2, h2, z, y, w2, H1, sr2.hr, rfl, rfl, rw2, r, e, fun v H' hr ex rw' => p2' v H' mu2 hr ex rw'⟩
  · exact p1.elim
theorem de_ms {o e : Expr} {mo me : Den W} {name : Str} {id : String} {apos : Pos} {f : Str → W → MH → Option W} (slot : Slot "str" name id) (ty : typeOf (.builtin id) = pure (.type "method_descriptor")) (rule : ∀ X, Fits X G N sc k → MtR X id (rdM G f)) (ho : DE G N sc k o mo) (he : DE G N sc k e me)
    (hs : notStar e = true) (hb : ∀ env : Env, env.scope = sc.s → attributeBase o name env (eval o env) = eval o env) (hline : (apos.endLine == pos.line) = true) : DE G N sc k (.Call (.Attribute o name apos) [e] [] pos) (dMs f mo me) :=
  ⟨fun X Wx ft tk => PE.imp (pe_m1 slot ty (rule X ft) (ho.pe X Wx ft tk) (he.pe X Wx ft tk) (star_of hs) (hb X.env ft.sc) hline) fun st H Q t => ms_post t⟩
def strsD : List D → Option (List Str)
  | [] => some []
  | .str x :: ds => (strsD ds).map (x :: ·)
  | _ :: _ => none
theorem strs_eq : ∀ {ds : List D} {ns : List Str}, strsD ds = some ns → ds = ns.map D.str
  | [], _, e => by cases e; rfl
  | d :: ds, ns, e => by
    cases d with
    | str i =>
      obtain ⟨ms, e1, rfl⟩ := Option.map_eq_some_iff.mp (show (strsD ds).map (i :: ·) = some ns from e)
      rw [strs_eq e1]; rfl
    | _ => cases e
theorem strs_map : ∀ ns : List Str, strsD (ns.map D.str) = some ns
  | [] => rfl
  | n :: ns => by show (strsD (ns.map D.str)).map (n :: ·) = _; rw [strs_map ns]; rfl
def idxF (x : Str) (b : W) (_ : MH) : Option W := match b with
  | .d (.str y) => (Builtin.Str.occurrences x y 0 x.length 1).head?.map fun (i : Nat) => .d (.int i)
  | _ => none
def splF (x : Str) (b : W) (_ : MH) : Option W := match b with
  | .d (.str y) => if (y.length == 0) = false ∧ x.length + 2 ≤ LIM then some (.own ((Txt.split x y).map D.str)) else none
  | _ => none
def joiF (x : Str) (b : W) (h : MH) : Option W := match qw h b with
  | some ds => match strsD ds with
    | some ys => if (ys.map (·.length)).sum + ys.length * x.length ≤ LIM then some (.d (.str (Txt.join x ys))) else none
    | none => none
  | none => none
def cntF (x : Str) (b : W) (_ : MH) : Option W := match b with
  | .d (.str y) => some (.d (.int (Txt.count x y)))
  | _ => none
def rjuF (x : Str) (b : W) (_ : MH) : Option W := match b with
  | .d (.int i) => if PadOk i = true then some (.d (.str (Txt.rjust x i))) else none
  | _ => none
theorem mt_idxF {X : Cx} : MtR X "str.index" (rdM G idxF) := by
  intro pins s σ H x xs v us Q I rx rv ⟨mu, h, a, y, wb, H0, hr, e1, e2, rw', w, e, q⟩
  unfold idxF at e
  split at e
  · cases rw'
    obtain ⟨i, ei, rfl⟩ := Option.map_eq_some_iff.mp e
    rename_i y
    cases ho : Builtin.Str.occurrences a y 0 a.length 1 with
    | nil => rw [ho] at ei; cases ei
    | cons j rest =>
      rw [ho] at ei
      have ej : j = i := Option.some.inj ei
      subst ej
      exact mt_sindex pins s σ H x xs v us Q I rx rv ⟨a, y, j, rest, e1, e2, ho, repd_new hr (.int _) q⟩
  · cases e
theorem mt_splF {X : Cx} : MtR X "str.split" (rdM G splF) := by
  intro pins s σ H x xs v us Q I rx rv ⟨mu, h, a, y, wb, H0, hr, e1, e2, rw', w, e, q⟩
  unfold splF at e
  split at e
  · cases rw'
    split at e
    · rename_i hz
      cases e
      exact mt_split pins s σ H x xs v us Q I rx rv ⟨a, _, e1, e2, hz.1, by rw [lim_eq]; exact hz.2, fun p hp => own_new hr RepDs.of_strs q p hp (hr.nin hp)⟩
    · cases e
  · cases e
theorem mt_joiF {X : Cx} (ft : Fits X G N sc k) : MtR X "str.join" (rdM G joiF) := by
  intro pins s σ H x xs v us Q I rx rv ⟨mu, h, a, y, wb, H0, hr, e1, e2, rw', w, e, q⟩
  have hK := (fits_gx ft).1
  unfold joiF at e
  split at e
  · rename_i ds eq
    split at e
    · rename_i ys ey
      split at e
      · rename_i hz
        cases e
        rw [strs_eq ey] at eq
        obtain ⟨p, vs, rfl, hq, rd⟩ := qw_rep hr rw' eq
        rw [rd.strs] at hq
        exact mt_join pins s σ H x xs v us Q I rx rv ⟨a, p, ys, e1, e2, hK ▸ hq, hz, repd_new hr (.str _) q⟩
      · cases e
    · cases e
  · cases e
theorem mt_cntF {X : Cx} : MtR X "str.count" (rdM G cntF) := by
  intro pins s σ H x xs v us Q I rx rv ⟨mu, h, a, y, wb, H0, hr, e1, e2, rw', w, e, q⟩
  unfold cntF at e
  split at e
  · cases rw'
    cases e
    exact mt_count pins s σ H x xs v us Q I rx rv ⟨a, _, e1, e2, repd_new hr (.int _) q⟩
  · cases e
theorem mt_rjuF {X : Cx} : MtR X "str.rjust" (rdM G rjuF) := by
  intro pins s σ H x xs v us Q I rx rv ⟨mu, h, a, y, wb, H0, hr, e1, e2, rw', w, e, q⟩
  unfold rjuF at e
  split at e
  · cases rw'
    split at e
    · rename_i hz
      cases e
      exact mt_rjust pins s σ H x xs v us Q I rx rv ⟨a, _, e1, e2, hz, repd_new hr (.str _) q⟩
    · cases e
  · cases e
end
end Dn

set_option maxHeartbeats 4000000
namespace Dn
open PySem PySem.Spec PyProof.Rows L2

/-! ### raise C('..') of an own class -/
structure ExcK (G : Gx) (x : Str) : Prop where
  ex : ∃ C, G.mg x = some (.ref C) ∧ PySem.W.excIn G.K C He.veBase "ValueError.__new__" = true ∧ PySem.W.keepIn G.K (.ref C) = true ∧ PySem.W.subIn G.K (.ref C) (.type "BaseException") = some true ∧ PySem.W.typeIn G.K (.ref C) = some (.type "type")
def sRaise (c : Str) : DenS := fun rho h => some (.ex c [] rho, h)
section
variable {G : Gx} {N : List Str} {sc : Scp} {k : Nat} {pos p p2 p3 : Pos} {x m : Str} {j : Option Str}
theorem ds_raise {jj : Nat} (F : ExcK G x) (hg : sc.s.names.lookup x = some .globalImplicit) (hdb : (x == ("__debug__" : Str)) = false) : DS G N sc k (.Raise (some (.Call (.Name x p) [.Constant (.str m) jj p2] [] p3)) none pos) (sRaise x) := by
  obtain ⟨C, gC, q1, q2, q3, q4⟩ := F.ex
  refine ⟨fun X Wx ft tk => ?_⟩
  obtain ⟨e1, e2⟩ := fits_gx ft.ft
  refine PS.imp (L2N.ps_raise ft.ft.calm tk (L2N.pmk_own (C := C) PySem.F.excBase_ValueError (e1 ▸ q1) (e2 ▸ gC) (e1 ▸ q2) (raises_own (e1 ▸ q3) (e1 ▸ q4)) (by show X.env.scope.names.lookup x = _; rw [ft.ft.sc]; exact hg) hdb)) ?_
  rintro DD st H ⟨mu0, H0, mu, rho, h, ss, p⟩
  exact p (.ref C) none st H mu ss (Stay.refl H) ⟨C, gC, rfl, .inl ⟨rfl, rfl⟩⟩
end

/-! ### a def from its body -/
def runD (N : List Str) (m : DenS) : Phi := fun ws h => match m (ws.map some ++ List.replicate (N.length - ws.length) none) h with
  | some (.nx _, h') => some (.ok (.d .non), h')
  | some (.rt w, h') => some (.ok w, h')
  | some (.ex c fs _, h') => some (.ex c fs, h')
  | _ => none
theorem RepWs.get {G : Gx} {mu : Mu} {H0 H : Hp} : ∀ {ws : List W} {vs : List V} {i : Nat} {w : W}, RepWs G mu H0 H ws vs → ws[i]? = some w → ∃ v, vs[i]? = some v ∧ RepW G mu H0 H w v
  | _, _, _, _, .nil, e => by simp at e
  | _, _, 0, _, .cons r _ _, e => by simp at e; subst e; exact ⟨_, rfl, r⟩
  | _, _, i + 1, _, .cons _ _ t, e => by
    obtain ⟨v, h1, h2⟩ := t.get (i := i) (by simpa using e)
    exact ⟨v, by simpa using h1, h2⟩
theorem start_sts {G : Gx} {N : List Str} {mu : Mu} {h : MH} {H0 H : Hp} {ws : List W} {vs : List V} (hr : HR G mu h H) (r : RepWs G mu H0 H ws vs) (hn : ∀ w ∈ ws, (∀ ds, w ≠ .own ds) ∧ (∀ ds, w ≠ .bor ds) ∧ w ≠ .od) :
    StS G mu H mu (ws.map some ++ List.replicate (N.length - ws.length) none) h (L2.start N vs) H := by
  have hl := r.len
  have key : ∀ (i : Nat) (w : W), (ws.map some ++ List.replicate (N.length - ws.length) none)[i]? = some (some w) → ws[i]? = some w := fun i w e => by
    by_cases hi : i < ws.length
    · rw [List.getElem?_append_left (by simpa using hi), List.getElem?_map] at e
      cases q : ws[i]? with
      | none => rw [q] at e; cases e
      | some w' => rw [q] at e; cases e; rfl
    · rw [List.getElem?_append_right (by simpa using hi), List.getElem?_replicate] at e
      split at e <;> cases e
  have noown : ∀ (i : Nat) (ds : List D), (ws.map some ++ List.replicate (N.length - ws.length) none)[i]? ≠ some (some (.own ds)) := fun i ds e => (hn _ (List.mem_of_getElem? (key i _ e))).1 ds rfl
  have hlen : (ws.map some ++ List.replicate (N.length - ws.length) none).length = (L2.start N vs).length := by
    unfold L2.start
    simp only [List.length_append, List.length_map, List.length_replicate, hl]
  refine ⟨⟨hr, fun i w e => ?_, fun i j ds es a e1 => absurd e1 (noown i ds), hlen⟩, Ext.refl mu H, fun i ds a e1 => absurd e1 (noown i ds), hlen⟩
  have hw := key i w e
  obtain ⟨v, e1, rw'⟩ := r.get hw
  refine ⟨v, ?_, ?_⟩
  · unfold L2.start
    have hi : i < vs.length := (List.getElem?_eq_some_iff.mp e1).1
    rw [List.getElem?_append_left (by simpa using hi), List.getElem?_map, e1]
    rfl
  · obtain ⟨n1, n2, n3⟩ := hn w (List.mem_of_getElem? hw)
    cases w with
    | d x => exact rw'
    | own ds => exact absurd rfl (n1 ds)
    | bor ds => exact absurd rfl (n2 ds)
    | od => exact absurd rfl n3
    | ref n => exact rw'
theorem run_post {G : Gx} {N : List Str} {m : DenS} {mu : Mu} {h : MH} {H : Hp} {ws : List W} {Q : VK} {E : XK} (p : PostF G mu H Q E (runD N m ws h)) :
    PostS G (fun cls d _ H => E cls d H) mu H H { nx := fun _ H' => Q .non H', rt := Q } (m (ws.map some ++ List.replicate (N.length - ws.length) none) h) := by
  unfold runD at p
  rcases e : m (ws.map some ++ List.replicate (N.length - ws.length) none) h with _ | ⟨r | w | r | r | ⟨c, fs, r⟩, h'⟩
  · rw [e] at p; exact p
  · rw [e] at p
    exact fun st' H' mu' s t => p .non H' mu' s.sr.hr s.ex .non
  · rw [e] at p
    exact fun v H' mu' hr ex t rw' => p v H' mu' hr ex rw'
  · rw [e] at p; exact p.elim
  · rw [e] at p; exact p.elim
  · rw [e] at p
    exact fun cls d st' H' mu' s t rx => p cls d H' mu' s.sr.hr s.ex rx
section
variable {G : Gx} {N ps : List Str} {k : Nat} {x qual : Str} {params : Arguments} {body : List Stmt} {scope : Scope} {f : Addr} {fd : FuncData} {m : DenS}
theorem fits_cx {sc : Scp} {cdv : Value} {A : Around} {outer : List Env} {s : Shared} {H : Hp} {E : XK} (S : FnScope N ps scope) (hs : sc.s = scope) (hc : ∀ c, sc.c = some c → cdv = .ref c ∧ qual ++ ".<locals>." = sc.q) (hr : Room k (A.deeper (envOfC qual scope s.heap.objs.size f cdv))) :
    FitsS (cxOf (L2N.CX G.prog G.w) G.prog G.w G.K G.mg G.base N qual scope f cdv A outer s H E) G N sc k where
  ft := ⟨⟨G.T, rfl⟩, rfl, hc, hs.symm, hr, rfl, S.nd⟩
  own := L2.passes_of (K := fun e s'' => L2N.CX G.prog G.w outer H s E e s'') rfl
  stk := rfl
  frame := rfl
  kind := hs ▸ S.kind
  fn := rfl
theorem takes_cx {cdv : Value} {A : Around} {outer : List Env} {s : Shared} {H : Hp} {E : XK} : L2N.Takes (cxOf (L2N.CX G.prog G.w) G.prog G.w G.K G.mg G.base N qual scope f cdv A outer s H E) (fun cls d _ H => E cls d H) :=
  L2N.takes_of rfl rfl rfl rfl
theorem fnok_body {sc : Scp} (S : FnScope N ps scope) (hs : sc.s = scope) (hb : DSs G N sc k body m) {cdv : Value} {A : Around} {outer : List Env} {s : Shared} {H : Hp} {vs : List V} {Q : VK} {E : XK} (hc : ∀ c, sc.c = some c → cdv = .ref c ∧ qual ++ ".<locals>." = sc.q) (hr : Room k (A.deeper (envOfC qual scope s.heap.objs.size f cdv))) (h : spD G ps.length (runD N m) vs H Q E) :
    ∃ t, PSs (cxOf (L2N.CX G.prog G.w) G.prog G.w G.K G.mg G.base N qual scope f cdv A outer s H E) body t ∧ t { nx := fun _ H' => Q .non H', rt := Q } (L2.start N vs) H := by
  obtain ⟨hl, mu, h, ws, H0, hr0, rws, hn, p⟩ := h
  exact ⟨_, hb.ps _ _ (fits_cx S hs hc hr) takes_cx, mu, H, mu, _, h, start_sts hr0 rws hn, run_post p⟩
/-- a def without lambdas -/
theorem fnS_of (F : FunD G.K x qual params body scope [] [] f fd) (hg : G.mg x = some (.ref f)) (S : FnScope N ps scope) (hbd : L2.Binds G.K fd ps []) (hb : DSs G N ⟨scope, "", none⟩ k body m) : FnS G (k + 1) x ps.length (runD N m) :=
  ⟨⟨f, fd, ps, rfl, hg, F.kp, hbd, F.ok S (fun vs H Q E h => h.1) fun cdv A outer s H vs Q E hr h => fnok_body S rfl hb (fun c e => (by cases e)) hr h⟩⟩
/-- one that knows its code object -/
theorem fnS_code {c : Addr} {oc ct : Value} {od an : Option Addr} {dV kV doc pm : Value} {osl : Array (Option Value)} (lk : G.K.lookup f = some ⟨oc, od, .func (PySem.W.fnOf x qual params body scope dV kV doc pm an (.ref c) ct), osl⟩) (hcd : PySem.W.codeIn G.K (.ref c) qual = true) (hk : PySem.W.keepIn G.K (.ref f) = true)
    (hg : G.mg x = some (.ref f)) (S : FnScope N ps scope) (hbd : L2.Binds G.K (PySem.W.fnOf x qual params body scope dV kV doc pm an (.ref c) ct) ps []) (hb : DSs G N ⟨scope, qual ++ ".<locals>.", some c⟩ k body m) : FnS G (k + 1) x ps.length (runD N m) :=
  ⟨⟨f, _, ps, rfl, hg, hk, hbd, fn_of lk hcd S (fun vs H Q E h => h.1) fun A outer s H vs Q E hr h => fnok_body S rfl hb (fun c' e => by cases e; exact ⟨rfl, rfl⟩) hr h⟩⟩
theorem FnS.mono {j : Nat} {n : Nat} {phi : Phi} (F : FnS G j x n phi) (h : j ≤ k) : FnS G k x n phi := by
  obtain ⟨f, fd, ps, e1, e2, e3, e4, e5⟩ := F.ex
  exact ⟨f, fd, ps, e1, e2, e3, e4, e5.mono h⟩
end
end Dn

set_option maxHeartbeats 4000000
namespace Dn
open PySem PySem.Spec PyProof.Rows L2 LamX

/-! ### lambdas, exceptions with no context -/
def lamCxN (X : Cx) (A : Around) (outer : List Env) (s : Shared) (H : Hp) (E : XK) (scope : Scope) (f c' : Addr) : Cx := (lamCx X A outer s H E scope f c').wish fun e s' =>
  wpAny (model X.prog X.w) (A.deeper (lamEnv X scope s.heap.objs.size f c')) (leaving (lamEnv X scope s.heap.objs.size f c') e) (fun _ s'' => L2N.CX X.prog X.w outer H s E e s'') (fun e' s'' => L2N.CX X.prog X.w outer H s E e' s'') s'
section
variable {X : Cx} {pins : List (Addr × Obj)} {σ : L2.St} {H HZ : Hp} {s s1 : Shared}
theorem lam_make3 {T : List (Addr × Str)} {c P : Addr} {params : Arguments} {body : Expr} {scope : Scope} {pos : Pos} {E : Value → Shared → Prop} {Q : Value → Shared → Prop} (I : Inv X pins σ H s) (TB : TabB X.base X.mg c P) (hcode : X.env.code = .ref c)
    (hm : (P, X.env.qual ++ "<lambda>") ∈ T) (hu : ∀ p ∈ T, p.1 = P → p.2 = X.env.qual ++ "<lambda>") (hT : Tabs T H) (hdef : defaultsOf params X.env = ([], [])) (hfree : ∀ y ∈ scope.names, y.2 = .free → ∃ c, X.env.cells.lookup y.1 = some c)
    (h : ∀ (f c' : Addr) (pm ctv : Value) (H1 : Hp) (s' : Shared), Inv X pins σ H1 s' → ExtN H H1 → (∀ a, H1 a = none → H a = none) → Tabs T H1 →
      s'.heap.get? f = some (PySem.W.kla_obj "<lambda>" (X.env.qual ++ "<lambda>") params body scope (cloFrom X.env.cells scope.names []) pm c' ctv) → H1 f = none → f ∉ frs X.stack → H1 c' = some (CodeO c' (X.env.qual ++ "<lambda>")) → Q (.ref f) s') :
    wpAny (model X.prog X.w) X.A (eval (.Lambda params body scope pos) X.env) Q E s := by
  obtain ⟨ps, hP, ht, ha⟩ := hT _ hm
  refine PySem.W.kla_eval hdef ?_
  have bP : s.heap.BuiltinsAt X.mg P := TB.bm.keeps I.bk
  have hP' : s.heap.get? P = some { cls := .none, data := .fields ps } := I.hok P _ hP
  have nofr : ∀ f, s.heap.objs.size ≤ f → f ∉ frs X.stack := fun f hf z => by
    rcases List.mem_cons.mp (I.stkSub _ z) with e | e
    · have h1 := I.lt
      rw [← e] at h1
      exact Nat.lt_irrefl _ (Nat.lt_of_lt_of_le h1 hf)
    · exact I.nofs hf e
  cases hc : codeAmong pos ps.toList with
  | none =>
    refine PySem.W.kla_makeFunction (mg := X.mg) (c := c) (P := P) (ps := ps) (closure_ok hfree) I.ok.glob (I.mod.glob.keeps I.bk) hcode (TB.code.keeps I.bk) hP' ht hc TB.gP bP fun c' ctv h' tk hx hge hlt hrec htb => ?_
    obtain ⟨c2, oc, vs, t, e2, hoc, hd, hv⟩ := hrec
    cases e2
    have hsz : s.heap.objs.size ≤ h'.objs.size := Nat.le_trans hge (Nat.le_of_lt hlt)
    have nC : H c' = none := I.hok.fresh hge
    have I1 := inv_table (t' := tk) (more := #[rawInt pos.line, rawInt pos.col, .ref c']) (h' := h'.push (PySem.W.kla_obj "<lambda>" (X.env.qual ++ "<lambda>") params body scope (cloFrom X.env.cells scope.names []) ((X.mg "__name__").getD .none) c' ctv)) I hP
      (fun b o hb e => Heap.get?_push_of_some _ (hx b o hb e)) (Heap.get?_push_of_some _ htb) hge ⟨oc, vs, t, Heap.get?_push_of_some _ hoc, hd, hv⟩
    have hE : ExtN H (upd (upd H P (.tbl (ps ++ #[rawInt pos.line, rawInt pos.col, .ref c']))) c' (CodeO c' (X.env.qual ++ "<lambda>"))) := fun b o e n => by
      rw [upd_ne (ne_of_none e nC), upd_ne (fun z => n ps (Option.some.inj (e.symm.trans (by rw [z]; exact hP))))]
      exact e
    have eL : (ps ++ #[rawInt pos.line, rawInt pos.col, .ref c']).toList = ps.toList ++ [rawInt pos.line, rawInt pos.col, .ref c'] := by simp
    refine h h'.objs.size c' ((X.mg "__name__").getD .none) ctv _ _ I1 hE (fun a ea => by
      by_cases h1 : a = c'
      · rw [h1, upd_same] at ea; cases ea
      · rw [upd_ne h1] at ea
        by_cases h2 : a = P
        · rw [h2, upd_same] at ea; cases ea
        · rw [upd_ne h2] at ea; exact ea) (fun p hp => ?_) (Heap.get?_push_size _ rfl) ?_ (nofr _ hsz) upd_same
    · by_cases hb : p.1 = P
      · rw [hu p hp hb, hb]
        refine ⟨_, by rw [upd_ne (ne_of_none hP nC), upd_same], by rw [eL]; exact PySem.TriplesOk_snoc _ _ _ _ ht, fun p' cv hcv => ?_⟩
        rw [eL] at hcv
        rcases among_app _ ht hcv with z | z
        · obtain ⟨c0, e1, e2⟩ := ha p' cv z
          exact ⟨c0, e1, hE _ _ e2 codeO_ne⟩
        · exact ⟨c', z, upd_same⟩
      · obtain ⟨ps', a1, a2, a3⟩ := hT p hp
        refine ⟨ps', by rw [upd_ne (ne_of_none a1 nC), upd_ne hb]; exact a1, a2, fun p' cv hcv => ?_⟩
        obtain ⟨c0, e1, e2⟩ := a3 p' cv hcv
        exact ⟨c0, e1, hE _ _ e2 codeO_ne⟩
    · have n1 : h'.objs.size ≠ c' := Nat.ne_of_gt hlt
      have n2 : h'.objs.size ≠ P := Nat.ne_of_gt (Nat.lt_of_lt_of_le (Heap.lt_size hP') hsz)
      rw [upd_ne n1, upd_ne n2]
      exact I.hok.fresh hsz
  | some cv =>
    obtain ⟨c', e, hco⟩ := ha pos cv hc
    subst e
    refine PySem.W.kla_makeFunctionHit (mg := X.mg) (c := c) (P := P) (ps := ps) (closure_ok hfree) I.ok.glob (I.mod.glob.keeps I.bk) hcode (TB.code.keeps I.bk) hP' ht hc bP fun ctv h' tk hx hsz => ?_
    have I1 : Inv X pins σ H { s with heap := h'.push (PySem.W.kla_obj "<lambda>" (X.env.qual ++ "<lambda>") params body scope (cloFrom X.env.cells scope.names []) ((X.mg "__name__").getD .none) c' ctv), toks := tk } := I.kept fun b o e => Heap.get?_push_of_some _ (hx b o e)
    exact h h'.objs.size c' ((X.mg "__name__").getD .none) ctv H _ I1 (ExtN.refl H) (fun _ e => e) hT (Heap.get?_push_size _ rfl) (I.hok.fresh hsz) (nofr _ hsz) hco

theorem pe_actN {CXg : CXT} {Eg : XK} {Ng : List Str} {qg : Str} {sg : Scope} {g f c' : Addr} {cdg pm ctv : Value} {params : Arguments} {body : Expr} {scope : Scope} {k i : Nat} {a : Str} {pn : List (Addr × Obj)} {xe : Value → Shared → Prop} {W : WX} {E : XK} {tb : TE} {p1 p2 : Pos}
    (I : Inv X pins σ H s) (L : LamS X.env.scope scope) (hf : s.heap.get? f = some (PySem.W.kla_obj "<lambda>" (X.env.qual ++ "<lambda>") params body scope (cloFrom X.env.cells scope.names []) pm c' ctv)) (hfn : H f = none) (hfr : f ∉ frs X.stack)
    (hbind : bindArgs (PySem.W.kla_fn "<lambda>" (X.env.qual ++ "<lambda>") params body scope (cloFrom X.env.cells scope.names []) pm (.ref c') ctv) ⟨[], []⟩ = pure [])
    (tk : L2N.Takes ((cxOf CXg X.prog X.w X.K X.mg X.base Ng qg sg g cdg X.A X.stack s H Eg).tr pn xe) W) (hW : ∀ cls d σ' H', E cls d H' → W cls d σ' H') (hr : Room (k + 1) (X.A.deeper (envOfC qg sg s.heap.objs.size g cdg)))
    (hbody : ∀ (A : Around) (outer : List Env) (s : Shared) (H : Hp), Room k (A.deeper (lamEnv X scope s.heap.objs.size f c')) → PE (lamCxN X A outer s H E scope f c') body tb)
    (hN : Ng[i]? = some a) (hv : Vis sg a) (hd : (a == ("__debug__" : Str)) = false) (hcd : (a == ("__classdict__" : Str)) = false) :
    PE ((cxOf CXg X.prog X.w X.K X.mg X.base Ng qg sg g cdg X.A X.stack s H Eg).tr pn xe) (.Call (.Name a p1) [] [] p2)
      (fun σZ HZ Q => σZ[i]? = some (some (.ref f)) ∧ HZ c' = some (CodeO c' (X.env.qual ++ "<lambda>")) ∧ tb σ HZ Q) := by
  refine ⟨fun pinsZ sZ σZ HZ Q IZ h => ?_⟩
  obtain ⟨hs, hc, ht⟩ := h
  refine wpAny_Call_Name_kw (thn ((pe_var (pos := p1) (i := i) hN hv hd hcd).run pinsZ sZ σZ HZ (fun v H1 => v = .ref f ∧ H1 = HZ) IZ ⟨.ref f, hs, rfl, rfl⟩) fun u s1 ⟨v, H1, I1, r1, q1⟩ => ?_)
  obtain ⟨ev, eH⟩ := q1
  subst ev
  rw [eH] at I1
  obtain rfl : u = Value.ref f := r1
  have of1 : s1.heap.get? f = some (PySem.W.kla_obj "<lambda>" (X.env.qual ++ "<lambda>") params body scope (cloFrom X.env.cells scope.names []) pm c' ctv) := I1.base.keep f _ hf hfn hfr (fun z => nomatch (show f ∈ ([] : List Addr) from z))
  refine PySem.W.callWith_F0 ⟨_, _, _, _, of1⟩ ?_
  have un : Un (frs X.stack) [] H HZ s.heap s1.heap := I1.base
  obtain ⟨⟨oc, vs, t, hoc, hdc, hvc⟩, _, _⟩ := I1.hok c' _ hc
  have rc : codeAny (model X.prog X.w) (X.A.deeper (envOfC qg sg s.heap.objs.size g cdg)) (.call (.ref f) ⟨[], []⟩) (CR (L2N.CX X.prog X.w) (envOfC qg sg s.heap.objs.size g cdg :: X.stack) X.prog X.w HZ s1 Q E) s1 := by
    refine PySem.W.kla_callFunE hr.depth of1 rfl L.co L.gen rfl ⟨c', oc, vs, t, rfl, hoc, hdc, hvc⟩ ?_
    rw [hbind]
    refine wpAny_pure (wpAny_newFunctionEnv (fun y hy => (L.own y hy).2) (fun y hy => absurd hy (by simp)) (fun h₁ hns hsb => ⟨I1.nolimit.fresh _ hsb, ?_⟩) L.kind)
    show codeAny _ _ (.expr body (lamEnv X scope s1.heap.objs.size f c')) _ _
    have kp : ∀ b o, s1.heap.get? b = some o → h₁.get? b = some o := fun b o e => hsb.extBut b o (Nat.ne_of_lt (Heap.lt_size e)) (Heap.get?_push_of_some _ e)
    have J0 : Inv (lamCx X (X.A.deeper (envOfC qg sg s.heap.objs.size g cdg)) (envOfC qg sg s.heap.objs.size g cdg :: X.stack) s1 HZ E scope f c') [] σ HZ { s1 with heap := h₁, toks := s1.toks + ([] : List (Str × Value)).length } :=
      lam_start2 I L I1.env0 hr.hd un hns kp
    have J : Inv (lamCxN X (X.A.deeper (envOfC qg sg s.heap.objs.size g cdg)) (envOfC qg sg s.heap.objs.size g cdg :: X.stack) s1 HZ E scope f c') [] σ HZ { s1 with heap := h₁, toks := s1.toks + ([] : List (Str × Value)).length } := J0.wish _
    refine PySem.W.kla_codeExpr (wpAny_mono ((hbody _ _ s1 HZ (hr.deeper _)).run [] _ _ HZ Q J ht) (fun v s' hq => ?_) fun e s' hq => hq)
    obtain ⟨w', H', J', rv, q⟩ := hq
    exact ⟨w', H', J'.os, J'.bare, J'.base, J'.hok, rv, q⟩
  have hx : Passes (L2N.CX X.prog X.w) ((cxOf CXg X.prog X.w X.K X.mg X.base Ng qg sg g cdg X.A X.stack s H Eg).tr pn xe) E := L2N.passes_call tk hW
  refine wpAny_call (codeAny_mono rc fun r s' hq => ?_)
  cases r with
  | error e => exact hx pinsZ σZ HZ s1 e s' I1 hq
  | ok fl =>
    cases fl with
    | ret u => exact I1.after hq
    | next => exact False.elim hq
    | brk => exact False.elim hq
    | cont => exact False.elim hq
end
def GivesN (X : Cx) (Ng : List Str) (x : Str) (sg : Scope) (g : Addr) (cdg : Value) (bg : List Stmt) (a : Str) (q : Str) (TT : (XK → Hp → VK → Prop) → Hp → VK → Prop) : Prop :=
  ∀ (f c' : Addr) (s : Shared) (H : Hp) (Q : VK) (tl : XK → Hp → VK → Prop),
    (∀ (W : WX) (pn : List (Addr × Obj)) (xe : Value → Shared → Prop) (E : XK) (p1 p2 : Pos), L2N.Takes ((cxOf C8.CX0 X.prog X.w X.K X.mg X.base Ng x sg g cdg X.A X.stack s H C8.E0).tr pn xe) W → (∀ cls d σ' H', E cls d H' → W cls d σ' H') →
      PE ((cxOf C8.CX0 X.prog X.w X.K X.mg X.base Ng x sg g cdg X.A X.stack s H C8.E0).tr pn xe) (.Call (.Name a p1) [] [] p2) (fun σZ HZ Q => σZ[0]? = some (some (.ref f)) ∧ HZ c' = some (CodeO c' q) ∧ tl E HZ Q)) →
    H c' = some (CodeO c' q) → Room 40 (X.A.deeper (envOfC x sg s.heap.objs.size g cdg)) → TT tl H Q →
    ∃ t, PSs (cxOf C8.CX0 X.prog X.w X.K X.mg X.base Ng x sg g cdg X.A X.stack s H C8.E0).nox bg t ∧ t { nx := fun _ H' => Q .non H', rt := Q } (L2.start Ng [.ref f]) H
def tLamN (T : List (Addr × Str)) (TT : (XK → Hp → VK → Prop) → Hp → VK → Prop) (t : XK → TE) : TE := fun σ H Q => Tabs T H ∧ ∀ H1, ExtN H H1 → (∀ a, H1 a = none → H a = none) → Tabs T H1 → TT (fun E H' Q' => t E σ H' Q') H1 Q
section
variable {X : Cx}
/-- x(lambda: body) -/
theorem pe_lamcallN {T : List (Addr × Str)} {TT : (XK → Hp → VK → Prop) → Hp → VK → Prop} {x a : Str} {g c P : Addr} {k : Nat} {pg : Arguments} {bg : List Stmt} {sg : Scope} {dV kV doc pm cdv ct oc : Value} {an od : Option Addr} {osl : Array (Option Value)} {Ng : List Str}
    {params : Arguments} {body : Expr} {scope : Scope} {t : XK → TE} {p lpos pos : Pos} (hg : Gl X x) (hm : X.mg x = some (.ref g)) (hk : PySem.W.keepIn X.K (.ref g) = true)
    (lk : X.K.lookup g = some ⟨oc, od, .func (PySem.W.fnOf x x pg bg sg dV kV doc pm an cdv ct), osl⟩) (hcg : PySem.W.codeIn X.K cdv x = true) (hb : L2.Binds X.K (PySem.W.fnOf x x pg bg sg dV kV doc pm an cdv ct) [a] []) (Sg : FnScope Ng [a] sg) (hNg : Ng[0]? = some a) (hva : Vis sg a)
    (hG : GivesN X Ng x sg g cdv bg a (X.env.qual ++ "<lambda>") TT)
    (TB : TabB X.base X.mg c P) (hcode : X.env.code = .ref c) (hmT : (P, X.env.qual ++ "<lambda>") ∈ T) (hu : ∀ p ∈ T, p.1 = P → p.2 = X.env.qual ++ "<lambda>") (hr : Room (k + 2) X.A) (h40 : 40 ≤ k + 1) (L : LamS X.env.scope scope) (hdef : defaultsOf params X.env = ([], []))
    (hbind : ∀ (q : Str) (cl : List (Str × Addr)) (pm cv ctv : Value), bindArgs (PySem.W.kla_fn "<lambda>" q params body scope cl pm cv ctv) ⟨[], []⟩ = pure [])
    (hbody : ∀ (A : Around) (outer : List Env) (s : Shared) (H : Hp) (E : XK) (f c' : Addr), Room k (A.deeper (lamEnv X scope s.heap.objs.size f c')) → PE (lamCxN X A outer s H E scope f c') body (t E))
    (hdb : (x == ("__debug__" : Str)) = false) (hd : (a == ("__debug__" : Str)) = false) (hcd : (a == ("__classdict__" : Str)) = false) :
    PE X (.Call (.Name x p) [.Lambda params body scope lpos] [] pos) (tLamN T TT t) := by
  refine ⟨fun pins s σ H Q I h => ?_⟩
  obtain ⟨hT, h⟩ := h
  refine wpAny_Call_Name_kw (ld_glob I hg hm ?_ hdb)
  refine PySem.W.callWith_K (h₀ := X.base) I.ok.mod.kin hk ?_ (by rfl) (by rfl)
  show wpAny _ _ (spliced ((false, eval (.Lambda params body scope lpos) X.env) :: backTo pos (starEach [] X.env))) _ _ s
  refine Calls.spliced_cons (lam_make3 I TB hcode hmT hu hT hdef (L.has I.ok) fun f c' pm' ctv H1 s' I1 eN eT T1 hf hfn hfr hco => ?_)
  refine Calls.spliced_nil ⟨I1.kIn, ?_⟩
  have rc : codeAny (model X.prog X.w) X.A (.call (.ref g) ⟨[.ref f], []⟩) (CR C8.CX0 X.stack X.prog X.w H1 s' Q C8.E0) s' := by
    refine run_ofS (N := Ng) (ps := [a]) (us := [.ref f]) (vs := [.ref f]) lk hcg Sg hr I1.env0 (hb s' [.ref f] I1.kIn rfl) (.cons rfl .nil) rfl fun hr' => ?_
    obtain ⟨t', ht', hq'⟩ := hG f c' s' H1 Q (fun E H' Q' => t E σ H' Q') (fun W pn xe E p1 p2 tk hW => pe_actN (i := 0) I1 L hf hfn hfr (hbind _ _ _ _ _) tk hW hr' (fun A outer s H hr2 => hbody A outer s H E f c' hr2) hNg hva hd hcd) hco (hr'.mono h40) (h H1 eN eT T1)
    exact ⟨t', ht'.nox, hq'⟩
  refine wpAny_call (codeAny_mono rc fun r s2 hq => ?_)
  cases r with
  | error e => exact (show False from hq).elim
  | ok fl =>
    cases fl with
    | ret u => exact I1.after hq
    | next => exact False.elim hq
    | brk => exact False.elim hq
    | cont => exact False.elim hq
end
end Dn

set_option maxHeartbeats 4000000
namespace Dn
open PySem PySem.Spec PyProof.Rows L2 HotX L2H

/-! ### a list drawn to its end while an exception is handled -/
section
variable {prog : Program} {w : World} {A : Around} {E : Value → Shared → Prop} {s : Shared}
theorem nextOf_list_end_hot {it l x1 : Addr} {i : Nat} {items : Array Value} {Q : Value → Shared → Prop} (hot : HotAt A x1 s.heap)
    (hit : s.heap.IsListIter it l i) (hl : s.heap.IsList l items) (hx : items[i]? = none) (hne : x1 ≠ it)
    (hE : ∀ h' e, Heap.ExtBut it s.heap h' → (∃ o, h'.get? e = some o ∧ o.cls = .type "StopIteration") → E (.ref e) { s with heap := h' }) :
    wpAny (model prog w) A (Builtin.SmallTypes.nextOf (.ref it)) Q E s := by
  obtain ⟨o, ho, hc, hd⟩ := id hit
  obtain ⟨ol, hol, _, nl, hdl⟩ := hl
  obtain ⟨hh, o1, vs1, h1, d1, c1⟩ := hot
  unfold Builtin.SmallTypes.nextOf
  refine wpAny_bind (wpAny_callSpecial?_slot (name := Str.ofString "__next__") hit.typeIs slot_listiter_next
    (wpAny_call_entry slot_listiter_next hit.typeIs entry_listiter_next ?_ (args_listiter_next _)))
  show wpAny _ _ (field (.ref it) 0 >>= _) _ _ s
  refine wpAny_bind (wpAny_field ho hd (x := .ref l) rfl ?_)
  show wpAny _ _ (if (Value.ref l == Value.none) = true then _ else _) _ _ s
  rw [if_neg (show ¬ ((Value.ref l == Value.none) = true) from Bool.false_ne_true)]
  show wpAny _ _ (field (.ref it) 1 >>= _) _ _ s
  refine wpAny_bind (wpAny_field ho hd (x := .int i 0) rfl ?_)
  show wpAny _ _ (seqItems? (.ref l) >>= _) _ _ s
  refine wpAny_bind (wpAny_seqItems hol hdl ?_)
  simp only [Int.toNat_natCast, hx]
  refine wpAny_bind (wpAny_rule (wpAny_bind (wpAny_setField ho hd (by simp) ?_)))
  show wpAny _ _ (newExc (.type "StopIteration") [] >>= _) _ _ _
  refine wpAny_bind ?_
  simp only [newExc, newTuple]
  refine wpAny_bind (wpAny_newObj_type ?_ (by size_fits))
  refine wpAny_bind (m := firstArgMember _ _) (wpAny_of_eq (a := Value.none) (by first | rfl | (simp only [firstArgMember]; rfl)) ?_)
  refine wpAny_newObj_type ?_ (by size_fits)
  have sb := Heap.SameBut.update s.heap it (f := Obj.mapFields (·.setIfInBounds 0 .none))
  have g1 : (s.heap.update it (Obj.mapFields (·.setIfInBounds 0 .none))).get? x1 = some o1 := sb.extBut _ _ hne h1
  refine raiseNew_hot ⟨hh, o1, vs1, Heap.get?_push_of_some _ (Heap.get?_push_of_some _ g1), d1, c1⟩ (Nat.ne_of_lt (Heap.lt_size (Heap.get?_push_of_some _ g1))) (Heap.get?_push_size _ rfl) rfl (by first | (simp; done) | (simp; omega) | (simp only [Array.size_append]; simp; omega)) ?_
  refine hE _ _ (fun b o hb e => ?_) ⟨_, Heap.get?_update_self _ (Heap.get?_push_size _ rfl) rfl, rfl⟩
  have e2 := sb.extBut b o hb e
  rw [Heap.get?_update_other _ _ (Nat.ne_of_gt (Heap.lt_size (Heap.get?_push_of_some _ e2)))]
  exact Heap.get?_push_of_some _ (Heap.get?_push_of_some _ e2)
end
theorem hotAt_keep {A : Around} {x1 : Addr} {h h' : Heap} (a : HotAt A x1 h) (k : ∀ o, h.get? x1 = some o → h'.get? x1 = some o) : HotAt A x1 h' := by
  obtain ⟨hh, o, vs, e, d, c⟩ := a
  exact ⟨hh, o, vs, k o e, d, c⟩
theorem draws_listH {prog : Program} {w : World} {A : Around} (x1 it l : Addr) (hne : l ≠ it) (hx : x1 ≠ it) (items : Array Value) :
    Draws prog w A it [it, l, x1] items.size (fun i v => items[i]? = some v) (fun i h => h.IsListIter it l i ∧ h.IsList l items ∧ HotAt A x1 h) where
  live := fun _ _ st => let ⟨o, ho, _⟩ := st.1; ⟨o, ho⟩
  frame := fun _ _ _ st hk => ⟨st.1.at fun o e => hk it (by simp) o e, st.2.1.at fun o e => hk l (by simp) o e, hotAt_keep st.2.2 fun o e => hk x1 (by simp) o e⟩
  item := fun i s Q E hi st hQ => by
    refine wpAny_nextOf_list_item st.1 st.2.1 (x := items[i]) (by simp [hi]) fun h' hit' hs' => ?_
    exact hQ _ h' s.toks (by simp [hi]) ⟨hit', st.2.1.extBut hs'.extBut hne, hotAt_keep st.2.2 fun o e => hs'.extBut _ _ hx e⟩ hs'
  done := fun s Q E st hE => nextOf_list_end_hot st.2.2 st.1 st.2.1 (by simp) hx hE
theorem zz_sepH {n : Nat} {fp1 fp2 : List Addr} (m1 : n ∈ fp1) (m2 : n + 1 ∈ fp2) (f1 : ∀ c ∈ fp1, c = n ∨ c < n) (f2 : ∀ c ∈ fp2, c = n + 1 ∨ c < n) : ZipSep2 (n + 4) (n + 2) (n + 3) n (n + 1) fp1 fp2 := by
  have g1 : ∀ c ∈ fp1, c ≤ n := fun c hc => by rcases f1 c hc with z | z; exact Nat.le_of_eq z; exact Nat.le_of_lt z
  have n1 : ∀ c, n < c → c ∉ fp1 := fun c h hm => absurd (g1 c hm) (Nat.not_le.mpr h)
  have n2 : ∀ c, c ≠ n + 1 → n ≤ c → c ∉ fp2 := fun c h h' hm => by rcases f2 c hm with z | z; exact h z; exact absurd z (Nat.not_lt.mpr h')
  have a1 : (n + 2 : Nat) ≠ n + 4 := by omega
  have a2 : (n + 3 : Nat) ≠ n + 4 := by omega
  have a3 : (n + 2 : Nat) ≠ n + 3 := by omega
  have a4 : (n + 2 : Nat) ≠ n := by omega
  have a5 : (n + 2 : Nat) ≠ n + 1 := by omega
  exact ⟨a1, a2, a3, a4, m1, n1 _ (by omega), n1 _ (by omega), a5, m2, n2 _ (by omega) (by omega), n2 _ (by omega) (by omega), n2 _ (by omega) (by omega), n1 _ (by omega)⟩
/-- the exception that is handled is older than n -/
def OldX (X : Cx) (n : Nat) : Prop := ∃ p : Addr × Obj, Hot1 X.A p ∧ p ∈ X.pn ∧ p.1 < n
theorem draws_of {X : Cx} {pins : List (Addr × Obj)} {σ : L2.St} {H : Hp} {s : Shared} {a it : Addr} {i n : Nat} {vs : List V} (I : Inv X pins σ H s) (ho : OldX X n) (sk : SqL X.K H a vs) (st : s.heap.IsListIter it a i) (ha : a < n) (hit : n ≤ it) :
    ∃ (fp : List Addr) (P : Nat → Value → Prop) (S : Nat → Heap → Prop), Draws X.prog X.w X.A.in1 it fp vs.length P S ∧ it ∈ fp ∧ (∀ b ∈ fp, b = it ∨ b < n) ∧ S i s.heap ∧ (∀ j v x, P j v → vs[j]? = some x → RelV x v) ∧ ∀ j h, S j h → h.IsListIter it a j := by
  obtain ⟨p, ⟨hh, v1, e1, c1⟩, hp, hlt⟩ := ho
  obtain ⟨its, rv, pl, hz⟩ := I.list sk
  have hl : vs.length = its.toArray.size := by rw [List.size_toArray]; exact rv.length
  have P1 := (I.pin p (List.mem_append_left _ hp)).1
  have hot : HotAt X.A.in1 p.1 s.heap := ⟨hh, p.2, v1, P1, e1, c1⟩
  refine ⟨[it, a, p.1], _, _, hl ▸ draws_listH (A := X.A.in1) p.1 it a (Nat.ne_of_lt (Nat.lt_of_lt_of_le ha hit)) (Nat.ne_of_lt (Nat.lt_of_lt_of_le hlt hit)) its.toArray, by simp, fun b hb => ?_, ⟨st, pl.isList, hot⟩, fun j v x hp hx => ?_, fun j h q => q.1⟩
  · rcases List.mem_cons.mp hb with z | z
    · exact .inl z
    · rcases List.mem_cons.mp z with z | z
      · exact .inr (by rw [z]; exact ha)
      · exact .inr (by rw [List.mem_singleton.mp z]; exact hlt)
  · obtain ⟨u, hu, ru⟩ := rv.get hx
    have hp' : its[j]? = some v := by simpa using hp
    rw [hu] at hp'
    cases hp'
    exact ru
/-- zip of two lists, hot: n is where its objects begin -/
structure TurnX (P : Program) (w : World) (K : PySem.W.Frag) (n0 : Nat) (tg : Expr) (J : It) (fp : List Addr) (it : Addr) (tn : Nat → Heap → Prop) : Prop where
  mem : it ∈ fp
  obj : ∀ i h, tn i h → ∀ b ∈ fp, ∃ o, h.get? b = some o ∧ ∀ v, o.data ≠ .cell v
  keep : ∀ i h h', tn i h → (∀ b ∈ fp, ∀ o, h.get? b = some o → h'.get? b = some o) → tn i h'
  item : ∀ (X : Cx), X.prog = P → X.w = w → X.K = K → OldX X n0 → ∀ (i : Nat) (pins : List (Addr × Obj)) (s : Shared) (σ : L2.St) (H : Hp) (E : Value → Shared → Prop), Inv X pins σ H s → (∀ b ∈ fp, FpOk X pins H b) → tn i s.heap → J.go i H →
    wpAny (model P w) X.A (pyNext (.ref it)) (fun r s1 => ∃ u, r = some u ∧
      wpAny (model P w) X.A (letOwnedTupleGo tg (.ref it) u) (fun _ s2 => ∃ x H', Inv X pins σ H' s2 ∧ RelV x u ∧ J.yld i H x H' ∧ tn (i + 1) s2.heap ∧ ∀ b ∈ fp, H' b = none) E s1) E s
  done : ∀ (X : Cx), X.prog = P → X.w = w → X.K = K → OldX X n0 → ∀ (i : Nat) (pins : List (Addr × Obj)) (s : Shared) (σ : L2.St) (H : Hp) (E : Value → Shared → Prop), Inv X pins σ H s → (∀ b ∈ fp, FpOk X pins H b) → tn i s.heap → J.stop i H →
    wpAny (model P w) X.A (pyNext (.ref it)) (fun r s1 => r = none ∧ Inv X pins σ H s1) E s
  self : ∀ (A : Around) (i : Nat) (s : Shared) (Q : Value → Shared → Prop) (E : Value → Shared → Prop), tn i s.heap → Q (.ref it) s → wpAny (model P w) A (pyIter (.ref it)) Q E s
theorem turn_zzH {P : Program} {w : World} {K : PySem.W.Frag} {elts : List Expr} {kk : Nat} {tpos : Pos} {n : Nat} {a b : Addr} (ha : a < n) (hb : b < n) :
    TurnX P w K n (.Tuple elts kk tpos) (Itzz K (.l a) (.l b)) [n + 4, n + 2, n + 3, n, n + 1] (n + 4) (fun i h => IsZip h (n + 4) (n + 2) (n + 3) .none ∧ IsTupOf2 h (n + 2) (.ref n) (.ref (n + 1)) ∧ (∃ x y, IsTupOf2 h (n + 3) x y) ∧ SkIter (.l a) n i h ∧ SkIter (.l b) (n + 1) i h) where
  mem := by simp
  obj := fun i h st c hc => by
    obtain ⟨hz, hTI, ⟨x, y, hTO⟩, s1, s2⟩ := st
    have e' : c = n + 4 ∨ c = n + 2 ∨ c = n + 3 ∨ c = n ∨ c = n + 1 := by simpa using hc
    rcases e' with q | q | q | q | q
    · rw [q]; exact ⟨_, hz, fun v q => nomatch q⟩
    · rw [q]; exact ⟨_, hTI, fun v q => nomatch q⟩
    · rw [q]; exact ⟨_, hTO, fun v q => nomatch q⟩
    · rw [q]; exact s1.ob
    · rw [q]; exact s2.ob
  keep := fun i h h' st k => by
    obtain ⟨hz, hTI, ⟨x, y, hTO⟩, h1, h2⟩ := st
    exact ⟨k _ (by simp) _ hz, k _ (by simp) _ hTI, ⟨x, y, k _ (by simp) _ hTO⟩, h1.keep fun o q => k n (by simp) o q, h2.keep fun o q => k (n + 1) (by simp) o q⟩
  item := by
    intro X hP hw hK hc i pins s σ H E I hf st hg
    subst hP hw hK
    obtain ⟨hz, hTI, ⟨x0, y0, hTO⟩, h1, h2⟩ := st
    obtain ⟨xs, ys, hqx, hqy, lx, ly⟩ := hg
    obtain ⟨fp1, P1, S1, D1, m1, f1, st1, r1, b1⟩ := draws_of I hc (show SqL X.K H a xs from hqx) (show s.heap.IsListIter n a i from h1) ha (Nat.le_refl n)
    obtain ⟨fp2, P2, S2, D2, m2, f2, st2, r2, b2⟩ := draws_of I hc (show SqL X.K H b ys from hqy) (show s.heap.IsListIter (n + 1) b i from h2) hb (Nat.le_succ n)
    have D := zz_sepH m1 m2 f1 f2
    have hzl : n + 4 < s.heap.objs.size := Heap.lt_size hz
    refine wpAny_pyNext_zipD2_item D D1 D2 hz hTI hTO st1 st2 lx ly fun u u2 h' tk p1 p2 z' TO' h1' h2' hT hsz hk => ?_
    have ru : RelV xs[i] u := r1 i u _ p1 (List.getElem?_eq_getElem lx)
    have ru2 : RelV ys[i] u2 := r2 i u2 _ p2 (List.getElem?_eq_getElem ly)
    refine ⟨_, rfl, wpAny_letOwnedTupleGo_zip (s := { s with heap := h', toks := tk }) z' fun h'' z'' sb => ?_⟩
    have hT2 : h''.get? s.heap.objs.size = some { cls := .type "tuple", data := .seq #[u, u2] } := (sb.2 _ (Nat.ne_of_gt hzl)).trans hT
    have new : ObjOk X.prog X.w (upd H s.heap.objs.size (.frz { cls := .type "tuple", data := .seq #[u, u2] } (.tup [xs[i], ys[i]]))) h'' s.heap.objs.size (.frz { cls := .type "tuple", data := .seq #[u, u2] } (.tup [xs[i], ys[i]])) :=
      ⟨hT2, by show 2 ≤ sizeLine; decide, [u, u2], .cons ru (.cons ru2 .nil), ⟨_, hT2, rfl, _, rfl⟩⟩
    have I1 : Inv X pins σ (upd H s.heap.objs.size (.frz { cls := .type "tuple", data := .seq #[u, u2] } (.tup [xs[i], ys[i]]))) { s with heap := h'', toks := tk } :=
      I.turnedNew (t' := tk) (ch := [n + 4, n + 2, n + 3, n, n + 1]) (fun c o hb q => (sb.2 c (fun q' => hb (by simp [q']))).trans (hk c o (fun q' => hb (by simp [q'])) (fun q' => hb (by simp [q'])) (fun q' => hb (by simp [q'])) (fun q' => hb (by simp [q'])) q)) hf (Nat.le_refl _) new
    refine ⟨.ref s.heap.objs.size, _, I1, rfl, ⟨_, xs[i], ys[i], rfl, I.hok.fresh (Nat.le_refl _), ⟨_, rfl, rfl⟩, fun l hl => by rw [sk_inj I hl hqx]; exact List.getElem?_eq_getElem lx, fun l hl => by rw [sk_inj I hl hqy]; exact List.getElem?_eq_getElem ly⟩, ⟨z'', ?_, ⟨u, u2, ?_⟩, ?_, ?_⟩, fun c hcm => ?_⟩
    · exact (sb.2 _ D.TIz).trans (hk _ _ D.TIz D.TITO D.TIi1 D.TIi2 hTI)
    · exact (sb.2 _ D.TOz).trans TO'
    · exact SkIter.keep (k := .l a) (b1 _ _ h1') fun o q => (sb.2 _ D.zi1.symm).trans q
    · exact SkIter.keep (k := .l b) (b2 _ _ h2') fun o q => (sb.2 _ D.zi2.symm).trans q
    · have hlt : c < s.heap.objs.size := by
        have e' : c = n + 4 ∨ c = n + 2 ∨ c = n + 3 ∨ c = n ∨ c = n + 1 := by simpa using hcm
        have : c ≤ n + 4 := by
          rcases e' with q | q | q | q | q <;> (rw [q]; first | exact Nat.le_refl _ | exact Nat.add_le_add_left (by decide) n | exact Nat.le_add_right _ _)
        exact Nat.lt_of_le_of_lt this hzl
      rw [upd_ne (Nat.ne_of_lt hlt)]
      exact (hf c hcm).1
  done := by
    intro X hP hw hK hc i pins s σ H E I hf st hg
    subst hP hw hK
    obtain ⟨hz, hTI, ⟨x0, y0, hTO⟩, h1, h2⟩ := st
    obtain ⟨xs, ys, hqx, hqy, lx, ly, hend⟩ := hg
    obtain ⟨fp1, P1, S1, D1, m1, f1, st1, r1, b1⟩ := draws_of I hc (show SqL X.K H a xs from hqx) (show s.heap.IsListIter n a i from h1) ha (Nat.le_refl n)
    obtain ⟨fp2, P2, S2, D2, m2, f2, st2, r2, b2⟩ := draws_of I hc (show SqL X.K H b ys from hqy) (show s.heap.IsListIter (n + 1) b i from h2) hb (Nat.le_succ n)
    have D := zz_sepH m1 m2 f1 f2
    exact wpAny_pyNext_zipD2_end D D1 D2 hz hTI hTO st1 st2 lx ly hend fun h' tk hk => ⟨rfl, I.turnedL (t' := tk) (ch := [n + 4, n + 2, n + 3, n, n + 1]) (fun c o hb q =>
      hk c o (fun q' => hb (by simp [q'])) (fun q' => hb (by simp [q'])) (fun q' => hb (by simp [q'])) (fun q' => hb (by simp [q'])) q) hf⟩
  self := fun A i s Q E st h => wpAny_pyIter_zip st.1 h
end Dn

set_option maxHeartbeats 4000000
namespace Dn
open PySem PySem.Spec PyProof.Rows L2 HotX L2H

/-! ### a tuple taken apart while an exception is handled -/
section
variable {prog : Program} {w : World} {A : Around} {E : Value → Shared → Prop} {s : Shared}
theorem next_tuple_end_hot {it t x1 : Addr} {i : Nat} {items : Array Value} {Q : Option Value → Shared → Prop} (hot : HotAt A x1 s.heap)
    (hit : IsTupIter s.heap it t i) (ht : IsTup s.heap t items) (hx : items[i]? = none) (hne : x1 ≠ it)
    (hQ : ∀ h', Heap.ExtBut it s.heap h' → Q none { s with heap := h' }) : wpAny (model prog w) A (pyNext (.ref it)) Q E s := by
  obtain ⟨o, ho, hc, hd⟩ := id hit
  obtain ⟨ol, hol, _, nl, hdl⟩ := ht
  obtain ⟨hh, o1, vs1, h1, d1, c1⟩ := hot
  unfold pyNext
  refine wpAny_bind (wpAny_attempt (wpAny_callSpecial?_slot (name := Str.ofString "__next__") hit.typeIs slot_tupleiter_next
    (wpAny_call_entry slot_tupleiter_next hit.typeIs entry_tupleiter_next ?_ (args_tupleiter_next _))))
  show wpAny _ _ (field (.ref it) 0 >>= _) _ _ s
  refine wpAny_bind (wpAny_field ho hd (x := .ref t) rfl ?_)
  show wpAny _ _ (if (Value.ref t == Value.none) = true then _ else _) _ _ s
  rw [if_neg (show ¬ ((Value.ref t == Value.none) = true) from Bool.false_ne_true)]
  show wpAny _ _ (field (.ref it) 1 >>= _) _ _ s
  refine wpAny_bind (wpAny_field ho hd (x := .int i 0) rfl ?_)
  show wpAny _ _ (seqItems? (.ref t) >>= _) _ _ s
  refine wpAny_bind (wpAny_seqItems hol hdl ?_)
  simp only [Int.toNat_natCast, hx]
  refine wpAny_bind (wpAny_rule (wpAny_bind (wpAny_setField ho hd (by simp) ?_)))
  show wpAny _ _ (newExc (.type "StopIteration") [] >>= _) _ _ _
  refine wpAny_bind ?_
  simp only [newExc, newTuple]
  refine wpAny_bind (wpAny_newObj_type ?_ (by size_fits))
  refine wpAny_bind (m := firstArgMember _ _) (wpAny_of_eq (a := Value.none) (by first | rfl | (simp only [firstArgMember]; rfl)) ?_)
  refine wpAny_newObj_type ?_ (by size_fits)
  have sb := Heap.SameBut.update s.heap it (f := Obj.mapFields (·.setIfInBounds 0 .none))
  have g1 : (s.heap.update it (Obj.mapFields (·.setIfInBounds 0 .none))).get? x1 = some o1 := sb.extBut _ _ hne h1
  refine raiseNew_hot ⟨hh, o1, vs1, Heap.get?_push_of_some _ (Heap.get?_push_of_some _ g1), d1, c1⟩ (Nat.ne_of_lt (Heap.lt_size (Heap.get?_push_of_some _ g1))) (Heap.get?_push_size _ rfl) rfl (by first | (simp; done) | (simp; omega) | (simp only [Array.size_append]; simp; omega)) ?_
  refine wpAny_bind (wpAny_isInstance (T := "StopIteration") (b := true) ⟨_, Heap.get?_update_self _ (Heap.get?_push_size _ rfl) rfl, rfl⟩ isSubtype_stop ?_)
  refine wpAny_pure (hQ _ (fun b o hb e => ?_))
  have e2 := sb.extBut b o hb e
  rw [Heap.get?_update_other _ _ (Nat.ne_of_gt (Heap.lt_size (Heap.get?_push_of_some _ e2)))]
  exact Heap.get?_push_of_some _ (Heap.get?_push_of_some _ e2)
theorem unpackItems_tuple_hot {t x1 : Addr} {items : Array Value} {Q : List Value → Shared → Prop} (hot : HotAt A x1 s.heap) (ht : IsTup s.heap t items)
    (hQ : ∀ h', Heap.ExtBut s.heap.objs.size s.heap h' → Q items.toList { s with heap := h' }) : wpAny (model prog w) A (unpackItems (.ref t) items.size none) Q E s := by
  have hlt : t ≠ s.heap.objs.size := by obtain ⟨o, ho, _⟩ := ht; exact Nat.ne_of_lt (Heap.lt_size ho)
  have hxl : x1 ≠ s.heap.objs.size := by obtain ⟨_, o1, _, ho, _⟩ := hot; exact Nat.ne_of_lt (Heap.lt_size ho)
  unfold unpackItems
  refine wpAny_bind ?_
  · unfold notIterableAtAll
    refine wpAny_bind (wpAny_specialOf ht.typeIs slot_tuple_iter.lookup ?_)
    refine wpAny_pure ?_
    simp only [Bool.false_eq_true, if_false]
    refine wpAny_bind (wpAny_holding (iter_tuple ht ?_))
    refine wpAny_bind (wpAny_holding (draw_tuple hlt items.size 0 _ _ ⟨_, Heap.get?_push_size _ rfl, rfl, rfl⟩ (ht.push _) (by omega) fun h₁ hit₁ hs₁ => ?_))
    have hall : List.take items.size (List.drop 0 items.toList) = items.toList := by
      rw [List.drop_zero]; exact List.take_of_length_le (by simp)
    rw [hall]
    rw [if_neg (by simp)]
    have ht₁ : IsTup h₁ t items := (ht.push _).extBut hs₁.extBut hlt
    have hot₁ : HotAt A x1 h₁ := hotAt_keep hot fun o e => hs₁.extBut _ _ hxl (Heap.get?_push_of_some _ e)
    refine wpAny_bind (wpAny_holding (next_tuple_end_hot hot₁ hit₁ ht₁ (by simp) hxl fun h₂ he₂ => ?_))
    simp only [Option.isSome_none, Bool.false_eq_true, if_false]
    refine wpAny_pure (hQ h₂ fun b o hb e => he₂ b o hb (hs₁.extBut b o hb (Heap.get?_push_of_some _ e)))
theorem unpack_tuple_hot {t x1 : Addr} {items : Array Value} {targets : List (Bool × (Value → Sem Unit))} {Q : Unit → Shared → Prop} (hot : HotAt A x1 s.heap) (ht : IsTup s.heap t items)
    (hn : targets.length = items.size) (hstar : targets.findIdx? (·.1) = none)
    (h : ∀ h', Heap.ExtBut s.heap.objs.size s.heap h' → wpAny (model prog w) A (assignInOrder (targets.map (·.2)) items.toList) Q E { s with heap := h' }) :
    wpAny (model prog w) A (unpack (.ref t) targets) Q E s := by
  unfold unpack
  rw [hn, hstar]
  exact wpAny_bind (wpAny_holding (unpackItems_tuple_hot hot ht h))
theorem assign_Tuple_hot {env : Env} {elts : List Expr} {x1} {pos : Pos} {t a1 : Addr} {items : Array Value} {Q : Unit → Shared → Prop} (hot : HotAt A a1 s.heap) (ht : IsTup s.heap t items)
    (hn : (assignEach elts env).length = items.size) (hstar : (assignEach elts env).findIdx? (·.1) = none)
    (h : ∀ h', Heap.ExtBut s.heap.objs.size s.heap h' → wpAny (model prog w) A (assignInOrder ((assignEach elts env).map (·.2)) items.toList) Q E { s with heap := h' }) :
    wpAny (model prog w) A (assign (.Tuple elts x1 pos) env (.ref t)) Q E s := by
  rw [assign_Tuple]
  exact wpAny_bind (wpAny_standAt (unpack_tuple_hot hot ht hn hstar h))
end
theorem pg_tupH {X : Cx} {pos : Pos} {es : List Expr} {k : Nat} {t : TGs} {n : Nat} (hc : HotC X) (h : PGs X es t)
    (hn : (assignEach es X.env).length = n) (hst : (assignEach es X.env).findIdx? (·.1) = none) : PG X (.Tuple es k pos) (gTup X.K n t) := by
  refine ⟨fun pins s σ H v u Q I r hw => ?_⟩
  obtain ⟨a, xs, e1, hq, hl, hw⟩ := hw
  subst e1
  cases r
  obtain ⟨its, rv, ht, hz⟩ := I.tuple hq
  obtain ⟨x1, hot⟩ := hc.at I
  refine assign_Tuple_hot hot ht (by simp [hn, ← hl, rv.length]) hst fun h' hx => ?_
  have I1 : Inv X pins σ H { s with heap := h' } := I.kept (t' := s.toks) fun b o e => hx b o (Nat.ne_of_lt (Heap.lt_size e)) e
  exact h.run pins _ σ H xs _ Q I1 (by simpa using rv) hw

/-! ### a comprehension's block that bears the handled exception -/
abbrev blkH (X : Cx) (s : Shared) (H : Hp) (scope : Scope) (cenv : Env) (fp : List Addr) : Cx := { X.blk s H scope cenv fp with pn := X.pn }
section
variable {X : Cx} {pins : List (Addr × Obj)} {σ : L2.St} {H : Hp} {s : Shared}
theorem Inv.blkH {scope : Scope} {cenv : Env} {fp : List Addr} {σ' : L2.St} {s' : Shared} (I : Inv X pins σ H s) (J : Inv (X.blk s H scope cenv fp) [] σ' H s') (hL : cenv.locals = s.heap.objs.size) (k : ∀ b o, s.heap.get? b = some o → s'.heap.get? b = some o) : Inv (Dn.blkH X s H scope cenv fp) [] σ' H s' := by
  have ok := J.ok
  refine ⟨⟨ok.mod, ok.kind, ok.glob, ok.blt, ok.above, ok.inj, ok.has, ok.cab, ok.hd, ok.frames, ok.stk, ok.exf, ok.bs, ok.bsz, ok.noex, ok.exfs, ok.funs, ok.frf⟩, J.os, J.bare, J.base, J.loc, J.cell, J.free, J.freeC, fun p hp => ?_, J.hok, J.len⟩
  have hp' : p ∈ X.pn := by rw [List.append_nil] at hp; exact hp
  obtain ⟨p1, p2, p3, p4, p5⟩ := I.pin p (List.mem_append_left _ hp')
  refine ⟨k _ _ p1, p2, ?_, fun hm => (List.mem_cons.mp (I.stkSub p.1 hm)).elim p3 p4, p5⟩
  show p.1 ≠ cenv.locals
  rw [hL]
  exact Nat.ne_of_lt (Heap.lt_size p1)
end

/-- an iterator has come, hot -/
def PIEX (X : Cx) (pins : List (Addr × Obj)) (σ : L2.St) (tg : Expr) (R : It → Hp → Prop) (itv : Value) (s2 : Shared) : Prop :=
  ∃ (n0 : Nat) (it : Addr) (fp : List Addr) (tn : Nat → Heap → Prop) (J : It) (H' : Hp), itv = .ref it ∧ Inv X pins σ H' s2 ∧ TurnX X.prog X.w X.K n0 tg J fp it tn ∧ OldX X n0 ∧ tn 0 s2.heap ∧ (∀ b ∈ fp, FpOk X pins H' b) ∧ R J H'
structure PIX (X : Cx) (tg iter : Expr) (wi : TI) : Prop where
  run : ∀ (pins : List (Addr × Obj)) (s : Shared) (σ : L2.St) (H : Hp) (R : It → Hp → Prop), Inv X pins σ H s → wi σ H R →
    wpAny (model X.prog X.w) X.A (eval iter X.env) (fun v s1 => wpAny (model X.prog X.w) X.A (pyIter v) (PIEX X pins σ tg R) X.xe s1) X.xe s
def iZzL (K : PySem.W.Frag) (ta : TA) : TI := fun σ H R => ta σ H fun vs H1 => ∃ a b xs ys, vs = [.ref a, .ref b] ∧ SqL K H1 a xs ∧ SqL K H1 b ys ∧ R (Itzz K (.l a) (.l b)) H1
theorem pi_zzH {X : Cx} {e e2 : Expr} {ta : TA} {p pos tpos : Pos} {elts : List Expr} {kk : Nat} (hc : HotC X) (hg : Gl X "zip") (hm : X.mg "zip" = none) (ha : PA X [e, e2] ta)
    (hs : starEach [e, e2] X.env = (false, eval e X.env) :: starEach [e2] X.env) (hpl : (backTo pos (starEach [e2] X.env)).any (·.1) = false) :
    PIX X (.Tuple elts kk tpos) (.Call (.Name "zip" p) [e, e2] [] pos) (iZzL X.K ta) := by
  refine ⟨fun pins s σ H R I h => ?_⟩
  refine Call_ (ld_blt I hg hm PyProof.Rows.boot_zip (PyProof.Rows.callWith_type1 (thn (ha.run pos pins s σ H _ I h) fun us s1 ⟨vs, H1, I1, r1, q1⟩ => ?_) hs hpl))
  obtain ⟨a, b, xs, ys, ex, hqx, hqy, q⟩ := q1
  subst ex
  cases r1 with
  | cons r rr =>
    cases rr with
    | cons r' rr =>
      cases rr
      cases r
      cases r'
      obtain ⟨its, rv, p1, _⟩ := I1.list hqx
      obtain ⟨its2, rv2, p2, _⟩ := I1.list hqy
      have la : a < s1.heap.objs.size := p1.lt
      have lb : b < s1.heap.objs.size := p2.lt
      refine zip_begins2 (begins_list a its.toArray) (begins_list b its2.toArray) p1.isList p2.isList fun h' hz hTI hTO g1 g2 hsz hk => wpAny_pyIter_zip hz ?_
      have I2 : Inv X pins σ H1 { s1 with heap := h' } := I1.kept (t' := s1.toks) hk
      have old : OldX X s1.heap.objs.size := by
        obtain ⟨p, h1, h2⟩ := hc
        exact ⟨p, h1, h2, Heap.lt_size (I1.pin p (List.mem_append_left _ h2)).1⟩
      refine ⟨s1.heap.objs.size, s1.heap.objs.size + 4, [s1.heap.objs.size + 4, s1.heap.objs.size + 2, s1.heap.objs.size + 3, s1.heap.objs.size, s1.heap.objs.size + 1], _, _, H1, rfl, I2, turn_zzH la lb, old, ⟨hz, hTI, ⟨_, _, hTO⟩, ⟨_, g1, rfl, rfl⟩, ⟨_, g2, rfl, rfl⟩⟩, fun c hcm => ?_, q⟩
      have e' : c = s1.heap.objs.size + 4 ∨ c = s1.heap.objs.size + 2 ∨ c = s1.heap.objs.size + 3 ∨ c = s1.heap.objs.size ∨ c = s1.heap.objs.size + 1 := by simpa using hcm
      have hle : s1.heap.objs.size ≤ c := by
        rcases e' with z | z | z | z | z
        · rw [z]; exact Nat.le_add_right _ _
        · rw [z]; exact Nat.le_add_right _ _
        · rw [z]; exact Nat.le_add_right _ _
        · rw [z]; exact Nat.le_refl _
        · rw [z]; exact Nat.le_add_right _ _
      exact I1.fpOk hle (I1.hok.fresh hle)
theorem lc_coreH {X : Cx} {pins : List (Addr × Obj)} {s : Shared} {σ : L2.St} {H : Hp} {Q : VK} {elt tg iter : Expr} {ifs : List Expr} {scope : Scope} {own : List (Str × Nat)} {pos pos' : Pos} {wi : TI} {g : TG} {tt : TT} {te : TE} {use : Option (Value → Sem Unit)} {Qf : Value → Shared → Prop}
    (hc : HotC X) (hN : X.N.Nodup) (I : Inv X pins σ H s) (hi : PIX X tg iter wi) (ok : BlkOk X.N X.env.scope scope own)
    (hg : ∀ (s : Shared) (H : Hp) (C : Addr) (cl : List (Str × Addr)) (fp : List Addr), PG (blkH X s H scope (compEnvC scope cl C X.env) fp) tg g) (ht : ∀ (s : Shared) (H : Hp) (C : Addr) (cl : List (Str × Addr)) (fp : List Addr), PTs (blkH X s H scope (compEnvC scope cl C X.env) fp) ifs tt)
    (he : ∀ (s : Shared) (H : Hp) (C : Addr) (cl : List (Str × Addr)) (fp : List Addr), PE (blkH X s H scope (compEnvC scope cl C X.env) fp) elt te) (hs : ∀ x, foldedSetIterable iter X.env x = pure x)
    (h : tLc wi g tt te (own.map (·.2)) σ H Q)
    (hRR : ∀ D C s' m H', Inv X pins σ H' s' → Q (.ref D) H' → s'.heap.Ns C m → FpOk X pins H' C → compPost (model X.prog X.w) X.A X.xe use Qf (.ref D) C (.ok .next) s') :
    wpAny (model X.prog X.w) X.A (comprehension (.ListComp elt [⟨tg, iter, ifs, 0⟩] scope pos) scope X.env pos' (newList []) false (eval iter X.env) use) Qf X.xe s := by
  have hfree : ∀ y ∈ scope.names, y.2 = .free → ∃ c, X.env.cells.lookup y.1 = some c := fun y hy e => by
    rcases ok.free y hy e with k | k
    · exact I.ok.has _ (.inl k)
    · exact I.ok.has _ (.inr k)
  refine wpAny_comprehension_free (use := use) rfl hs (closure_ok hfree) ok.kind (fun y hy e => by rw [ok.uniq y hy, e])
    (thn (hi.run pins s σ H _ I h) fun xv s1 hx => thn hx fun itv s2 h2 => ?_)
  obtain ⟨n0, it, fp, tn, J, H2, e, I2, T, hold, st2, f2, q⟩ := h2
  subst e
  refine wpAny_newObj_type (newEnv_comp ?_) (by show 0 ≤ sizeLine; decide)
  generalize hD : s2.heap.objs.size = D
  have hDn : H2 D = none := I2.hok.fresh (Nat.le_of_eq hD)
  obtain ⟨W, ⟨m0, w0⟩, turn⟩ := q D hDn
  -- the new list
  generalize hs3 : ({ s2 with heap := s2.heap.push { cls := .type "list", data := .seq ([] : List Value).toArray } } : Shared) = s3
  have I3 : Inv X pins σ (upd H2 D (.lst [])) s3 := by
    rw [← hs3]
    refine I2.laid (t' := s2.toks) (fun b o e => Heap.get?_push_of_some _ e) (Nat.le_of_eq hD) ⟨Nat.zero_le _, [], 0, .nil, ?_⟩
    rw [← hD]
    exact Heap.get?_push_size _ rfl
  have h3 : s3.heap = s2.heap.push { cls := .type "list", data := .seq ([] : List Value).toArray } := by rw [← hs3]
  have sz : ∀ b ∈ fp, b < s2.heap.objs.size := fun b hb => by
    obtain ⟨o, e, _⟩ := T.obj _ _ st2 b hb
    exact Heap.lt_size e
  have f3 : ∀ b ∈ fp, FpOk X pins (upd H2 D (.lst [])) b ∧ b < s3.heap.objs.size := fun b hb => by
    have hlt := sz b hb
    refine ⟨⟨?_, (f2 b hb).2⟩, by rw [h3, Heap.size_push]; exact Nat.lt_succ_of_lt hlt⟩
    rw [upd_ne (by rw [← hD]; exact Nat.ne_of_lt hlt)]
    exact (f2 b hb).1
  have st3 : tn 0 s3.heap := T.keep _ _ _ st2 fun b _ o e => by rw [h3]; exact Heap.get?_push_of_some _ e
  have I4 := Inv.blkH I3 (block_start I3 ok hN f3) rfl fun b o e => pushCells_keeps _ _ _ _ (Heap.get?_push_of_some _ e)
  have pg := hg s3 (upd H2 D (.lst [])) s3.heap.objs.size (cellsFrom (s3.heap.objs.size + 1) scope.names (cloFrom X.env.cells scope.names [])) fp
  have pt := ht s3 (upd H2 D (.lst [])) s3.heap.objs.size (cellsFrom (s3.heap.objs.size + 1) scope.names (cloFrom X.env.cells scope.names [])) fp
  have pe := he s3 (upd H2 D (.lst [])) s3.heap.objs.size (cellsFrom (s3.heap.objs.size + 1) scope.names (cloFrom X.env.cells scope.names [])) fp
  show codeAny _ _ (.compStart (.ListComp elt [⟨tg, iter, ifs, 0⟩] scope pos) 0 (.ref it) (.ref D) (compEnvC scope (cellsFrom (s3.heap.objs.size + 1) scope.names (cloFrom X.env.cells scope.names [])) s3.heap.objs.size X.env)) (compPost (model X.prog X.w) X.A X.xe use Qf (.ref D) s3.heap.objs.size) { s3 with heap := pushCells (s3.heap.push { cls := .type "dict", data := .dict #[] }) scope.names }
  have nfp : ∀ b ∈ fp, (upd H2 D (.lst [])) b = none := fun b hb => (f3 b hb).1.1
  generalize hce : compEnvC scope (cellsFrom (s3.heap.objs.size + 1) scope.names (cloFrom X.env.cells scope.names [])) s3.heap.objs.size X.env = ce at I4 pg pt pe ⊢
  have cL : ce.locals = s3.heap.objs.size := by subst hce; rfl
  generalize hH3 : upd H2 D (.lst []) = H3 at I3 I4 pg pt pe w0 nfp f3
  generalize hs4 : ({ s3 with heap := pushCells (s3.heap.push { cls := .type "dict", data := .dict #[] }) scope.names } : Shared) = s4 at I4 ⊢
  have st4 : tn 0 s4.heap := T.keep _ _ _ st3 fun b _ o e => by rw [← hs4]; exact pushCells_keeps _ _ _ _ (Heap.get?_push_of_some _ e)
  have stat : ∀ {σ' : L2.St} {H' : Hp} {s' : Shared}, Inv (blkH X s3 H3 scope ce fp) [] σ' H' s' → (∀ b ∈ fp, H' b = none) → ∀ b ∈ fp, FpOk (blkH X s3 H3 scope ce fp) [] H' b := fun {σ' H' s'} I' hn b hb =>
    ⟨hn b hb, (I'.ok.exf b hb).1, I'.ok.exfs b hb, .inl hb, fun x c e => (I'.ok.exf b hb).2 x c e, fun p hp => (f3 b hb).1.2.2.2.2.2 p (List.mem_append_left _ (by rw [List.append_nil] at hp; exact hp))⟩
  have loop : codeAny (model X.prog X.w) X.A (.compLoop (.ListComp elt [⟨tg, iter, ifs, 0⟩] scope pos) 0 (.ref it) (.ref D) ce) (compPost (model X.prog X.w) X.A X.xe use Qf (.ref D) s3.heap.objs.size) s4 := by
    refine compLoop_any (fun n s' => ∃ i H', Inv (blkH X s3 H3 scope ce fp) [] (wipe σ (own.map (·.2))) H' s' ∧ tn i s'.heap ∧ (∀ b ∈ fp, H' b = none) ∧ W i n H') ?_ m0 ⟨0, H3, I4, st4, nfp, w0⟩
    rintro n s5 ⟨i, H5, I5, st5, n5, w5⟩
    rcases turn i n H5 w5 with ⟨stop, qq⟩ | ⟨go, Nx, hNx, step⟩
    · have td := T.done (blkH X s3 H3 scope ce fp) rfl rfl rfl hold i [] s5 _ H5 (fun _ _ => False) I5 (stat I5 n5) st5 stop
      refine thnF td fun r s6 ⟨hr, I6⟩ => ?_
      subst hr
      -- back in the def's context
      have I7 : Inv X pins σ H5 s6 := I3.call' (ch := fp) I6.os I6.base I6.hok I6.bare fun b hb => ⟨(f3 b hb).1.2.2.2.1, (f3 b hb).1.2.1, (f3 b hb).1.2.2.2.2.1, (f3 b hb).1.2.2.2.2.2⟩
      have nC : H5 s3.heap.objs.size = none := by
        have z : H5 ce.locals = none := I6.free
        rw [cL] at z
        exact z
      obtain ⟨m, hn, _⟩ := I6.loc
      have hn : s6.heap.Ns ce.locals m := hn
      rw [cL] at hn
      exact hRR D s3.heap.objs.size s6 m H5 I7 qq hn (I3.fpOk (Nat.le_refl _) nC)
    · have ti := T.item (blkH X s3 H3 scope ce fp) rfl rfl rfl hold i [] s5 _ H5 (fun _ _ => False) I5 (stat I5 n5) st5 go
      refine thnF ti fun r s6 ⟨u, hr, h6⟩ => ?_
      subst hr
      refine thnF h6 fun _ s7 ⟨x, H7, I7, r7, y7, st7, n7⟩ => ?_
      have I7' := I7.pinned (stat I7 n7) (T.obj _ _ st7)
      refine thnF (pg.run _ s7 _ H7 x u _ I7' r7 (step x H7 y7)) fun _ s8 ⟨σ8, H8, I8, hw8, q8⟩ => ?_
      refine thnF (pt.run _ s8 σ8 H8 _ I8 q8) fun b s9 ⟨H9, I9, q9⟩ => ?_
      -- the turn's end
      have fin : ∀ {s' : Shared} {H' : Hp}, Inv (blkH X s3 H3 scope ce fp) ([] ++ pinsAt fp s7.heap) σ8 H' s' → Nx H' → ∃ m, m < n ∧ ∃ i H', Inv (blkH X s3 H3 scope ce fp) [] (wipe σ (own.map (·.2))) H' s' ∧ tn i s'.heap ∧ (∀ b ∈ fp, H' b = none) ∧ W i m H' := fun {s' H'} I' nx => by
        obtain ⟨m', hm, w'⟩ := hNx H' nx
        have pin' : ∀ b ∈ fp, ∀ o, s7.heap.get? b = some o → s'.heap.get? b = some o ∧ H' b = none := fun b hb o e =>
          let z := I'.pin (b, o) (List.mem_append_right _ (List.mem_append_right _ (mem_pinsAt hb e)))
          ⟨z.1, z.2.1⟩
        have hl : (wipe σ (own.map (·.2))).length = σ8.length := by rw [← hw8, wipe_length]
        refine ⟨m', hm, i + 1, H', (I'.unpinned (pins := [])).weak hl (fun j v e => ?_), T.keep _ _ _ st7 fun b hb o e => (pin' b hb o e).1, fun b hb => ?_, w'⟩
        · rw [← hw8] at e
          exact (wipe_some e).1
        · obtain ⟨o, e, _⟩ := T.obj _ _ st7 b hb
          exact (pin' b hb o e).2
      cases b with
      | false =>
        simp only [Bool.false_eq_true, if_false] at q9 ⊢
        exact fin I9 q9
      | true =>
        simp only [if_true] at q9 ⊢
        refine thnF (pe.run _ s9 σ8 H9 _ I9 q9) fun z s10 ⟨yv, H10, I10, r10, acc, hD10, hz10, nx⟩ => ?_
        exact app_ok (X := blkH X s3 H3 scope ce fp) I10 hD10 hz10 r10 fun s11 I11 => fin I11 nx
  exact codeAny_compStart_list loop (T.self X.A 0 _ _ _ st4 loop)
theorem pe_lcH {X : Cx} {elt tg iter : Expr} {ifs : List Expr} {scope : Scope} {own : List (Str × Nat)} {pos : Pos} {wi : TI} {g : TG} {tt : TT} {te : TE} (hc : HotC X) (hN : X.N.Nodup) (hi : PIX X tg iter wi) (ok : BlkOk X.N X.env.scope scope own)
    (hg : ∀ (s : Shared) (H : Hp) (C : Addr) (cl : List (Str × Addr)) (fp : List Addr), PG (blkH X s H scope (compEnvC scope cl C X.env) fp) tg g) (ht : ∀ (s : Shared) (H : Hp) (C : Addr) (cl : List (Str × Addr)) (fp : List Addr), PTs (blkH X s H scope (compEnvC scope cl C X.env) fp) ifs tt)
    (he : ∀ (s : Shared) (H : Hp) (C : Addr) (cl : List (Str × Addr)) (fp : List Addr), PE (blkH X s H scope (compEnvC scope cl C X.env) fp) elt te) (hs : ∀ x, foldedSetIterable iter X.env x = pure x) :
    PE X (.ListComp elt [⟨tg, iter, ifs, 0⟩] scope pos) (tLc wi g tt te (own.map (·.2))) := by
  refine ⟨fun pins s σ H Q I h => ?_⟩
  rw [eval_ListComp]
  refine lc_coreH hc hN I hi ok hg ht he hs h fun D C s' m H' I' q hn f => ⟨m, hn, fun h'' sb => ?_⟩
  obtain ⟨f0, f1, f2, f3, f4, f5⟩ := f
  exact ⟨.ref D, H', I'.turned (t' := s'.toks) (fun b o hb e => (sb.2 b hb).trans e) f0 f1 f3 f4 f5, rfl, q⟩
end Dn

set_option maxHeartbeats 4000000
namespace Dn
open PySem PySem.Spec PyProof.Rows L2 HotX L2H

/-! ### the names of an error: what the law's own def computes -/
def LABELS : Str := "weights chain heap number kind index whole piece text unlike none undo many failed value"
def labelL : List Str := ["weights", "chain", "heap", "number", "kind", "index", "whole", "piece", "text", "unlike", "none", "undo", "many", "failed", "value"]
theorem labels_split : Txt.split LABELS " " = labelL := by decide +kernel
def pickS : List Str → List Bool → List Str
  | x :: xs, true :: bs => x :: pickS xs bs
  | _ :: xs, false :: bs => pickS xs bs
  | _, _ => []
def namesB (bs : List Bool) : Str := Txt.join " " (pickS labelL bs)
def tIs (a : Addr) (b : Bool) : TE := fun σ H Q => σ[0]? = some (some (.ref a)) ∧ Q (.bl b) H
def t3 (a : Addr) (x y z : Bool) : TE := tLst (tCons (tIs a x) (tCons (tIs a y) (tCons (tIs a z) tNil)))
abbrev rSplit : V → List V → Hp → VK → Prop := fun x xs H Q => ∃ a b, x = .str a ∧ xs = [.str b] ∧ (b.length == 0) = false ∧ a.length + 2 ≤ sizeLine ∧ rNewStrs (Txt.split a b) H Q
abbrev rJoin (K : PySem.W.Frag) : V → List V → Hp → VK → Prop := fun x xs H Q => ∃ a p, ∃ ys : List Str, x = .str a ∧ xs = [.ref p] ∧ (SqL K H p (ys.map V.str) ∨ SqT K H p (ys.map V.str)) ∧ (ys.map (·.length)).sum + ys.length * a.length ≤ 16777216 ∧ Q (.str (Txt.join a ys)) H
def tGood (K : PySem.W.Frag) : TT := fun σ H Q => tVar 4 σ H fun x H' => ∃ k, TruV K x H' k ∧ Q k H'
def tNames (K : PySem.W.Frag) (a : Addr) (b : Nat → Bool) : TS :=
  tSeq (tAsg (t3 a (b 0) (b 1) (b 2)) (gName 1)) (tSeq (tAsg (tOp rCat (tVar 1) (t3 a (b 3) (b 4) (b 5))) (gName 1)) (tSeq (tAsg (tOp rCat (tVar 1) (t3 a (b 6) (b 7) (b 8))) (gName 1))
    (tSeq (tAsg (tOp rCat (tVar 1) (t3 a (b 9) (b 10) (b 11))) (gName 1)) (tSeq (tAsg (tOp rCat (tVar 1) (t3 a (b 12) (b 13) (b 14))) (gName 1))
      (tSeq (tAsg (tC (.str LABELS)) (gName 2)) (tRet (tM1 (rJoin K) (tC (.str " ")) (tLc (iZzL K (tCons (tM1 rSplit (tVar 2) (tC (.str " "))) (tCons (tVar 1) tNil))) (gTup K 2 (gCons (gName 3) (gCons (gName 4) gNil))) (tGood K) (tVar 3) [3, 4]))))))))
section
variable {G : Gx} {mu : Mu} {h : MH} {H0 : Hp} {a : Addr}
/-- behind the statements: some = the bools so far -/
def StN (G : Gx) (mu : Mu) (h : MH) (H0 : Hp) (a : Addr) (bs : List Bool) (σ : L2.St) (H : Hp) : Prop := ∃ p, σ = [some (.ref a), some (.ref p), none, none, none] ∧ H p = some (.lst (bs.map V.bl)) ∧ HR G mu h H ∧ Ext mu H0 mu H
theorem t3_ok {x y z : Bool} {σ : L2.St} {H : Hp} {Q : VK} (hs : σ[0]? = some (some (.ref a))) (q : ∀ p, H p = none → Q (.ref p) (upd H p (.lst ([x, y, z].map V.bl)))) : t3 a x y z σ H Q :=
  ⟨hs, hs, hs, (by show 3 ≤ sizeLine; rw [lim_eq]; decide), fun p hp => q p hp⟩
theorem cat_step {x y z : Bool} {bs : List Bool} {σ : L2.St} {H : Hp} {D : Ends} (hl : bs.length ≤ 12) (s : StN G mu h H0 a bs σ H) (q : ∀ σ2 H2, StN G mu h H0 a (bs ++ [x, y, z]) σ2 H2 → D.nx σ2 H2) : tAsg (tOp rCat (tVar 1) (t3 a x y z)) (gName 1) D σ H := by
  obtain ⟨p, rfl, hp, hr, ex⟩ := s
  refine ⟨.ref p, rfl, t3_ok rfl fun p2 hp2 => ?_⟩
  refine ⟨p, p2, bs.map V.bl, [x, y, z].map V.bl, rfl, rfl, ?_, upd_same, ?_, fun p3 hp3 => ?_⟩
  · rw [upd_ne (ne_of_none hp hp2)]; exact hp
  · rw [List.length_map, List.length_map, lim_eq]
    show bs.length + 3 ≤ LIM
    unfold LIM
    omega
  · refine q _ _ ⟨p3, rfl, ?_, (hr.new hp2).new hp3, (ex.trans (Ext.new hp2)).trans (Ext.new hp3)⟩
    rw [upd_same, List.map_append]
theorem pickS_len : ∀ (xs : List Str) (bs : List Bool), (pickS xs bs).length ≤ xs.length ∧ ((pickS xs bs).map (·.length)).sum ≤ (xs.map (·.length)).sum
  | [], bs => by cases bs <;> simp [pickS]
  | x :: xs, [] => by simp [pickS]
  | x :: xs, b :: bs => by
    have ih := pickS_len xs bs
    cases b with
    | true =>
      simp only [pickS, List.length_cons, List.map_cons, List.sum_cons]
      omega
    | false =>
      simp only [pickS, List.length_cons, List.map_cons, List.sum_cons]
      omega
theorem pickS_app {x : Str} {b : Bool} : ∀ {xs : List Str} {bs : List Bool}, xs.length = bs.length → pickS (xs ++ [x]) (bs ++ [b]) = pickS xs bs ++ (if b = true then [x] else [])
  | [], [], _ => by cases b <;> rfl
  | y :: xs, c :: bs, h => by
    have ih := pickS_app (x := x) (b := b) (xs := xs) (bs := bs) (by simpa using h)
    cases c with
    | true => simp only [List.cons_append, pickS, ih]
    | false => simp only [List.cons_append, pickS, ih]
  | [], _ :: _, h => by cases h
  | _ :: _, [], h => by cases h
theorem comp_ok {bs : List Bool} (hb : bs.length = 15) {σ : L2.St} {H : Hp} {Q : VK} {p : Addr} (hσ : σ = [some (.ref a), some (.ref p), some (.str LABELS), none, none]) (hp : H p = some (.lst (bs.map V.bl))) (hr : HR G mu h H)
    (q : ∀ D H', HR G mu h H' → Ext mu H mu H' → H' D = some (.lst ((pickS labelL bs).map V.str)) → Q (.ref D) H') :
    tLc (iZzL G.K (tCons (tM1 rSplit (tVar 2) (tC (.str " "))) (tCons (tVar 1) tNil))) (gTup G.K 2 (gCons (gName 3) (gCons (gName 4) gNil))) (tGood G.K) (tVar 3) [3, 4] σ H Q := by
  subst hσ
  refine ⟨_, rfl, ⟨_, rfl⟩, LABELS, " ", rfl, rfl, by decide, by rw [lim_eq]; decide +kernel, fun l hl => ?_⟩
  refine ⟨_, rfl, l, p, (Txt.split LABELS " ").map V.str, bs.map V.bl, rfl, .inl (.inl upd_same), .inl (.inl (by rw [upd_ne (ne_of_none hp hl)]; exact hp)), ?_⟩
  rw [labels_split]
  intro D hD
  have hH1 : ∀ H', H' = upd (upd H l (.lst (labelL.map V.str))) D (.lst []) → SqL G.K H' l (labelL.map V.str) ∧ SqL G.K H' p (bs.map V.bl) ∧ H' D = some (.lst []) := fun H' e => by
    subst e
    have e1 : (upd H l (.lst (labelL.map V.str))) l = some (.lst (labelL.map V.str)) := upd_same
    have e2 : (upd H l (.lst (labelL.map V.str))) p = some (.lst (bs.map V.bl)) := by rw [upd_ne (ne_of_none hp hl)]; exact hp
    exact ⟨.inl (.inl (by rw [upd_ne (ne_of_none e1 hD)]; exact e1)), .inl (.inl (by rw [upd_ne (ne_of_none e2 hD)]; exact e2)), upd_same⟩
  have hlp : l ≠ p := fun z => by rw [z] at hl; rw [hl] at hp; cases hp
  have hD0 : H D = none := by
    by_cases hdl : D = l
    · rw [hdl, upd_same] at hD; cases hD
    · rw [upd_ne hdl] at hD; exact hD
  have hDl : D ≠ l := fun z => by rw [z, upd_same] at hD; cases hD
  have hDp : D ≠ p := fun z => by rw [z, upd_ne (ne_of_none hp hl), hp] at hD; cases hD
  refine ⟨fun i m H' => m = 15 - i ∧ i ≤ 15 ∧ H' l = some (.lst (labelL.map V.str)) ∧ H' p = some (.lst (bs.map V.bl)) ∧ H' D = some (.lst ((pickS (labelL.take i) (bs.take i)).map V.str)) ∧ HR G mu h H' ∧ Ext mu H mu H' ∧ D ∉ addrs mu,
    ⟨15, rfl, Nat.zero_le _, ?_, ?_, upd_same, (hr.new hl).new hD, (Ext.new hl).trans (Ext.new hD), hr.nin hD0⟩, ?_⟩
  · rw [upd_ne (Ne.symm hDl)]; exact upd_same
  · rw [upd_ne (Ne.symm hDp), upd_ne (Ne.symm hlp)]; exact hp
  rintro i m H' ⟨rfl, hi, k1, k2, k3, k4, k5, nD⟩
  have ll : (labelL.map V.str).length = 15 := rfl
  have lb : (bs.map V.bl).length = 15 := by rw [List.length_map]; exact hb
  by_cases hlt : i < 15
  · right
    have hx : (labelL.map V.str)[i]? = some (.str (labelL[i]'(by show i < 15; exact hlt))) := by rw [List.getElem?_map, List.getElem?_eq_getElem (by show i < 15; exact hlt)]; rfl
    have hy : (bs.map V.bl)[i]? = some (.bl (bs[i]'(by omega))) := by rw [List.getElem?_map, List.getElem?_eq_getElem (by omega)]; rfl
    refine ⟨⟨_, _, .inl (.inl k1), .inl (.inl k2), by rw [ll]; exact hlt, by rw [lb]; exact hlt⟩, fun H2 => i + 1 ≤ 15 ∧ H2 l = some (.lst (labelL.map V.str)) ∧ H2 p = some (.lst (bs.map V.bl)) ∧ H2 D = some (.lst ((pickS (labelL.take (i + 1)) (bs.take (i + 1))).map V.str)) ∧ HR G mu h H2 ∧ Ext mu H mu H2 ∧ D ∉ addrs mu, fun H2 q2 => ⟨15 - (i + 1), by omega, rfl, q2⟩, ?_⟩
    rintro x H2 ⟨T, u, v, rfl, hT, ⟨oT, _, rfl⟩, q1, q2⟩
    have z1 := q1 _ (.inl (.inl k1))
    have z2 := q2 _ (.inl (.inl k2))
    rw [hx] at z1
    rw [hy] at z2
    cases z1
    cases z2
    have hTl : l ≠ T := ne_of_none k1 hT
    have hTp : p ≠ T := ne_of_none k2 hT
    have hTD : D ≠ T := ne_of_none k3 hT
    have tk : ∀ {α : Type} (l : List α) (hi : i < l.length), l.take (i + 1) = l.take i ++ [l[i]] := fun l hi => by rw [List.take_succ, List.getElem?_eq_getElem hi]; rfl
    have ps : pickS (labelL.take (i + 1)) (bs.take (i + 1)) = pickS (labelL.take i) (bs.take i) ++ (if bs[i]'(by omega) = true then [labelL[i]'(by show i < 15; exact hlt)] else []) := by
      rw [tk labelL (by show i < 15; exact hlt), tk bs (by omega)]
      exact pickS_app (by rw [List.length_take, List.length_take, hb]; rfl)
    refine ⟨T, _, rfl, .inl (.inr ⟨oT, upd_same⟩), rfl, _, _, rfl, _, _, rfl, rfl, rfl, ?_⟩
    refine ⟨_, rfl, _, rfl, ?_⟩
    cases e : bs[i]'(by omega) with
    | false =>
      rw [if_neg Bool.false_ne_true]
      rw [e, if_neg Bool.false_ne_true, List.append_nil] at ps
      exact ⟨hlt, by rw [upd_ne hTl]; exact k1, by rw [upd_ne hTp]; exact k2, by rw [upd_ne hTD, ps]; exact k3, k4.new hT, k5.trans (Ext.new hT), nD⟩
    | true =>
      rw [if_pos rfl]
      rw [e, if_pos rfl] at ps
      have hD2 : (upd H' T (.frz oT (.tup [.str (labelL[i]'(by show i < 15; exact hlt)),   .bl true]))) D = some (.lst ((pickS (labelL.take i) (bs.take i)).map V.str)) := by rw [upd_ne hTD]; exact k3
      refine ⟨_, rfl, _, hD2, ?_, hlt, ?_, ?_, ?_, ?_, ?_, nD⟩
      · rw [List.length_map, lim_eq]
        have := (pickS_len (labelL.take i) (bs.take i)).1
        rw [List.length_take] at this
        unfold LIM
        omega
      · rw [upd_ne (Ne.symm hDl), upd_ne hTl]; exact k1
      · rw [upd_ne (Ne.symm hDp), upd_ne hTp]; exact k2
      · rw [upd_same, ps, List.map_append]; rfl
      · exact (k4.new hT).upd_lst hD2 nD
      · exact (k5.trans (Ext.new hT)).upd_own hD0 hD2
  · have hi2 : i = 15 := by omega
    subst hi2
    left
    refine ⟨⟨_, _, .inl (.inl k1), .inl (.inl k2), by rw [ll]; exact Nat.le_refl _, by rw [lb]; exact Nat.le_refl _, .inl (by rw [ll])⟩, q D H' k4 k5 ?_⟩
    rw [k3, List.take_of_length_le (show labelL.length ≤ 15 from Nat.le_refl _), List.take_of_length_le (Nat.le_of_eq hb)]
def bits15 (b : Nat → Bool) : List Bool := [b 0, b 1, b 2, b 3, b 4, b 5, b 6, b 7, b 8, b 9, b 10, b 11, b 12, b 13, b 14]
theorem names_sem {b : Nat → Bool} {H : Hp} {D : Ends} (hr : HR G mu h H) (q : ∀ H', HR G mu h H' → Ext mu H mu H' → D.rt (.str (namesB (bits15 b))) H') : tNames G.K a b D [some (.ref a), none, none, none, none] H := by
  unfold tNames tSeq tAsg
  refine t3_ok (a := a) (σ := [some (.ref a), none, none, none, none]) rfl fun p hp => ?_
  refine cat_step (G := G) (mu := mu) (h := h) (H0 := H) (bs := [b 0, b 1, b 2]) (by simp) ⟨p, rfl, upd_same, hr.new hp, Ext.new hp⟩ fun σ H2 s => ?_
  refine cat_step (by simp) s fun σ H3 s => ?_
  refine cat_step (by simp) s fun σ H4 s => ?_
  refine cat_step (by simp) s fun σ H5 s => ?_
  obtain ⟨p, rfl, hp, hr5, ex⟩ := s
  refine ⟨⟨_, rfl⟩, comp_ok (G := G) (mu := mu) (h := h) (bs := bits15 b) (a := a) (p := p) rfl rfl hp hr5 fun D' H6 hr6 ex6 e6 => ?_⟩
  refine ⟨" ", D', pickS labelL (bits15 b), rfl, rfl, .inl (.inl (.inl e6)), ?_, q H6 hr6 (ex.trans ex6)⟩
  have z := pickS_len labelL (bits15 b)
  have e1 : labelL.length = 15 := rfl
  have e2 : (labelL.map (·.length)).sum ≤ 1000 := by decide +kernel
  have e3 : (" " : Str).length = 1 := rfl
  rw [e3]
  omega
end
end Dn

set_option maxHeartbeats 4000000
namespace Dn
open PySem PySem.Spec PyProof.Rows L2 HotX L2H

/-! ### the law's def that names an error: its text -/
def errL : List Str := ["InvalidWeights", "InvalidChain", "InvalidHeap", "InvalidNumber", "InvalidKind", "InvalidIndex", "InvalidWhole", "InvalidPiece", "InvalidText", "Unlike", "NoChain", "NothingToUndo", "TooMany", "Failed"]
def NMS : List (Str × NameKind) := [("_law_error", .local), ("_law_some", .local), ("_law_labels", .local), ("isinstance", .globalImplicit), ("InvalidWeights", .globalImplicit), ("InvalidChain", .globalImplicit), ("InvalidHeap", .globalImplicit), ("InvalidNumber", .globalImplicit), ("InvalidKind", .globalImplicit), ("InvalidIndex", .globalImplicit), ("InvalidWhole", .globalImplicit), ("InvalidPiece", .globalImplicit), ("InvalidText", .globalImplicit), ("Unlike", .globalImplicit), ("NoChain", .globalImplicit), ("NothingToUndo", .globalImplicit), ("TooMany", .globalImplicit), ("Failed", .globalImplicit), ("ValueError", .globalImplicit), ("zip", .globalImplicit)]
def NN : List Str := ["_law_error", "_law_some", "_law_labels", "_law_label", "_law_good"]
inductive IsI (y : Str) : Expr → Prop
  | mk {p1 p2 p3 p4 : Pos} : IsI y (.Call (.Name "isinstance" p1) [.Name "_law_error" p2, .Name y p3] [] p4)
def csc : List (Str × NameKind) := [(".0", .local), ("_law_label", .local), ("_law_good", .local)]
inductive NB : List Stmt → Prop
  | mk {e0 e1 e2 e3 e4 e5 e6 e7 e8 e9 e10 e11 e12 e13 e14 : Expr} {q1 q2 q3 q4 q5 q6 q7 q8 q9 q10 q11 q12 q13 q14 q15 q16 q17 q18 q19 q20 q21 q22 q23 q24 q25 q26 q27 q28 q29 q30 q31 q32 q33 q34 q35 q36 q37 q38 q39 q40 q41 q42 q43 : Pos} {k1 k2 k3 k4 : Nat} {m : List (Str × Const)} {i1 i2 : Bool}
    (h0 : IsI "InvalidWeights" e0) (h1 : IsI "InvalidChain" e1) (h2 : IsI "InvalidHeap" e2) (h3 : IsI "InvalidNumber" e3) (h4 : IsI "InvalidKind" e4) (h5 : IsI "InvalidIndex" e5) (h6 : IsI "InvalidWhole" e6) (h7 : IsI "InvalidPiece" e7) (h8 : IsI "InvalidText" e8) (h9 : IsI "Unlike" e9) (h10 : IsI "NoChain" e10) (h11 : IsI "NothingToUndo" e11) (h12 : IsI "TooMany" e12) (h13 : IsI "Failed" e13) (h14 : IsI "ValueError" e14) : (q42.endLine == q28.line) = true → (q35.endLine == q37.line) = true → NB
    [.Assign [.Name "_law_some" q1] (.List [e0, e1, e2] q2) q3,
     .Assign [.Name "_law_some" q4] (.BinOp (.Name "_law_some" q5) .Add (.List [e3, e4, e5] q6) q7) q8,
     .Assign [.Name "_law_some" q9] (.BinOp (.Name "_law_some" q10) .Add (.List [e6, e7, e8] q11) q12) q13,
     .Assign [.Name "_law_some" q14] (.BinOp (.Name "_law_some" q15) .Add (.List [e9, e10, e11] q16) q17) q18,
     .Assign [.Name "_law_some" q19] (.BinOp (.Name "_law_some" q20) .Add (.List [e12, e13, e14] q21) q22) q23,
     .Assign [.Name "_law_labels" q24] (.Constant (.str LABELS) k1 q25) q26,
     .Return (some (.Call (.Attribute (.Constant (.str " ") k2 q27) "join" q42) [.ListComp (.Name "_law_label" q29) [⟨.Tuple [.Name "_law_label" q30, .Name "_law_good" q31] k3 q32, .Call (.Name "zip" q33) [.Call (.Attribute (.Name "_law_labels" q34) "split" q35) [.Constant (.str " ") k4 q36] [] q37, .Name "_law_some" q38] [] q39, [.Name "_law_good" q40], 0⟩] ⟨.function, csc, i1, i2, m⟩ q41] [] q28)) q43]

section
variable {X : Cx} {p : Addr × Obj} {D Y : Addr} {y : Str} {b : Bool} {e : Expr}
/-- isinstance(e, c), e the exception at p -/
theorem call_isP (hp : p ∈ X.pn) (C : ExcC X.K D) (hz : Zc (.ref D) none p.2) (hf : ∃ vs, p.2.data = .fields vs) : CallR X (.builtin "isinstance") (rIsE X.K D p.1) := by
  intro pins s σ H xs us Q I r h
  obtain ⟨c, cv, b, rfl, hcv, e, q⟩ := h
  cases r with
  | cons rx rr =>
    cases rr with
    | cons rt rr =>
      cases rr
      cases rx
      have ec := hcv _ rt
      subst ec
      obtain ⟨hget, _⟩ := I.pin p (List.mem_append.mpr (.inl hp))
      obtain ⟨vs, hv⟩ := hf
      obtain ⟨pa, oe⟩ := p
      have J : PySem.W.InstAt s.heap pa oe D none := by
        obtain ⟨oc, od, oda, osl⟩ := oe
        obtain ⟨h1, h2⟩ := hz
        dsimp only at h1 h2 hv
        subst h1 h2 hv
        exact ⟨hget, rfl, rfl, trivial⟩
      exact PySem.W.kia_one (PySem.W.handS_kitx_exc C.hg C.hk C.hs C.hd C.ha C.hn C.ht C.hm) I.kIn J e (fun z => nomatch z) fun tk => ⟨.bl b, H, I.kept (t' := tk) fun _ _ z => z, rfl, q⟩
theorem pe_isP (hN : X.N[0]? = some ("_law_error" : Str)) (hsc : X.env.scope.names = NMS) (mi : X.mg "isinstance" = none) (hp : p ∈ X.pn) (C : ExcC X.K D) (hz : Zc (.ref D) none p.2) (hf : ∃ vs, p.2.data = .fields vs) (gy : X.env.scope.names.lookup y = some .globalImplicit) (my : X.mg y = some (.ref Y)) (k : PySem.W.kitOne X.K (.ref D) (.ref Y) = some b) (hd : (y == ("__debug__" : Str)) = false) (he : IsI y e) : PE X e (tIs p.1 b) := by
  cases he
  refine PE.imp (pe_callB (call_isP hp C hz hf) (by show X.env.scope.names.lookup _ = _; rw [hsc]; rfl) mi PyProof.Rows.boot_isinstance (pa_cons (pe_var (i := 0) hN (.inl (by rw [hsc]; rfl)) (by decide) (by decide)) (pa_cons (pe_glob (v := .ref Y) gy my rfl hd) pa_nil)) (by decide) (by decide) rfl rfl) fun σ H Q h => ?_
  exact ⟨.ref p.1, h.1, .ref Y, .ref Y, b, rfl, fun u r => r, k, h.2⟩
theorem pe_isV (hN : X.N[0]? = some ("_law_error" : Str)) (hsc : X.env.scope.names = NMS) (mi : X.mg "isinstance" = none) (hp : p ∈ X.pn) (C : ExcC X.K D) (hz : Zc (.ref D) none p.2) (hf : ∃ vs, p.2.data = .fields vs) (my : X.mg "ValueError" = none) (k : PySem.W.kitOne X.K (.ref D) (.type "ValueError") = some b) (he : IsI "ValueError" e) : PE X e (tIs p.1 b) := by
  cases he
  refine PE.imp (pe_callB (call_isP hp C hz hf) (by show X.env.scope.names.lookup _ = _; rw [hsc]; rfl) mi PyProof.Rows.boot_isinstance (pa_cons (pe_var (i := 0) hN (.inl (by rw [hsc]; rfl)) (by decide) (by decide)) (pa_cons (pe_bltn (v := .ty "ValueError") (by show X.env.scope.names.lookup _ = _; rw [hsc]; rfl) my (by rfl) rfl (by decide) (by decide)) pa_nil)) (by decide) (by decide) rfl rfl) fun σ H Q h => ?_
  exact ⟨.ref p.1, h.1, .ty "ValueError", .type "ValueError", b, rfl, fun u r => r, k, h.2⟩
end
end Dn

set_option maxHeartbeats 4000000
namespace Dn
open PySem PySem.Spec PyProof.Rows L2 HotX L2H

/-- what is known of an error's class -/
structure IsaF (G : Gx) (x : Str) : Prop where
  ex : ∃ D, G.mg x = some (.ref D) ∧ ExcC G.K D ∧ (∀ y ∈ errL, ∃ Y, G.mg y = some (.ref Y) ∧ PySem.W.kitOne G.K (.ref D) (.ref Y) = some (decide (y = x))) ∧ PySem.W.kitOne G.K (.ref D) (.type "ValueError") = some true
def isaN (x : Str) (i : Nat) : Bool := if i = 14 then true else decide (errL[i]? = some x)
def namesD (x : Str) : Str := namesB (bits15 (isaN x))
section
variable {G : Gx} {X : Cx} {p : Addr × Obj} {body : List Stmt} {x : Str}
theorem names_pss (gK : G.K = X.K) (gm : G.mg = X.mg) (hN : X.N = NN) (hsc : X.env.scope.names = NMS) (hfn : X.fn = fun _ => true) (mi : X.mg "isinstance" = none) (mz : X.mg "zip" = none) (mv : X.mg "ValueError" = none) (h1 : Hot1 X.A p) (hp : p ∈ X.pn) (F : IsaF G x) {D : Addr} (hD : G.mg x = some (.ref D)) (hz : Zc (.ref D) none p.2) (hb : NB body) :
    PSs X body (tNames X.K p.1 (isaN x)) := by
  obtain ⟨D', e', C, hk, kv⟩ := F.ex
  rw [hD] at e'
  cases e'
  have hf : ∃ vs, p.2.data = .fields vs := let ⟨_, vs, e, _⟩ := h1; ⟨vs, e⟩
  have hot : HotC X := ⟨p, h1, hp⟩
  have n0 : X.N[0]? = some ("_law_error" : Str) := by rw [hN]; rfl
  have n1 : X.N[1]? = some ("_law_some" : Str) := by rw [hN]; rfl
  have n2 : X.N[2]? = some ("_law_labels" : Str) := by rw [hN]; rfl
  have n3 : X.N[3]? = some ("_law_label" : Str) := by rw [hN]; rfl
  have n4 : X.N[4]? = some ("_law_good" : Str) := by rw [hN]; rfl
  have nd : X.N.Nodup := by rw [hN]; decide
  have l1 : Loc X.env.scope "_law_some" := .inl (by rw [hsc]; rfl)
  have l2 : Loc X.env.scope "_law_labels" := .inl (by rw [hsc]; rfl)
  have v1 : Vis X.env.scope "_law_some" := .inl (by rw [hsc]; rfl)
  have v2 : Vis X.env.scope "_law_labels" := .inl (by rw [hsc]; rfl)
  have isi : ∀ (i : Nat) (y : Str) {e : Expr}, errL[i]? = some y → i < 14 → X.env.scope.names.lookup y = some .globalImplicit → (y == ("__debug__" : Str)) = false → IsI y e → PE X e (tIs p.1 (isaN x i)) := fun i y e ei hi gl hd he => by
    obtain ⟨Y, my, k⟩ := hk y (List.mem_of_getElem? ei)
    have eb : isaN x i = decide (y = x) := by
      unfold isaN
      rw [if_neg (by omega), ei]
      by_cases h : y = x
      · subst h; simp
      · simp [h]
    rw [eb]
    exact pe_isP n0 hsc mi hp (gK ▸ C) hz hf gl (gm ▸ my) (gK ▸ k) hd he
  have isv : ∀ {e : Expr}, IsI "ValueError" e → PE X e (tIs p.1 (isaN x 14)) := fun he => pe_isV n0 hsc mi hp (gK ▸ C) hz hf mv (gK ▸ kv) he
  have st : ∀ {y : Str} {e : Expr} {es : List Expr} {env : Env}, IsI y e → starEach (e :: es) env = (false, eval e env) :: starEach es env := fun h => by cases h; rfl
  have lk : ∀ y, y ∈ errL → X.env.scope.names.lookup y = some .globalImplicit := fun y hy => by
    rw [hsc]
    simp only [errL, List.mem_cons, List.not_mem_nil, or_false] at hy
    rcases hy with rfl | rfl | rfl | rfl | rfl | rfl | rfl | rfl | rfl | rfl | rfl | rfl | rfl | rfl <;> rfl
  have db : ∀ y, y ∈ errL → (y == ("__debug__" : Str)) = false := fun y hy => by
    simp only [errL, List.mem_cons, List.not_mem_nil, or_false] at hy
    rcases hy with rfl | rfl | rfl | rfl | rfl | rfl | rfl | rfl | rfl | rfl | rfl | rfl | rfl | rfl <;> decide
  have is' : ∀ (i : Nat) (y : Str) {e : Expr}, errL[i]? = some y → i < 14 → IsI y e → PE X e (tIs p.1 (isaN x i)) := fun i y e ei hi he => isi i y ei hi (lk y (List.mem_of_getElem? ei)) (db y (List.mem_of_getElem? ei)) he
  cases hb with
  | mk h0 h1' h2 h3 h4 h5 h6 h7 h8 h9 h10 h11 h12 h13 h14 hl hl2 =>
    have fn' : ∀ y : Str, X.fn y = true := fun y => by rw [hfn]
    have tri : ∀ {e0 e1 e2 : Expr} {y0 y1 y2 : Str} {a b c : Bool} {q : Pos}, IsI y0 e0 → IsI y1 e1 → IsI y2 e2 → PE X e0 (tIs p.1 a) → PE X e1 (tIs p.1 b) → PE X e2 (tIs p.1 c) → PE X (.List [e0, e1, e2] q) (t3 p.1 a b c) := fun i0 i1 i2 p0 p1 p2 =>
      pe_lst (pa_cons p0 (pa_cons p1 (pa_cons p2 pa_nil (st i2)) (st i1)) (st i0))
    refine pss_cons (ps_set nd n1 l1 (tri h0 h1' h2 (is' 0 _ rfl (by decide) h0) (is' 1 _ rfl (by decide) h1') (is' 2 _ rfl (by decide) h2)) (by rfl) (.inl (fn' _))) ?_
    refine pss_cons (ps_set nd n1 l1 (pe_op op_cat (pe_var n1 v1 (by decide) (by decide)) (tri h3 h4 h5 (is' 3 _ rfl (by decide) h3) (is' 4 _ rfl (by decide) h4) (is' 5 _ rfl (by decide) h5))) (by rfl) (.inl (fn' _))) ?_
    refine pss_cons (ps_set nd n1 l1 (pe_op op_cat (pe_var n1 v1 (by decide) (by decide)) (tri h6 h7 h8 (is' 6 _ rfl (by decide) h6) (is' 7 _ rfl (by decide) h7) (is' 8 _ rfl (by decide) h8))) (by rfl) (.inl (fn' _))) ?_
    refine pss_cons (ps_set nd n1 l1 (pe_op op_cat (pe_var n1 v1 (by decide) (by decide)) (tri h9 h10 h11 (is' 9 _ rfl (by decide) h9) (is' 10 _ rfl (by decide) h10) (is' 11 _ rfl (by decide) h11))) (by rfl) (.inl (fn' _))) ?_
    refine pss_cons (ps_set nd n1 l1 (pe_op op_cat (pe_var n1 v1 (by decide) (by decide)) (tri h12 h13 h14 (is' 12 _ rfl (by decide) h12) (is' 13 _ rfl (by decide) h13) (isv h14))) (by rfl) (.inl (fn' _))) ?_
    refine pss_cons (ps_set nd n2 l2 pe_str (by rfl) (.inl (fn' _))) ?_
    refine pss_one (ps_ret (pe_join pe_str (pe_lcH (own := [("_law_label", 3), ("_law_good", 4)]) hot nd (pi_zzH hot (by show X.env.scope.names.lookup _ = _; rw [hsc]; rfl) mz (pa_cons (pe_split (pe_var n2 v2 (by decide) (by decide)) pe_str rfl rfl hl2) (pa_cons (pe_var n1 v1 (by decide) (by decide)) pa_nil)) rfl (by rfl)) ?_ ?_ ?_ ?_ (fun _ => rfl)) rfl rfl hl))
    · refine ⟨rfl, (show ∀ y ∈ csc, csc.lookup y.1 = some y.2 by decide), fun q hq => ?_, fun q hq z => ?_, fun q hq z => ?_⟩
      · rcases List.mem_cons.mp hq with e | hq
        · rw [e]; exact n3
        · rw [List.mem_singleton.mp hq]; exact n4
      · exfalso
        simp only [csc, List.mem_cons, List.not_mem_nil, or_false] at hq
        rcases hq with rfl | rfl | rfl <;> cases z
      · rw [hN]
        simp only [csc, List.mem_cons, List.not_mem_nil, or_false] at hq
        rcases hq with rfl | rfl | rfl
        · exact .inr (by decide)
        · exact .inl (by decide)
        · exact .inl (by decide)
    · intro s H C' cl fp
      exact pg_tupH (X := blkH X s H _ (compEnvC _ cl C' X.env) fp) (show HotC _ from ⟨p, h1, hp⟩) (pgs_cons (pg_name (i := 3) nd n3 (.inl rfl) (.inr rfl)) (pgs_cons (pg_name (i := 4) nd n4 (.inl rfl) (.inr rfl)) pgs_nil)) rfl rfl
    · intro s H C' cl fp
      exact pts_one (pt_truth (pe_var (i := 4) n4 (.inl rfl) (by decide) (by decide)) fun _ => rfl)
    · intro s H C' cl fp
      exact pe_var (i := 3) n3 (.inl rfl) (by decide) (by decide)
end
end Dn

set_option maxHeartbeats 4000000
namespace Dn
open PySem PySem.Spec PyProof.Rows L2 HotX L2H LamX

/-! ### a def called within an except suite -/
theorem run_ofH {CX : CXT} {P : Program} {w : World} {K : PySem.W.Frag} {mg : Str → Option Value} {base : Heap} {k : Nat} {f : Addr} {name qual : Str} {params : Arguments} {body : List Stmt} {scope : Scope} {dV kV doc pm cdv ct oc : Value} {an od : Option Addr}
    {osl : Array (Option Value)} {N ps : List Str} (lk : K.lookup f = some ⟨oc, od, .func (PySem.W.fnOf name qual params body scope dV kV doc pm an cdv ct), osl⟩) (hcd : PySem.W.codeIn K cdv qual = true) (S : FnScope N ps scope)
    {A : Around} {outer : List Env} {s : Shared} {H : Hp} {args : Args} {us : List Value} {vs : List V} {Q : VK} {E : XK} {p : Addr × Obj} (hr : RoomH (k + 1) A) (hpin : PinOk outer H s p) (e0 : Env0 P w K mg base A outer s H) (hb : BindsTo s (PySem.W.fnOf name qual params body scope dV kV doc pm an cdv ct) args (ps.zip us)) (r : Vals vs us) (hl : vs.length = ps.length)
    (hbody : RoomH k (A.deeper (envOfC qual scope s.heap.objs.size f cdv)) → ∃ t, PSs (cxH CX P w K mg base N qual scope f cdv A outer s H E p) body t ∧ t { nx := fun _ H' => Q .non H', rt := Q } (L2.start N vs) H) :
    codeAny (model P w) A (.call (.ref f) args) (CR CX outer P w H s Q E) s := by
  have KX : K.In s.heap := e0.mod.kin.keeps fun b o e => (e0.bs b o e).1
  have lim : s.heap.NoLimit := e0.mod.nolimit.keeps fun b o e => (e0.bs b o e).1
  have hkind : ∀ y ∈ ps.zip us, scope.names.lookup y.1 = some .local ∨ (scope.names.lookup y.1 = some .cell ∧ ((cellsFrom (s.heap.objs.size + 1) scope.names []).lookup y.1).isSome = true) := fun ⟨n, v⟩ hy => by
    rcases S.par n (List.of_mem_zip hy).1 with q | q
    · exact .inl q
    · exact .inr ⟨q, PySem.W.cellsFrom_some _ _ _ (.inl q)⟩
  refine codeAny_call_function hr.depth (KX _ _ lk) rfl S.co S.gen rfl (PySem.W.codeRec_of KX hcd) (hb _ _ _ _ ?_)
  refine wpAny_newFunctionEnv_cells S.kind hkind fun env he s1 x => ?_
  subst he
  refine ⟨lim.keeps x.toInCall.keep, codeAny_func ?_⟩
  obtain ⟨t, ht, hq⟩ := hbody (hr.deeper _)
  have I : Inv (cxH CX P w K mg base N qual scope f cdv A outer s H E p) [] (L2.start N vs) H s1 := inv_startH S hpin e0 hl r x
  refine wpAny_mono (ht.run [] s1 (L2.start N vs) H _ I hq) (fun fl s' hs => ?_) fun e s' hs => hs
  have fin : ∀ {σ' : L2.St} {H' : Hp} {v : V} {u : Value}, Inv (cxH CX P w K mg base N qual scope f cdv A outer s H E p) [] σ' H' s' → L2.RelV v u → Q v H' → CE outer P w H s Q u s' :=
    fun {σ' H' v u} J rv q => ⟨v, H', J.os, J.bare, J.base, J.hok, rv, q⟩
  cases fl with
  | ret u =>
    obtain ⟨v, σ', H', J, rv, q⟩ := hs
    exact fin J rv q
  | next =>
    obtain ⟨σ', H', J, q⟩ := hs
    exact fin (v := V.non) (u := Value.none) J rfl q
  | brk =>
    obtain ⟨_, _, _, q⟩ := hs
    exact False.elim q
  | cont =>
    obtain ⟨_, _, _, q⟩ := hs
    exact False.elim q
/-- the def that names an error -/
structure NamesH (G : Gx) : Prop where
  ex : ∃ f fd, G.mg "_law_names" = some (.ref f) ∧ PySem.W.keepIn G.K (.ref f) = true ∧ L2.Binds G.K fd ["_law_error"] [] ∧
    ∀ (A : Around) (outer : List Env) (s : Shared) (H : Hp) (Q : VK) (p : Addr × Obj) (x : Str) (D : Addr) (mu : Mu) (h : MH), RoomH 1 A → Hot1 A p → PinOk outer H s p → Env0 G.prog G.w G.K G.mg G.base A outer s H → BindsTo s fd ⟨[.ref p.1], []⟩ [("_law_error", .ref p.1)] →
      IsaF G x → G.mg x = some (.ref D) → Zc (.ref D) none p.2 → HR G mu h H → (∀ H', HR G mu h H' → Ext mu H mu H' → Q (.str (namesD x)) H') → codeAny (model G.prog G.w) A (.call (.ref f) ⟨[.ref p.1], []⟩) (CR C8.CX0 outer G.prog G.w H s Q C8.E0) s
theorem PSs.nox' {X : Cx} {ss : List Stmt} {t : TS} (h : PSs X.nox ss t) : PSs X ss t := PSs.nox h
theorem namesH_of {G : Gx} {qual : Str} {params : Arguments} {body : List Stmt} {scope : Scope} {f : Addr} {fd : FuncData} (F : FunD G.K "_law_names" qual params body scope [] [] f fd) (hg : G.mg "_law_names" = some (.ref f)) (S : FnScope NN ["_law_error"] scope) (hbd : L2.Binds G.K fd ["_law_error"] []) (hsc : scope.names = NMS) (hb : NB body)
    (mi : G.mg "isinstance" = none) (mz : G.mg "zip" = none) (mv : G.mg "ValueError" = none) : NamesH G := by
  obtain ⟨oc, od, dV, kV, doc, pm, an, cdv, ct, osl, rfl, lk, hcd, _, _⟩ := F.ex
  refine ⟨f, _, hg, F.kp, hbd, fun A outer s H Q p x D mu h hr hot hpin e0 hb' isa hD hz hr' q => ?_⟩
  refine run_ofH (N := NN) (ps := ["_law_error"]) (us := [.ref p.1]) (vs := [.ref p.1]) (k := 0) lk hcd S hr hpin e0 hb' (.cons rfl .nil) rfl fun _ => ?_
  refine ⟨_, names_pss (G := G) (X := cxH C8.CX0 G.prog G.w G.K G.mg G.base NN qual scope f cdv A outer s H C8.E0 p) (p := p) rfl rfl rfl hsc rfl mi mz mv hot (List.mem_singleton.mpr rfl) isa hD hz hb, ?_⟩
  exact names_sem hr' q
/-- its call in a suite: slot i holds the error -/
theorem pe_names {G : Gx} {X : Cx} {a : Addr} {oe : Obj} {pn : List (Addr × Obj)} {p1 p2 p3 : Pos} {i : Nat} {n : Str} (NH : NamesH G) (gp : G.prog = X.prog) (gw : G.w = X.w) (gK : G.K = X.K) (gm : G.mg = X.mg) (gb : G.base = X.base) (hr : RoomH 1 X.A) (hz2 : ∃ cls d, L2N.Zn cls d oe) (hf : ∃ vs, oe.data = .fields vs) (hg : Gl X "_law_names") (hN : X.N[i]? = some n) (hv : Vis X.env.scope n) (hd : (n == ("__debug__" : Str)) = false) (hcd : (n == ("__classdict__" : Str)) = false) :
    PE (X.suite a ((a, oe) :: pn)) (.Call (.Name "_law_names" p1) [.Name n p2] [] p3) (fun σ H Q => σ[i]? = some (some (.ref a)) ∧ ∃ x D mu h, IsaF G x ∧ G.mg x = some (.ref D) ∧ Zc (.ref D) none oe ∧ HR G mu h H ∧ ∀ H', HR G mu h H' → Ext mu H mu H' → Q (.str (namesD x)) H') := by
  obtain ⟨f, fd, hm, hk, hb, run⟩ := NH.ex
  obtain ⟨vs, hvs⟩ := hf
  obtain ⟨cls, d, zn⟩ := hz2
  rw [gp, gw, gK, gm, gb] at run
  refine ⟨fun pins s σ H Q I h => ?_⟩
  obtain ⟨hs, x, D, mu, hh, isa, hD, hz, hr', q⟩ := h
  refine wpAny_Call_Name_kw (ld_glob I hg (gm ▸ hm) ?_ (by decide))
  refine PySem.W.callWith_K (h₀ := X.base) I.ok.mod.kin (gK ▸ hk) (thn ((pa_cons (pe_var (X := X.suite a ((a, oe) :: pn)) (i := i) (pos := p2) hN hv hd hcd) pa_nil).run p3 pins s σ H (fun xs H1 => xs = [.ref a] ∧ H1 = H) I ⟨.ref a, hs, rfl, rfl⟩) fun us s1 ⟨xs, H1, I1, r, ex, eH⟩ => ⟨I1.kIn, ?_⟩) rfl rfl
  subst ex
  subst eH
  cases r with
  | cons ra rr =>
    cases rr
    cases ra
    have b := hb s1 [.ref a] (gK ▸ I1.kIn) rfl
    have P1 := I1.pin (a, oe) (List.mem_append_left _ List.mem_cons_self)
    have hpin : PinOk X.stack H1 s1 (a, oe) := ⟨P1.1, P1.2.1, fun hm => (List.mem_cons.mp (I1.stkSub a hm)).elim P1.2.2.1 P1.2.2.2.1, P1.2.2.2.2⟩
    have hot : Hot1 (X.suite a ((a, oe) :: pn)).A (a, oe) := ⟨rfl, vs, hvs, zn.2.2 vs hvs⟩
    refine wpAny_call (codeAny_mono (run _ X.stack s1 H1 Q (a, oe) x D mu hh ⟨hr.dp, hr.un⟩ hot hpin I1.env0 b isa (gm ▸ hD) hz hr' q) fun r s' hq => ?_)
    cases r with
    | error e => exact False.elim hq
    | ok fl =>
      cases fl with
      | ret u => exact I1.after hq
      | next => exact False.elim hq
      | brk => exact False.elim hq
      | cont => exact False.elim hq
end Dn

set_option maxHeartbeats 4000000
namespace Dn
open PySem PySem.Spec PyProof.Rows L2 HotX L2H LamX

/-! ### try: (return) call() / except ChainError as e: return names(e) -/
def WN : List Str := ["_law_call", "_law_error"]
inductive TB : Bool → List Stmt → Prop
  | tried {p1 p2 p3 p4 p5 p6 p7 p8 p9 p10 : Pos} : TB true [.Try [.Return (some (.Call (.Name "_law_call" p1) [] [] p2)) p3] [.ExceptHandler (some (.Name "ChainError" p4)) (some "_law_error") [.Return (some (.Call (.Name "_law_names" p5) [.Name "_law_error" p6] [] p7)) p8] p9] [] [] p10]
  | word {p1 p2 p3 p4 p5 p6 p7 p8 p9 p10 p11 p12 : Pos} {j : Nat} : TB false [.Try [.Expr (.Call (.Name "_law_call" p1) [] [] p2) p3] [.ExceptHandler (some (.Name "ChainError" p4)) (some "_law_error") [.Return (some (.Call (.Name "_law_names" p5) [.Name "_law_error" p6] [] p7)) p8] p9] [] [] p10, .Return (some (.Constant (.str "") j p11)) p12]
/-- an error of ours, caught by ChainError -/
structure ErrF (G : Gx) (CE : Addr) (x : Str) : Prop where
  isa : IsaF G x
  exm : ∀ D, G.mg x = some (.ref D) → PySem.W.exmOne G.K (.ref D) (.ref CE) = some true
def EH (G : Gx) (CE : Addr) (Q : VK) : XK := fun cls d H' => ∃ x Dx mu h, cls = .ref Dx ∧ d = none ∧ ErrF G CE x ∧ G.mg x = some (.ref Dx) ∧ HR G mu h H' ∧ ∀ H'', HR G mu h H'' → Ext mu H' mu H'' → Q (.str (namesD x)) H''
def TTw (G : Gx) (CE : Addr) : Bool → (XK → Hp → VK → Prop) → Hp → VK → Prop
  | true, tl, H, Q => tl (EH G CE Q) H Q
  | false, tl, H, Q => tl (EH G CE Q) H fun _ H' => Q (.str "") H'
def tsN (G : Gx) (a : Addr) (cls : Value) (d : Option Addr) : TS := fun D σ H => (σ.length = 2 → σ[1]? = some (some (.ref a))) ∧ ∃ x Dx mu h, cls = .ref Dx ∧ d = none ∧ IsaF G x ∧ G.mg x = some (.ref Dx) ∧ HR G mu h H ∧ ∀ H', HR G mu h H' → Ext mu H mu H' → D.rt (.str (namesD x)) H'
section
variable {G : Gx} {X : Cx} {CE : Addr}
theorem gives_tb {x q : Str} {sg : Scope} {g : Addr} {cdg : Value} {bg : List Stmt} {wd : Bool} (hb : TB wd bg) (gG : ∃ T, G = gx X T) (NH : NamesH G) (hCE : G.mg "ChainError" = some (.ref CE)) (s1 : sg.names.lookup ("ChainError" : Str) = some .globalImplicit) (s2 : sg.names.lookup ("_law_names" : Str) = some .globalImplicit) (s3 : sg.names.lookup ("_law_error" : Str) = some .local) :
    GivesN X WN x sg g cdg bg "_law_call" q (TTw G CE wd) := by
  intro f c' s H Q tl act hc room h
  obtain ⟨T, gG⟩ := gG
  have gp : G.prog = X.prog := by rw [gG]; rfl
  have gw : G.w = X.w := by rw [gG]; rfl
  have gK : G.K = X.K := by rw [gG]; rfl
  have gm : G.mg = X.mg := by rw [gG]; rfl
  have gb : G.base = X.base := by rw [gG]; rfl
  have rH : RoomH 1 (X.A.deeper (envOfC x sg s.heap.objs.size g cdg)) := roomH_of (room.mono (by decide))
  have suite : ∀ {p5 p6 p7 p8 : Pos} (a : Addr) (oe : Obj) (cls : Value) (d : Option Addr) (pn : List (Addr × Obj)), L2N.Zn cls d oe → (∃ vs, oe.data = .fields vs) →
      PSs (((cxOf C8.CX0 X.prog X.w X.K X.mg X.base WN x sg g cdg X.A X.stack s H C8.E0).nox).suite a ((a, oe) :: pn)) [.Return (some (.Call (.Name "_law_names" p5) [.Name "_law_error" p6] [] p7)) p8] (tsN G a cls d) := by
    intro p5 p6 p7 p8 a oe cls d pn zn hf
    refine ⟨fun pins s' σ H' D I h' => ?_⟩
    obtain ⟨h1, y, Dx, mu, hh, rfl, rfl, isa, hD, hr, q⟩ := h'
    refine (pss_one (ps_ret (pe_names (G := G) (X := (cxOf C8.CX0 X.prog X.w X.K X.mg X.base WN x sg g cdg X.A X.stack s H C8.E0).nox) (i := 1) (n := "_law_error") NH gp gw gK gm gb rH ⟨_, _, zn⟩ hf s2 rfl (.inl s3) (by decide) (by decide)))).run pins s' σ H' D I ?_
    exact ⟨h1 I.len, y, Dx, mu, hh, isa, hD, zn.zc, hr, q⟩
  have wash : ∀ (D : Ends) (R : VK), (∀ v H, D.rt v H = R v H) → ∀ cls d σ' H', EH G CE R cls d H' → wAs (((cxOf C8.CX0 X.prog X.w X.K X.mg X.base WN x sg g cdg X.A X.stack s H C8.E0).nox)).K (.ref CE) 1 (tsN G) (fun _ _ _ _ => False) D cls d σ' H' := by
    intro D R hR cls d σ' H' e
    obtain ⟨y, Dx, mu, hh, rfl, rfl, ef, hD, hr, qq⟩ := e
    refine ⟨true, gK ▸ ef.exm Dx hD, fun _ a na => ⟨fun hl => ?_, y, Dx, mu, hh, rfl, rfl, ef.isa, hD, hr, fun H'' h1 h2 => ?_⟩, fun z => Bool.noConfusion z⟩
    · rw [List.length_set] at hl
      exact List.getElem?_set_self (by omega)
    · show D.rt _ _
      rw [hR]
      exact qq H'' h1 h2
  cases hb with
  | tried =>
    refine ⟨_, pss_one (L2N.ps_try_as (X := (cxOf C8.CX0 X.prog X.w X.K X.mg X.base WN x sg g cdg X.A X.stack s H C8.E0).nox) (c := .ref CE) (i := 1) (ts := tsN G)
      (tb := fun W D σ H => ∃ Ech : XK, (∀ cls d σ' H', Ech cls d H' → W cls d σ' H') ∧ σ[0]? = some (some (.ref f)) ∧ H c' = some (CodeO c' q) ∧ tl Ech H D.rt)
      rfl rfl (show WN.Nodup by decide) rfl s3 ⟨s1, by decide, .inl (gm ▸ hCE)⟩ takesF (fun W pn xe tk _ => ?_) suite), ?_⟩
    · refine ⟨fun pins s' σ H' D I h' => ?_⟩
      obtain ⟨Ech, hW, h1, h2, h3⟩ := h'
      exact (pss_one (ps_ret (act W pn xe Ech _ _ tk hW))).run pins s' σ H' D I ⟨h1, h2, h3⟩
    · exact ⟨EH G CE Q, wash _ Q (fun _ _ => rfl), rfl, hc, h⟩
  | word =>
    refine ⟨_, pss_cons (L2N.ps_try_as (X := (cxOf C8.CX0 X.prog X.w X.K X.mg X.base WN x sg g cdg X.A X.stack s H C8.E0).nox) (c := .ref CE) (i := 1) (ts := tsN G)
      (tb := fun W D σ H => ∃ Ech : XK, (∀ cls d σ' H', Ech cls d H' → W cls d σ' H') ∧ σ[0]? = some (some (.ref f)) ∧ H c' = some (CodeO c' q) ∧ tl Ech H fun _ H' => D.nx σ H')
      rfl rfl (show WN.Nodup by decide) rfl s3 ⟨s1, by decide, .inl (gm ▸ hCE)⟩ takesF (fun W pn xe tk _ => ?_) suite) (pss_one (ps_ret pe_str)), ?_⟩
    · refine ⟨fun pins s' σ H' D I h' => ?_⟩
      obtain ⟨Ech, hW, h1, h2, h3⟩ := h'
      exact (pss_one (ps_expr (act W pn xe Ech _ _ tk hW) (by rfl))).run pins s' σ H' D I ⟨h1, h2, h3⟩
    · exact ⟨EH G CE Q, wash _ Q (fun _ _ => rfl), rfl, hc, h⟩

/-! ### the DE rule -/
/-- the def that takes the lambda, as it stands -/
structure LamF (G : Gx) (x : Str) (wd : Bool) : Prop where
  ex : ∃ (g : Addr) (pg : Arguments) (bg : List Stmt) (sg : Scope) (dV kV doc pm cdv ct oc : Value) (an od : Option Addr) (osl : Array (Option Value)), G.mg x = some (.ref g) ∧ PySem.W.keepIn G.K (.ref g) = true ∧
    G.K.lookup g = some ⟨oc, od, .func (PySem.W.fnOf x x pg bg sg dV kV doc pm an cdv ct), osl⟩ ∧ PySem.W.codeIn G.K cdv x = true ∧ L2.Binds G.K (PySem.W.fnOf x x pg bg sg dV kV doc pm an cdv ct) ["_law_call"] [] ∧ FnScope WN ["_law_call"] sg ∧
    sg.names.lookup ("_law_call" : Str) = some .local ∧ sg.names.lookup ("ChainError" : Str) = some .globalImplicit ∧ sg.names.lookup ("_law_names" : Str) = some .globalImplicit ∧ sg.names.lookup ("_law_error" : Str) = some .local ∧ TB wd bg
theorem lamF_of {G : Gx} {x : Str} {wd : Bool} {pg : Arguments} {bg : List Stmt} {sg : Scope} {f : Addr} {fd : FuncData} (F : FunD G.K x x pg bg sg [] [] f fd) (hg : G.mg x = some (.ref f)) (hbd : L2.Binds G.K fd ["_law_call"] []) (S : FnScope WN ["_law_call"] sg)
    (s0 : sg.names.lookup ("_law_call" : Str) = some .local) (s1 : sg.names.lookup ("ChainError" : Str) = some .globalImplicit) (s2 : sg.names.lookup ("_law_names" : Str) = some .globalImplicit) (s3 : sg.names.lookup ("_law_error" : Str) = some .local) (hb : TB wd bg) : LamF G x wd := by
  obtain ⟨oc, od, dV, kV, doc, pm, an, cdv, ct, osl, rfl, lk, hcd, _, _⟩ := F.ex
  exact ⟨⟨f, pg, bg, sg, dV, kV, doc, pm, cdv, ct, oc, an, od, osl, hg, F.kp, lk, hcd, hbd, S, s0, s1, s2, s3, hb⟩⟩
/-- the maker's table of code objects -/
structure TabF (G : Gx) (sc : Scp) : Prop where
  ex : ∃ c P, sc.c = some c ∧ TabB G.base G.mg c P ∧ (P, sc.q ++ "<lambda>") ∈ G.T ∧ ∀ p ∈ G.T, p.1 = P → p.2 = sc.q ++ "<lambda>"
theorem TabF.blk {G : Gx} {sc : Scp} {s : Scope} (F : TabF G sc) : TabF G (sc.blk s) := ⟨F.ex⟩
/-- what is caught -/
structure CatF (G : Gx) : Prop where
  ex : ∃ CE, G.mg "ChainError" = some (.ref CE) ∧ ∀ x ∈ errL, ErrF G CE x
def tryW (wd : Bool) : Option (Out W × MH) → Option (Out W × MH)
  | some (.ok w, h') => if wd = true then (retW w).map fun w => (.ok w, h') else some (.ok (.d (.str "")), h')
  | some (.ex c [], h') => if errL.contains c = true then some (.ok (.d (.str (namesD c))), h') else none
  | _ => none
def dTry (wd : Bool) (m : Den W) : Den W := fun rho h => tryW wd (m rho h)
theorem lam_ext {G : Gx} {mu : Mu} {h : MH} {H H1 : Hp} (hr : HR G mu h H) (eN : ExtN H H1) (eT : ∀ a, H1 a = none → H a = none) (T1 : Tabs G.T H1) : HR G mu h H1 ∧ Ext mu H mu H1 := by
  have st : Stay H H1 := ⟨fun a xs e => eN a _ e fun _ z => (by cases z), fun a o u e => eN a _ e fun _ z => (by cases z)⟩
  exact ⟨hr.keep st (fun a u e ht => eN a u e ht) T1, ⟨fun n p h => ⟨p.2, h⟩, fun a o e _ ht => eN a o e ht, fun _ z => .inl z, st, eT⟩⟩
theorem de_try {G : Gx} {N : List Str} {sc : Scp} {k : Nat} {x : Str} {wd : Bool} {params : Arguments} {body : Expr} {scope : Scope} {m : Den W} {p lpos pos : Pos} (F : LamF G x wd) (NH : NamesH G) (C : CatF G) (TF : TabF G sc) (hg : sc.s.names.lookup x = some .globalImplicit) (hdb : (x == ("__debug__" : Str)) = false) (hk : 40 ≤ k + 1)
    (L : lamSB sc.s scope = true) (hdef : ∀ env, defaultsOf params env = ([], [])) (hbind : ∀ (q : Str) (cl : List (Str × Addr)) (pm cv ctv : Value), bindArgs (PySem.W.kla_fn "<lambda>" q params body scope cl pm cv ctv) ⟨[], []⟩ = pure [])
    (hm : DE G N ⟨scope, "", none⟩ k body m) : DE G N sc (k + 2) (.Call (.Name x p) [.Lambda params body scope lpos] [] pos) (dTry wd m) := by
  obtain ⟨g, pg, bg, sg, dV, kV, doc, pm, cdv, ct, oc, an, od, osl, f1, f2, f3, f4, f5, f6, s0, s1, s2, s3, hb⟩ := F.ex
  obtain ⟨CE, hCE, hE⟩ := C.ex
  obtain ⟨c, P, tc, tb, tm, tu⟩ := TF.ex
  refine ⟨fun X Wx ft tk => ?_⟩
  obtain ⟨eK, em⟩ := fits_gx ft
  have eb : G.base = X.base := by obtain ⟨T, e⟩ := ft.g; rw [e]; rfl
  obtain ⟨hcode, hq⟩ := ft.cd c tc
  refine PE.imp (pe_lamcallN (T := G.T) (TT := TTw G CE wd) (x := x) (a := "_law_call") (k := k) (t := fun E => tden G (fun cls d _ H => E cls d H) m) (by show X.env.scope.names.lookup x = _; rw [ft.sc]; exact hg) (em ▸ f1) (eK ▸ f2) (eK ▸ f3) (eK ▸ f4) (eK ▸ f5) f6 rfl (.inl s0)
    (gives_tb hb ft.g NH hCE s1 s2 s3) (eb ▸ em ▸ tb) hcode (by rw [hq]; exact tm) (by rw [hq]; exact tu) ft.room hk (by rw [ft.sc]; exact lamS_by L) (hdef X.env) hbind (fun A outer s H E f c' hr => ?_) hdb (by decide) (by decide)) ?_
  · have fl : Fits (lamCxN X A outer s H E scope f c') G N ⟨scope, "", none⟩ k := ⟨ft.g, ft.n, fun c z => (by cases z), rfl, hr, rfl, ft.nd⟩
    exact hm.pe _ _ fl (L2N.takes_of rfl rfl rfl rfl)
  · rintro σ H Q ⟨mu, rho, h, sr, pst⟩
    refine ⟨sr.hr.tabs, fun H1 eN eT T1 => ?_⟩
    obtain ⟨hr1, e1⟩ := lam_ext sr.hr eN eT T1
    have sr1 := sr.ext hr1 e1
    unfold dTry at pst
    rcases e : m rho h with _ | ⟨w | ⟨cx, fs⟩, h'⟩
    · rw [e] at pst; exact pst.elim
    · rw [e] at pst
      cases wd with
      | true =>
        refine ⟨mu, rho, h, sr1, ?_⟩
        rw [e]
        intro v H' mu' hr' ex' rw'
        have pst' : Post G Wx mu H σ Q ((retW w).map fun w => (.ok w, h')) := pst
        cases er : retW w with
        | none => rw [er] at pst'; exact pst'.elim
        | some w' =>
          rw [er] at pst'
          have ew : w' = w := by
            cases w <;> first | (cases er; rfl) | (cases er)
          subst ew
          exact pst' v H' mu' hr' (e1.trans ex') (rw'.back e1)
      | false =>
        refine ⟨mu, rho, h, sr1, ?_⟩
        rw [e]
        intro v H' mu' hr' ex' rw'
        have pst' : Post G Wx mu H σ Q (some (.ok (.d (.str "")), h')) := pst
        exact pst' (.str "") H' mu' hr' (e1.trans ex') (.str _)
    · rw [e] at pst
      cases fs with
      | cons f fs => exact pst.elim
      | nil =>
        have pst0 : Post G Wx mu H σ Q (if errL.contains cx = true then some (.ok (.d (.str (namesD cx))), h') else none) := pst
        by_cases hc : errL.contains cx = true
        · rw [if_pos hc] at pst0
          have fin : ∀ cls d H' mu', HR G mu' h' H' → Ext mu H1 mu' H' → RepX G H' cx [] cls d → EH G CE Q cls d H' := by
            intro cls d H' mu' hr' ex' rx
            obtain ⟨Dx, hD, rfl, hfs⟩ := rx
            have dn : d = none := by
              rcases hfs with ⟨_, e⟩ | ⟨e, _⟩
              · exact e
              · exact absurd rfl e
            exact ⟨cx, Dx, mu', h', rfl, dn, hE cx (by simpa using hc), hD, hr', fun H'' hr'' ex'' => pst0 (.str _) H'' mu' hr'' ((e1.trans ex').trans ex'') (.str _)⟩
          cases wd with
          | true => exact ⟨mu, rho, h, sr1, by rw [e]; exact fin⟩
          | false => exact ⟨mu, rho, h, sr1, by rw [e]; exact fin⟩
        · rw [if_neg hc] at pst0
          exact pst0.elim
end
end Dn

set_option maxHeartbeats 4000000
namespace Dn
open PySem PySem.Spec PyProof.Rows L2

theorem truW_ok {X : Cx} {G : Gx} {N : List Str} {sc : Scp} {k : Nat} (ft : Fits X G N sc k) {mu : Mu} {h : MH} {H0 H : Hp} {w : W} {x : V} {b : Bool} (hr : HR G mu h H) (r : RepW G mu H0 H w x) (e : truW h w = some b) : TruV X.K x H b := by
  have hK := (fits_gx ft).1
  have opt : (lw h w).map (fun ds => !ds.isEmpty) = some b → TruV X.K x H b := fun q => by
    obtain ⟨ds, q1, q2⟩ := Option.map_eq_some_iff.mp q
    obtain ⟨a, vs, rfl, a1, a2⟩ := lw_rep hr r q1
    exact .inl ⟨vs, .inl a1, by rw [← q2, a2.isEmpty]⟩
  unfold truW at e
  split at e
  · cases (Option.some.inj e); cases r; rfl
  · cases (Option.some.inj e); cases r; rfl
  · cases (Option.some.inj e); cases r; rfl
  · split at e
    · rename_i hz
      cases (Option.some.inj e); cases r
      exact ⟨by rw [lim_eq]; exact hz, rfl⟩
    · cases e
  · cases (Option.some.inj e)
    obtain ⟨a, vs, rfl, a1, a2⟩ := tw_rep r rfl
    exact .inr (.inl ⟨vs, hK ▸ a1.sq, by rw [a2.isEmpty]⟩)
  · exact opt e
def dNotW (m : Den W) : Den W := dBind m fun w _ h => (truW h w).map fun b => (.ok (.d (.bl (!b))), h)
section
variable {G : Gx} {N : List Str} {sc : Scp} {k : Nat} {pos : Pos} {a : Expr} {ma : Den W}
theorem de_not (ha : DE G N sc k a ma) : DE G N sc k (.UnaryOp .Not a pos) (dNotW ma) := by
  refine ⟨fun X Wx ft tk => PE.imp (pe_notT (ha.pe X Wx ft tk)) ?_⟩
  rintro st H Q ⟨mu, rho, h, sr, p⟩
  refine bind_post sr p fun w h1 x H1 mu1 sr1 e1 rw' p1 => ?_
  have p1' : Post G Wx mu1 H1 st Q ((truW h1 w).map fun b => (.ok (.d (.bl (!b))), h1)) := p1
  cases e : truW h1 w with
  | none => rw [e] at p1'; exact p1'.elim
  | some b =>
    rw [e] at p1'
    exact ⟨b, truW_ok ft sr1.hr rw' e, p1' (.bl (!b)) H1 mu1 sr1.hr (Ext.refl _ _) (.bl _)⟩
end
end Dn

set_option maxHeartbeats 4000000
namespace Dn
open PySem PySem.Spec PyProof.Rows L2

def visB (sc : Scope) (x : Str) : Bool := match sc.names.lookup x with
  | some .local => true
  | some .cell => true
  | some .free => true
  | _ => false
theorem vis_by {sc : Scope} {x : Str} (h : visB sc x = true) : Vis sc x := by
  unfold visB at h
  split at h
  · exact .inl (by assumption)
  · exact .inr (.inl (by assumption))
  · exact .inr (.inr (by assumption))
  · cases h
def locB (sc : Scope) (x : Str) : Bool := match sc.names.lookup x with
  | some .local => true
  | some .cell => true
  | _ => false
theorem loc_by {sc : Scope} {x : Str} (h : locB sc x = true) : Loc sc x := by
  unfold locB at h
  split at h
  · exact .inl (by assumption)
  · exact .inr (by assumption)
  · cases h
def envS (sc : Scope) : Env := { scope := sc, locals := 0, globals := 0, cells := [], qual := Str.empty, func := none, code := .none, frame := none, builtins := 0 }
theorem sw_stores {sc : Scope} {ts : List Expr} {v : Expr} {r : Sem (Option (List Str))} (h : swappedStores ts v (envS sc) = r) : ∀ env : Env, env.scope = sc → swappedStores ts v env = r := fun env e => by
  rw [← h]
  unfold swappedStores Env.blockKind Env.kindOf
  rw [e]
  rfl
theorem sw_with {sc : Scope} {e : Expr} {t : Option Expr} {l : Nat} {r : Sem Bool} (h : swapsWith e t l (envS sc) = r) : ∀ env : Env, env.scope = sc → swapsWith e t l env = r := fun env q => by
  rw [← h]
  unfold swapsWith Env.blockKind Env.kindOf
  rw [q]
  rfl
theorem sw_sole {sc : Scope} {e : Expr} {t : List Expr} {l : Nat} {r : Sem Bool} (h : swapsWithSole t e l (envS sc) = r) : ∀ env : Env, env.scope = sc → swapsWithSole t e l env = r := fun env q => by
  rw [← h]
  cases t with
  | nil => rfl
  | cons a t => cases t with
    | nil => exact sw_with rfl env q
    | cons b t => rfl
section
variable {G : Gx} {N : List Str} {sc : Scp} {k : Nat} {pos : Pos} {x : Str}
theorem de_globI {i : Int} (hg : sc.s.names.lookup x = some .globalImplicit) (hm : ∃ u, G.mg x = some u ∧ RelV (.int i) u) (hd : (x == ("__debug__" : Str)) = false) : DE G N sc k (.Name x pos) (dCst (.int i)) :=
  let ⟨_, h1, h2⟩ := hm
  de_glob hg h1 h2 (fun _ => .int i) hd
theorem de_globS {i : Str} (hg : sc.s.names.lookup x = some .globalImplicit) (hm : ∃ u, G.mg x = some u ∧ RelV (.str i) u) (hd : (x == ("__debug__" : Str)) = false) : DE G N sc k (.Name x pos) (dCst (.str i)) :=
  let ⟨_, h1, h2⟩ := hm
  de_glob hg h1 h2 (fun _ => .str i) hd
end
end Dn

set_option maxHeartbeats 4000000
namespace Dn
open PySem PySem.Spec PyProof.Rows L2 LamX

/-! ### the law's own function -/
theorem fnok_law {G : Gx} {N ps : List Str} {k : Nat} {x qual : Str} {params : Arguments} {body : List Stmt} {scope : Scope} {f c : Addr} {fd : FuncData} {m : DenS} (F : FunD G.K x qual params body scope [] [] f fd) (hc : fd.code = .ref c) (S : FnScope N ps scope)
    (hb : DSs G N ⟨scope, qual ++ ".<locals>.", some c⟩ k body m) : FnOk G.prog G.w G.K G.mg G.base (L2N.CX G.prog G.w) (k + 1) f fd ps (spD G ps.length (runD N m)) := by
  obtain ⟨oc, od, dV, kV, doc, pm, an, cdv, ct, osl, rfl, lk, hcd, _, _⟩ := F.ex
  obtain rfl : cdv = .ref c := hc
  exact fn_of lk hcd S (fun vs H Q E h => h.1) fun A outer s H vs Q E hr h => fnok_body S rfl hb (fun c' e => by cases e; exact ⟨rfl, rfl⟩) hr h

/-! ### the script -/
/-- the same promise where the script's list is not yet held -/
def spL (phi : Phi) (n : Nat) (T : List (Addr × Str)) : Sp := fun vs H Q E => ∃ (a : Addr) (ns : List Int), vs = [.ref a] ∧ ns.length ≤ n ∧ Rd H a (.lst (ns.map V.int)) ∧ Tabs T H ∧ ∀ H', Q (.bl true) H'
theorem fnok_spL {G : Gx} {k n : Nat} {f : Addr} {fd : FuncData} {ps : List Str} {phi : Phi} (F : FnOk G.prog G.w G.K G.mg G.base (L2N.CX G.prog G.w) k f fd ps (spD G 1 phi)) (hn : n ≤ sizeLine)
    (hps : ps.length = 1) (hphi : ∀ ns : List Int, ns.length ≤ n → ∃ h', phi [.d (.lst (ns.map .int))] [] = some (.ok (.d (.bl true)), h')) : FnOk G.prog G.w G.K G.mg G.base (L2N.CX G.prog G.w) k f fd ps (spL phi n G.T) := by
  refine ⟨fun vs H Q E ⟨a, ns, e, _⟩ => by rw [e, hps]; rfl, fun A outer s H args us vs Q E hr e0 hb rv ⟨a, ns, e, hl, hrd, hT, hQ⟩ => ?_⟩
  subst e
  obtain ⟨h', hp⟩ := hphi ns hl
  -- where the list is frozen
  have main : ∀ H1 : Hp, Env0 G.prog G.w G.K G.mg G.base A outer s H1 → FzL H1 a (ns.map V.int) → Tabs G.T H1 → codeAny (model G.prog G.w) A (.call (.ref f) args) (CR (L2N.CX G.prog G.w) outer G.prog G.w H1 s Q fun _ _ _ => False) s := fun H1 e1 fz T1 => by
    refine F.run A outer s H1 args us _ Q _ hr e1 hb rv ⟨rfl, [], [], [.d (.lst (ns.map .int))], H1, ⟨rfl, List.nodup_nil, fun n p o h => (by cases n <;> cases h), T1, fun b hb => (by cases hb)⟩, .cons (RepD.lst fz RepDs.of_ints) (fun ds e => by cases e) .nil, ?_, ?_⟩
    · intro w hw
      cases List.mem_singleton.mp hw
      exact ⟨fun ds => W.noConfusion, fun ds => W.noConfusion, W.noConfusion⟩
    · rw [hp]
      intro v H' mu' _ _ r
      obtain rfl : v = .bl true := by
        have r' : RepD G H' (.bl true) v := r
        cases r'
        rfl
      exact hQ H'
  have back : ∀ H1 : Hp, (∀ b, b ≠ a → H1 b = H b) → H a ≠ none → (∀ xs, H a ≠ some (.tup xs)) → (∀ o u, H a ≠ some (.frz o u)) → (∀ ps, H a ≠ some (.tbl ps)) → ∀ r s', CR (L2N.CX G.prog G.w) outer G.prog G.w H1 s Q (fun _ _ _ => False) r s' → CR (L2N.CX G.prog G.w) outer G.prog G.w H s Q E r s' := by
    intro H1 hne ha h1 h2 h3 r s' h
    cases r with
    | error e =>
      obtain ⟨_, _, _, _, _, _, _, _, _, _, _, _, z⟩ := h
      exact z.elim
    | ok fl =>
      cases fl with
      | ret u =>
        obtain ⟨v, H', os, bare, un, hok, rv, q⟩ := h
        refine ⟨v, H', os, bare, ⟨fun b o e n => ?_, fun b o e n => ?_, fun b o e n => ?_, un.there, fun b xs e => ?_, fun b o u e => ?_, fun b ps e => ?_⟩, hok, rv, q⟩
        · exact un.keep b o e ((hne b fun z => ha (z ▸ n)).trans n)
        · exact un.slot b o e ((hne b fun z => ha (z ▸ n)).trans n)
        · exact un.free b o e ((hne b fun z => ha (z ▸ n)).trans n)
        · exact un.tups b xs ((hne b fun z => h1 xs (z ▸ e)).trans e)
        · exact un.frzs b o u ((hne b fun z => h2 o u (z ▸ e)).trans e)
        · exact un.tbls b ps ((hne b fun z => h3 ps (z ▸ e)).trans e)
      | next => exact h
      | brk => exact h
      | cont => exact h
  rcases hrd with hl' | ⟨o, hf⟩
  · obtain ⟨z, its, n', r, e⟩ : ObjOk G.prog G.w H s.heap a (.lst (ns.map V.int)) := e0.hok a _ hl'
    have nb : ∀ b u, H b = some u → (∀ ys, u ≠ .lst ys) → b ≠ a := fun b u q hn z => by
      subst z
      rw [hl'] at q
      exact hn _ (Option.some.inj q).symm
    have hok : HOk G.prog G.w (upd H a (.frz { cls := .type "list", data := .seq its.toArray n' } (.lst (ns.map V.int)))) s.heap := by
      intro b u q
      by_cases hb : b = a
      · subst hb
        rw [upd_same] at q
        cases q
        exact ⟨e, z, its, n', r, e⟩
      · rw [upd_ne hb] at q
        exact (e0.hok b u q).stay (fun c v _ r => r) (fun c r => by rw [upd_ne (nb c _ r fun _ z => by cases z)]; exact r) (fun c ys r => by rw [upd_ne (nb c _ r fun _ z => by cases z)]; exact r)
    have none_of : ∀ b, H b = none → b ≠ a := fun b q z => by rw [z, hl'] at q; cases q
    refine codeAny_mono (main _ ⟨e0.frames, e0.mod, fun b o q => ⟨(e0.bs b o q).1, by rw [upd_ne (none_of b (e0.bs b o q).2)]; exact (e0.bs b o q).2⟩, e0.bsz, e0.funs, fun b hb => by rw [upd_ne (none_of b (e0.frf b hb))]; exact e0.frf b hb, hok, e0.bare⟩ ⟨_, upd_same⟩ fun p hp => ?_) (back _ (fun b hb => upd_ne hb) (by rw [hl']; intro z; cases z) (fun xs q => by rw [hl'] at q; cases q) (fun o u q => by rw [hl'] at q; cases q) fun ps q => by rw [hl'] at q; cases q)
    obtain ⟨ps, h1, h2, h3⟩ := hT p hp
    refine ⟨ps, by rw [upd_ne (nb _ _ h1 fun _ z => by cases z)]; exact h1, h2, fun pos cv hc => ?_⟩
    obtain ⟨c, e1, e2⟩ := h3 pos cv hc
    exact ⟨c, e1, by rw [upd_ne (nb _ _ e2 fun _ z => by unfold LamX.CodeO at z; cases z)]; exact e2⟩
  · refine codeAny_mono (main H e0 ⟨o, hf⟩ hT) fun r s' h => ?_
    cases r with
    | error e =>
      obtain ⟨_, _, _, _, _, _, _, _, _, _, _, _, z⟩ := h
      exact z.elim
    | ok fl =>
      cases fl with
      | ret u => exact h
      | next => exact h
      | brk => exact h
      | cont => exact h
/-! ### no list is among what the module's names reach -/
def noL (K : PySem.W.Frag) : Bool := K.all fun q => match q.2 with
  | ⟨.type c, _, .seq _ _, _⟩ => !decide (c = "list")
  | _ => true
theorem noL_ok {K : PySem.W.Frag} (h : noL K = true) {a : Addr} {o : Obj} {its : Array Value} {n : Nat} (e : K.lookup a = some o) (hc : o.cls = .type "list") (hd : o.data = .seq its n) : False := by
  have h1 := List.all_eq_true.mp h _ (He.lookup_mem e)
  obtain ⟨oc, od, dt, sl⟩ := o
  subst hc hd
  have h2 : (!decide ("list" = "list")) = true := h1
  rw [decide_eq_true rfl] at h2
  cases h2
theorem law_at {l : PySem.W.OpenLaw} {w : World} {K : PySem.W.Frag} {mg : Str → Option Value} {f : Addr} {fd : FuncData} {h : Heap} {k n : Nat} {c P : Addr} {q : Str} {phi : Phi} (nl : noL K = true) (hn : n ≤ sizeLine)
    (C : PySem.W.CodeHd h c P) (out : K.lookup P = none) (emp : h.get? P = some { cls := .none, data := .fields #[] })
    (bind : ∀ (s : Shared) (u : Value), BindsTo s fd ⟨[u], []⟩ [("_law_script", u)])
    (hphi : ∀ ns : List Int, ns.length ≤ n → ∃ h', phi [.d (.lst (ns.map .int))] [] = some (.ok (.d (.bl true)), h'))
    (F : ∀ base : Heap, K.In base → base.Ns mainGlobals mg → TabB base mg c P → FnOk l.prog w K mg base (L2N.CX l.prog w) k f fd ["_law_script"] (spD ⟨l.prog, w, K, mg, base, [(P, q)]⟩ 1 phi)) :
    LawAtS l w K (L2N.CX l.prog w) k n "_law_script" mg f h := by
  refine ⟨fd, [(c, P)], spL phi n [(P, q)], fun p hp => ?_, fun p hp => ?_, fun p hp => ?_, bind, fun H a ns hl _ hT hS => ⟨a, ns, rfl, hl, ?_, fun p hp => ?_, fun H' => rfl⟩, fun base KX hg hb => ?_⟩
  · cases List.mem_singleton.mp hp; exact emp
  · cases List.mem_singleton.mp hp; exact out
  · cases List.mem_singleton.mp hp; exact C
  · rcases hS with z | ⟨o, its, m, e, hc, _, hd, _⟩
    · exact z
    · exact (noL_ok nl e hc hd).elim
  · cases List.mem_singleton.mp hp
    exact ⟨#[], hT (c, P) List.mem_cons_self, trivial, fun pos cv hc => (by cases hc)⟩
  · exact fnok_spL (G := ⟨l.prog, w, K, mg, base, [(P, q)]⟩) (F base KX hg (hb (c, P) List.mem_cons_self)) hn rfl hphi
end Dn

set_option maxHeartbeats 4000000
namespace Dn
open PySem PySem.Spec PyProof.Rows L2 LamX He

/-! ### the head's facts about errors, by one Bool -/
def excB (K : PySem.W.Frag) (D : Addr) : Bool :=
  eqO (PySem.W.findIn K (.ref D) "__getattribute__") (some (some (.builtin "BaseException.__getattribute__"))) && (eqO (PySem.W.findIn K (.ref D) "__getattr__") (some none) && (decide (PySem.W.subIn K (.ref D) (.type "BaseException") = some true) &&
  (PySem.W.hasDictIn K D && (eqO (PySem.W.findIn K (.ref D) "__class__") (some (some (.builtin "object.__class__"))) && (eqO (PySem.W.specialIn K (.builtin "object.__class__") "__get__") (some (some (.builtin "getset_descriptor.__get__"))) &&
  (decide (PySem.W.takesIn K (.builtin "object.__class__") = some true) && decide (PySem.W.mroIn K D (.type "object") = some true)))))))
theorem excB_ok {K : PySem.W.Frag} {D : Addr} (h : excB K D = true) : ExcC K D := by
  obtain ⟨h1, h⟩ := ba h
  obtain ⟨h2, h⟩ := ba h
  obtain ⟨h3, h⟩ := ba h
  obtain ⟨h4, h⟩ := ba h
  obtain ⟨h5, h⟩ := ba h
  obtain ⟨h6, h⟩ := ba h
  obtain ⟨h7, h8⟩ := ba h
  exact ⟨eqO_ok h1, eqO_ok h2, of_decide_eq_true h3, h4, eqO_ok h5, eqO_ok h6, of_decide_eq_true h7, of_decide_eq_true h8⟩
def errB (K : PySem.W.Frag) : Bool := errL.all fun x => excB K (ga K x) && (decide (PySem.W.kitOne K (.ref (ga K x)) (.type "ValueError") = some true) && (decide (PySem.W.exmOne K (.ref (ga K x)) (.ref (ga K "ChainError")) = some true) &&
  errL.all fun y => decide (PySem.W.kitOne K (.ref (ga K x)) (.ref (ga K y)) = some (decide (y = x)))))
def gloB (K : PySem.W.Frag) : Bool := (Fa.glo "ChainError").ok K && errL.all fun x => (Fa.glo x).ok K
def exB (K : PySem.W.Frag) : Bool := noL K && (gloB K && errB K)
theorem catF_of {G : Gx} {h : Heap} (X : G.K.In h) (N : h.Ns mainGlobals G.mg) (g : gloB G.K = true) (b : errB G.K = true) : CatF G := by
  obtain ⟨g1, g2⟩ := ba g
  have gl : ∀ x ∈ errL, G.mg x = some (.ref (ga G.K x)) := fun x hx => glo_ok X N (List.all_eq_true.mp g2 x hx)
  refine ⟨⟨ga G.K "ChainError", glo_ok X N g1, fun x hx => ?_⟩⟩
  obtain ⟨b1, b2⟩ := ba (List.all_eq_true.mp b x hx)
  obtain ⟨b2, b3⟩ := ba b2
  obtain ⟨b3, b4⟩ := ba b3
  refine ⟨⟨⟨ga G.K x, gl x hx, excB_ok b1, fun y hy => ⟨ga G.K y, gl y hy, of_decide_eq_true (List.all_eq_true.mp b4 y hy)⟩, of_decide_eq_true b2⟩⟩, fun D e => ?_⟩
  rw [gl x hx] at e
  cases e
  exact of_decide_eq_true b3
theorem excK_of {G : Gx} {h : Heap} {x : Str} (X : G.K.In h) (N : h.Ns mainGlobals G.mg) (g : (Fa.glo x).ok G.K = true) (e : (Fa.exc x).ok G.K = true) : ExcK G x :=
  ⟨⟨ga G.K x, glo_ok X N g, exc_ok e⟩⟩
theorem funD_of {G : Gx} {h : Heap} {x qual : Str} {params : Arguments} {body : List Stmt} {scope : Scope} (X : G.K.In h) (N : h.Ns mainGlobals G.mg) (g : (Fa.glo x).ok G.K = true) (e : ∃ fd, FunD G.K x qual params body scope [] [] (fAd G.K (x, none)) fd) :
    ∃ g fd, FunD G.K x qual params body scope [] [] g fd ∧ G.mg x = some (.ref g) := by
  obtain ⟨fd, F⟩ := e
  exact ⟨_, fd, F, glo_ok X N g⟩
theorem tabF_of {prog : Program} {w : World} {K : PySem.W.Frag} {mg : Str → Option Value} {base : Heap} {c P : Addr} {s : Scope} {q : Str} (TB : TabB base mg c P) : TabF ⟨prog, w, K, mg, base, [(P, q ++ "<lambda>")]⟩ ⟨s, q, some c⟩ :=
  ⟨⟨c, P, rfl, TB, List.mem_cons_self, fun p hp _ => by cases List.mem_singleton.mp hp; rfl⟩⟩
theorem code_at {K : PySem.W.Frag} {x qual : Str} {params : Arguments} {body : List Stmt} {scope : Scope} {fd : FuncData} (F : FunD K x qual params body scope [] [] (fAd K (x, none)) fd) : fd.code = .ref (codeOf K (x, none)) := by
  obtain ⟨oc, od, dV, kV, doc, pm, an, cdv, ct, osl, rfl, lk, hcd, _, _⟩ := F.ex
  obtain ⟨c, rfl⟩ := codeIn_ref hcd
  rw [codeOf_eq lk rfl]
end Dn

set_option maxHeartbeats 4000000
namespace Dn
open PySem PySem.Spec PyProof.Rows L2

/-! ### t.count(x) of a tuple -/
section
variable {X : Cx} {o e : Expr} {to te : TE} {apos cpos : Pos}
def tCnt (K : PySem.W.Frag) (to te : TE) : TE := fun σ H Q => to σ H fun x H1 => (∃ a vs, x = .ref a ∧ TupN K H1 a vs) ∧ te σ H1 fun y H2 => ∃ (a : Addr) (vs : List V) (ds : List PyData) (d : PyData), x = .ref a ∧ TupN K H2 a vs ∧ DpAll K H2 vs ds ∧ Dp K H2 y d ∧
  PyData.plainAll ds = true ∧ d.plain = true ∧ d.depth ≤ 60 ∧ Q (.int ((ds.countP fun z => PyData.eqv z d : Nat) : Int)) H2
theorem pe_cntT (hu : X.A.units + 64 < cLine) (ho : PE X o to) (ha : PE X e te) (hs : starEach [e] X.env = [(false, eval e X.env)])
    (hbase : attributeBase o "count" X.env (eval o X.env) = eval o X.env) (hline : (apos.endLine == cpos.line) = true) : PE X (.Call (.Attribute o "count" apos) [e] [] cpos) (tCnt X.K to te) := by
  refine ⟨fun pins s σ H Q I h => ?_⟩
  have hfew : ((backTo cpos (starEach [e] X.env)).all (fun x => !x.1) && (backToKw cpos (keywordEach [] X.env)).all (fun x => x.1.isSome) && decide ([e].length + ([] : List Keyword).length + (if ([] : List Keyword).isEmpty then 0 else 1) < 30)) = true := by rw [hs]; rfl
  refine wpAny_Call_method_late hbase hfew hline rfl (thn (ho.run pins s σ H _ I h) fun v s1 ⟨x, H1, I1, r1, ty, q1⟩ => ?_)
  obtain ⟨a, vs, rfl, tn⟩ := ty
  cases r1
  obtain ⟨ob, eo, dn, co⟩ := TupN.obj I1 tn
  refine ⟨"tuple", "tuple.count", PySem.F.plainAttrs_tuple, PySem.F.slot_tuple_count, PySem.F.type_tuple_count, ⟨ob, eo, co⟩, fun b z => by cases z; exact ⟨ob, eo, dn⟩, ?_⟩
  have hA := (pa_cons (es := []) ha pa_nil hs).run cpos pins s1 σ H1 (fun xs H2 => ∃ y, xs = [y] ∧ ∃ (a' : Addr) (vs : List V) (ds : List PyData) (d : PyData), V.ref a = .ref a' ∧ TupN X.K H2 a' vs ∧ DpAll X.K H2 vs ds ∧ Dp X.K H2 y d ∧
    PyData.plainAll ds = true ∧ d.plain = true ∧ d.depth ≤ 60 ∧ Q (.int ((ds.countP fun z => PyData.eqv z d : Nat) : Int)) H2) I1 (by
      show te σ H1 _
      have conv : (fun y H2 => ∃ (a_1 : Addr) (vs : List V) (ds : List PyData) (d : PyData), V.ref a = .ref a_1 ∧ TupN X.K H2 a_1 vs ∧ DpAll X.K H2 vs ds ∧ Dp X.K H2 y d ∧ PyData.plainAll ds = true ∧ d.plain = true ∧ d.depth ≤ 60 ∧ Q (.int ((ds.countP fun z => PyData.eqv z d : Nat) : Int)) H2) = fun x_1 H1 => tNil σ H1 fun xs H2 => ∃ y, x_1 :: xs = [y] ∧ ∃ (a' : Addr) (vs : List V) (ds : List PyData) (d : PyData), V.ref a = .ref a' ∧ TupN X.K H2 a' vs ∧ DpAll X.K H2 vs ds ∧ Dp X.K H2 y d ∧ PyData.plainAll ds = true ∧ d.plain = true ∧ d.depth ≤ 60 ∧ Q (.int ((ds.countP fun z => PyData.eqv z d : Nat) : Int)) H2 := by
        funext y H2
        refine propext ⟨fun h => ⟨y, rfl, h⟩, fun ⟨y', e, h⟩ => ?_⟩
        cases e; exact h
      rw [← conv]
      exact q1)
  rw [hs] at hA ⊢
  refine Calls.callWith_builtin rfl (Calls.evalArgs_plain ?_)
  refine thn hA fun us s2 ⟨xs, H2, I2, r2, y, ex, q2⟩ => ?_
  obtain ⟨a', vs', ds, d, ea, tn2, hds, hd, p1, p2, hde, q⟩ := q2
  cases ea
  subst ex
  obtain ⟨u, rfl, ru⟩ := r2.one
  obtain ⟨its, rv, pt, hz⟩ := I2.tuple tn2.sq
  obtain ⟨as, ra⟩ := Dp.readsAll I2 ds vs' its hds rv
  obtain ⟨bs, rb⟩ := Dp.reads I2 d y u hd ru
  refine SeqAt.count_tuple_data (vs := its.toArray) (show s2.heap.IsTuple a its.toArray from pt) (by simpa using ra) rb p1 p2 (by omega) ?_
  exact ⟨.int _, H2, I2.tok _, ⟨_, rfl⟩, q⟩
end
def cntD (ds : List D) (x : D) : Nat := ds.countP fun y => eqD y x
def dCnt (mo me : Den W) : Den W := dBind mo fun a => match a with
  | .d (.tup ds) => dBind me fun b _ h => match b with
    | .d x => if (okD 60 x && ds.all (okD 60)) = true then some (.ok (.d (.int (cntD ds x : Nat))), h) else none
    | _ => none
  | _ => fun _ _ => none
theorem toPys_cnt (x : D) : ∀ ys : List D, (toPys ys).countP (fun y => PyData.eqv y (toPy x)) = cntD ys x
  | [] => rfl
  | y :: ys => by
    unfold cntD
    simp only [toPys, List.countP_cons, toPys_cnt x ys]
    rfl
section
variable {G : Gx} {N : List Str} {sc : Scp} {k : Nat} {o e : Expr} {mo me : Den W} {apos cpos : Pos}
theorem de_cnt (ho : DE G N sc k o mo) (he : DE G N sc k e me) (hs : notStar e = true) (hb : ∀ env : Env, env.scope = sc.s → attributeBase o "count" env (eval o env) = eval o env) (hline : (apos.endLine == cpos.line) = true) :
    DE G N sc k (.Call (.Attribute o "count" apos) [e] [] cpos) (dCnt mo me) := by
  refine ⟨fun X Wx ft tk => PE.imp (pe_cntT (units_fits ft) (ho.pe X Wx ft tk) (he.pe X Wx ft tk) (star_of hs) (hb X.env ft.sc) hline) ?_⟩
  rintro st H Q ⟨mu, rho, h, sr, p⟩
  have hK := (fits_gx ft).1
  refine bind_post sr p fun a h1 x H1 mu1 sr1 e1 ra p1 => ?_
  split at p1
  · rename_i ds
    cases ra with
    | tup t r =>
      refine ⟨⟨_, _, rfl, hK ▸ t⟩, bind_post sr1 p1 fun b h2 y H2 mu2 sr2 e2 rb p2 => ?_⟩
      split at p2
      · rename_i xx
        split at p2
        · rename_i ok
          rw [Bool.and_eq_true] at ok
          have r2 := RepDs.stay e2.stay r
          have t2 := TupN.stay e2.stay t
          have d1 := (dp_of (G := G) (H := H2) 60).2 _ _ ok.2 r2
          have d2 := (dp_of (G := G) (H := H2) 60).1 _ _ ok.1 rb
          rw [hK] at d1 d2 t2
          refine ⟨_, _, _, _, rfl, t2, d1, d2, toPys_plain _, toPy_plain _, (okD_depth 60).1 _ ok.1, ?_⟩
          rw [toPys_cnt]
          exact p2 (.int _) H2 mu2 sr2.hr (Ext.refl _ _) (.int _)
        · exact p2.elim
      · exact p2.elim
  · exact p1.elim
end

/-! ### sorted(set(t)), t a tuple of whole numbers -/
def insS (x : Int) : List Int → List Int
  | [] => [x]
  | y :: ys => if x < y then x :: y :: ys else if x = y then y :: ys else y :: insS x ys
def ssort (ns : List Int) : List Int := ns.foldr insS []
theorem insS_mem (x k : Int) : ∀ ys : List Int, k ∈ insS x ys ↔ k = x ∨ k ∈ ys
  | [] => by simp [insS]
  | y :: ys => by
    unfold insS
    split
    · simp
    · split
      · rename_i e; subst e; simp
      · rw [List.mem_cons, insS_mem x k ys, List.mem_cons]
        constructor
        · rintro (h | h | h)
          · exact .inr (.inl h)
          · exact .inl h
          · exact .inr (.inr h)
        · rintro (h | h | h)
          · exact .inr (.inl h)
          · exact .inl h
          · exact .inr (.inr h)
theorem insS_ris (x : Int) : ∀ {ys : List Int}, ys.Pairwise (· < ·) → (insS x ys).Pairwise (· < ·)
  | [], _ => by simp [insS]
  | y :: ys, h => by
    obtain ⟨h1, h2⟩ := List.pairwise_cons.mp h
    unfold insS
    split
    · rename_i hx
      refine List.pairwise_cons.mpr ⟨fun z hz => ?_, h⟩
      rcases List.mem_cons.mp hz with rfl | hz
      · exact hx
      · have := h1 z hz; omega
    · split
      · exact h
      · refine List.pairwise_cons.mpr ⟨fun z hz => ?_, insS_ris x h2⟩
        rcases (insS_mem x z ys).mp hz with rfl | hz
        · omega
        · exact h1 z hz
theorem ssort_mem (ns : List Int) (k : Int) : k ∈ ssort ns ↔ k ∈ ns := by
  unfold ssort
  induction ns with
  | nil => simp
  | cons n ns ih => rw [List.foldr_cons, insS_mem, ih, List.mem_cons]
theorem ssort_ris (ns : List Int) : (ssort ns).Pairwise (· < ·) := by
  unfold ssort
  induction ns with
  | nil => simp
  | cons n ns ih => exact insS_ris n ih
theorem ris_uniq : ∀ {xs ys : List Int}, xs.Pairwise (· < ·) → ys.Pairwise (· < ·) → (∀ k, k ∈ xs ↔ k ∈ ys) → xs = ys
  | [], [], _, _, _ => rfl
  | [], y :: ys, _, _, h => absurd ((h y).mpr List.mem_cons_self) (by simp)
  | x :: xs, [], _, _, h => absurd ((h x).mp List.mem_cons_self) (by simp)
  | x :: xs, y :: ys, h1, h2, h => by
    obtain ⟨a1, a2⟩ := List.pairwise_cons.mp h1
    obtain ⟨b1, b2⟩ := List.pairwise_cons.mp h2
    have e : x = y := by
      rcases List.mem_cons.mp ((h x).mp List.mem_cons_self) with e | e
      · exact e
      · rcases List.mem_cons.mp ((h y).mpr List.mem_cons_self) with e' | e'
        · exact e'.symm
        · have := b1 x e; have := a1 y e'; omega
    subst e
    refine congrArg (x :: ·) (ris_uniq a2 b2 fun k => ⟨fun hk => ?_, fun hk => ?_⟩)
    · rcases List.mem_cons.mp ((h k).mp (List.mem_cons_of_mem _ hk)) with e | e
      · subst e; have := a1 k hk; omega
      · exact e
    · rcases List.mem_cons.mp ((h k).mpr (List.mem_cons_of_mem _ hk)) with e | e
      · subst e; have := b1 k hk; omega
      · exact e
theorem cr_setT {X : Cx} (hc : X.calm = true) : CallR X (.type "set") (fun vs H Q => ∃ (p : Addr) (ns : List Int), vs = [.ref p] ∧ SqT X.K H p (ns.map V.int) ∧ ns.length ≤ 1000 ∧ ∀ (a : Addr) (c : Nat), H a = none → c ≤ ns.length → Q (.ref a) (upd H a (SetO X.w a (fun j => decide (j ∈ ns)) c))) := by
  intro pins s σ H xs us Q I r ⟨p, ns, ex, hq, hl, q⟩
  subst ex
  rw [Vals.ref1 r]
  obtain ⟨its, rv, pt, hz⟩ := I.tuple hq
  refine call_set_tupI ns (I.ok.hd hc) (show s.heap.IsTuple p its.toArray from pt) (ints_of_vals rv) (by unfold scanBound; omega) fun h' tk c R1 hcn k => ?_
  exact ⟨.ref _, _, I.laid (t' := tk) k (Nat.le_refl _) (setO_new R1), rfl, q _ c (I.hok.fresh (Nat.le_refl _)) hcn⟩
def setF (ws : List W) : Option (List Int) := match ws with
  | [.d (.tup ds)] => match intsD ds with
    | some ns => if ns.length < 64 then some (ssort ns) else none
    | none => none
  | _ => none
def dSset (ms : Den (List W)) : Den W := dBind ms fun ws _ h => (setF ws).map fun ns => (.ok (.own (ns.map .int)), h)
section
variable {G : Gx} {N : List Str} {sc : Scp} {k : Nat} {e : Expr} {ms : Den (List W)} {p p2 pos pos2 : Pos}
theorem de_sset (hg : sc.s.names.lookup ("sorted" : Str) = some .globalImplicit) (hm : G.mg ("sorted" : Str) = none) (hg2 : sc.s.names.lookup ("set" : Str) = some .globalImplicit) (hm2 : G.mg ("set" : Str) = none) (ha : DA G N sc k [e] ms) (hs : notStar e = true) :
    DE G N sc k (.Call (.Name "sorted" p) [.Call (.Name "set" p2) [e] [] pos2] [] pos) (dSset ms) := by
  refine ⟨fun X Wx ft tk => PE.imp (pe_callB (cr_sortedSet ft.calm) (by show X.env.scope.names.lookup _ = _; rw [ft.sc]; exact hg) (by rw [← (fits_gx ft).2]; exact hm) (by decide +kernel) (pa_cons (pe_callTy (cr_setT ft.calm) (by show X.env.scope.names.lookup _ = _; rw [ft.sc]; exact hg2) (by rw [← (fits_gx ft).2]; exact hm2) PyProof.Rows.boot_set (ha.pa X Wx ft tk) (by decide) (by decide) (star_of hs) (by rfl)) pa_nil)) ?_⟩
  rintro st H Q ⟨mu, rho, h, sr, pp⟩
  have hK := (fits_gx ft).1
  show tdenA G Wx ms st H _
  refine bindA_post sr pp fun ws h1 xs H1 mu1 sr1 e1 rws p1 => ?_
  have p1' : Post G Wx mu1 H1 st Q ((setF ws).map fun ns => (.ok (.own (ns.map .int)), h1)) := p1
  cases es : setF ws with
  | none => rw [es] at p1'; exact p1'.elim
  | some ms' =>
    rw [es] at p1'
    unfold setF at es
    split at es
    · rename_i ds
      split at es
      · rename_i ns en
        split at es
        · rename_i hl
          cases es
          obtain ⟨x, rfl, r⟩ := vals1w rws
          rw [ints_eq en] at r
          cases r with
          | tup t r =>
            have hv := RepDs.ints r
            subst hv
            refine ⟨_, ns, rfl, hK ▸ t.sq, by omega, fun a c ha hc => ⟨a, _, c, rfl, upd_same, by omega, fun ns' q ris mem len hq => ?_⟩⟩
            have e' : ns' = ssort ns := ris_uniq ris (ssort_ris ns) fun k => by rw [mem k, ssort_mem, decide_eq_true_eq]
            subst e'
            have hq1 : H1 q = none := by
              by_cases z : q = a
              · rw [z, upd_same] at hq; cases hq
              · rw [upd_ne z] at hq; exact hq
            have x1 : Ext mu1 H1 mu1 (upd H1 a (SetO X.w a (fun j => decide (j ∈ ns)) c)) := Ext.new ha
            have hr2 := sr1.hr.new (o := SetO X.w a (fun j => decide (j ∈ ns)) c) ha
            exact p1' (.ref q) _ mu1 (hr2.new hq) (x1.trans (Ext.new hq)) ⟨q, _, rfl, upd_same, RepDs.of_ints, hr2.nin hq, hq1⟩
        · cases es
      · cases es
    · cases es
end
theorem rem_ok {X : Cx} {G : Gx} {N : List Str} {sc : Scp} {k : Nat} (ft : Fits X G N sc k) : MtR X "list.remove" (rRemD G.K) ∧ OwnR G (rRemD G.K) remF := by
  have e := (fits_gx ft).1
  rw [e]
  exact ⟨mt_remD (units_fits ft), own_remove ft⟩
end Dn

set_option maxHeartbeats 4000000
namespace Dn
open PySem PySem.Spec PyProof.Rows L2

/-! ### min of two texts -/
def strAt (xs : Array Value) (i : Nat) : List Nat := match xs[i]? with
  | some (.str x _) => x.cps.toList
  | _ => []
theorem cmp_strs {prog : Program} {w : World} {A : Around} {P : Nat → Value → Prop} (val : Nat → List Nat) (hval : ∀ i v, P i v → ∃ (x : Str) (t : Tok), v = .str x t ∧ x.cps.toList = val i) : CmpOf prog w A .Lt P (fun i j => decide (val i < val j)) := fun i j vi vj s Q E hi hj h => by
  obtain ⟨x, t, rfl, ex⟩ := hval i vi hi
  obtain ⟨y, u, rfl, ey⟩ := hval j vj hj
  have h : Q (.bool (decide (val i < val j))) s := h
  rw [← ex, ← ey] at h
  exact richCompare_gives (op := .Lt) (PySem.typeIs_str s _ t) (PySem.typeIs_str s _ u) PySem.F.slot_str_lt PySem.F.entry_str_lt (PySem.F.args_str_lt_2 _ _) (gives_str_lt _ _ t u) (fun x => nomatch x) h
theorem min_two_strs {prog : Program} {w : World} {A : Around} {E : Value → Shared → Prop} {s : Shared} {a b : Str} {t u : Tok} {Q : Value → Shared → Prop} (hh : A.handled = none)
    (h : ∀ h' tk, (∀ c o, s.heap.get? c = some o → h'.get? c = some o) → Q (if b.cps.toList < a.cps.toList then .str b u else .str a t) { s with heap := h', toks := tk }) :
    wpAny (model prog w) A (call (.builtin "min") [.str a t, .str b u]) Q E s := by
  have hT : (s.heap.push { cls := .type "tuple", data := .seq #[.str a t, .str b u] }).IsTuple s.heap.objs.size #[.str a t, .str b u] := ⟨_, Heap.get?_push_size _ rfl, rfl, 0, rfl⟩
  have hz : (s.heap.push { cls := .type "tuple", data := .seq #[.str a t, .str b u] }).objs.size = s.heap.objs.size + 1 := Heap.size_push ..
  refine call_min_two (wpAny_pyIter_tuple hT ?_)
  refine ⟨_, [_, s.heap.objs.size], [_], _, _, _, fun i j => decide (strAt #[.str a t, .str b u] i < strAt #[.str a t, .str b u] j), rfl, Walks.tuple (A := A.in1) hh _ s.heap.objs.size (by rw [hz]; exact Nat.ne_of_lt (Nat.lt_succ_self _)) #[.str a t, .str b u], ⟨⟨_, Heap.get?_push_size _ rfl, rfl, rfl⟩, hT.push _⟩, fun c hc => ?_, by simp, cmp_strs (strAt #[.str a t, .str b u]) (fun i v hv => ?_), fun v h' tk hP hk => ?_⟩
  · show c < ((s.heap.push _).push _).objs.size
    rw [Heap.size_push, hz]
    rcases List.mem_cons.mp hc with e | hc
    · subst e; rw [hz]; exact Nat.lt_succ_self _
    · rw [List.mem_singleton.mp hc]; exact Nat.lt_succ_of_lt (Nat.lt_succ_self _)
  · match i with
    | 0 =>
      have hv : some (Value.str a t) = some v := hv
      cases hv
      exact ⟨a, t, rfl, rfl⟩
    | 1 =>
      have hv : some (Value.str b u) = some v := hv
      cases hv
      exact ⟨b, u, rfl, rfl⟩
    | i + 2 => simp at hv
  · have old : ∀ c o, s.heap.get? c = some o → h'.get? c = some o := fun c o e => by
      refine hk c o (fun hm => ?_) (Heap.get?_push_of_some _ (Heap.get?_push_of_some _ e))
      have hm := List.mem_singleton.mp hm
      have hl := Heap.lt_size e
      rw [hm, hz] at hl
      exact Nat.lt_irrefl _ (Nat.lt_of_succ_lt hl)
    have q := h h' tk old
    have hP : #[Value.str a t, .str b u][argBest (fun i j => decide (strAt #[.str a t, .str b u] i < strAt #[.str a t, .str b u] j)) 1]? = some v := hP
    have e0 : strAt #[.str a t, .str b u] 0 = a.cps.toList := rfl
    have e1 : strAt #[.str a t, .str b u] 1 = b.cps.toList := rfl
    have ev : v = if b.cps.toList < a.cps.toList then Value.str b u else Value.str a t := by
      by_cases hb : b.cps.toList < a.cps.toList
      · have e : argBest (fun i j => decide (strAt #[.str a t, .str b u] i < strAt #[.str a t, .str b u] j)) 1 = 1 := by
          show (if decide (strAt #[.str a t, .str b u] (0 + 1) < strAt #[.str a t, .str b u] 0) = true then 0 + 1 else 0) = 1
          exact if_pos (decide_eq_true (show strAt #[.str a t, .str b u] (0 + 1) < strAt #[.str a t, .str b u] 0 from hb))
        rw [e] at hP
        rw [if_pos hb]
        exact (Option.some.inj hP).symm
      · have e : argBest (fun i j => decide (strAt #[.str a t, .str b u] i < strAt #[.str a t, .str b u] j)) 1 = 0 := by
          show (if decide (strAt #[.str a t, .str b u] (0 + 1) < strAt #[.str a t, .str b u] 0) = true then 0 + 1 else 0) = 0
          exact if_neg (fun z => hb (of_decide_eq_true z))
        rw [e] at hP
        rw [if_neg hb]
        exact (Option.some.inj hP).symm
    rw [ev]
    exact q
def minSF (ws : List W) (h : MH) : Option W := match ws with
  | [.d (.str x), .d (.str y)] => some (.d (.str (if y.cps.toList < x.cps.toList then y else x)))
  | ws => minF ws h
theorem cr_minSF {X : Cx} {G : Gx} {N : List Str} {sc : Scp} {k : Nat} (ft : Fits X G N sc k) : CallR X (.builtin "min") (rdN G minSF) := by
  intro pins s σ H xs us Q I rv ⟨mu, h, ws, H0, hr, rws, w, e, q⟩
  unfold minSF at e
  split at e
  · obtain ⟨x, y, rfl, r, r'⟩ := vals2w rws
    cases (Option.some.inj e); cases r; cases r'
    rename_i a b
    obtain ⟨u, w', rfl, ⟨t, rfl⟩, ⟨t', rfl⟩⟩ : ∃ u w', us = [u, w'] ∧ RelV (.str a) u ∧ RelV (.str b) w' := by
      cases rv with
      | cons r1 t => cases t with
        | cons r2 t => cases t; exact ⟨_, _, rfl, r1, r2⟩
    refine min_two_strs (I.ok.hd ft.calm) fun h' tk k => ⟨.str (if b.cps.toList < a.cps.toList then b else a), H, I.kept k, ?_, repd_new hr (.str _) q⟩
    by_cases hj : b.cps.toList < a.cps.toList
    · rw [if_pos hj, if_pos hj]; exact ⟨_, rfl⟩
    · rw [if_neg hj, if_neg hj]; exact ⟨_, rfl⟩
  · exact cr_minF ft pins s σ H xs us Q I rv ⟨mu, h, ws, H0, hr, rws, w, e, q⟩

/-! ### a def as a value; the call of a local -/
section
variable {G : Gx} {N : List Str} {sc : Scp} {k : Nat} {pos : Pos} {x : Str}
theorem de_globF {P : Addr → FuncData → Prop} (hg : sc.s.names.lookup x = some .globalImplicit) (hm : ∃ g fd, P g fd ∧ G.mg x = some (.ref g)) (hd : (x == ("__debug__" : Str)) = false) : DE G N sc k (.Name x pos) (dCst (.fr x)) :=
  let ⟨g, _, _, h⟩ := hm
  de_glob (v := .ref g) hg h rfl (fun _ => .fr h rfl) hd
end
section
variable {X : Cx} {CX : CXT} {k i : Nat} {f : Addr} {fd : FuncData} {ps : List Str} {sp : Sp} {x : Str} {dvs ds : List Value} {e : Expr} {es : List Expr} {t : TA} {p pos : Pos}
theorem pe_callLoc {E : L2.St → XK} {dvs : List V} {ds : List Value} (F : FnOk X.prog X.w X.K X.mg X.base CX k f fd ps sp) (hr : Room k X.A) (hk : PySem.W.keepIn X.K (.ref f) = true) (hb : Binds X.K fd ps ds) (hd : Vals dvs ds) (hx : ∀ σ, PassesAt CX X σ (E σ)) (hN : X.N[i]? = some x) (hv : Vis X.env.scope x)
    (ha : PA X (e :: es) t) (hdb : (x == ("__debug__" : Str)) = false) (hcd : (x == ("__classdict__" : Str)) = false) (he : starEach (e :: es) X.env = (false, eval e X.env) :: starEach es X.env) (hpl : (backTo pos (starEach es X.env)).any (·.1) = false) :
    PE X (.Call (.Name x p) (e :: es) [] pos) (fun σ H Q => σ[i]? = some (some (.ref f)) ∧ tCallSD sp dvs E t σ H Q) := by
  refine ⟨fun pins s σ H Q I ⟨hs, h⟩ => ?_⟩
  refine wpAny_Call_Name_kw (thn ((pe_var (pos := p) (i := i) hN hv hdb hcd).run pins s σ H (fun v H1 => v = .ref f ∧ H1 = H) I ⟨.ref f, hs, rfl, rfl⟩) fun u s1 ⟨v, H1, I1, r1, ev, eH⟩ => ?_)
  subst ev
  rw [eH] at I1
  cases r1
  refine PySem.W.callWith_K (h₀ := X.base) I.ok.mod.kin hk (thn (ha.run pos pins s1 σ H _ I1 h) fun us s2 ⟨vs, H2, I2, r, q⟩ => ⟨I2.kIn, ?_⟩) he hpl
  exact run_fnSD F hr hb hd (hx σ) I2 r q
end
inductive FnSs (G : Gx) (k n : Nat) : List Str → List Phi → Prop
  | nil : FnSs G k n [] []
  | cons {x : Str} {phi : Phi} {xs : List Str} {fs : List Phi} : FnS G k x n phi → FnSs G k n xs fs → FnSs G k n (x :: xs) (phi :: fs)
theorem FnSs.get {G : Gx} {k n : Nat} : ∀ {xs : List Str} {fs : List Phi} {j : Nat} {x : Str} {phi : Phi}, FnSs G k n xs fs → xs[j]? = some x → fs[j]? = some phi → FnS G k x n phi
  | _, _, _, _, _, .nil, e, _ => by simp at e
  | _, _, 0, _, _, .cons f _, e1, e2 => by simp at e1 e2; subst e1 e2; exact f
  | _, _, j + 1, _, _, .cons _ t, e1, e2 => t.get (j := j) (by simpa using e1) (by simpa using e2)
def dCallV (n : Nat) (xs : List Str) (fs : List Phi) (i : Nat) (ms : Den (List W)) : Den W := fun rho h => match rho[i]? with
  | some (some (.d (.fr x))) => match xs.findIdx? (fun y => decide (y = x)) with
    | some j => match fs[j]? with
      | some phi => dCall n phi ms rho h
      | none => none
    | none => none
  | _ => none
section
variable {G : Gx} {N : List Str} {sc : Scp} {k n i : Nat} {pos p2 : Pos} {x : Str} {e : Expr} {es : List Expr} {ms : Den (List W)} {xs : List Str} {fs : List Phi}
theorem de_callV (F : FnSs G k n xs fs) (hN : N[i]? = some x) (hv : Vis sc.s x) (hd : (x == ("__debug__" : Str)) = false) (hcd : (x == ("__classdict__" : Str)) = false) (ha : DA G N sc k (e :: es) ms) (hs : (e :: es).all notStar = true) : DE G N sc k (.Call (.Name x p2) (e :: es) [] pos) (dCallV n xs fs i ms) := by
  rw [List.all_cons, Bool.and_eq_true] at hs
  refine ⟨fun X Wx ft tk => ⟨fun pins s st H Q I t => ?_⟩⟩
  obtain ⟨T, hG⟩ := ft.g
  have room := ft.room
  obtain ⟨mu, rho, h, sr, p⟩ := t
  unfold dCallV at p
  split at p
  · rename_i y ey
    split at p
    · rename_i j ej
      split at p
      · rename_i phi ef
        obtain ⟨hj, hy, _⟩ := List.findIdx?_eq_some_iff_getElem.mp ej
        have hy := of_decide_eq_true hy
        subst hy
        obtain ⟨f, fd, ps, hps, hm, hk, hb, hF⟩ := (F.get (List.getElem?_eq_getElem hj) ef).ex
        obtain ⟨v, hv', rv⟩ := sr.slot i _ ey
        have ev : v = .ref f := by
          have rv : RepD G H (.fr xs[j]) v := rv
          cases rv with
          | fr e1 e2 =>
            rw [hm] at e1
            cases e1
            cases v <;> first | (exact e2 ▸ rfl) | (cases e2; rfl) | (obtain ⟨_, e2⟩ := e2; cases e2) | (cases e2)
        subst ev
        subst hG
        exact (pe_callLoc (dvs := []) (ds := []) (E := fun st cls d H => Wx cls d st H) hF room hk hb .nil (fun st pins H s e s' I c => tk e s' (L2N.XE.of_call I (fun cls d H' h => h) c)) (by rw [ft.n]; exact hN) (by rw [ft.sc]; exact hv) (ha.pa X Wx ft tk) hd hcd (star_of hs.1) (stars_of hs.2)).run pins s st H Q I ⟨hv', call_post ⟨mu, rho, h, sr, p⟩⟩
      · exact p.elim
    · exact p.elim
  · exact p.elim
end
end Dn

set_option maxHeartbeats 4000000
namespace Dn
open PySem PySem.Spec PyProof.Rows L2 LamX He

/-! ### more than one def with lambdas -/
abbrev tabsOf (L : List (Addr × Addr × Str)) : List (Addr × Str) := L.map fun p => (p.2.1, p.2.2)
theorem law_atL {l : PySem.W.OpenLaw} {w : World} {K : PySem.W.Frag} {mg : Str → Option Value} {f : Addr} {fd : FuncData} {h : Heap} {k n : Nat} {L : List (Addr × Addr × Str)} {phi : Phi} (nl : noL K = true) (hn : n ≤ sizeLine)
    (C : ∀ p ∈ L, PySem.W.CodeHd h p.1 p.2.1) (out : ∀ p ∈ L, K.lookup p.2.1 = none) (emp : ∀ p ∈ L, h.get? p.2.1 = some { cls := .none, data := .fields #[] })
    (bind : ∀ (s : Shared) (u : Value), BindsTo s fd ⟨[u], []⟩ [("_law_script", u)])
    (hphi : ∀ ns : List Int, ns.length ≤ n → ∃ h', phi [.d (.lst (ns.map .int))] [] = some (.ok (.d (.bl true)), h'))
    (F : ∀ base : Heap, K.In base → base.Ns mainGlobals mg → (∀ p ∈ L, TabB base mg p.1 p.2.1) → FnOk l.prog w K mg base (L2N.CX l.prog w) k f fd ["_law_script"] (spD ⟨l.prog, w, K, mg, base, tabsOf L⟩ 1 phi)) :
    LawAtS l w K (L2N.CX l.prog w) k n "_law_script" mg f h := by
  refine ⟨fd, L.map fun p => (p.1, p.2.1), spL phi n (tabsOf L), fun p hp => ?_, fun p hp => ?_, fun p hp => ?_, bind, fun H a ns hl _ hT hS => ⟨a, ns, rfl, hl, ?_, fun p hp => ?_, fun H' => rfl⟩, fun base KX hg hb => ?_⟩
  · obtain ⟨q, hq, rfl⟩ := List.mem_map.mp hp; exact emp q hq
  · obtain ⟨q, hq, rfl⟩ := List.mem_map.mp hp; exact out q hq
  · obtain ⟨q, hq, rfl⟩ := List.mem_map.mp hp; exact C q hq
  · rcases hS with z | ⟨o, its, m, e, hc, _, hd, _⟩
    · exact z
    · exact (noL_ok nl e hc hd).elim
  · obtain ⟨q, hq, rfl⟩ := List.mem_map.mp hp
    exact ⟨#[], hT (q.1, q.2.1) (List.mem_map.mpr ⟨q, hq, rfl⟩), trivial, fun pos cv hc => (by cases hc)⟩
  · exact fnok_spL (G := ⟨l.prog, w, K, mg, base, tabsOf L⟩) (F base KX hg fun p hp => hb (p.1, p.2.1) (List.mem_map.mpr ⟨p, hp, rfl⟩)) hn rfl hphi
/-! ### the tables by the names of their defs -/
def qualOf (x : Str) : Str := (x ++ ".<locals>.") ++ "<lambda>"
def tbls (K : PySem.W.Frag) (xs : List Str) : List (Addr × Addr × Str) := xs.map fun x => ((cT K (x, none)).1, (cT K (x, none)).2, qualOf x)
def nodA : List Addr → Bool
  | [] => true
  | a :: as => !as.contains a && nodA as
def tabN (xs : List Str) (K : PySem.W.Frag) : Bool := nodA (xs.map fun x => (cT K (x, none)).2)
theorem tabN_inj {K : PySem.W.Frag} : ∀ {xs : List Str}, tabN xs K = true → ∀ {x y : Str}, x ∈ xs → y ∈ xs → (cT K (x, none)).2 = (cT K (y, none)).2 → x = y
  | [], _, _, _, hx, _, _ => (by cases hx)
  | z :: zs, h, x, y, hx, hy, e => by
    have h1 : (!(zs.map fun x => (cT K (x, none)).2).contains (cT K (z, none)).2 && tabN zs K) = true := h
    obtain ⟨h2, h3⟩ := ba h1
    have nm : ∀ y ∈ zs, (cT K (y, none)).2 ≠ (cT K (z, none)).2 := fun y hy q => by
      have : (zs.map fun x => (cT K (x, none)).2).contains (cT K (z, none)).2 = true := List.contains_iff_mem.mpr (List.mem_map.mpr ⟨y, hy, q⟩)
      rw [this] at h2
      cases h2
    rcases List.mem_cons.mp hx with e1 | h1
    · rcases List.mem_cons.mp hy with e2 | h2
      · exact e1.trans e2.symm
      · exact (nm y h2 (e1 ▸ e.symm)).elim
    · rcases List.mem_cons.mp hy with e2 | h2
      · exact (nm x h1 (e2 ▸ e)).elim
      · exact tabN_inj h3 h1 h2 e
theorem tabF_ofL {prog : Program} {w : World} {K : PySem.W.Frag} {mg : Str → Option Value} {base : Heap} {xs : List Str} {s : Scope} {x : Str} (nd : tabN xs K = true) (m : x ∈ xs) (TB : ∀ p ∈ tbls K xs, TabB base mg p.1 p.2.1) :
    TabF ⟨prog, w, K, mg, base, tabsOf (tbls K xs)⟩ ⟨s, x ++ ".<locals>.", some (codeOf K (x, none))⟩ := by
  have mm : ((cT K (x, none)).1, (cT K (x, none)).2, qualOf x) ∈ tbls K xs := List.mem_map.mpr ⟨x, m, rfl⟩
  refine ⟨⟨_, _, rfl, TB _ mm, List.mem_map.mpr ⟨_, mm, rfl⟩, fun p hp e => ?_⟩⟩
  obtain ⟨q, hq, rfl⟩ := List.mem_map.mp hp
  obtain ⟨y, hy, rfl⟩ := List.mem_map.mp hq
  have := tabN_inj nd hy m e
  subst this
  rfl
theorem funC_of {G : Gx} {h : Heap} {x qual : Str} {params : Arguments} {body : List Stmt} {scope : Scope} (X : G.K.In h) (N : h.Ns mainGlobals G.mg) (g : (Fa.glo x).ok G.K = true) (e : ∃ fd, FunD G.K x qual params body scope [] [] (fAd G.K (x, none)) fd) :
    ∃ g fd, FunD G.K x qual params body scope [] [] g fd ∧ G.mg x = some (.ref g) ∧ fd.code = .ref (codeOf G.K (x, none)) := by
  obtain ⟨fd, F⟩ := e
  exact ⟨_, fd, F, glo_ok X N g, code_at F⟩
/-- a def with lambdas -/
theorem fnS_lam {G : Gx} {N ps : List Str} {k : Nat} {x qual : Str} {params : Arguments} {body : List Stmt} {scope : Scope} {f c : Addr} {fd : FuncData} {m : DenS} (F : FunD G.K x qual params body scope [] [] f fd) (hg : G.mg x = some (.ref f)) (hc : fd.code = .ref c) (S : FnScope N ps scope) (hbd : L2.Binds G.K fd ps [])
    (hb : DSs G N ⟨scope, qual ++ ".<locals>.", some c⟩ k body m) : FnS G (k + 1) x ps.length (runD N m) :=
  ⟨⟨f, fd, ps, rfl, hg, F.kp, hbd, fnok_law F hc S hb⟩⟩
/-! ### f() -/
section
variable {X : Cx} {CX : CXT} {k : Nat} {f : Addr} {fd : FuncData} {ps : List Str} {sp : Sp} {dvs : List V} {ds : List Value} {E : L2.St → XK} {x : Str} {p pos : Pos}
theorem pe_callSD0 (F : FnOk X.prog X.w X.K X.mg X.base CX k f fd ps sp) (hr : Room k X.A) (hg : Gl X x) (hm : X.mg x = some (.ref f)) (hk : PySem.W.keepIn X.K (.ref f) = true) (hb : L2.Binds X.K fd ps ds) (hd : Vals dvs ds) (hx : ∀ σ, PassesAt CX X σ (E σ))
    (hdb : (x == ("__debug__" : Str)) = false) : PE X (.Call (.Name x p) [] [] pos) (tCallSD sp dvs E tNil) := by
  refine ⟨fun pins s σ H Q I h => ?_⟩
  refine wpAny_Call_Name_kw (ld_glob I hg hm ?_ hdb)
  exact PySem.W.callWith_K0 I.kIn hk (run_fnSD (us := []) F hr hb hd (hx σ) I .nil h)
end
theorem de_call0 {G : Gx} {N : List Str} {sc : Scp} {k : Nat} {pos p2 : Pos} {x : Str} {phi : Phi} (F : FnS G k x 0 phi) (hg : sc.s.names.lookup x = some .globalImplicit) (hd : (x == ("__debug__" : Str)) = false) : DE G N sc k (.Call (.Name x p2) [] [] pos) (dCall 0 phi dNil) := by
  obtain ⟨f, fd, ps, hps, hm, hk, hb, hF⟩ := F.ex
  refine ⟨fun X Wx ft tk => ?_⟩
  obtain ⟨T, hG⟩ := ft.g
  have room := ft.room
  subst hG
  refine PE.imp (pe_callSD0 (dvs := []) (ds := []) (E := fun st cls d H => Wx cls d st H) hF room (by show X.env.scope.names.lookup x = _; rw [ft.sc]; exact hg) hm hk hb .nil (fun st pins H s e s' I c => tk e s' (L2N.XE.of_call I (fun cls d H' h => h) c)) hd) ?_
  intro st H Q t
  obtain ⟨mu, rho, h, sr, p⟩ := call_post t
  exact p [] H mu sr.hr (Ext.refl mu H) .nil
end Dn

set_option maxHeartbeats 4000000
namespace Dn
open PySem PySem.Spec PyProof.Rows L2

/-! ### plain laws of the evaluator -/
theorem lcGo_map {T : Tgt} {mt : Den Bool} {me : Den W} {rho : Rho} {h : MH} (g : D → D) : ∀ ds : List D, (∀ d ∈ ds, ∃ bs, T.asg d = some bs ∧ mt (setR bs rho) h = some (.ok true, h) ∧ me (setR bs rho) h = some (.ok (.d (g d)), h)) → lcGo T mt me rho ds h = some (ds.map g, h)
  | [], _ => rfl
  | d :: ds, H => by
    obtain ⟨bs, e1, e2, e3⟩ := H d List.mem_cons_self
    have ih := lcGo_map (T := T) (mt := mt) (me := me) (rho := rho) (h := h) g ds fun x hx => H x (List.mem_cons_of_mem _ hx)
    simp only [lcGo, e1, e2, e3, ih, List.map_cons]
theorem lcGo_filter {T : Tgt} {mt : Den Bool} {me : Den W} {rho : Rho} {h : MH} (p : D → Bool) (g : D → D) : ∀ ds : List D, (∀ d ∈ ds, ∃ bs, T.asg d = some bs ∧ mt (setR bs rho) h = some (.ok (p d), h) ∧ (p d = true → me (setR bs rho) h = some (.ok (.d (g d)), h))) → lcGo T mt me rho ds h = some ((ds.filter p).map g, h)
  | [], _ => rfl
  | d :: ds, H => by
    obtain ⟨bs, e1, e2, e3⟩ := H d List.mem_cons_self
    have ih := lcGo_filter (T := T) (mt := mt) (me := me) (rho := rho) (h := h) p g ds fun x hx => H x (List.mem_cons_of_mem _ hx)
    cases q : p d with
    | true =>
      rw [q] at e2
      simp only [lcGo, e1, e2, e3 q, ih, List.filter_cons, q, if_true, List.map_cons]
    | false =>
      rw [q] at e2
      simp only [lcGo, e1, e2, ih, List.filter_cons, q, Bool.false_eq_true, if_false]
theorem lcGo_inv {T : Tgt} {mt : Den Bool} {me : Den W} {rho : Rho} {I : MH → Prop} {P : D → Prop} : ∀ (ds : List D) (h : MH), (∀ d ∈ ds, ∀ h, I h → ∃ bs h1 y h2, T.asg d = some bs ∧ mt (setR bs rho) h = some (.ok true, h1) ∧ me (setR bs rho) h1 = some (.ok (.d y), h2) ∧ I h2 ∧ P y) → I h →
    ∃ ys h', lcGo T mt me rho ds h = some (ys, h') ∧ I h' ∧ ys.length = ds.length ∧ ∀ y ∈ ys, P y
  | [], h, _, i => ⟨[], h, rfl, i, rfl, fun _ z => by cases z⟩
  | d :: ds, h, H, i => by
    obtain ⟨bs, h1, y, h2, e1, e2, e3, i2, py⟩ := H d List.mem_cons_self h i
    obtain ⟨ys, h', e4, i4, l4, p4⟩ := lcGo_inv (T := T) (mt := mt) (me := me) (rho := rho) ds h2 (fun x hx => H x (List.mem_cons_of_mem _ hx)) i2
    refine ⟨y :: ys, h', by simp only [lcGo, e1, e2, e3, e4], i4, by simp [l4], fun z hz => ?_⟩
    rcases List.mem_cons.mp hz with rfl | hz
    · exact py
    · exact p4 z hz
theorem dLc_of {T : Tgt} {mi : Den (List D)} {mt : Den Bool} {me : Den W} {vs : List Nat} {rho : Rho} {h h1 h2 : MH} {ds ys : List D} (e1 : mi rho h = some (.ok ds, h1)) (e2 : lcGo T mt me (wipeR rho vs) ds h1 = some (ys, h2)) (hl : ys.length ≤ LIM) :
    dLc T mi mt me vs rho h = some (.ok (.own ys), h2) := by
  unfold dLc dBind mBind
  rw [e1]
  show (match lcGo T mt me (wipeR rho vs) ds h1 with
  | some (ys, h') => if ys.length ≤ LIM then some (Out.ok (W.own ys), h') else none
  | none => none) = _
  rw [e2]
  exact if_pos hl
theorem sLoop_inv {T : Tgt} {body : DenS} {I : Rho → MH → Prop} : ∀ (ds : List D) (rho : Rho) (h : MH), (∀ d ∈ ds, ∀ rho h, I rho h → ∃ bs r h', T.asg d = some bs ∧ (body (setR bs rho) h = some (.nx r, h') ∨ body (setR bs rho) h = some (.ct r, h')) ∧ I r h') → I rho h →
    ∃ r h', sLoop T body ds rho h = some (.nx r, h') ∧ I r h'
  | [], rho, h, _, i => ⟨rho, h, rfl, i⟩
  | d :: ds, rho, h, H, i => by
    obtain ⟨bs, r, h1, e1, e2, i1⟩ := H d List.mem_cons_self rho h i
    obtain ⟨r', h', e3, i3⟩ := sLoop_inv ds r h1 (fun x hx => H x (List.mem_cons_of_mem _ hx)) i1
    refine ⟨r', h', ?_, i3⟩
    rcases e2 with e2 | e2 <;> simp only [sLoop, e1, e2, e3]
/-- what is told of the things gone by -/
theorem sLoop_fold {T : Tgt} {body : DenS} {I : List D → Rho → MH → Prop} : ∀ (ds done : List D) (rho : Rho) (h : MH), (∀ (pre : List D) (d : D) (post : List D), done ++ ds = pre ++ d :: post → ∀ rho h, I pre rho h → ∃ bs r h', T.asg d = some bs ∧ (body (setR bs rho) h = some (.nx r, h') ∨ body (setR bs rho) h = some (.ct r, h')) ∧ I (pre ++ [d]) r h') → I done rho h →
    ∃ r h', sLoop T body ds rho h = some (.nx r, h') ∧ I (done ++ ds) r h'
  | [], done, rho, h, _, i => ⟨rho, h, rfl, by rw [List.append_nil]; exact i⟩
  | d :: ds, done, rho, h, H, i => by
    obtain ⟨bs, r, h1, e1, e2, i1⟩ := H done d ds rfl rho h i
    obtain ⟨r', h', e3, i3⟩ := sLoop_fold ds (done ++ [d]) r h1 (fun pre x post e => H pre x post (by rw [← e, List.append_assoc]; rfl)) i1
    refine ⟨r', h', ?_, by rw [List.append_assoc] at i3; exact i3⟩
    rcases e2 with e2 | e2 <;> simp only [sLoop, e1, e2, e3]
theorem sLoop_step {T : Tgt} {body : DenS} {d : D} {ds : List D} {rho r : Rho} {h h1 : MH} {bs : List (Nat × D)} (e1 : T.asg d = some bs) (e2 : body (setR bs rho) h = some (.nx r, h1)) : sLoop T body (d :: ds) rho h = sLoop T body ds r h1 := by
  simp only [sLoop, e1, e2]
theorem sFor_of {T : Tgt} {mi : Den (List D)} {body : DenS} {rho : Rho} {h h1 : MH} {ds : List D} {r : Option (OutS × MH)} (e1 : mi rho h = some (.ok ds, h1)) (e2 : sLoop T body ds rho h1 = r) : sFor T mi body rho h = r := by
  unfold sFor eBind
  rw [e1]
  exact e2
theorem sSeq_nx {a b : DenS} {rho r : Rho} {h h1 : MH} (e : a rho h = some (.nx r, h1)) : sSeq a b rho h = b r h1 := by
  unfold sSeq
  rw [e]
theorem dCall_ok {n : Nat} {phi : Phi} {ms : Den (List W)} {rho : Rho} {h h1 h2 : MH} {ws : List W} {x : D} (e1 : ms rho h = some (.ok ws, h1)) (e2 : (ws.length == n && ws.all argOk) = true) (e3 : phi ws h1 = some (.ok (.d x), h2)) (e4 : h2.length = h1.length) : dCall n phi ms rho h = some (.ok (.d x), h2) := by
  unfold dCall dBind mBind
  rw [e1]
  show (if (ws.length == n && ws.all argOk) = true then trunc h1.length (phi ws h1) else none) = _
  rw [if_pos e2, e3]
  show (if keptRef h1.length (.d x) = true then some (Out.ok (W.d x), h2.take h1.length) else some (Out.ok (W.d x), h2)) = _
  rw [if_pos (by rfl), List.take_of_length_le (Nat.le_of_eq e4)]
theorem dCall_own {n : Nat} {phi : Phi} {ms : Den (List W)} {rho : Rho} {h h1 h2 : MH} {ws : List W} {x : List D} (e1 : ms rho h = some (.ok ws, h1)) (e2 : (ws.length == n && ws.all argOk) = true) (e3 : phi ws h1 = some (.ok (.own x), h2)) (e4 : h2.length = h1.length) : dCall n phi ms rho h = some (.ok (.own x), h2) := by
  unfold dCall dBind mBind
  rw [e1]
  show (if (ws.length == n && ws.all argOk) = true then trunc h1.length (phi ws h1) else none) = _
  rw [if_pos e2, e3]
  show (if keptRef h1.length (.own x) = true then some (Out.ok (W.own x), h2.take h1.length) else some (Out.ok (W.own x), h2)) = _
  rw [if_pos (by rfl), List.take_of_length_le (Nat.le_of_eq e4)]
theorem dCall_ex {n : Nat} {phi : Phi} {ms : Den (List W)} {rho : Rho} {h h1 h2 : MH} {ws : List W} {c : Str} {fs : List (Str × D)} (e1 : ms rho h = some (.ok ws, h1)) (e2 : (ws.length == n && ws.all argOk) = true) (e3 : phi ws h1 = some (.ex c fs, h2)) (e4 : h2.length = h1.length) : dCall n phi ms rho h = some (.ex c fs, h2) := by
  unfold dCall dBind mBind
  rw [e1]
  show (if (ws.length == n && ws.all argOk) = true then trunc h1.length (phi ws h1) else none) = _
  rw [if_pos e2, e3]
  show some (Out.ex c fs, h2.take h1.length) = _
  rw [List.take_of_length_le (Nat.le_of_eq e4)]

/-! ### the spine of a def, rule by rule -/
section
variable {rho : Rho} {h h1 h2 : MH} {w a b : W} {x : D} {N : List Str}
theorem ret_of {m : Den W} {k : DenS} {ws : List W} (e : m (ws.map some ++ List.replicate (N.length - ws.length) none) h = some (.ok (.d x), h1)) : runD N (sSeq (sRet m) k) ws h = some (.ok (.d x), h1) := by
  unfold runD sSeq sRet eBind
  rw [e]
  rfl
theorem dBind_ok {α β : Type} {m : Den α} {f : α → Den β} {a : α} (e : m rho h = some (.ok a, h1)) : dBind m f rho h = f a rho h1 := by
  unfold dBind mBind
  rw [e]
theorem dBind_ex {α β : Type} {m : Den α} {f : α → Den β} {c : Str} {fs : List (Str × D)} (e : m rho h = some (.ex c fs, h1)) : dBind m f rho h = some (.ex c fs, h1) := by
  unfold dBind mBind
  rw [e]
theorem run_ex {a : DenS} {ws : List W} {r : Rho} {c : Str} {fs : List (Str × D)} (e : a (ws.map some ++ List.replicate (N.length - ws.length) none) h = some (.ex c fs r, h1)) : runD N a ws h = some (.ex c fs, h1) := by
  unfold runD
  rw [e]
theorem run_none {a : DenS} {ws : List W} {r : Rho} (e : a (ws.map some ++ List.replicate (N.length - ws.length) none) h = some (.nx r, h1)) : runD N a ws h = some (.ok (.d .non), h1) := by
  unfold runD
  rw [e]
theorem sDrop_of {m : Den W} (e : m rho h = some (.ok w, h1)) : sDrop m rho h = some (.nx rho, h1) := by
  unfold sDrop eBind
  rw [e]
theorem sDrop_ex {m : Den W} {c : Str} {fs : List (Str × D)} (e : m rho h = some (.ex c fs, h1)) : sDrop m rho h = some (.ex c fs rho, h1) := by
  unfold sDrop eBind
  rw [e]
theorem sSeq_ex {a b : DenS} {r : Rho} {c : Str} {fs : List (Str × D)} (e : a rho h = some (.ex c fs r, h1)) : sSeq a b rho h = some (.ex c fs r, h1) := by
  unfold sSeq
  rw [e]
theorem run_rt {a : DenS} {ws : List W} (e : a (ws.map some ++ List.replicate (N.length - ws.length) none) h = some (.rt w, h1)) : runD N a ws h = some (.ok w, h1) := by
  unfold runD
  rw [e]
theorem sSeq_rt {a b : DenS} (e : a rho h = some (.rt w, h1)) : sSeq a b rho h = some (.rt w, h1) := by
  unfold sSeq
  rw [e]
theorem sRet_of {m : Den W} (e : m rho h = some (.ok (.d x), h1)) : sRet m rho h = some (.rt (.d x), h1) := by
  unfold sRet eBind
  rw [e]
  rfl
theorem sRet_own {m : Den W} {ds : List D} (e : m rho h = some (.ok (.own ds), h1)) : sRet m rho h = some (.rt (.own ds), h1) := by
  unfold sRet eBind
  rw [e]
  rfl
theorem sSet_of {m : Den W} {i : Nat} (e : m rho h = some (.ok (.d x), h1)) : sSet i m rho h = some (.nx (rho.set i (some (.d x))), h1) := by
  unfold sSet eBind
  rw [e]
  rfl
theorem sSet_own {m : Den W} {i : Nat} {ds : List D} (e : m rho h = some (.ok (.own ds), h1)) : sSet i m rho h = some (.nx (rho.set i (some (.own ds))), h1) := by
  unfold sSet eBind
  rw [e]
  rfl
theorem sIf_tt {t : Den Bool} {a b : DenS} (e : t rho h = some (.ok true, h1)) : sIf t a b rho h = a rho h1 := by
  unfold sIf eBind
  rw [e]
  rfl
theorem sIf_ff {t : Den Bool} {a b : DenS} (e : t rho h = some (.ok false, h1)) : sIf t a b rho h = b rho h1 := by
  unfold sIf eBind
  rw [e]
  rfl
theorem dApp_of {f : List W → MH → Option W} {ms : Den (List W)} {ws : List W} (e : ms rho h = some (.ok ws, h1)) (ef : f ws h1 = some w) : dApp f ms rho h = some (.ok w, h1) := by
  unfold dApp dBind mBind
  rw [e]
  show (f ws h1).map _ = _
  rw [ef]
  rfl
theorem dCons_of {m : Den W} {ms : Den (List W)} {ws : List W} (e : m rho h = some (.ok w, h1)) (e2 : ms rho h1 = some (.ok ws, h2)) : dCons m ms rho h = some (.ok (w :: ws), h2) :=
  (dBind_ok e).trans (dBind_ok e2)
theorem dNil_of : dNil rho h = some (.ok [], h) := rfl
theorem dP2_of {f : W → W → MH → Option W} {ma mb : Den W} (e : ma rho h = some (.ok a, h1)) (e2 : mb rho h1 = some (.ok b, h2)) (ef : f a b h2 = some w) : dP2 f ma mb rho h = some (.ok w, h2) :=
  (dBind_ok e).trans ((dBind_ok e2).trans (by show (f a b h2).map _ = _; rw [ef]; rfl))
theorem dCmp_of {op : CmpOp} {ma mb : Den W} {r : Bool} (e : ma rho h = some (.ok a, h1)) (e2 : mb rho h1 = some (.ok b, h2)) (ef : cmpW op a b h2 = some r) : dCmp op ma mb rho h = some (.ok (.d (.bl r)), h2) :=
  (dBind_ok e).trans ((dBind_ok e2).trans (by show (cmpW op a b h2).map _ = _; rw [ef]; rfl))
theorem asB_of {m : Den W} {r : Bool} (e : m rho h = some (.ok (.d (.bl r)), h1)) : asB m rho h = some (.ok r, h1) := by
  unfold asB dBind mBind
  rw [e]
theorem dDat_d {m : Den W} (e : m rho h = some (.ok (.d x), h1)) : dDat m rho h = some (.ok (.d x), h1) := by
  unfold dDat dBind mBind
  rw [e]
  rfl
theorem dDat_own {m : Den W} {ds : List D} (e : m rho h = some (.ok (.own ds), h1)) : dDat m rho h = some (.ok (.d (.lst ds)), h1) := by
  unfold dDat dBind mBind
  rw [e]
  rfl
theorem iSeq_of {m : Den W} {ds : List D} (e : m rho h = some (.ok w, h1)) (hw : itemsW w = some ds) : iSeq m rho h = some (.ok ds, h1) :=
  (dBind_ok e).trans (by show (itemsW w).map _ = _; rw [hw]; rfl)
theorem sOwn_of {i : Nat} {ms : Den (List W)} {f : List D → List W → MH → Option (D × List D)} {ws : List W} {ds es : List D} {y : D} (hi : rho[i]? = some (some (.own ds))) (e : ms rho h = some (.ok ws, h1)) (ef : f ds ws h1 = some (y, es)) : sOwn i ms f rho h = some (.nx (rho.set i (some (.own es))), h1) := by
  unfold sOwn sOwnM
  simp only [hi]
  unfold eBind
  simp only [e, ef]
theorem iApp_of {f : List W → Option (List D)} {ms : Den (List W)} {ws : List W} {ds : List D} (e : ms rho h = some (.ok ws, h1)) (ef : f ws = some ds) : iApp f ms rho h = some (.ok ds, h1) :=
  (dBind_ok e).trans (by show (f ws).map _ = _; rw [ef]; rfl)
theorem rng1_of {j : Int} (h : -L62 ≤ j ∧ j < L62) : rng1W [.d (.int j)] = some (rangeD 0 j.toNat) := if_pos h
theorem dIf_tt {t : Den Bool} {ma mb : Den W} (e : t rho h = some (.ok true, h1)) : dIf t ma mb rho h = ma rho h1 := by
  unfold dIf dBind mBind
  rw [e]
  rfl
theorem dIf_ff {t : Den Bool} {ma mb : Den W} (e : t rho h = some (.ok false, h1)) : dIf t ma mb rho h = mb rho h1 := by
  unfold dIf dBind mBind
  rw [e]
  rfl
end
theorem ints_of {P : Int → Prop} : ∀ {ys : List D}, (∀ y ∈ ys, ∃ i, y = D.int i ∧ P i) → ∃ ns : List Int, ys = ns.map .int ∧ ∀ i ∈ ns, P i
  | [], _ => ⟨[], rfl, fun _ z => by cases z⟩
  | y :: ys, H => by
    obtain ⟨i, rfl, p⟩ := H y List.mem_cons_self
    obtain ⟨ns, rfl, q⟩ := ints_of (ys := ys) fun z hz => H z (List.mem_cons_of_mem _ hz)
    exact ⟨i :: ns, rfl, fun j hj => by rcases List.mem_cons.mp hj with rfl | hj; exact p; exact q j hj⟩

/-! ### equality of data -/
theorem eqD_refl (x : D) : eqD x x = true := SeqAt.eqv_refl_plain _ (toPy_plain x)
theorem eqD_str (x y : Str) : eqD (.str x) (.str y) = decide (x = y) := by
  unfold eqD
  simp only [toPy, PyData.eqv]
  first | rfl | (cases q : decide (x = y) <;> simp_all)
theorem eqD_int (x y : Int) : eqD (.int x) (.int y) = decide (x = y) := by
  unfold eqD
  simp only [toPy, PyData.eqv]
  first | rfl | (cases q : decide (x = y) <;> simp_all)

theorem eqD_tup_nil {ds : List D} (h : ds ≠ []) : eqD (.tup ds) (.tup []) = false := by
  cases ds with
  | nil => exact absurd rfl h
  | cons d ds => unfold eqD; simp only [toPy, toPys, PyData.eqv, PyData.eqvAll]

/-! ### the two cells that a law draws from -/
def Can (n : Nat) (h : MH) : Prop := ∃ a b : Int, h[n]? = some (.lst [.int a, .int b]) ∧ 0 ≤ b ∧ b < 2147483648
theorem Can.lt {n : Nat} {h : MH} (c : Can n h) : n < h.length := by
  obtain ⟨a, b, e, _⟩ := c
  exact (List.getElem?_eq_some_iff.mp e).1
theorem Can.set {n : Nat} {h : MH} {a b : Int} (c : Can n h) (h0 : 0 ≤ b) (h1 : b < 2147483648) : Can n (h.set n (.lst [.int a, .int b])) :=
  ⟨a, b, by rw [List.getElem?_set_self c.lt], h0, h1⟩
/-- a call that draws: its result is data of a kind, the cells stay cells -/
def Draws (r : Option (Out W × MH)) (n : Nat) (h : MH) (P : D → Prop) : Prop := ∃ x h', r = some (.ok (.d x), h') ∧ P x ∧ Can n h' ∧ h'.length = h.length
theorem dCall_draws {k n : Nat} {phi : Phi} {ms : Den (List W)} {rho : Rho} {h : MH} {ws : List W} {P : D → Prop} (e1 : ms rho h = some (.ok ws, h)) (e2 : (ws.length == k && ws.all argOk) = true) (d : Draws (phi ws h) n h P) : Draws (dCall k phi ms rho h) n h P := by
  obtain ⟨x, h', e3, p, c, l⟩ := d
  exact ⟨x, h', dCall_ok e1 e2 e3 l, p, c, l⟩
/-- the same where a fresh list may come -/
def DrawsW (r : Option (Out W × MH)) (n : Nat) (h : MH) (P : D → Prop) : Prop := ∃ w x h', r = some (.ok w, h') ∧ datW w = some (.d x) ∧ P x ∧ Can n h' ∧ h'.length = h.length
theorem Draws.w {r : Option (Out W × MH)} {n : Nat} {h : MH} {P : D → Prop} (d : Draws r n h P) : DrawsW r n h P := by
  obtain ⟨x, h', e, p, c, l⟩ := d
  exact ⟨_, x, h', e, rfl, p, c, l⟩
theorem dDat_drawsW {k n : Nat} {phi : Phi} {ms : Den (List W)} {rho : Rho} {h : MH} {ws : List W} {P : D → Prop} (e1 : ms rho h = some (.ok ws, h)) (e2 : (ws.length == k && ws.all argOk) = true) (d : DrawsW (phi ws h) n h P) : Draws (dDat (dCall k phi ms) rho h) n h P := by
  obtain ⟨w, x, h', e3, ew, p, c, l⟩ := d
  cases w with
  | d y => cases ew; exact ⟨_, h', dDat_d (dCall_ok e1 e2 e3 l), p, c, l⟩
  | own ds => cases ew; exact ⟨_, h', dDat_own (dCall_own e1 e2 e3 l), p, c, l⟩
  | _ => cases ew
theorem cutD_all {p : D → Bool} {ds : List D} {lo hi : Option Int} (h : ds.all p = true) : (cutD ds lo hi).all p = true :=
  List.all_eq_true.mpr fun x hx => List.all_eq_true.mp h x (List.mem_of_mem_drop (List.mem_of_mem_take hx))
theorem cutD_len (ds : List D) (lo hi : Option Int) : (cutD ds lo hi).length ≤ ds.length := by
  unfold cutD
  rw [List.length_take, List.length_drop]
  omega
end Dn

set_option maxHeartbeats 4000000
namespace Dn
open PySem PySem.Spec PyProof.Rows L2

/-! ### what holds behind a run -/
abbrev ExP := Str → List (Str × D) → MH → Prop
abbrev NoEx : ExP := fun _ _ _ => False
def wE {α : Type} (Q : α → MH → Prop) (E : ExP) : Option (Out α × MH) → Prop
  | some (.ok a, h) => Q a h
  | some (.ex c fs, h) => E c fs h
  | none => False
def wS (nx : Rho → MH → Prop) (rt : W → MH → Prop) (bk ct : Rho → MH → Prop) (ex : ExP) : Option (OutS × MH) → Prop
  | some (.nx r, h) => nx r h
  | some (.rt w, h) => rt w h
  | some (.bk r, h) => bk r h
  | some (.ct r, h) => ct r h
  | some (.ex c fs _, h) => ex c fs h
  | none => False
def wO {α : Type} (o : Option α) (Q : α → Prop) : Prop := ∃ w, o = some w ∧ Q w
def wI (c : Bool) (A B : Prop) : Prop := (c = true → A) ∧ (c = false → B)
theorem wI_t {A B : Prop} (h : A) : wI true A B := ⟨fun _ => h, fun z => by cases z⟩
theorem wI_f {A B : Prop} (h : B) : wI false A B := ⟨fun z => (by cases z), fun _ => h⟩
theorem wI_at {c : Bool} {A B : Prop} (e : c = true) (h : A) : wI c A B := by subst e; exact wI_t h
theorem wI_af {c : Bool} {A B : Prop} (e : c = false) (h : B) : wI c A B := by subst e; exact wI_f h
theorem wI_by {c : Bool} {A B : Prop} (h1 : c = true → A) (h2 : c = false → B) : wI c A B := ⟨h1, h2⟩
theorem wO_ex {α : Type} {o : Option α} {Q : α → Prop} (p : ∃ w, o = some w ∧ Q w) : wO o Q := p
theorem wO_of {α : Type} {o : Option α} {w : α} {Q : α → Prop} (e : o = some w) (q : Q w) : wO o Q := ⟨w, e, q⟩

section
variable {α β : Type} {Q : α → MH → Prop} {E : ExP} {r : Option (Out α × MH)} {h h' : MH} {rho : Rho}
theorem wE_eq {a : α} (e : r = some (.ok a, h')) (q : Q a h') : wE Q E r := by rw [e]; exact q
theorem wE_ex {c : Str} {fs : List (Str × D)} (e : r = some (.ex c fs, h')) (q : E c fs h') : wE Q E r := by rw [e]; exact q
theorem eq_of {a : α} (p : wE (fun w h1 => w = a ∧ h1 = h') NoEx r) : r = some (.ok a, h') := by
  rcases r with _ | ⟨w | ⟨c, fs⟩, h1⟩
  · exact p.elim
  · obtain ⟨rfl, rfl⟩ := (show w = a ∧ h1 = h' from p); rfl
  · exact (show False from p).elim
theorem ex_of {c : Str} (p : wE (fun _ _ => False) (fun c' fs h1 => c' = c ∧ fs = [] ∧ h1 = h') r) : r = some (.ex c [], h') := by
  rcases r with _ | ⟨w | ⟨c', fs⟩, h1⟩
  · exact p.elim
  · exact (show False from p).elim
  · obtain ⟨rfl, rfl, rfl⟩ := (show c' = c ∧ fs = [] ∧ h1 = h' from p); rfl
theorem wE_imp {Q' : α → MH → Prop} {E' : ExP} (p : wE Q' E' r) (i : ∀ a h, Q' a h → Q a h) (j : ∀ c fs h, E' c fs h → E c fs h) : wE Q E r := by
  rcases r with _ | ⟨w | ⟨c, fs⟩, h1⟩
  · exact p
  · exact i _ _ p
  · exact j _ _ _ p
theorem wE_get (p : wE Q NoEx r) : ∃ a h', r = some (.ok a, h') ∧ Q a h' := by
  rcases r with _ | ⟨w | ⟨c, fs⟩, h1⟩
  · exact p.elim
  · exact ⟨w, h1, rfl, p⟩
  · exact (show False from p).elim
theorem wE_bind {m : Den β} {f : β → Den α} (p : wE (fun b h1 => wE Q E (f b rho h1)) E (m rho h)) : wE Q E (dBind m f rho h) := by
  unfold dBind mBind
  rcases e : m rho h with _ | ⟨w | ⟨c, fs⟩, h1⟩
  · rw [e] at p; exact p
  · rw [e] at p; exact p
  · rw [e] at p; exact p
theorem wE_map {o : Option α} (p : wO o fun w => Q w h) : wE Q E (o.map fun w => (.ok w, h)) := by
  obtain ⟨w, rfl, q⟩ := p
  exact q
end

/-! ### expressions -/
section
variable {E : ExP} {h : MH} {rho : Rho} {m ma mb mc : Den W} {ms : Den (List W)} {t : Den Bool}
theorem wE_vd {Q : W → MH → Prop} {i : Nat} {x : D} (e : rho[i]? = some (some (.d x))) (q : Q (.d x) h) : wE Q E (dVar i rho h) := by
  unfold dVar; rw [e]; exact q
theorem wE_vo {Q : W → MH → Prop} {i : Nat} {x : List D} (e : rho[i]? = some (some (.own x))) (q : Q (.bor x) h) : wE Q E (dVar i rho h) := by
  unfold dVar; rw [e]; exact q
theorem wE_vr {Q : W → MH → Prop} {i : Nat} {x : Nat} (e : rho[i]? = some (some (.ref x))) (q : Q (.ref x) h) : wE Q E (dVar i rho h) := by
  unfold dVar; rw [e]; exact q
def seenW : W → Option W
  | .own ds => some (.bor ds)
  | .d x => some (.d x)
  | .ref n => some (.ref n)
  | _ => none
theorem wE_var {Q : W → MH → Prop} {i : Nat} (p : ∃ w, rho[i]? = some (some w) ∧ wO (seenW w) fun w => Q w h) : wE Q E (dVar i rho h) := by
  obtain ⟨w, e, w', e2, q⟩ := p
  unfold dVar
  rw [e]
  cases w with
  | d x => cases e2; exact q
  | own ds => cases e2; exact q
  | ref n => cases e2; exact q
  | _ => cases e2
theorem wE_cst {Q : W → MH → Prop} {x : D} (q : Q (.d x) h) : wE Q E (dCst x rho h) := q
theorem wE_p2 {Q : W → MH → Prop} {f : W → W → MH → Option W} (p : wE (fun a h1 => wE (fun b h2 => wO (f a b h2) fun w => Q w h2) E (mb rho h1)) E (ma rho h)) : wE Q E (dP2 f ma mb rho h) :=
  wE_bind (wE_imp p (fun a h1 p => wE_bind (wE_imp p (fun b h2 p => wE_map p) fun _ _ _ z => z)) fun _ _ _ z => z)
theorem wE_app {Q : W → MH → Prop} {f : List W → MH → Option W} (p : wE (fun ws h1 => wO (f ws h1) fun w => Q w h1) E (ms rho h)) : wE Q E (dApp f ms rho h) :=
  wE_bind (wE_imp p (fun a h1 p => wE_map p) fun _ _ _ z => z)
theorem wE_nil {Q : List W → MH → Prop} (q : Q [] h) : wE Q E (dNil rho h) := q
theorem wE_cons {Q : List W → MH → Prop} (p : wE (fun w h1 => wE (fun ws h2 => Q (w :: ws) h2) E (ms rho h1)) E (m rho h)) : wE Q E (dCons m ms rho h) :=
  wE_bind (wE_imp p (fun a h1 p => wE_bind (wE_imp p (fun b h2 p => p) fun _ _ _ z => z)) fun _ _ _ z => z)
theorem wE_cmp {Q : W → MH → Prop} {op : CmpOp} (p : wE (fun a h1 => wE (fun b h2 => wO (cmpW op a b h2) fun r => Q (.d (.bl r)) h2) E (mb rho h1)) E (ma rho h)) : wE Q E (dCmp op ma mb rho h) :=
  wE_bind (wE_imp p (fun a h1 p => wE_bind (wE_imp p (fun b h2 ⟨r, e, q⟩ => by
    show wE Q E ((cmpW op a b h2).map _)
    rw [e]; exact q) fun _ _ _ z => z)) fun _ _ _ z => z)
theorem wE_chain {Q : W → MH → Prop} {op op' : CmpOp} (p : wE (fun a h1 => wE (fun b h2 => wO (cmpW op a b h2) fun r => wI r (wE (fun c h3 => wO (cmpW op' b c h3) fun r => Q (.d (.bl r)) h3) E (mc rho h2)) (Q (.d (.bl false)) h2)) E (mb rho h1)) E (ma rho h)) : wE Q E (dChain op op' ma mb mc rho h) :=
  wE_bind (wE_imp p (fun a h1 p => wE_bind (wE_imp p (fun b h2 ⟨r, e, q⟩ => by
    show wE Q E (match cmpW op a b h2 with
      | some true => dBind mc (fun c _ h => (cmpW op' b c h).map fun r => (.ok (.d (.bl r)), h)) rho h2
      | some false => some (.ok (.d (.bl false)), h2)
      | none => none)
    rw [e]
    cases r with
    | true =>
      refine wE_bind (wE_imp (q.1 rfl) (fun c h3 ⟨r, e, q⟩ => ?_) fun _ _ _ z => z)
      show wE Q E ((cmpW op' b c h3).map _)
      rw [e]; exact q
    | false => exact q.2 rfl) fun _ _ _ z => z)) fun _ _ _ z => z)
theorem wE_asB {Q : Bool → MH → Prop} (p : wE (fun w h1 => ∃ b, w = .d (.bl b) ∧ Q b h1) E (m rho h)) : wE Q E (asB m rho h) :=
  wE_bind (wE_imp p (fun w h1 ⟨b, e, q⟩ => by subst e; exact q) fun _ _ _ z => z)
theorem wE_tru {Q : Bool → MH → Prop} (p : wE (fun w h1 => wO (truW h1 w) fun b => Q b h1) E (m rho h)) : wE Q E (tru m rho h) :=
  wE_bind (wE_imp p (fun w h1 p => wE_map p) fun _ _ _ z => z)
theorem wE_not {Q : Bool → MH → Prop} (p : wE (fun b h1 => Q (!b) h1) E (t rho h)) : wE Q E (dNot t rho h) :=
  wE_bind (wE_imp p (fun w h1 p => p) fun _ _ _ z => z)
theorem wE_notW {Q : W → MH → Prop} (p : wE (fun w h1 => wO (truW h1 w) fun b => Q (.d (.bl (!b))) h1) E (m rho h)) : wE Q E (dNotW m rho h) :=
  wE_bind (wE_imp p (fun w h1 ⟨b, e, q⟩ => by
    show wE Q E ((truW h1 w).map _)
    rw [e]; exact q) fun _ _ _ z => z)
theorem wE_neg {Q : W → MH → Prop} (p : wE (fun w h1 => wO (negW w) fun b => Q b h1) E (m rho h)) : wE Q E (dNeg m rho h) :=
  wE_bind (wE_imp p (fun w h1 p => wE_map p) fun _ _ _ z => z)
theorem wE_and1 {Q : Bool → MH → Prop} (p : wE Q E (t rho h)) : wE Q E (dAnds [t] rho h) := p
theorem wE_and {Q : Bool → MH → Prop} {t2 : Den Bool} {ts : List (Den Bool)} (p : wE (fun b h1 => wI b (wE Q E (dAnds (t2 :: ts) rho h1)) (Q false h1)) E (t rho h)) : wE Q E (dAnds (t :: t2 :: ts) rho h) :=
  wE_bind (wE_imp p (fun b h1 p => by
    cases b with
    | true => exact p.1 rfl
    | false => exact p.2 rfl) fun _ _ _ z => z)
theorem wE_or1 {Q : Bool → MH → Prop} (p : wE Q E (t rho h)) : wE Q E (dOrs [t] rho h) := p
theorem wE_or {Q : Bool → MH → Prop} {t2 : Den Bool} {ts : List (Den Bool)} (p : wE (fun b h1 => wI b (Q true h1) (wE Q E (dOrs (t2 :: ts) rho h1))) E (t rho h)) : wE Q E (dOrs (t :: t2 :: ts) rho h) :=
  wE_bind (wE_imp p (fun b h1 p => by
    cases b with
    | true => exact p.1 rfl
    | false => exact p.2 rfl) fun _ _ _ z => z)
theorem wE_if {Q : W → MH → Prop} (p : wE (fun b h1 => wI b (wE Q E (ma rho h1)) (wE Q E (mb rho h1))) E (t rho h)) : wE Q E (dIf t ma mb rho h) :=
  wE_bind (wE_imp p (fun b h1 p => by
    cases b with
    | true => exact p.1 rfl
    | false => exact p.2 rfl) fun _ _ _ z => z)
theorem wE_andV1 {Q : W → MH → Prop} (p : wE Q E (m rho h)) : wE Q E (dAndV [m] rho h) := p
theorem wE_andV {Q : W → MH → Prop} {m2 : Den W} {ts : List (Den W)} (p : wE (fun w h1 => ∃ b, w = .d (.bl b) ∧ wI b (wE Q E (dAndV (m2 :: ts) rho h1)) (Q (.d (.bl false)) h1)) E (m rho h)) : wE Q E (dAndV (m :: m2 :: ts) rho h) :=
  wE_bind (wE_imp p (fun w h1 ⟨b, e, p⟩ => by
    subst e
    cases b with
    | true => exact p.1 rfl
    | false => exact p.2 rfl) fun _ _ _ z => z)
theorem wE_orV1 {Q : W → MH → Prop} (p : wE Q E (m rho h)) : wE Q E (dOrV [m] rho h) := p
theorem wE_orV {Q : W → MH → Prop} {m2 : Den W} {ts : List (Den W)} (p : wE (fun w h1 => ∃ b, w = .d (.bl b) ∧ wI b (Q (.d (.bl true)) h1) (wE Q E (dOrV (m2 :: ts) rho h1))) E (m rho h)) : wE Q E (dOrV (m :: m2 :: ts) rho h) :=
  wE_bind (wE_imp p (fun w h1 ⟨b, e, p⟩ => by
    subst e
    cases b with
    | true => exact p.1 rfl
    | false => exact p.2 rfl) fun _ _ _ z => z)
theorem wE_isa {Q : W → MH → Prop} {T : String} (p : wE (fun w h1 => wO (isaF T [w] h1) fun r => Q r h1) E (m rho h)) : wE Q E (dIsa T m rho h) :=
  wE_bind (wE_imp p (fun w h1 p => wE_map p) fun _ _ _ z => z)
theorem wE_dat {Q : W → MH → Prop} (p : wE (fun w h1 => wO (datW w) fun r => Q r h1) E (m rho h)) : wE Q E (dDat m rho h) :=
  wE_bind (wE_imp p (fun w h1 p => wE_map p) fun _ _ _ z => z)
theorem wE_arg {Q : W → MH → Prop} (p : wE (fun w h1 => wO (argW w) fun r => Q r h1) E (m rho h)) : wE Q E (dArg m rho h) :=
  wE_bind (wE_imp p (fun w h1 p => wE_map p) fun _ _ _ z => z)
theorem wE_shr {Q : W → MH → Prop} (p : wE (fun w h1 => wO (shrW w h1) fun r => Q r.1 r.2) E (m rho h)) : wE Q E (dShr m rho h) :=
  wE_bind (wE_imp p (fun w h1 ⟨r, e, q⟩ => by
    show wE Q E ((shrW w h1).map _)
    rw [e]; exact q) fun _ _ _ z => z)
theorem wE_rv {Q : W → MH → Prop} (p : wE (fun w h1 => wO (revW' w h1) fun r => Q r h1) E (m rho h)) : wE Q E (dRv m rho h) :=
  wE_bind (wE_imp p (fun w h1 p => wE_map p) fun _ _ _ z => z)
theorem wE_part0 {Q : Option Int → MH → Prop} (q : Q none h) : wE Q E (dPart none rho h) := q
theorem wE_part1 {Q : Option Int → MH → Prop} (p : wE (fun w h1 => ∃ i, w = .d (.int i) ∧ Q (some i) h1) E (m rho h)) : wE Q E (dPart (some m) rho h) :=
  wE_bind (wE_imp p (fun w h1 ⟨b, e, q⟩ => by subst e; exact q) fun _ _ _ z => z)
theorem wE_sl {Q : W → MH → Prop} {lo hi : Option (Den W)} (p : wE (fun a h1 => wE (fun l h2 => wE (fun u h3 => wO (slW a l u h3) fun w => Q w h3) E (dPart hi rho h2)) E (dPart lo rho h1)) E (ma rho h)) : wE Q E (dSl ma lo hi rho h) :=
  wE_bind (wE_imp p (fun a h1 p => wE_bind (wE_imp p (fun b h2 p => wE_bind (wE_imp p (fun c h3 p => wE_map p) fun _ _ _ z => z)) fun _ _ _ z => z)) fun _ _ _ z => z)
theorem wE_ms {Q : W → MH → Prop} {f : Str → W → MH → Option W} (p : wE (fun a h1 => ∃ x, a = .d (.str x) ∧ wE (fun b h2 => wO (f x b h2) fun w => Q w h2) E (mb rho h1)) E (ma rho h)) : wE Q E (dMs f ma mb rho h) :=
  wE_bind (wE_imp p (fun a h1 ⟨x, e, p⟩ => by subst e; exact wE_bind (wE_imp p (fun b h2 p => wE_map p) fun _ _ _ z => z)) fun _ _ _ z => z)
theorem wE_call {Q : W → MH → Prop} {n : Nat} {phi : Phi} (p : wE (fun ws h1 => (ws.length == n && ws.all argOk) = true ∧ wE (fun w h2 => h2.length = h1.length ∧ keptRef h1.length w = true ∧ Q w h2) (fun c fs h2 => h2.length = h1.length ∧ E c fs h2) (phi ws h1)) E (ms rho h)) : wE Q E (dCall n phi ms rho h) := by
  refine wE_bind (wE_imp p (fun ws h1 ⟨ok, p⟩ => ?_) fun _ _ _ z => z)
  show wE Q E (if (ws.length == n && ws.all argOk) = true then trunc h1.length (phi ws h1) else none)
  rw [if_pos ok]
  rcases e : phi ws h1 with _ | ⟨w | ⟨c, fs⟩, h2⟩
  · rw [e] at p; exact p.elim
  · rw [e] at p
    obtain ⟨l, k, q⟩ := (show h2.length = h1.length ∧ keptRef h1.length w = true ∧ Q w h2 from p)
    show wE Q E (if keptRef h1.length w = true then some (Out.ok w, h2.take h1.length) else some (Out.ok w, h2))
    rw [if_pos k, List.take_of_length_le (Nat.le_of_eq l)]
    exact q
  · rw [e] at p
    obtain ⟨l, q⟩ := (show h2.length = h1.length ∧ E c fs h2 from p)
    show E c fs (h2.take h1.length)
    rw [List.take_of_length_le (Nat.le_of_eq l)]
    exact q
/-- a call told by an equation -/
theorem wC_eq {Q : W → MH → Prop} {phi : Phi} {ws : List W} {w : W} (e : phi ws h = some (.ok w, h)) (k : keptRef h.length w = true) (q : Q w h) : wE (fun w h2 => h2.length = h.length ∧ keptRef h.length w = true ∧ Q w h2) (fun c fs h2 => h2.length = h.length ∧ E c fs h2) (phi ws h) := by
  rw [e]; exact ⟨rfl, k, q⟩
theorem wC_ex {Q : W → MH → Prop} {phi : Phi} {ws : List W} {c : Str} {fs : List (Str × D)} (e : phi ws h = some (.ex c fs, h)) (q : E c fs h) : wE (fun w h2 => h2.length = h.length ∧ keptRef h.length w = true ∧ Q w h2) (fun c fs h2 => h2.length = h.length ∧ E c fs h2) (phi ws h) := by
  rw [e]; exact ⟨rfl, q⟩
/-- a call that draws -/
theorem wC_dr {Q : W → MH → Prop} {r : Option (Out W × MH)} {n : Nat} {P : D → Prop} (d : Draws r n h P) (q : ∀ x h', P x → Can n h' → h'.length = h.length → Q (.d x) h') : wE (fun w h2 => h2.length = h.length ∧ keptRef h.length w = true ∧ Q w h2) (fun c fs h2 => h2.length = h.length ∧ E c fs h2) r := by
  obtain ⟨x, h', rfl, p, c, l⟩ := d
  exact ⟨l, rfl, q x h' p c l⟩
theorem wC_drW {Q : W → MH → Prop} {r : Option (Out W × MH)} {n : Nat} {P : D → Prop} (d : DrawsW r n h P) (q : ∀ w x h', datW w = some (.d x) → P x → Can n h' → h'.length = h.length → keptRef h.length w = true → Q w h') : wE (fun w h2 => h2.length = h.length ∧ keptRef h.length w = true ∧ Q w h2) (fun c fs h2 => h2.length = h.length ∧ E c fs h2) r := by
  obtain ⟨w, x, h', rfl, e, p, c, l⟩ := d
  have k : keptRef h.length w = true := by cases w <;> first | rfl | (cases e)
  exact ⟨l, k, q w x h' e p c l k⟩
theorem drawsE_of {r : Option (Out W × MH)} {n : Nat} {P : D → Prop} (p : wE (fun w h' => ∃ x, w = .d x ∧ P x ∧ Can n h' ∧ h'.length = h.length) NoEx r) : Draws r n h P := by
  obtain ⟨w, h', e, x, rfl, q⟩ := wE_get p
  exact ⟨x, h', e, q⟩
theorem drawsWE_of {r : Option (Out W × MH)} {n : Nat} {P : D → Prop} (p : wE (fun w h' => ∃ x, datW w = some (.d x) ∧ P x ∧ Can n h' ∧ h'.length = h.length) NoEx r) : DrawsW r n h P := by
  obtain ⟨w, h', e, x, q⟩ := wE_get p
  exact ⟨w, x, h', e, q⟩
/-- try, word -/
theorem wE_try {Q : W → MH → Prop} (p : wE (fun w h1 => ∃ r, retW w = some r ∧ Q r h1) (fun c fs h1 => fs = [] ∧ errL.contains c = true ∧ Q (.d (.str (namesD c))) h1) (m rho h)) : wE Q E (dTry true m rho h) := by
  unfold dTry
  rcases e : m rho h with _ | ⟨w | ⟨c, fs⟩, h1⟩
  · rw [e] at p; exact p.elim
  · rw [e] at p
    obtain ⟨r, e1, q⟩ := (show ∃ r, retW w = some r ∧ Q r h1 from p)
    show wE Q E (if true = true then (retW w).map (fun w => (Out.ok w, h1)) else some (Out.ok (W.d (D.str "")), h1))
    rw [if_pos rfl, e1]; exact q
  · rw [e] at p
    obtain ⟨rfl, e1, q⟩ := (show fs = [] ∧ errL.contains c = true ∧ Q (.d (.str (namesD c))) h1 from p)
    show wE Q E (if errL.contains c = true then _ else none)
    rw [if_pos e1]; exact q
theorem wE_word {Q : W → MH → Prop} (p : wE (fun w h1 => Q (.d (.str "")) h1) (fun c fs h1 => fs = [] ∧ errL.contains c = true ∧ Q (.d (.str (namesD c))) h1) (m rho h)) : wE Q E (dTry false m rho h) := by
  unfold dTry
  rcases e : m rho h with _ | ⟨w | ⟨c, fs⟩, h1⟩
  · rw [e] at p; exact p.elim
  · rw [e] at p
    exact p
  · rw [e] at p
    obtain ⟨rfl, e1, q⟩ := (show fs = [] ∧ errL.contains c = true ∧ Q (.d (.str (namesD c))) h1 from p)
    show wE Q E (if errL.contains c = true then _ else none)
    rw [if_pos e1]; exact q
/-- what is walked -/
theorem wE_iseq {Q : List D → MH → Prop} (p : wE (fun w h1 => wO (itemsW w) fun ds => Q ds h1) E (m rho h)) : wE Q E (iSeq m rho h) :=
  wE_bind (wE_imp p (fun w h1 p => wE_map p) fun _ _ _ z => z)
theorem wE_iapp {Q : List D → MH → Prop} {f : List W → Option (List D)} (p : wE (fun ws h1 => wO (f ws) fun ds => Q ds h1) E (ms rho h)) : wE Q E (iApp f ms rho h) :=
  wE_bind (wE_imp p (fun w h1 p => wE_map p) fun _ _ _ z => z)
/-- comprehensions: pure -/
def lcP (T : Tgt) (mt : Den Bool) (me : Den W) (rho : Rho) (h : MH) (p : D → Bool) (g : D → D) (d : D) : Prop :=
  ∃ bs, T.asg d = some bs ∧ wE (fun b h1 => b = p d ∧ h1 = h) NoEx (mt (setR bs rho) h) ∧ (p d = true → wE (fun w h1 => w = .d (g d) ∧ h1 = h) NoEx (me (setR bs rho) h))
theorem lcP_of {T : Tgt} {mt : Den Bool} {me : Den W} {rho : Rho} {h : MH} {p : D → Bool} {g : D → D} {ds : List D} (H : ∀ d ∈ ds, lcP T mt me rho h p g d) : lcGo T mt me rho ds h = some ((ds.filter p).map g, h) :=
  lcGo_filter p g ds fun d hd => by
    obtain ⟨bs, e1, e2, e3⟩ := H d hd
    exact ⟨bs, e1, eq_of e2, fun z => eq_of (e3 z)⟩
theorem wE_lc {Q : W → MH → Prop} {T : Tgt} {mi : Den (List D)} {mt : Den Bool} {me : Den W} {vs : List Nat} (p : wE (fun ds h1 => ∃ ys h2, lcGo T mt me (wipeR rho vs) ds h1 = some (ys, h2) ∧ ys.length ≤ LIM ∧ Q (.own ys) h2) E (mi rho h)) : wE Q E (dLc T mi mt me vs rho h) := by
  refine wE_bind (wE_imp p (fun ds h1 ⟨ys, h2, e, l, q⟩ => ?_) fun _ _ _ z => z)
  show wE Q E (match lcGo T mt me (wipeR rho vs) ds h1 with
    | some (ys, h') => if ys.length ≤ LIM then some (.ok (.own ys), h') else none
    | none => none)
  rw [e]
  show wE Q E (if ys.length ≤ LIM then some (.ok (.own ys), h2) else none)
  rw [if_pos l]; exact q
/-- .. without a test -/
def lcM (T : Tgt) (me : Den W) (rho : Rho) (h : MH) (g : D → D) (d : D) : Prop := ∃ bs, T.asg d = some bs ∧ wE (fun w h1 => w = .d (g d) ∧ h1 = h) NoEx (me (setR bs rho) h)
theorem lcM_of {T : Tgt} {me : Den W} {rho : Rho} {h : MH} {g : D → D} {ds : List D} (H : ∀ d ∈ ds, lcM T me rho h g d) : lcGo T dYes me rho ds h = some (ds.map g, h) :=
  lcGo_map g ds fun d hd => by
    obtain ⟨bs, e1, e2⟩ := H d hd
    exact ⟨bs, e1, rfl, eq_of e2⟩
theorem lc_map {Q : List D → MH → Prop} {T : Tgt} {me : Den W} {ds : List D} (g : D → D) (H : ∀ d ∈ ds, lcM T me rho h g d) (l : ds.length ≤ LIM) (q : Q (ds.map g) h) : ∃ ys h2, lcGo T dYes me rho ds h = some (ys, h2) ∧ ys.length ≤ LIM ∧ Q ys h2 :=
  ⟨_, h, lcM_of H, by rw [List.length_map]; exact l, q⟩
theorem lc_filt {Q : List D → MH → Prop} {T : Tgt} {mt : Den Bool} {me : Den W} {ds : List D} (p : D → Bool) (g : D → D) (H : ∀ d ∈ ds, lcP T mt me rho h p g d) (l : ds.length ≤ LIM) (q : Q ((ds.filter p).map g) h) : ∃ ys h2, lcGo T mt me rho ds h = some (ys, h2) ∧ ys.length ≤ LIM ∧ Q ys h2 :=
  ⟨_, h, lcP_of H, by rw [List.length_map]; exact Nat.le_trans (List.length_filter_le _ _) l, q⟩
/-- .. that draw -/
theorem lc_inv {Q : List D → MH → Prop} {T : Tgt} {me : Den W} {ds : List D} (I : MH → Prop) (P : D → Prop) (H : ∀ d ∈ ds, ∀ h, I h → ∃ bs, T.asg d = some bs ∧ wE (fun w h1 => ∃ y, w = .d y ∧ I h1 ∧ P y) NoEx (me (setR bs rho) h)) (l : ds.length ≤ LIM) (i : I h) (q : ∀ ys h', I h' → ys.length = ds.length → (∀ y ∈ ys, P y) → Q ys h') : ∃ ys h2, lcGo T dYes me rho ds h = some (ys, h2) ∧ ys.length ≤ LIM ∧ Q ys h2 := by
  obtain ⟨ys, h2, e, i2, len, py⟩ := lcGo_inv (T := T) (mt := dYes) (me := me) (rho := rho) (I := I) (P := P) ds h (fun d hd h i => by
    obtain ⟨bs, e1, p⟩ := H d hd h i
    obtain ⟨w, h', e, y, rfl, i2, py⟩ := wE_get p
    exact ⟨bs, h, y, h', e1, rfl, e, i2, py⟩) i
  exact ⟨ys, h2, e, by rw [len]; exact l, q ys h2 i2 len py⟩
end

/-! ### statements -/
def stow : W → Bool
  | .bor _ => false
  | .od => false
  | _ => true
section
variable {nx bk ct : Rho → MH → Prop} {rt : W → MH → Prop} {ex : ExP} {h : MH} {rho : Rho} {m ma mb : Den W} {ms : Den (List W)} {t : Den Bool} {a b : DenS}
theorem wS_seq (p : wS (fun r h1 => wS nx rt bk ct ex (b r h1)) rt bk ct ex (a rho h)) : wS nx rt bk ct ex (sSeq a b rho h) := by
  unfold sSeq
  rcases e : a rho h with _ | ⟨r | w | r | r | ⟨c, fs, r⟩, h1⟩ <;> (rw [e] at p; exact p)
theorem wS_nil (q : nx rho h) : wS nx rt bk ct ex (sNil rho h) := q
theorem wS_cont (q : ct rho h) : wS nx rt bk ct ex (sCont rho h) := q
theorem wS_break (q : bk rho h) : wS nx rt bk ct ex (sBreak rho h) := q
theorem wS_eb {α : Type} {m : Den α} {f : α → DenS} (p : wE (fun v h1 => wS nx rt bk ct ex (f v rho h1)) ex (m rho h)) : wS nx rt bk ct ex (eBind m f rho h) := by
  unfold eBind
  rcases e : m rho h with _ | ⟨w | ⟨c, fs⟩, h1⟩ <;> (rw [e] at p; exact p)
theorem wS_if (p : wE (fun c h1 => wI c (wS nx rt bk ct ex (a rho h1)) (wS nx rt bk ct ex (b rho h1))) ex (t rho h)) : wS nx rt bk ct ex (sIf t a b rho h) :=
  wS_eb (wE_imp p (fun c h1 p => by
    cases c with
    | true => exact p.1 rfl
    | false => exact p.2 rfl) fun _ _ _ z => z)
theorem wS_ret (p : wE (fun w h1 => wO (retW w) fun w => rt w h1) ex (m rho h)) : wS nx rt bk ct ex (sRet m rho h) :=
  wS_eb (wE_imp p (fun w h1 ⟨r, e, q⟩ => by
    show wS nx rt bk ct ex ((retW w).map _)
    rw [e]; exact q) fun _ _ _ z => z)
theorem wS_retN (q : rt (.d .non) h) : wS nx rt bk ct ex (sRetN rho h) := q
theorem wS_retN' : True := trivial
theorem wS_retV {i : Nat} (p : ∃ w, rho[i]? = some (some w) ∧ stow w = true ∧ rt w h) : wS nx rt bk ct ex (sRetV i rho h) := by
  obtain ⟨w, e, hw, q⟩ := p
  unfold sRetV
  rw [e]
  cases w with
  | d x => exact q
  | own ds => exact q
  | ref n => exact q
  | _ => cases hw
theorem wS_set {i : Nat} (p : wE (fun w h1 => wO (retW w) fun w => nx (rho.set i (some w)) h1) ex (m rho h)) : wS nx rt bk ct ex (sSet i m rho h) :=
  wS_eb (wE_imp p (fun w h1 ⟨r, e, q⟩ => by
    cases w with
    | d x => cases e; exact q
    | own ds => cases e; exact q
    | ref n => cases e; exact q
    | _ => cases e) fun _ _ _ z => z)
theorem wS_drop (p : wE (fun _ h1 => nx rho h1) ex (m rho h)) : wS nx rt bk ct ex (sDrop m rho h) := wS_eb (wE_imp p (fun w h1 q => q) fun _ _ _ z => z)
theorem wS_raise {c : Str} (q : ex c [] h) : wS nx rt bk ct ex (sRaise c rho h) := q
theorem wS_frz {i : Nat} (p : ∃ ds, rho[i]? = some (some (.own ds)) ∧ nx (rho.set i (some (.d (.lst ds)))) h) : wS nx rt bk ct ex (sFrz i rho h) := by
  obtain ⟨ds, e, q⟩ := p
  unfold sFrz; rw [e]; exact q
theorem wS_frz' {i : Nat} (p : ∃ ds, rho[i]? = some (some (.d (.lst ds))) ∧ nx rho h) : wS nx rt bk ct ex (sFrz i rho h) := by
  obtain ⟨ds, e, q⟩ := p
  unfold sFrz; rw [e]; exact q
theorem wS_unp {T : Tgt} (p : wE (fun w h1 => ∃ d, w = .d d ∧ wO (T.asg d) fun bs => nx (setR bs rho) h1) ex (m rho h)) : wS nx rt bk ct ex (sUnp T m rho h) :=
  wS_eb (wE_imp p (fun w h1 ⟨d, e, bs, e2, q⟩ => by
    subst e
    show wS nx rt bk ct ex ((T.asg d).map _)
    rw [e2]; exact q) fun _ _ _ z => z)
theorem wS_aug {i : Nat} (p : ∃ x, rho[i]? = some (some (.d x)) ∧ wE (fun w h1 => ∃ d, w = .d d ∧ wO (augF x d) fun r => nx (rho.set i (some (.d r))) h1) ex (m rho h)) : wS nx rt bk ct ex (sAug i m rho h) := by
  obtain ⟨x, e, p⟩ := p
  unfold sAug
  rw [e]
  refine wS_eb (wE_imp p (fun w h1 ⟨d, e, bs, e2, q⟩ => ?_) fun _ _ _ z => z)
  subst e
  show wS nx rt bk ct ex ((augF x d).map _)
  rw [e2]; exact q
theorem wS_own {i : Nat} {f : List D → List W → MH → Option (D × List D)} (p : ∃ ds, rho[i]? = some (some (.own ds)) ∧ wE (fun ws h1 => wO (f ds ws h1) fun r => nx (rho.set i (some (.own r.2))) h1) ex (ms rho h)) : wS nx rt bk ct ex (sOwn i ms f rho h) := by
  obtain ⟨ds, e, p⟩ := p
  unfold sOwn sOwnM
  rw [e]
  refine wS_eb (wE_imp p (fun ws h1 ⟨r, e, q⟩ => ?_) fun _ _ _ z => z)
  obtain ⟨w, es⟩ := r
  simp only [e]
  exact q
theorem wS_ownSet {i j : Nat} {f : List D → List W → MH → Option (D × List D)} (p : ∃ ds, rho[i]? = some (some (.own ds)) ∧ wE (fun ws h1 => wO (f ds ws h1) fun r => nx ((rho.set i (some (.own r.2))).set j (some (.d r.1))) h1) ex (ms rho h)) : wS nx rt bk ct ex (sOwnSet j i ms f rho h) := by
  obtain ⟨ds, e, p⟩ := p
  unfold sOwnSet sOwnM
  rw [e]
  refine wS_eb (wE_imp p (fun ws h1 ⟨r, e, q⟩ => ?_) fun _ _ _ z => z)
  obtain ⟨w, es⟩ := r
  simp only [e]
  exact q
theorem put_ok {i : Nat} {w r : W} (e : retW w = some r) : sPut i w rho h = some (.nx (rho.set i (some r)), h) := by
  cases w with
  | d x => cases e; rfl
  | own ds => cases e; rfl
  | ref n => cases e; rfl
  | _ => cases e
theorem wS_par2 {i j : Nat} (p : wE (fun ws h1 => ∃ a b, ws = [a, b] ∧ wO (retW a) fun a => wO (retW b) fun b => nx ((rho.set i (some a)).set j (some b)) h1) ex (ms rho h)) : wS nx rt bk ct ex (sPar2 i j ms rho h) :=
  wS_eb (wE_imp p (fun ws h1 ⟨a, b, e, a', e1, b', e2, q⟩ => by
    subst e
    refine wS_seq ?_
    rw [put_ok e1]
    show wS nx rt bk ct ex (sPut j b _ h1)
    rw [put_ok e2]
    exact q) fun _ _ _ z => z)
theorem wS_par3 {i j l : Nat} (p : wE (fun ws h1 => ∃ a b c, ws = [a, b, c] ∧ wO (retW a) fun a => wO (retW b) fun b => wO (retW c) fun c => nx (((rho.set i (some a)).set j (some b)).set l (some c)) h1) ex (ms rho h)) : wS nx rt bk ct ex (sPar3 i j l ms rho h) :=
  wS_eb (wE_imp p (fun ws h1 ⟨a, b, c, e, a', e1, b', e2, c', e3, q⟩ => by
    subst e
    refine wS_seq ?_
    rw [put_ok e1]
    refine wS_seq ?_
    rw [put_ok e2]
    show wS nx rt bk ct ex (sPut l c _ h1)
    rw [put_ok e3]
    exact q) fun _ _ _ z => z)
theorem wS_item {i : Nat} {mk : Den W} (p : wE (fun w h1 => ∃ n, rho[i]? = some (some (.ref n)) ∧ wE (fun z h2 => ∃ x k ds j, w = .d x ∧ z = .d (.int k) ∧ obl h2[n]? = some ds ∧ ixN ds.length k = some j ∧ nx rho (h2.set n (.lst (ds.set j x)))) ex (mk rho h1)) ex (m rho h)) : wS nx rt bk ct ex (sItem i m mk rho h) := by
  refine wS_eb (wE_imp p (fun w h1 ⟨n, e, p⟩ => ?_) fun _ _ _ z => z)
  simp only [e]
  refine wS_eb (wE_imp p (fun z h2 ⟨x, k, ds, j, e1, e2, e3, e4, q⟩ => ?_) fun _ _ _ z => z)
  subst e1 e2
  simp only [e3, e4]
  exact q
theorem wS_itemO {i : Nat} {mk : Den W} (p : wE (fun w h1 => ∃ ds0, rho[i]? = some (some (.own ds0)) ∧ wE (fun z h2 => ∃ x k j, w = .d x ∧ z = .d (.int k) ∧ ixN ds0.length k = some j ∧ nx (rho.set i (some (.own (ds0.set j x)))) h2) ex (mk rho h1)) ex (m rho h)) : wS nx rt bk ct ex (sItemO i m mk rho h) := by
  refine wS_eb (wE_imp p (fun w h1 ⟨ds0, e, p⟩ => ?_) fun _ _ _ z => z)
  simp only [e]
  refine wS_eb (wE_imp p (fun z h2 ⟨x, k, j, e1, e2, e4, q⟩ => ?_) fun _ _ _ z => z)
  subst e1 e2
  simp only [e, e4]
  exact q
theorem wS_for {T : Tgt} {mi : Den (List D)} (p : wE (fun ds h1 => wS nx rt bk ct ex (sLoop T b ds rho h1)) ex (mi rho h)) : wS nx rt bk ct ex (sFor T mi b rho h) := wS_eb p
/-- a loop by what holds ahead of each turn -/
theorem wS_loop {T : Tgt} {ds : List D} (I : Rho → MH → Prop) (i : I rho h) (H : ∀ d ∈ ds, ∀ rho h, I rho h → ∃ bs, T.asg d = some bs ∧ wS I rt nx I ex (b (setR bs rho) h)) (q : ∀ rho h, I rho h → nx rho h) : wS nx rt bk ct ex (sLoop T b ds rho h) := by
  induction ds generalizing rho h with
  | nil => exact q _ _ i
  | cons d ds ih =>
    obtain ⟨bs, e, p⟩ := H d List.mem_cons_self rho h i
    have ih' := fun {rho h} i => ih (rho := rho) (h := h) i fun x hx => H x (List.mem_cons_of_mem _ hx)
    unfold sLoop
    simp only [e]
    rcases eb : b (setR bs rho) h with _ | ⟨r | w | r | r | ⟨c, fs, r⟩, h1⟩
    · rw [eb] at p; exact p.elim
    · rw [eb] at p; exact ih' p
    · rw [eb] at p; exact p
    · rw [eb] at p; exact p
    · rw [eb] at p; exact ih' p
    · rw [eb] at p; exact p
/-- .. and which things are gone by -/
theorem wS_loopP {T : Tgt} {ds : List D} (I : List D → Rho → MH → Prop) (done : List D) (i : I done rho h) (H : ∀ (pre : List D) (d : D) (post : List D), done ++ ds = pre ++ d :: post → ∀ rho h, I pre rho h → ∃ bs, T.asg d = some bs ∧ wS (I (pre ++ [d])) rt nx (I (pre ++ [d])) ex (b (setR bs rho) h)) (q : ∀ rho h, I (done ++ ds) rho h → nx rho h) : wS nx rt bk ct ex (sLoop T b ds rho h) := by
  induction ds generalizing rho h done with
  | nil => exact q _ _ (by rw [List.append_nil]; exact i)
  | cons d ds ih =>
    obtain ⟨bs, e, p⟩ := H done d ds rfl rho h i
    have ih' := fun {rho h} i => ih (rho := rho) (h := h) (done ++ [d]) i (fun pre x post e => H pre x post (by rw [← e, List.append_assoc]; rfl)) (by rw [List.append_assoc]; exact q)
    unfold sLoop
    simp only [e]
    rcases eb : b (setR bs rho) h with _ | ⟨r | w | r | r | ⟨c, fs, r⟩, h1⟩
    · rw [eb] at p; exact p.elim
    · rw [eb] at p; exact ih' p
    · rw [eb] at p; exact p
    · rw [eb] at p; exact p
    · rw [eb] at p; exact ih' p
    · rw [eb] at p; exact p
theorem wS_imp {nx' bk' ct' : Rho → MH → Prop} {rt' : W → MH → Prop} {ex' : ExP} {r : Option (OutS × MH)} (p : wS nx' rt' bk' ct' ex' r) (i1 : ∀ r h, nx' r h → nx r h) (i2 : ∀ w h, rt' w h → rt w h) (i3 : ∀ r h, bk' r h → bk r h) (i4 : ∀ r h, ct' r h → ct r h) (i5 : ∀ c fs h, ex' c fs h → ex c fs h) : wS nx rt bk ct ex r := by
  rcases r with _ | ⟨r | w | r | r | ⟨c, fs, r⟩, h1⟩
  · exact p
  · exact i1 _ _ p
  · exact i2 _ _ p
  · exact i3 _ _ p
  · exact i4 _ _ p
  · exact i5 _ _ _ p
theorem wE_run {N : List Str} {m : DenS} {ws : List W} {Q : W → MH → Prop} {E : ExP} (p : wS (fun _ h1 => Q (.d .non) h1) Q (fun _ _ => False) (fun _ _ => False) E (m (ws.map some ++ List.replicate (N.length - ws.length) none) h)) : wE Q E (runD N m ws h) := by
  unfold runD
  rcases e : m (ws.map some ++ List.replicate (N.length - ws.length) none) h with _ | ⟨r | w | r | r | ⟨c, fs, r⟩, h1⟩ <;> (rw [e] at p; exact p)
end

/-! ### leaves -/
section
variable {h : MH} {i j : Int} {x y : Str}
theorem c_eqI : cmpW .Eq (.d (.int i)) (.d (.int j)) h = some (decide (i = j)) := by show some (eqD _ _) = _; rw [eqD_int]
theorem c_neI : cmpW .NotEq (.d (.int i)) (.d (.int j)) h = some (!decide (i = j)) := by show some (!eqD _ _) = _; rw [eqD_int]
theorem c_eqS : cmpW .Eq (.d (.str x)) (.d (.str y)) h = some (decide (x = y)) := by show some (eqD _ _) = _; rw [eqD_str]
theorem c_neS : cmpW .NotEq (.d (.str x)) (.d (.str y)) h = some (!decide (x = y)) := by show some (!eqD _ _) = _; rw [eqD_str]
theorem m_l (a : -P64 < i ∧ i < P64) : mulW (.d (.int i)) (.d (.int j)) h = some (.d (.int (i * j))) := if_pos (by simp [a])
theorem m_r (a : -P64 < j ∧ j < P64) : mulW (.d (.int i)) (.d (.int j)) h = some (.d (.int (i * j))) := if_pos (by simp [a])
theorem a_str (a : x.length + y.length ≤ LIM) : addW (.d (.str x)) (.d (.str y)) h = some (.d (.str (x ++ y))) := if_pos a
theorem l_str (a : x.length ≤ LIM) : lenF [.d (.str x)] h = some (.d (.int x.length)) := if_pos a
theorem r_1 {k : Int} (a : -L62 ≤ k ∧ k < L62) : rng1W [.d (.int k)] = some (rangeD 0 k.toNat) := if_pos a
theorem r_2 (a : -L62 ≤ i ∧ i < L62 ∧ -L62 ≤ j ∧ j < L62) : rng2W [.d (.int i), .d (.int j)] = some (rangeD i (j - i).toNat) := if_pos a
end

end Dn

set_option maxHeartbeats 4000000
namespace Dn
open PySem PySem.Spec PyProof.Rows L2
section
variable {E : ExP} {h : MH} {rho : Rho} {ma mb : Den W} {ms : Den (List W)}
theorem wE_cnt {Q : W → MH → Prop} (p : wE (fun a h1 => ∃ ds, a = .d (.tup ds) ∧ wE (fun b h2 => ∃ y, b = .d y ∧ (okD 60 y && ds.all (okD 60)) = true ∧ Q (.d (.int (cntD ds y : Nat))) h2) E (mb rho h1)) E (ma rho h)) : wE Q E (dCnt ma mb rho h) :=
  wE_bind (wE_imp p (fun a h1 ⟨ds, e, p⟩ => by
    subst e
    refine wE_bind (wE_imp p (fun b h2 ⟨y, e, o, q⟩ => ?_) fun _ _ _ z => z)
    subst e
    show wE Q E (if (okD 60 y && ds.all (okD 60)) = true then some (.ok (.d (.int (cntD ds y : Nat))), h2) else none)
    rw [if_pos o]; exact q) fun _ _ _ z => z)
theorem wE_sset {Q : W → MH → Prop} (p : wE (fun ws h1 => wO (setF ws) fun ns => Q (.own (ns.map .int)) h1) E (ms rho h)) : wE Q E (dSset ms rho h) :=
  wE_bind (wE_imp p (fun ws h1 ⟨ns, e, q⟩ => by
    show wE Q E ((setF ws).map _)
    rw [e]; exact q) fun _ _ _ z => z)
end
end Dn

set_option maxHeartbeats 4000000
namespace Dn
open PySem PySem.Spec PyProof.Rows L2
section
variable {nx bk ct : Rho → MH → Prop} {rt : W → MH → Prop} {ex : ExP} {h : MH} {rho : Rho} {b : DenS} {T : Tgt} {d : D} {ds : List D} {bs : List (Nat × D)}
theorem wS_loop1 (e : T.asg d = some bs) (p : wS (fun r h1 => wS nx rt bk ct ex (sLoop T b ds r h1)) rt nx (fun r h1 => wS nx rt bk ct ex (sLoop T b ds r h1)) ex (b (setR bs rho) h)) : wS nx rt bk ct ex (sLoop T b (d :: ds) rho h) := by
  show wS nx rt bk ct ex (match T.asg d with
    | none => none
    | some bs => match b (setR bs rho) h with
      | some (.nx r, h') => sLoop T b ds r h'
      | some (.ct r, h') => sLoop T b ds r h'
      | some (.bk r, h') => some (.nx r, h')
      | some (.rt w, h') => some (.rt w, h')
      | some (.ex c fs r, h') => some (.ex c fs r, h')
      | none => none)
  rw [e]
  show wS nx rt bk ct ex (match b (setR bs rho) h with
      | some (.nx r, h') => sLoop T b ds r h'
      | some (.ct r, h') => sLoop T b ds r h'
      | some (.bk r, h') => some (.nx r, h')
      | some (.rt w, h') => some (.rt w, h')
      | some (.ex c fs r, h') => some (.ex c fs r, h')
      | none => none)
  rcases eb : b (setR bs rho) h with _ | ⟨r | w | r | r | ⟨c, fs, r⟩, h1⟩ <;> (rw [eb] at p; exact p)
end
end Dn

set_option maxHeartbeats 4000000
namespace Dn
open PySem PySem.Spec PyProof.Rows L2
section
variable {E : ExP} {h : MH} {rho : Rho} {ms : Den (List W)}
theorem wE_callV {Q : W → MH → Prop} {n i : Nat} {xs : List Str} {fs : List Phi} (p : ∃ x, rho[i]? = some (some (.d (.fr x))) ∧ ∃ (j : Nat) (phi : Phi), xs.findIdx? (fun y => decide (y = x)) = some j ∧ fs[j]? = some phi ∧ wE Q E (dCall n phi ms rho h)) : wE Q E (dCallV n xs fs i ms rho h) := by
  obtain ⟨x, e1, j, phi, e2, e3, p⟩ := p
  unfold dCallV
  simp only [e1, e2, e3]
  exact p
end
end Dn

set_option maxHeartbeats 4000000
namespace Lw
open PySem PySem.Spec PyProof.Rows L2 Dn

theorem wE_run0 {N : List Str} {m : DenS} {st : List (Option W)} {Q : W → MH → Prop} {E : ExP} {h : MH} (e : List.map some [] ++ List.replicate (N.length - ([] : List W).length) none = st) (p : wS (fun _ h1 => Q (.d .non) h1) Q (fun _ _ => False) (fun _ _ => False) E (m st h)) : wE Q E (runD N m [] h) := by
  subst e
  exact wE_run p
def top (i : Nat) : Stmt := PySem.Challenge.pw_brokenchains_k01_weights_chains_and_thei.main.body.getD i (.Pass ⟨0, 0, 0, 0⟩)
structure Fx (G : Gx) (cL : Str → Addr) : Prop where
  n_abs : G.mg "abs" = none
  n_all : G.mg "all" = none
  n_bool : G.mg "bool" = none
  n_int : G.mg "int" = none
  n_isinstance : G.mg "isinstance" = none
  n_len : G.mg "len" = none
  n_list : G.mg "list" = none
  n_max : G.mg "max" = none
  n_min : G.mg "min" = none
  n_range : G.mg "range" = none
  n_sorted : G.mg "sorted" = none
  n_str : G.mg "str" = none
  n_sum : G.mg "sum" = none
  n_tuple : G.mg "tuple" = none
  n_zip : G.mg "zip" = none
  c_LETTERS : ∃ u, G.mg "LETTERS" = some u ∧ RelV (.str "abc") u
  c_MOST_LINKS : ∃ u, G.mg "MOST_LINKS" = some u ∧ RelV (.int 14) u
  c_MOST_PIECES : ∃ u, G.mg "MOST_PIECES" = some u ∧ RelV (.int 30) u
  c_MOST_WEIGHT : ∃ u, G.mg "MOST_WEIGHT" = some u ∧ RelV (.int 9) u
  c_MOST_WHOLE : ∃ u, G.mg "MOST_WHOLE" = some u ∧ RelV (.int 126) u
  x_InvalidChain : ExcK G "InvalidChain"
  x_InvalidWeights : ExcK G "InvalidWeights"
  d_is_integer : ∃ g fd, FunD G.K "is_integer" "is_integer" (defArgs (top 20)) (defBody (top 20)) (defScope (top 20)) [] [] g fd ∧ G.mg "is_integer" = some (.ref g)
  d_is_weights : ∃ g fd, FunD G.K "is_weights" "is_weights" (defArgs (top 21)) (defBody (top 21)) (defScope (top 21)) [] [] g fd ∧ G.mg "is_weights" = some (.ref g)
  d_kinds_of : ∃ g fd, FunD G.K "kinds_of" "kinds_of" (defArgs (top 22)) (defBody (top 22)) (defScope (top 22)) [] [] g fd ∧ G.mg "kinds_of" = some (.ref g)
  d_is_links : ∃ g fd, FunD G.K "is_links" "is_links" (defArgs (top 23)) (defBody (top 23)) (defScope (top 23)) [] [] g fd ∧ G.mg "is_links" = some (.ref g)
  d_link_weight : ∃ g fd, FunD G.K "link_weight" "link_weight" (defArgs (top 24)) (defBody (top 24)) (defScope (top 24)) [] [] g fd ∧ G.mg "link_weight" = some (.ref g)
  d_weight_by : ∃ g fd, FunD G.K "weight_by" "weight_by" (defArgs (top 25)) (defBody (top 25)) (defScope (top 25)) [] [] g fd ∧ G.mg "weight_by" = some (.ref g)
  d_beginnings_of : ∃ g fd, FunD G.K "beginnings_of" "beginnings_of" (defArgs (top 26)) (defBody (top 26)) (defScope (top 26)) [] [] g fd ∧ G.mg "beginnings_of" = some (.ref g)
  d_pieces_by : ∃ g fd, FunD G.K "pieces_by" "pieces_by" (defArgs (top 27)) (defBody (top 27)) (defScope (top 27)) [] [] g fd ∧ G.mg "pieces_by" = some (.ref g)
  d_heap_by : ∃ g fd, FunD G.K "heap_by" "heap_by" (defArgs (top 28)) (defBody (top 28)) (defScope (top 28)) [] [] g fd ∧ G.mg "heap_by" = some (.ref g)
  d_upright_by : ∃ g fd, FunD G.K "upright_by" "upright_by" (defArgs (top 29)) (defBody (top 29)) (defScope (top 29)) [] [] g fd ∧ G.mg "upright_by" = some (.ref g)
  d_need_weights : ∃ g fd, FunD G.K "need_weights" "need_weights" (defArgs (top 30)) (defBody (top 30)) (defScope (top 30)) [] [] g fd ∧ G.mg "need_weights" = some (.ref g)
  d_need_links : ∃ g fd, FunD G.K "need_links" "need_links" (defArgs (top 31)) (defBody (top 31)) (defScope (top 31)) [] [] g fd ∧ G.mg "need_links" = some (.ref g)
  d_need_chain : ∃ g fd, FunD G.K "need_chain" "need_chain" (defArgs (top 32)) (defBody (top 32)) (defScope (top 32)) [] [] g fd ∧ G.mg "need_chain" = some (.ref g)
  d_is_chain : ∃ g fd, FunD G.K "is_chain" "is_chain" (defArgs (top 33)) (defBody (top 33)) (defScope (top 33)) [] [] g fd ∧ G.mg "is_chain" = some (.ref g)
  d_weight_of : ∃ g fd, FunD G.K "weight_of" "weight_of" (defArgs (top 34)) (defBody (top 34)) (defScope (top 34)) [] [] g fd ∧ G.mg "weight_of" = some (.ref g)
  d_heap_of : ∃ g fd, FunD G.K "heap_of" "heap_of" (defArgs (top 35)) (defBody (top 35)) (defScope (top 35)) [] [] g fd ∧ G.mg "heap_of" = some (.ref g)
  d_turned : ∃ g fd, FunD G.K "turned" "turned" (defArgs (top 36)) (defBody (top 36)) (defScope (top 36)) [] [] g fd ∧ G.mg "turned" = some (.ref g)
  d_upright : ∃ g fd, FunD G.K "upright" "upright" (defArgs (top 37)) (defBody (top 37)) (defScope (top 37)) [] [] g fd ∧ G.mg "upright" = some (.ref g)
  d_are_pieces : ∃ g fd, FunD G.K "are_pieces" "are_pieces" (defArgs (top 41)) (defBody (top 41)) (defScope (top 41)) [] [] g fd ∧ G.mg "are_pieces" = some (.ref g)
  d_is_heap : ∃ g fd, FunD G.K "is_heap" "is_heap" (defArgs (top 42)) (defBody (top 42)) (defScope (top 42)) [] [] g fd ∧ G.mg "is_heap" = some (.ref g)
  d__law_can : ∃ g fd, FunD G.K "_law_can" "_law_can" (defArgs (top 44)) (defBody (top 44)) (defScope (top 44)) [] [] g fd ∧ G.mg "_law_can" = some (.ref g)
  d__law_pour : ∃ g fd, FunD G.K "_law_pour" "_law_pour" (defArgs (top 45)) (defBody (top 45)) (defScope (top 45)) [] [] g fd ∧ G.mg "_law_pour" = some (.ref g)
  d__law_pick : ∃ g fd, FunD G.K "_law_pick" "_law_pick" (defArgs (top 46)) (defBody (top 46)) (defScope (top 46)) [] [] g fd ∧ G.mg "_law_pick" = some (.ref g)
  d__law_weight : ∃ g fd, FunD G.K "_law_weight" "_law_weight" (defArgs (top 47)) (defBody (top 47)) (defScope (top 47)) [] [] g fd ∧ G.mg "_law_weight" = some (.ref g)
  d__law_heap : ∃ g fd, FunD G.K "_law_heap" "_law_heap" (defArgs (top 48)) (defBody (top 48)) (defScope (top 48)) [] [] g fd ∧ G.mg "_law_heap" = some (.ref g)
  d__law_any_weights : ∃ g fd, FunD G.K "_law_any_weights" "_law_any_weights" (defArgs (top 49)) (defBody (top 49)) (defScope (top 49)) [] [] g fd ∧ G.mg "_law_any_weights" = some (.ref g)
  d__law_any_chain : ∃ g fd, FunD G.K "_law_any_chain" "_law_any_chain" (defArgs (top 50)) (defBody (top 50)) (defScope (top 50)) [] [] g fd ∧ G.mg "_law_any_chain" = some (.ref g)
  d__law_int : ∃ g fd, FunD G.K "_law_int" "_law_int" (defArgs (top 51)) (defBody (top 51)) (defScope (top 51)) [] [] g fd ∧ G.mg "_law_int" = some (.ref g)
  d__law_good_weights : ∃ g fd, FunD G.K "_law_good_weights" "_law_good_weights" (defArgs (top 52)) (defBody (top 52)) (defScope (top 52)) [] [] g fd ∧ G.mg "_law_good_weights" = some (.ref g)
  d__law_good_chain : ∃ g fd, FunD G.K "_law_good_chain" "_law_good_chain" (defArgs (top 53)) (defBody (top 53)) (defScope (top 53)) [] [] g fd ∧ G.mg "_law_good_chain" = some (.ref g)
  d__law_good_heap : ∃ g fd, FunD G.K "_law_good_heap" "_law_good_heap" (defArgs (top 54)) (defBody (top 54)) (defScope (top 54)) [] [] g fd ∧ G.mg "_law_good_heap" = some (.ref g)
  d__law_any_value : ∃ g fd, FunD G.K "_law_any_value" "_law_any_value" (defArgs (top 55)) (defBody (top 55)) (defScope (top 55)) [] [] g fd ∧ G.mg "_law_any_value" = some (.ref g)
  d__law_bent : ∃ g fd, FunD G.K "_law_bent" "_law_bent" (defArgs (top 56)) (defBody (top 56)) (defScope (top 56)) [] [] g fd ∧ G.mg "_law_bent" = some (.ref g)
  d__law_known : ∃ g fd, FunD G.K "_law_known" "_law_known" (defArgs (top 60)) (defBody (top 60)) (defScope (top 60)) [] [] g fd ∧ G.mg "_law_known" = some (.ref g)
  d__law_chain_right : ∃ g fd, FunD G.K "_law_chain_right" "_law_chain_right" (defArgs (top 61)) (defBody (top 61)) (defScope (top 61)) [] [] g fd ∧ G.mg "_law_chain_right" = some (.ref g)
  d__law_refused : ∃ g fd, FunD G.K "_law_refused" "_law_refused" (defArgs (top 62)) (defBody (top 62)) (defScope (top 62)) [] [] g fd ∧ G.mg "_law_refused" = some (.ref g) ∧ fd.code = .ref (cL "_law_refused")
  d__law_written : ∃ g fd, FunD G.K "_law_written" "_law_written" (defArgs (top 63)) (defBody (top 63)) (defScope (top 63)) [] [] g fd ∧ G.mg "_law_written" = some (.ref g)
  l__law_word : LamF G "_law_word" false
  l__law_tried : LamF G "_law_tried" true
  names : NamesH G
  cat : CatF G
  tab__law_refused : TabF G ⟨defScope (top 62), "_law_refused" ++ ".<locals>.", some (cL "_law_refused")⟩
section
variable {G : Gx} {cL : Str → Addr}
/-! ### is_integer -/
abbrev N_is_integer : List Str := ["value", "low", "high"]
abbrev st_is_integer_1 : DenS :=
  (sRet (dAndV [(dIsa "int" (dVar 0)), (dNotW (dIsa "bool" (dVar 0))), (dChain .LtE .LtE (dVar 1) (dVar 0) (dVar 2))]))
abbrev m_is_integer : DenS :=
  (sSeq st_is_integer_1 sNil)
def phi_is_integer : Phi := runD N_is_integer m_is_integer
theorem w_is_integer {Q : W → MH → Prop} {E : ExP} {h : MH} {a0 a1 a2 : W} (p : wS (fun _ h1 => Q (.d .non) h1) Q (fun _ _ => False) (fun _ _ => False) E (m_is_integer [some a0, some a1, some a2] h)) : wE Q E (phi_is_integer [a0, a1, a2] h) := wE_run (N := N_is_integer) p
theorem s_is_integer (F : Fx G cL) : DSs G N_is_integer ⟨defScope (top 20), Str.ofString "", none⟩ 0 (defBody (top 20)) m_is_integer :=
  (ds_cons (ds_ret (de_and (.cons (de_isa (T := "int") (de_var (i := 0) (by rfl) (vis_by (by kernel_rfl)) (by kernel_rfl) (by kernel_rfl)) (by rfl) (by kernel_rfl) F.n_isinstance (by kernel_rfl) F.n_int (by kernel_rfl) (by decide) (by kernel_rfl)) (.cons (de_not (de_isa (T := "bool") (de_var (i := 0) (by rfl) (vis_by (by kernel_rfl)) (by kernel_rfl) (by kernel_rfl)) (by rfl) (by kernel_rfl) F.n_isinstance (by kernel_rfl) F.n_bool (by kernel_rfl) (by decide) (by kernel_rfl))) (.cons (de_chain (de_var (i := 1) (by rfl) (vis_by (by kernel_rfl)) (by kernel_rfl) (by kernel_rfl)) (de_var (i := 0) (by rfl) (vis_by (by kernel_rfl)) (by kernel_rfl) (by kernel_rfl)) (de_var (i := 2) (by rfl) (vis_by (by kernel_rfl)) (by kernel_rfl) (by kernel_rfl)) (by rfl)) .nil))))) ds_nil)
theorem S_is_integer : FnScope N_is_integer ["value", "low", "high"] (defScope (top 20)) := ⟨rfl, rfl, rfl, by decide +kernel, rfl, by decide +kernel, by decide +kernel⟩
theorem f_is_integer {k : Nat} (F : Fx G cL) (hk : 1 ≤ k) : FnS G k "is_integer" 3 phi_is_integer := by
  obtain ⟨g, fd, h, hg⟩ := F.d_is_integer
  exact (fnS_of h hg S_is_integer (h.bindsN (fun _ _ _ _ _ _ us hl => match us, hl with | [_, _, _], _ => rfl)) (s_is_integer F)).mono hk
/-! ### is_weights -/
abbrev N_is_weights : List Str := ["value", "weight"]
abbrev st_is_weights_1 : DenS :=
  (sIf (dOrs [(dNot (tru (dIsa "tuple" (dVar 0)))), (asB (dCmp .NotIn (dApp lenF (dCons (dVar 0) dNil)) (dApp tupF (dCons (dCst (.int 2)) (dCons (dCst (.int 3)) dNil)))))]) (sSeq (sRet (dCst (.bl false))) sNil) sNil)
abbrev i_is_weights_1 : Den (List D) :=
  (iSeq (dVar 0))
abbrev e_is_weights_1 : Den W :=
  (dDat (dCall 3 phi_is_integer (dCons (dVar 1) (dCons (dCst (.int 1)) (dCons (dCst (.int 9)) dNil)))))
abbrev st_is_weights_2 : DenS :=
  (sRet (dApp allF (dCons (dLc (.nm 1) i_is_weights_1 dYes e_is_weights_1 [1]) dNil)))
abbrev m_is_weights : DenS :=
  (sSeq st_is_weights_1 (sSeq st_is_weights_2 sNil))
def phi_is_weights : Phi := runD N_is_weights m_is_weights
theorem w_is_weights {Q : W → MH → Prop} {E : ExP} {h : MH} {a0 : W} (p : wS (fun _ h1 => Q (.d .non) h1) Q (fun _ _ => False) (fun _ _ => False) E (m_is_weights [some a0, none] h)) : wE Q E (phi_is_weights [a0] h) := wE_run (N := N_is_weights) p
theorem s_is_weights (F : Fx G cL) : DSs G N_is_weights ⟨defScope (top 21), Str.ofString "", none⟩ 1 (defBody (top 21)) m_is_weights :=
  (ds_cons (ds_if (dt_or (.cons (dt_not (dt_tru (de_isa (T := "tuple") (de_var (i := 0) (by rfl) (vis_by (by kernel_rfl)) (by kernel_rfl) (by kernel_rfl)) (by rfl) (by kernel_rfl) F.n_isinstance (by kernel_rfl) F.n_tuple (by kernel_rfl) (by decide) (by kernel_rfl)) (by rfl))) (.cons (dt_cmp (de_callB (f := lenF) (fun X ft => cr_lenF ft) (by kernel_rfl) F.n_len (by kernel_rfl) (da_cons (de_var (i := 0) (by rfl) (vis_by (by kernel_rfl)) (by kernel_rfl) (by kernel_rfl)) da_nil (by rfl)) (by rfl) (by decide) (by kernel_rfl)) (de_tup (da_cons de_int (da_cons de_int da_nil (by rfl)) (by rfl))) (by rfl)) .nil))) (ds_cons (ds_ret de_bl) ds_nil) ds_nil) (ds_cons (ds_ret (de_callB (f := allF) (fun X ft => cr_allF ft) (by kernel_rfl) F.n_all (by kernel_rfl) (da_cons (de_lc (own := [("weight", 1)]) (di_seq (de_var (i := 0) (by rfl) (vis_by (by kernel_rfl)) (by kernel_rfl) (by kernel_rfl))) (by kernel_rfl) (dg_nm (by rfl) (.inl (by kernel_rfl))) (by rfl) dc_nil (de_dat (de_call (f_is_integer F (by decide)) (by kernel_rfl) (da_cons (de_var (i := 1) (by rfl) (vis_by (by kernel_rfl)) (by kernel_rfl) (by kernel_rfl)) (da_cons de_int (da_cons (de_globI (by kernel_rfl) F.c_MOST_WEIGHT (by kernel_rfl)) da_nil (by rfl)) (by rfl)) (by rfl)) (by rfl) (by kernel_rfl))) (fun _ _ => rfl)) da_nil (by rfl)) (by rfl) (by decide) (by kernel_rfl))) ds_nil))
theorem S_is_weights : FnScope N_is_weights ["value"] (defScope (top 21)) := ⟨rfl, rfl, rfl, by decide +kernel, rfl, by decide +kernel, by decide +kernel⟩
theorem f_is_weights {k : Nat} (F : Fx G cL) (hk : 2 ≤ k) : FnS G k "is_weights" 1 phi_is_weights := by
  obtain ⟨g, fd, h, hg⟩ := F.d_is_weights
  exact (fnS_of h hg S_is_weights (h.bindsN (fun _ _ _ _ _ _ us hl => match us, hl with | [_], _ => rfl)) (s_is_weights F)).mono hk
/-! ### kinds_of -/
abbrev N_kinds_of : List Str := ["weights"]
abbrev st_kinds_of_1 : DenS :=
  (sRet (dSl (dCst (.str "abc")) none (some (dApp lenF (dCons (dVar 0) dNil)))))
abbrev m_kinds_of : DenS :=
  (sSeq st_kinds_of_1 sNil)
def phi_kinds_of : Phi := runD N_kinds_of m_kinds_of
theorem w_kinds_of {Q : W → MH → Prop} {E : ExP} {h : MH} {a0 : W} (p : wS (fun _ h1 => Q (.d .non) h1) Q (fun _ _ => False) (fun _ _ => False) E (m_kinds_of [some a0] h)) : wE Q E (phi_kinds_of [a0] h) := wE_run (N := N_kinds_of) p
theorem s_kinds_of (F : Fx G cL) : DSs G N_kinds_of ⟨defScope (top 22), Str.ofString "", none⟩ 0 (defBody (top 22)) m_kinds_of :=
  (ds_cons (ds_ret (de_sl (de_globS (by kernel_rfl) F.c_LETTERS (by kernel_rfl)) .none (.some (de_callB (f := lenF) (fun X ft => cr_lenF ft) (by kernel_rfl) F.n_len (by kernel_rfl) (da_cons (de_var (i := 0) (by rfl) (vis_by (by kernel_rfl)) (by kernel_rfl) (by kernel_rfl)) da_nil (by rfl)) (by rfl) (by decide) (by kernel_rfl))))) ds_nil)
theorem S_kinds_of : FnScope N_kinds_of ["weights"] (defScope (top 22)) := ⟨rfl, rfl, rfl, by decide +kernel, rfl, by decide +kernel, by decide +kernel⟩
theorem f_kinds_of {k : Nat} (F : Fx G cL) (hk : 1 ≤ k) : FnS G k "kinds_of" 1 phi_kinds_of := by
  obtain ⟨g, fd, h, hg⟩ := F.d_kinds_of
  exact (fnS_of h hg S_kinds_of (h.bindsN (fun _ _ _ _ _ _ us hl => match us, hl with | [_], _ => rfl)) (s_kinds_of F)).mono hk
/-! ### is_links -/
abbrev N_is_links : List Str := ["weights", "value", "letter"]
abbrev st_is_links_1 : DenS :=
  (sIf (dOrs [(dNot (tru (dIsa "str" (dVar 1)))), (dNot (asB (dChain .LtE .LtE (dCst (.int 1)) (dApp lenF (dCons (dVar 1) dNil)) (dCst (.int 14)))))]) (sSeq (sRet (dCst (.bl false))) sNil) sNil)
abbrev i_is_links_1 : Den (List D) :=
  (iSeq (dVar 1))
abbrev e_is_links_1 : Den W :=
  (dCmp .In (dVar 2) (dCall 1 phi_kinds_of (dCons (dVar 0) dNil)))
abbrev st_is_links_2 : DenS :=
  (sRet (dApp allF (dCons (dLc (.nm 2) i_is_links_1 dYes e_is_links_1 [2]) dNil)))
abbrev m_is_links : DenS :=
  (sSeq st_is_links_1 (sSeq st_is_links_2 sNil))
def phi_is_links : Phi := runD N_is_links m_is_links
theorem w_is_links {Q : W → MH → Prop} {E : ExP} {h : MH} {a0 a1 : W} (p : wS (fun _ h1 => Q (.d .non) h1) Q (fun _ _ => False) (fun _ _ => False) E (m_is_links [some a0, some a1, none] h)) : wE Q E (phi_is_links [a0, a1] h) := wE_run (N := N_is_links) p
theorem s_is_links (F : Fx G cL) : DSs G N_is_links ⟨defScope (top 23), Str.ofString "", none⟩ 1 (defBody (top 23)) m_is_links :=
  (ds_cons (ds_if (dt_or (.cons (dt_not (dt_tru (de_isa (T := "str") (de_var (i := 1) (by rfl) (vis_by (by kernel_rfl)) (by kernel_rfl) (by kernel_rfl)) (by rfl) (by kernel_rfl) F.n_isinstance (by kernel_rfl) F.n_str (by kernel_rfl) (by decide) (by kernel_rfl)) (by rfl))) (.cons (dt_not (dt_chain de_int (de_callB (f := lenF) (fun X ft => cr_lenF ft) (by kernel_rfl) F.n_len (by kernel_rfl) (da_cons (de_var (i := 1) (by rfl) (vis_by (by kernel_rfl)) (by kernel_rfl) (by kernel_rfl)) da_nil (by rfl)) (by rfl) (by decide) (by kernel_rfl)) (de_globI (by kernel_rfl) F.c_MOST_LINKS (by kernel_rfl)) (by rfl))) .nil))) (ds_cons (ds_ret de_bl) ds_nil) ds_nil) (ds_cons (ds_ret (de_callB (f := allF) (fun X ft => cr_allF ft) (by kernel_rfl) F.n_all (by kernel_rfl) (da_cons (de_lc (own := [("letter", 2)]) (di_seq (de_var (i := 1) (by rfl) (vis_by (by kernel_rfl)) (by kernel_rfl) (by kernel_rfl))) (by kernel_rfl) (dg_nm (by rfl) (.inl (by kernel_rfl))) (by rfl) dc_nil (de_cmp (de_var (i := 2) (by rfl) (vis_by (by kernel_rfl)) (by kernel_rfl) (by kernel_rfl)) (de_call (f_kinds_of F (by decide)) (by kernel_rfl) (da_cons (de_var (i := 0) (by rfl) (vis_by (by kernel_rfl)) (by kernel_rfl) (by kernel_rfl)) da_nil (by rfl)) (by rfl) (by kernel_rfl)) (by rfl)) (fun _ _ => rfl)) da_nil (by rfl)) (by rfl) (by decide) (by kernel_rfl))) ds_nil))
theorem S_is_links : FnScope N_is_links ["weights", "value"] (defScope (top 23)) := ⟨rfl, rfl, rfl, by decide +kernel, rfl, by decide +kernel, by decide +kernel⟩
theorem f_is_links {k : Nat} (F : Fx G cL) (hk : 2 ≤ k) : FnS G k "is_links" 2 phi_is_links := by
  obtain ⟨g, fd, h, hg⟩ := F.d_is_links
  exact (fnS_of h hg S_is_links (h.bindsN (fun _ _ _ _ _ _ us hl => match us, hl with | [_, _], _ => rfl)) (s_is_links F)).mono hk
/-! ### link_weight -/
abbrev N_link_weight : List Str := ["weights", "letter", "name", "weight"]
abbrev i_link_weight_1 : Den (List D) :=
  (iApp zipW (dCons (dCst (.str "abc")) (dCons (dVar 0) dNil)))
abbrev e_link_weight_1 : Den W :=
  (dVar 3)
abbrev t_link_weight_1 : Den Bool :=
  (asB (dCmp .Eq (dVar 2) (dVar 1)))
abbrev st_link_weight_1 : DenS :=
  (sRet (dApp sumF (dCons (dLc (.tp [2, 3]) i_link_weight_1 t_link_weight_1 e_link_weight_1 [2, 3]) dNil)))
abbrev m_link_weight : DenS :=
  (sSeq st_link_weight_1 sNil)
def phi_link_weight : Phi := runD N_link_weight m_link_weight
theorem w_link_weight {Q : W → MH → Prop} {E : ExP} {h : MH} {a0 a1 : W} (p : wS (fun _ h1 => Q (.d .non) h1) Q (fun _ _ => False) (fun _ _ => False) E (m_link_weight [some a0, some a1, none, none] h)) : wE Q E (phi_link_weight [a0, a1] h) := wE_run (N := N_link_weight) p
theorem s_link_weight (F : Fx G cL) : DSs G N_link_weight ⟨defScope (top 24), Str.ofString "", none⟩ 0 (defBody (top 24)) m_link_weight :=
  (ds_cons (ds_ret (de_callB (f := sumF) (fun X ft => cr_sumF ft) (by kernel_rfl) F.n_sum (by kernel_rfl) (da_cons (de_lc (own := [("name", 2), ("weight", 3)]) (di_zip (by kernel_rfl) F.n_zip (da_cons (de_globS (by kernel_rfl) F.c_LETTERS (by kernel_rfl)) (da_cons (de_var (i := 0) (by rfl) (vis_by (by kernel_rfl)) (by kernel_rfl) (by kernel_rfl)) da_nil (by rfl)) (by rfl)) (by rfl) (by rfl)) (by kernel_rfl) (dg_tp (dgs_cons (by rfl) (.inl (by kernel_rfl)) (dgs_cons (by rfl) (.inl (by kernel_rfl)) dgs_nil)) (fun _ => rfl) (fun _ => rfl)) (by rfl) (dc_one (dt_cmp (de_var (i := 2) (by rfl) (vis_by (by kernel_rfl)) (by kernel_rfl) (by kernel_rfl)) (de_var (i := 1) (by rfl) (vis_by (by kernel_rfl)) (by kernel_rfl) (by kernel_rfl)) (by rfl))) (de_var (i := 3) (by rfl) (vis_by (by kernel_rfl)) (by kernel_rfl) (by kernel_rfl)) (fun _ _ => rfl)) da_nil (by rfl)) (by rfl) (by decide) (by kernel_rfl))) ds_nil)
theorem S_link_weight : FnScope N_link_weight ["weights", "letter"] (defScope (top 24)) := ⟨rfl, rfl, rfl, by decide +kernel, rfl, by decide +kernel, by decide +kernel⟩
theorem f_link_weight {k : Nat} (F : Fx G cL) (hk : 1 ≤ k) : FnS G k "link_weight" 2 phi_link_weight := by
  obtain ⟨g, fd, h, hg⟩ := F.d_link_weight
  exact (fnS_of h hg S_link_weight (h.bindsN (fun _ _ _ _ _ _ us hl => match us, hl with | [_, _], _ => rfl)) (s_link_weight F)).mono hk
/-! ### weight_by -/
abbrev N_weight_by : List Str := ["weights", "chain", "letter"]
abbrev i_weight_by_1 : Den (List D) :=
  (iSeq (dVar 1))
abbrev e_weight_by_1 : Den W :=
  (dDat (dCall 2 phi_link_weight (dCons (dVar 0) (dCons (dVar 2) dNil))))
abbrev st_weight_by_1 : DenS :=
  (sRet (dApp sumF (dCons (dLc (.nm 2) i_weight_by_1 dYes e_weight_by_1 [2]) dNil)))
abbrev m_weight_by : DenS :=
  (sSeq st_weight_by_1 sNil)
def phi_weight_by : Phi := runD N_weight_by m_weight_by
theorem w_weight_by {Q : W → MH → Prop} {E : ExP} {h : MH} {a0 a1 : W} (p : wS (fun _ h1 => Q (.d .non) h1) Q (fun _ _ => False) (fun _ _ => False) E (m_weight_by [some a0, some a1, none] h)) : wE Q E (phi_weight_by [a0, a1] h) := wE_run (N := N_weight_by) p
theorem s_weight_by (F : Fx G cL) : DSs G N_weight_by ⟨defScope (top 25), Str.ofString "", none⟩ 1 (defBody (top 25)) m_weight_by :=
  (ds_cons (ds_ret (de_callB (f := sumF) (fun X ft => cr_sumF ft) (by kernel_rfl) F.n_sum (by kernel_rfl) (da_cons (de_lc (own := [("letter", 2)]) (di_seq (de_var (i := 1) (by rfl) (vis_by (by kernel_rfl)) (by kernel_rfl) (by kernel_rfl))) (by kernel_rfl) (dg_nm (by rfl) (.inl (by kernel_rfl))) (by rfl) dc_nil (de_dat (de_call (f_link_weight F (by decide)) (by kernel_rfl) (da_cons (de_var (i := 0) (by rfl) (vis_by (by kernel_rfl)) (by kernel_rfl) (by kernel_rfl)) (da_cons (de_var (i := 2) (by rfl) (vis_by (by kernel_rfl)) (by kernel_rfl) (by kernel_rfl)) da_nil (by rfl)) (by rfl)) (by rfl) (by kernel_rfl))) (fun _ _ => rfl)) da_nil (by rfl)) (by rfl) (by decide) (by kernel_rfl))) ds_nil)
theorem S_weight_by : FnScope N_weight_by ["weights", "chain"] (defScope (top 25)) := ⟨rfl, rfl, rfl, by decide +kernel, rfl, by decide +kernel, by decide +kernel⟩
theorem f_weight_by {k : Nat} (F : Fx G cL) (hk : 2 ≤ k) : FnS G k "weight_by" 2 phi_weight_by := by
  obtain ⟨g, fd, h, hg⟩ := F.d_weight_by
  exact (fnS_of h hg S_weight_by (h.bindsN (fun _ _ _ _ _ _ us hl => match us, hl with | [_, _], _ => rfl)) (s_weight_by F)).mono hk
/-! ### beginnings_of -/
abbrev N_beginnings_of : List Str := ["weights", "chain", "end"]
abbrev i_beginnings_of_1 : Den (List D) :=
  (iApp rng2W (dCons (dCst (.int 1)) (dCons (dApp lenF (dCons (dVar 1) dNil)) dNil)))
abbrev e_beginnings_of_1 : Den W :=
  (dDat (dCall 2 phi_weight_by (dCons (dVar 0) (dCons (dArg (dSl (dVar 1) none (some (dVar 2)))) dNil))))
abbrev st_beginnings_of_1 : DenS :=
  (sRet (dLc (.nm 2) i_beginnings_of_1 dYes e_beginnings_of_1 [2]))
abbrev m_beginnings_of : DenS :=
  (sSeq st_beginnings_of_1 sNil)
def phi_beginnings_of : Phi := runD N_beginnings_of m_beginnings_of
theorem w_beginnings_of {Q : W → MH → Prop} {E : ExP} {h : MH} {a0 a1 : W} (p : wS (fun _ h1 => Q (.d .non) h1) Q (fun _ _ => False) (fun _ _ => False) E (m_beginnings_of [some a0, some a1, none] h)) : wE Q E (phi_beginnings_of [a0, a1] h) := wE_run (N := N_beginnings_of) p
theorem s_beginnings_of (F : Fx G cL) : DSs G N_beginnings_of ⟨defScope (top 26), Str.ofString "", none⟩ 2 (defBody (top 26)) m_beginnings_of :=
  (ds_cons (ds_ret (de_lc (own := [("end", 2)]) (di_range2 (by kernel_rfl) F.n_range (da_cons de_int (da_cons (de_callB (f := lenF) (fun X ft => cr_lenF ft) (by kernel_rfl) F.n_len (by kernel_rfl) (da_cons (de_var (i := 1) (by rfl) (vis_by (by kernel_rfl)) (by kernel_rfl) (by kernel_rfl)) da_nil (by rfl)) (by rfl) (by decide) (by kernel_rfl)) da_nil (by rfl)) (by rfl)) (by rfl) (by rfl)) (by kernel_rfl) (dg_nm (by rfl) (.inl (by kernel_rfl))) (by rfl) dc_nil (de_dat (de_call (f_weight_by F (by decide)) (by kernel_rfl) (da_cons (de_var (i := 0) (by rfl) (vis_by (by kernel_rfl)) (by kernel_rfl) (by kernel_rfl)) (da_cons (de_arg (de_sl (de_var (i := 1) (by rfl) (vis_by (by kernel_rfl)) (by kernel_rfl) (by kernel_rfl)) .none (.some (de_var (i := 2) (by rfl) (vis_by (by kernel_rfl)) (by kernel_rfl) (by kernel_rfl))))) da_nil (by rfl)) (by rfl)) (by rfl) (by kernel_rfl))) (fun _ _ => rfl))) ds_nil)
theorem S_beginnings_of : FnScope N_beginnings_of ["weights", "chain"] (defScope (top 26)) := ⟨rfl, rfl, rfl, by decide +kernel, rfl, by decide +kernel, by decide +kernel⟩
theorem f_beginnings_of {k : Nat} (F : Fx G cL) (hk : 3 ≤ k) : FnS G k "beginnings_of" 2 phi_beginnings_of := by
  obtain ⟨g, fd, h, hg⟩ := F.d_beginnings_of
  exact (fnS_of h hg S_beginnings_of (h.bindsN (fun _ _ _ _ _ _ us hl => match us, hl with | [_, _], _ => rfl)) (s_beginnings_of F)).mono hk
/-! ### pieces_by -/
abbrev N_pieces_by : List Str := ["whole", "begins", "begin"]
abbrev i_pieces_by_1 : Den (List D) :=
  (iSeq (dVar 1))
abbrev e_pieces_by_1 : Den W :=
  (dDat (dP2 subW (dVar 0) (dVar 2)))
abbrev st_pieces_by_1 : DenS :=
  (sRet (dApp tupleF (dCons (dApp sortF (dCons (dP2 addW (dVar 1) (dLc (.nm 2) i_pieces_by_1 dYes e_pieces_by_1 [2])) dNil)) dNil)))
abbrev m_pieces_by : DenS :=
  (sSeq st_pieces_by_1 sNil)
def phi_pieces_by : Phi := runD N_pieces_by m_pieces_by
theorem w_pieces_by {Q : W → MH → Prop} {E : ExP} {h : MH} {a0 a1 : W} (p : wS (fun _ h1 => Q (.d .non) h1) Q (fun _ _ => False) (fun _ _ => False) E (m_pieces_by [some a0, some a1, none] h)) : wE Q E (phi_pieces_by [a0, a1] h) := wE_run (N := N_pieces_by) p
theorem s_pieces_by (F : Fx G cL) : DSs G N_pieces_by ⟨defScope (top 27), Str.ofString "", none⟩ 0 (defBody (top 27)) m_pieces_by :=
  (ds_cons (ds_ret (de_callTy (f := tupleF) (fun X ft => cr_tupleF ft) (by kernel_rfl) F.n_tuple (by kernel_rfl) (da_cons (de_callB (f := sortF) (fun X ft => cr_sortF ft) (by kernel_rfl) F.n_sorted (by kernel_rfl) (da_cons (de_bin (f := addW) (fun X ft => op_addW ft) (de_var (i := 1) (by rfl) (vis_by (by kernel_rfl)) (by kernel_rfl) (by kernel_rfl)) (de_lc (own := [("begin", 2)]) (di_seq (de_var (i := 1) (by rfl) (vis_by (by kernel_rfl)) (by kernel_rfl) (by kernel_rfl))) (by kernel_rfl) (dg_nm (by rfl) (.inl (by kernel_rfl))) (by rfl) dc_nil (de_dat (de_bin (f := subW) (fun X ft => op_subW) (de_var (i := 0) (by rfl) (vis_by (by kernel_rfl)) (by kernel_rfl) (by kernel_rfl)) (de_var (i := 2) (by rfl) (vis_by (by kernel_rfl)) (by kernel_rfl) (by kernel_rfl)))) (fun _ _ => rfl))) da_nil (by rfl)) (by rfl) (by decide) (by kernel_rfl)) da_nil (by rfl)) (by rfl) (by decide) (by kernel_rfl))) ds_nil)
theorem S_pieces_by : FnScope N_pieces_by ["whole", "begins"] (defScope (top 27)) := ⟨rfl, rfl, rfl, by decide +kernel, rfl, by decide +kernel, by decide +kernel⟩
theorem f_pieces_by {k : Nat} (F : Fx G cL) (hk : 1 ≤ k) : FnS G k "pieces_by" 2 phi_pieces_by := by
  obtain ⟨g, fd, h, hg⟩ := F.d_pieces_by
  exact (fnS_of h hg S_pieces_by (h.bindsN (fun _ _ _ _ _ _ us hl => match us, hl with | [_, _], _ => rfl)) (s_pieces_by F)).mono hk
/-! ### heap_by -/
abbrev N_heap_by : List Str := ["weights", "chain", "whole"]
abbrev st_heap_by_1 : DenS :=
  (sSet 2 (dDat (dCall 2 phi_weight_by (dCons (dVar 0) (dCons (dVar 1) dNil)))))
abbrev st_heap_by_2 : DenS :=
  (sRet (dApp tupF (dCons (dVar 2) (dCons (dDat (dCall 2 phi_pieces_by (dCons (dVar 2) (dCons (dArg (dCall 2 phi_beginnings_of (dCons (dVar 0) (dCons (dVar 1) dNil)))) dNil)))) dNil))))
abbrev m_heap_by : DenS :=
  (sSeq st_heap_by_1 (sSeq st_heap_by_2 sNil))
def phi_heap_by : Phi := runD N_heap_by m_heap_by
theorem w_heap_by {Q : W → MH → Prop} {E : ExP} {h : MH} {a0 a1 : W} (p : wS (fun _ h1 => Q (.d .non) h1) Q (fun _ _ => False) (fun _ _ => False) E (m_heap_by [some a0, some a1, none] h)) : wE Q E (phi_heap_by [a0, a1] h) := wE_run (N := N_heap_by) p
theorem s_heap_by (F : Fx G cL) : DSs G N_heap_by ⟨defScope (top 28), Str.ofString "", none⟩ 3 (defBody (top 28)) m_heap_by :=
  (ds_cons (ds_set (i := 2) (by rfl) (loc_by (by kernel_rfl)) (de_dat (de_call (f_weight_by F (by decide)) (by kernel_rfl) (da_cons (de_var (i := 0) (by rfl) (vis_by (by kernel_rfl)) (by kernel_rfl) (by kernel_rfl)) (da_cons (de_var (i := 1) (by rfl) (vis_by (by kernel_rfl)) (by kernel_rfl) (by kernel_rfl)) da_nil (by rfl)) (by rfl)) (by rfl) (by kernel_rfl))) (fun _ _ => rfl)) (ds_cons (ds_ret (de_tup (da_cons (de_var (i := 2) (by rfl) (vis_by (by kernel_rfl)) (by kernel_rfl) (by kernel_rfl)) (da_cons (de_dat (de_call (f_pieces_by F (by decide)) (by kernel_rfl) (da_cons (de_var (i := 2) (by rfl) (vis_by (by kernel_rfl)) (by kernel_rfl) (by kernel_rfl)) (da_cons (de_arg (de_call (f_beginnings_of F (by decide)) (by kernel_rfl) (da_cons (de_var (i := 0) (by rfl) (vis_by (by kernel_rfl)) (by kernel_rfl) (by kernel_rfl)) (da_cons (de_var (i := 1) (by rfl) (vis_by (by kernel_rfl)) (by kernel_rfl) (by kernel_rfl)) da_nil (by rfl)) (by rfl)) (by rfl) (by kernel_rfl))) da_nil (by rfl)) (by rfl)) (by rfl) (by kernel_rfl))) da_nil (by rfl)) (by rfl)))) ds_nil))
theorem S_heap_by : FnScope N_heap_by ["weights", "chain"] (defScope (top 28)) := ⟨rfl, rfl, rfl, by decide +kernel, rfl, by decide +kernel, by decide +kernel⟩
theorem f_heap_by {k : Nat} (F : Fx G cL) (hk : 4 ≤ k) : FnS G k "heap_by" 2 phi_heap_by := by
  obtain ⟨g, fd, h, hg⟩ := F.d_heap_by
  exact (fnS_of h hg S_heap_by (h.bindsN (fun _ _ _ _ _ _ us hl => match us, hl with | [_, _], _ => rfl)) (s_heap_by F)).mono hk
/-! ### upright_by -/
abbrev N_upright_by : List Str := ["chain", "other"]
abbrev st_upright_by_1 : DenS :=
  (sRet (dIf (asB (dCmp .Lt (dVar 1) (dVar 0))) (dVar 1) (dVar 0)))
abbrev m_upright_by : DenS :=
  (sSeq (sSet 1 (dDat (dRv (dVar 0)))) (sSeq st_upright_by_1 sNil))
def phi_upright_by : Phi := runD N_upright_by m_upright_by
theorem w_upright_by {Q : W → MH → Prop} {E : ExP} {h : MH} {a0 : W} (p : wS (fun _ h1 => Q (.d .non) h1) Q (fun _ _ => False) (fun _ _ => False) E (m_upright_by [some a0, none] h)) : wE Q E (phi_upright_by [a0] h) := wE_run (N := N_upright_by) p
theorem s_upright_by (F : Fx G cL) : DSs G N_upright_by ⟨defScope (top 29), Str.ofString "", none⟩ 0 (defBody (top 29)) m_upright_by :=
  (ds_cons (ds_set (i := 1) (by rfl) (loc_by (by kernel_rfl)) (de_dat (de_rev (de_var (i := 0) (by rfl) (vis_by (by kernel_rfl)) (by kernel_rfl) (by kernel_rfl)))) (fun _ _ => rfl)) (ds_cons (ds_ret (de_if (dt_cmp (de_var (i := 1) (by rfl) (vis_by (by kernel_rfl)) (by kernel_rfl) (by kernel_rfl)) (de_var (i := 0) (by rfl) (vis_by (by kernel_rfl)) (by kernel_rfl) (by kernel_rfl)) (by rfl)) (de_var (i := 1) (by rfl) (vis_by (by kernel_rfl)) (by kernel_rfl) (by kernel_rfl)) (de_var (i := 0) (by rfl) (vis_by (by kernel_rfl)) (by kernel_rfl) (by kernel_rfl)))) ds_nil))
theorem S_upright_by : FnScope N_upright_by ["chain"] (defScope (top 29)) := ⟨rfl, rfl, rfl, by decide +kernel, rfl, by decide +kernel, by decide +kernel⟩
theorem f_upright_by {k : Nat} (F : Fx G cL) (hk : 1 ≤ k) : FnS G k "upright_by" 1 phi_upright_by := by
  obtain ⟨g, fd, h, hg⟩ := F.d_upright_by
  exact (fnS_of h hg S_upright_by (h.bindsN (fun _ _ _ _ _ _ us hl => match us, hl with | [_], _ => rfl)) (s_upright_by F)).mono hk
/-! ### need_weights -/
abbrev N_need_weights : List Str := ["value"]
abbrev st_need_weights_1 : DenS :=
  (sIf (dNot (tru (dCall 1 phi_is_weights (dCons (dVar 0) dNil)))) (sSeq (sRaise "InvalidWeights") sNil) sNil)
abbrev m_need_weights : DenS :=
  (sSeq st_need_weights_1 sNil)
def phi_need_weights : Phi := runD N_need_weights m_need_weights
theorem w_need_weights {Q : W → MH → Prop} {E : ExP} {h : MH} {a0 : W} (p : wS (fun _ h1 => Q (.d .non) h1) Q (fun _ _ => False) (fun _ _ => False) E (m_need_weights [some a0] h)) : wE Q E (phi_need_weights [a0] h) := wE_run (N := N_need_weights) p
theorem s_need_weights (F : Fx G cL) : DSs G N_need_weights ⟨defScope (top 30), Str.ofString "", none⟩ 2 (defBody (top 30)) m_need_weights :=
  (ds_cons (ds_if (dt_not (dt_tru (de_call (f_is_weights F (by decide)) (by kernel_rfl) (da_cons (de_var (i := 0) (by rfl) (vis_by (by kernel_rfl)) (by kernel_rfl) (by kernel_rfl)) da_nil (by rfl)) (by rfl) (by kernel_rfl)) (by rfl))) (ds_cons (ds_raise F.x_InvalidWeights (by kernel_rfl) (by kernel_rfl)) ds_nil) ds_nil) ds_nil)
theorem S_need_weights : FnScope N_need_weights ["value"] (defScope (top 30)) := ⟨rfl, rfl, rfl, by decide +kernel, rfl, by decide +kernel, by decide +kernel⟩
theorem f_need_weights {k : Nat} (F : Fx G cL) (hk : 3 ≤ k) : FnS G k "need_weights" 1 phi_need_weights := by
  obtain ⟨g, fd, h, hg⟩ := F.d_need_weights
  exact (fnS_of h hg S_need_weights (h.bindsN (fun _ _ _ _ _ _ us hl => match us, hl with | [_], _ => rfl)) (s_need_weights F)).mono hk
/-! ### need_links -/
abbrev N_need_links : List Str := ["weights", "value"]
abbrev st_need_links_1 : DenS :=
  (sIf (dNot (tru (dCall 2 phi_is_links (dCons (dVar 0) (dCons (dVar 1) dNil))))) (sSeq (sRaise "InvalidChain") sNil) sNil)
abbrev m_need_links : DenS :=
  (sSeq st_need_links_1 sNil)
def phi_need_links : Phi := runD N_need_links m_need_links
theorem w_need_links {Q : W → MH → Prop} {E : ExP} {h : MH} {a0 a1 : W} (p : wS (fun _ h1 => Q (.d .non) h1) Q (fun _ _ => False) (fun _ _ => False) E (m_need_links [some a0, some a1] h)) : wE Q E (phi_need_links [a0, a1] h) := wE_run (N := N_need_links) p
theorem s_need_links (F : Fx G cL) : DSs G N_need_links ⟨defScope (top 31), Str.ofString "", none⟩ 2 (defBody (top 31)) m_need_links :=
  (ds_cons (ds_if (dt_not (dt_tru (de_call (f_is_links F (by decide)) (by kernel_rfl) (da_cons (de_var (i := 0) (by rfl) (vis_by (by kernel_rfl)) (by kernel_rfl) (by kernel_rfl)) (da_cons (de_var (i := 1) (by rfl) (vis_by (by kernel_rfl)) (by kernel_rfl) (by kernel_rfl)) da_nil (by rfl)) (by rfl)) (by rfl) (by kernel_rfl)) (by rfl))) (ds_cons (ds_raise F.x_InvalidChain (by kernel_rfl) (by kernel_rfl)) ds_nil) ds_nil) ds_nil)
theorem S_need_links : FnScope N_need_links ["weights", "value"] (defScope (top 31)) := ⟨rfl, rfl, rfl, by decide +kernel, rfl, by decide +kernel, by decide +kernel⟩
theorem f_need_links {k : Nat} (F : Fx G cL) (hk : 3 ≤ k) : FnS G k "need_links" 2 phi_need_links := by
  obtain ⟨g, fd, h, hg⟩ := F.d_need_links
  exact (fnS_of h hg S_need_links (h.bindsN (fun _ _ _ _ _ _ us hl => match us, hl with | [_, _], _ => rfl)) (s_need_links F)).mono hk
/-! ### need_chain -/
abbrev N_need_chain : List Str := ["weights", "chain"]
abbrev st_need_chain_1 : DenS :=
  (sDrop (dCall 1 phi_need_weights (dCons (dVar 0) dNil)))
abbrev st_need_chain_2 : DenS :=
  (sDrop (dCall 2 phi_need_links (dCons (dVar 0) (dCons (dVar 1) dNil))))
abbrev m_need_chain : DenS :=
  (sSeq st_need_chain_1 (sSeq st_need_chain_2 sNil))
def phi_need_chain : Phi := runD N_need_chain m_need_chain
theorem w_need_chain {Q : W → MH → Prop} {E : ExP} {h : MH} {a0 a1 : W} (p : wS (fun _ h1 => Q (.d .non) h1) Q (fun _ _ => False) (fun _ _ => False) E (m_need_chain [some a0, some a1] h)) : wE Q E (phi_need_chain [a0, a1] h) := wE_run (N := N_need_chain) p
theorem s_need_chain (F : Fx G cL) : DSs G N_need_chain ⟨defScope (top 32), Str.ofString "", none⟩ 3 (defBody (top 32)) m_need_chain :=
  (ds_cons (ds_expr (de_call (f_need_weights F (by decide)) (by kernel_rfl) (da_cons (de_var (i := 0) (by rfl) (vis_by (by kernel_rfl)) (by kernel_rfl) (by kernel_rfl)) da_nil (by rfl)) (by rfl) (by kernel_rfl)) (fun _ => rfl)) (ds_cons (ds_expr (de_call (f_need_links F (by decide)) (by kernel_rfl) (da_cons (de_var (i := 0) (by rfl) (vis_by (by kernel_rfl)) (by kernel_rfl) (by kernel_rfl)) (da_cons (de_var (i := 1) (by rfl) (vis_by (by kernel_rfl)) (by kernel_rfl) (by kernel_rfl)) da_nil (by rfl)) (by rfl)) (by rfl) (by kernel_rfl)) (fun _ => rfl)) ds_nil))
theorem S_need_chain : FnScope N_need_chain ["weights", "chain"] (defScope (top 32)) := ⟨rfl, rfl, rfl, by decide +kernel, rfl, by decide +kernel, by decide +kernel⟩
theorem f_need_chain {k : Nat} (F : Fx G cL) (hk : 4 ≤ k) : FnS G k "need_chain" 2 phi_need_chain := by
  obtain ⟨g, fd, h, hg⟩ := F.d_need_chain
  exact (fnS_of h hg S_need_chain (h.bindsN (fun _ _ _ _ _ _ us hl => match us, hl with | [_, _], _ => rfl)) (s_need_chain F)).mono hk
/-! ### is_chain -/
abbrev N_is_chain : List Str := ["weights", "value"]
abbrev st_is_chain_1 : DenS :=
  (sDrop (dCall 1 phi_need_weights (dCons (dVar 0) dNil)))
abbrev st_is_chain_2 : DenS :=
  (sRet (dCall 2 phi_is_links (dCons (dVar 0) (dCons (dVar 1) dNil))))
abbrev m_is_chain : DenS :=
  (sSeq st_is_chain_1 (sSeq st_is_chain_2 sNil))
def phi_is_chain : Phi := runD N_is_chain m_is_chain
theorem w_is_chain {Q : W → MH → Prop} {E : ExP} {h : MH} {a0 a1 : W} (p : wS (fun _ h1 => Q (.d .non) h1) Q (fun _ _ => False) (fun _ _ => False) E (m_is_chain [some a0, some a1] h)) : wE Q E (phi_is_chain [a0, a1] h) := wE_run (N := N_is_chain) p
theorem s_is_chain (F : Fx G cL) : DSs G N_is_chain ⟨defScope (top 33), Str.ofString "", none⟩ 3 (defBody (top 33)) m_is_chain :=
  (ds_cons (ds_expr (de_call (f_need_weights F (by decide)) (by kernel_rfl) (da_cons (de_var (i := 0) (by rfl) (vis_by (by kernel_rfl)) (by kernel_rfl) (by kernel_rfl)) da_nil (by rfl)) (by rfl) (by kernel_rfl)) (fun _ => rfl)) (ds_cons (ds_ret (de_call (f_is_links F (by decide)) (by kernel_rfl) (da_cons (de_var (i := 0) (by rfl) (vis_by (by kernel_rfl)) (by kernel_rfl) (by kernel_rfl)) (da_cons (de_var (i := 1) (by rfl) (vis_by (by kernel_rfl)) (by kernel_rfl) (by kernel_rfl)) da_nil (by rfl)) (by rfl)) (by rfl) (by kernel_rfl))) ds_nil))
theorem S_is_chain : FnScope N_is_chain ["weights", "value"] (defScope (top 33)) := ⟨rfl, rfl, rfl, by decide +kernel, rfl, by decide +kernel, by decide +kernel⟩
theorem f_is_chain {k : Nat} (F : Fx G cL) (hk : 4 ≤ k) : FnS G k "is_chain" 2 phi_is_chain := by
  obtain ⟨g, fd, h, hg⟩ := F.d_is_chain
  exact (fnS_of h hg S_is_chain (h.bindsN (fun _ _ _ _ _ _ us hl => match us, hl with | [_, _], _ => rfl)) (s_is_chain F)).mono hk
/-! ### weight_of -/
abbrev N_weight_of : List Str := ["weights", "chain"]
abbrev st_weight_of_1 : DenS :=
  (sDrop (dCall 2 phi_need_chain (dCons (dVar 0) (dCons (dVar 1) dNil))))
abbrev st_weight_of_2 : DenS :=
  (sRet (dCall 2 phi_weight_by (dCons (dVar 0) (dCons (dVar 1) dNil))))
abbrev m_weight_of : DenS :=
  (sSeq st_weight_of_1 (sSeq st_weight_of_2 sNil))
def phi_weight_of : Phi := runD N_weight_of m_weight_of
theorem w_weight_of {Q : W → MH → Prop} {E : ExP} {h : MH} {a0 a1 : W} (p : wS (fun _ h1 => Q (.d .non) h1) Q (fun _ _ => False) (fun _ _ => False) E (m_weight_of [some a0, some a1] h)) : wE Q E (phi_weight_of [a0, a1] h) := wE_run (N := N_weight_of) p
theorem s_weight_of (F : Fx G cL) : DSs G N_weight_of ⟨defScope (top 34), Str.ofString "", none⟩ 4 (defBody (top 34)) m_weight_of :=
  (ds_cons (ds_expr (de_call (f_need_chain F (by decide)) (by kernel_rfl) (da_cons (de_var (i := 0) (by rfl) (vis_by (by kernel_rfl)) (by kernel_rfl) (by kernel_rfl)) (da_cons (de_var (i := 1) (by rfl) (vis_by (by kernel_rfl)) (by kernel_rfl) (by kernel_rfl)) da_nil (by rfl)) (by rfl)) (by rfl) (by kernel_rfl)) (fun _ => rfl)) (ds_cons (ds_ret (de_call (f_weight_by F (by decide)) (by kernel_rfl) (da_cons (de_var (i := 0) (by rfl) (vis_by (by kernel_rfl)) (by kernel_rfl) (by kernel_rfl)) (da_cons (de_var (i := 1) (by rfl) (vis_by (by kernel_rfl)) (by kernel_rfl) (by kernel_rfl)) da_nil (by rfl)) (by rfl)) (by rfl) (by kernel_rfl))) ds_nil))
theorem S_weight_of : FnScope N_weight_of ["weights", "chain"] (defScope (top 34)) := ⟨rfl, rfl, rfl, by decide +kernel, rfl, by decide +kernel, by decide +kernel⟩
theorem f_weight_of {k : Nat} (F : Fx G cL) (hk : 5 ≤ k) : FnS G k "weight_of" 2 phi_weight_of := by
  obtain ⟨g, fd, h, hg⟩ := F.d_weight_of
  exact (fnS_of h hg S_weight_of (h.bindsN (fun _ _ _ _ _ _ us hl => match us, hl with | [_, _], _ => rfl)) (s_weight_of F)).mono hk
/-! ### heap_of -/
abbrev N_heap_of : List Str := ["weights", "chain"]
abbrev st_heap_of_1 : DenS :=
  (sDrop (dCall 2 phi_need_chain (dCons (dVar 0) (dCons (dVar 1) dNil))))
abbrev st_heap_of_2 : DenS :=
  (sRet (dCall 2 phi_heap_by (dCons (dVar 0) (dCons (dVar 1) dNil))))
abbrev m_heap_of : DenS :=
  (sSeq st_heap_of_1 (sSeq st_heap_of_2 sNil))
def phi_heap_of : Phi := runD N_heap_of m_heap_of
theorem w_heap_of {Q : W → MH → Prop} {E : ExP} {h : MH} {a0 a1 : W} (p : wS (fun _ h1 => Q (.d .non) h1) Q (fun _ _ => False) (fun _ _ => False) E (m_heap_of [some a0, some a1] h)) : wE Q E (phi_heap_of [a0, a1] h) := wE_run (N := N_heap_of) p
theorem s_heap_of (F : Fx G cL) : DSs G N_heap_of ⟨defScope (top 35), Str.ofString "", none⟩ 4 (defBody (top 35)) m_heap_of :=
  (ds_cons (ds_expr (de_call (f_need_chain F (by decide)) (by kernel_rfl) (da_cons (de_var (i := 0) (by rfl) (vis_by (by kernel_rfl)) (by kernel_rfl) (by kernel_rfl)) (da_cons (de_var (i := 1) (by rfl) (vis_by (by kernel_rfl)) (by kernel_rfl) (by kernel_rfl)) da_nil (by rfl)) (by rfl)) (by rfl) (by kernel_rfl)) (fun _ => rfl)) (ds_cons (ds_ret (de_call (f_heap_by F (by decide)) (by kernel_rfl) (da_cons (de_var (i := 0) (by rfl) (vis_by (by kernel_rfl)) (by kernel_rfl) (by kernel_rfl)) (da_cons (de_var (i := 1) (by rfl) (vis_by (by kernel_rfl)) (by kernel_rfl) (by kernel_rfl)) da_nil (by rfl)) (by rfl)) (by rfl) (by kernel_rfl))) ds_nil))
theorem S_heap_of : FnScope N_heap_of ["weights", "chain"] (defScope (top 35)) := ⟨rfl, rfl, rfl, by decide +kernel, rfl, by decide +kernel, by decide +kernel⟩
theorem f_heap_of {k : Nat} (F : Fx G cL) (hk : 5 ≤ k) : FnS G k "heap_of" 2 phi_heap_of := by
  obtain ⟨g, fd, h, hg⟩ := F.d_heap_of
  exact (fnS_of h hg S_heap_of (h.bindsN (fun _ _ _ _ _ _ us hl => match us, hl with | [_, _], _ => rfl)) (s_heap_of F)).mono hk
/-! ### turned -/
abbrev N_turned : List Str := ["weights", "chain"]
abbrev st_turned_1 : DenS :=
  (sDrop (dCall 2 phi_need_chain (dCons (dVar 0) (dCons (dVar 1) dNil))))
abbrev m_turned : DenS :=
  (sSeq st_turned_1 (sSeq (sRet (dRv (dVar 1))) sNil))
def phi_turned : Phi := runD N_turned m_turned
theorem w_turned {Q : W → MH → Prop} {E : ExP} {h : MH} {a0 a1 : W} (p : wS (fun _ h1 => Q (.d .non) h1) Q (fun _ _ => False) (fun _ _ => False) E (m_turned [some a0, some a1] h)) : wE Q E (phi_turned [a0, a1] h) := wE_run (N := N_turned) p
theorem s_turned (F : Fx G cL) : DSs G N_turned ⟨defScope (top 36), Str.ofString "", none⟩ 4 (defBody (top 36)) m_turned :=
  (ds_cons (ds_expr (de_call (f_need_chain F (by decide)) (by kernel_rfl) (da_cons (de_var (i := 0) (by rfl) (vis_by (by kernel_rfl)) (by kernel_rfl) (by kernel_rfl)) (da_cons (de_var (i := 1) (by rfl) (vis_by (by kernel_rfl)) (by kernel_rfl) (by kernel_rfl)) da_nil (by rfl)) (by rfl)) (by rfl) (by kernel_rfl)) (fun _ => rfl)) (ds_cons (ds_ret (de_rev (de_var (i := 1) (by rfl) (vis_by (by kernel_rfl)) (by kernel_rfl) (by kernel_rfl)))) ds_nil))
theorem S_turned : FnScope N_turned ["weights", "chain"] (defScope (top 36)) := ⟨rfl, rfl, rfl, by decide +kernel, rfl, by decide +kernel, by decide +kernel⟩
theorem f_turned {k : Nat} (F : Fx G cL) (hk : 5 ≤ k) : FnS G k "turned" 2 phi_turned := by
  obtain ⟨g, fd, h, hg⟩ := F.d_turned
  exact (fnS_of h hg S_turned (h.bindsN (fun _ _ _ _ _ _ us hl => match us, hl with | [_, _], _ => rfl)) (s_turned F)).mono hk
/-! ### upright -/
abbrev N_upright : List Str := ["weights", "chain"]
abbrev st_upright_1 : DenS :=
  (sDrop (dCall 2 phi_need_chain (dCons (dVar 0) (dCons (dVar 1) dNil))))
abbrev st_upright_2 : DenS :=
  (sRet (dCall 1 phi_upright_by (dCons (dVar 1) dNil)))
abbrev m_upright : DenS :=
  (sSeq st_upright_1 (sSeq st_upright_2 sNil))
def phi_upright : Phi := runD N_upright m_upright
theorem w_upright {Q : W → MH → Prop} {E : ExP} {h : MH} {a0 a1 : W} (p : wS (fun _ h1 => Q (.d .non) h1) Q (fun _ _ => False) (fun _ _ => False) E (m_upright [some a0, some a1] h)) : wE Q E (phi_upright [a0, a1] h) := wE_run (N := N_upright) p
theorem s_upright (F : Fx G cL) : DSs G N_upright ⟨defScope (top 37), Str.ofString "", none⟩ 4 (defBody (top 37)) m_upright :=
  (ds_cons (ds_expr (de_call (f_need_chain F (by decide)) (by kernel_rfl) (da_cons (de_var (i := 0) (by rfl) (vis_by (by kernel_rfl)) (by kernel_rfl) (by kernel_rfl)) (da_cons (de_var (i := 1) (by rfl) (vis_by (by kernel_rfl)) (by kernel_rfl) (by kernel_rfl)) da_nil (by rfl)) (by rfl)) (by rfl) (by kernel_rfl)) (fun _ => rfl)) (ds_cons (ds_ret (de_call (f_upright_by F (by decide)) (by kernel_rfl) (da_cons (de_var (i := 1) (by rfl) (vis_by (by kernel_rfl)) (by kernel_rfl) (by kernel_rfl)) da_nil (by rfl)) (by rfl) (by kernel_rfl))) ds_nil))
theorem S_upright : FnScope N_upright ["weights", "chain"] (defScope (top 37)) := ⟨rfl, rfl, rfl, by decide +kernel, rfl, by decide +kernel, by decide +kernel⟩
theorem f_upright {k : Nat} (F : Fx G cL) (hk : 5 ≤ k) : FnS G k "upright" 2 phi_upright := by
  obtain ⟨g, fd, h, hg⟩ := F.d_upright
  exact (fnS_of h hg S_upright (h.bindsN (fun _ _ _ _ _ _ us hl => match us, hl with | [_, _], _ => rfl)) (s_upright F)).mono hk
/-! ### are_pieces -/
abbrev N_are_pieces : List Str := ["value", "whole", "piece"]
abbrev i_are_pieces_1 : Den (List D) :=
  (iSeq (dVar 0))
abbrev e_are_pieces_1 : Den W :=
  (dDat (dCall 3 phi_is_integer (dCons (dVar 2) (dCons (dCst (.int 1)) (dCons (dArg (dP2 subW (dVar 1) (dCst (.int 1)))) dNil)))))
abbrev st_are_pieces_1 : DenS :=
  (sRet (dAndV [(dIsa "tuple" (dVar 0)), (dApp allF (dCons (dLc (.nm 2) i_are_pieces_1 dYes e_are_pieces_1 [2]) dNil))]))
abbrev m_are_pieces : DenS :=
  (sSeq st_are_pieces_1 sNil)
def phi_are_pieces : Phi := runD N_are_pieces m_are_pieces
theorem w_are_pieces {Q : W → MH → Prop} {E : ExP} {h : MH} {a0 a1 : W} (p : wS (fun _ h1 => Q (.d .non) h1) Q (fun _ _ => False) (fun _ _ => False) E (m_are_pieces [some a0, some a1, none] h)) : wE Q E (phi_are_pieces [a0, a1] h) := wE_run (N := N_are_pieces) p
theorem s_are_pieces (F : Fx G cL) : DSs G N_are_pieces ⟨defScope (top 41), Str.ofString "", none⟩ 1 (defBody (top 41)) m_are_pieces :=
  (ds_cons (ds_ret (de_and (.cons (de_isa (T := "tuple") (de_var (i := 0) (by rfl) (vis_by (by kernel_rfl)) (by kernel_rfl) (by kernel_rfl)) (by rfl) (by kernel_rfl) F.n_isinstance (by kernel_rfl) F.n_tuple (by kernel_rfl) (by decide) (by kernel_rfl)) (.cons (de_callB (f := allF) (fun X ft => cr_allF ft) (by kernel_rfl) F.n_all (by kernel_rfl) (da_cons (de_lc (own := [("piece", 2)]) (di_seq (de_var (i := 0) (by rfl) (vis_by (by kernel_rfl)) (by kernel_rfl) (by kernel_rfl))) (by kernel_rfl) (dg_nm (by rfl) (.inl (by kernel_rfl))) (by rfl) dc_nil (de_dat (de_call (f_is_integer F (by decide)) (by kernel_rfl) (da_cons (de_var (i := 2) (by rfl) (vis_by (by kernel_rfl)) (by kernel_rfl) (by kernel_rfl)) (da_cons de_int (da_cons (de_arg (de_bin (f := subW) (fun X ft => op_subW) (de_var (i := 1) (by rfl) (vis_by (by kernel_rfl)) (by kernel_rfl) (by kernel_rfl)) de_int)) da_nil (by rfl)) (by rfl)) (by rfl)) (by rfl) (by kernel_rfl))) (fun _ _ => rfl)) da_nil (by rfl)) (by rfl) (by decide) (by kernel_rfl)) .nil)))) ds_nil)
theorem S_are_pieces : FnScope N_are_pieces ["value", "whole"] (defScope (top 41)) := ⟨rfl, rfl, rfl, by decide +kernel, rfl, by decide +kernel, by decide +kernel⟩
theorem f_are_pieces {k : Nat} (F : Fx G cL) (hk : 2 ≤ k) : FnS G k "are_pieces" 2 phi_are_pieces := by
  obtain ⟨g, fd, h, hg⟩ := F.d_are_pieces
  exact (fnS_of h hg S_are_pieces (h.bindsN (fun _ _ _ _ _ _ us hl => match us, hl with | [_, _], _ => rfl)) (s_are_pieces F)).mono hk
/-! ### is_heap -/
abbrev N_is_heap : List Str := ["value"]
abbrev st_is_heap_1 : DenS :=
  (sIf (dOrs [(dNot (tru (dIsa "tuple" (dVar 0)))), (asB (dCmp .NotEq (dApp lenF (dCons (dVar 0) dNil)) (dCst (.int 2)))), (dNot (tru (dCall 3 phi_is_integer (dCons (dP2 ixW (dVar 0) (dCst (.int 0))) (dCons (dCst (.int 1)) (dCons (dCst (.int 126)) dNil))))))]) (sSeq (sRet (dCst (.bl false))) sNil) sNil)
abbrev st_is_heap_2 : DenS :=
  (sIf (dOrs [(dNot (tru (dCall 2 phi_are_pieces (dCons (dP2 ixW (dVar 0) (dCst (.int 1))) (dCons (dP2 ixW (dVar 0) (dCst (.int 0))) dNil))))), (asB (dCmp .Gt (dApp lenF (dCons (dP2 ixW (dVar 0) (dCst (.int 1))) dNil)) (dCst (.int 30))))]) (sSeq (sRet (dCst (.bl false))) sNil) sNil)
abbrev st_is_heap_3 : DenS :=
  (sRet (dCmp .Eq (dP2 ixW (dVar 0) (dCst (.int 1))) (dApp tupleF (dCons (dApp sortF (dCons (dP2 ixW (dVar 0) (dCst (.int 1))) dNil)) dNil))))
abbrev m_is_heap : DenS :=
  (sSeq st_is_heap_1 (sSeq st_is_heap_2 (sSeq st_is_heap_3 sNil)))
def phi_is_heap : Phi := runD N_is_heap m_is_heap
theorem w_is_heap {Q : W → MH → Prop} {E : ExP} {h : MH} {a0 : W} (p : wS (fun _ h1 => Q (.d .non) h1) Q (fun _ _ => False) (fun _ _ => False) E (m_is_heap [some a0] h)) : wE Q E (phi_is_heap [a0] h) := wE_run (N := N_is_heap) p
theorem s_is_heap (F : Fx G cL) : DSs G N_is_heap ⟨defScope (top 42), Str.ofString "", none⟩ 2 (defBody (top 42)) m_is_heap :=
  (ds_cons (ds_if (dt_or (.cons (dt_not (dt_tru (de_isa (T := "tuple") (de_var (i := 0) (by rfl) (vis_by (by kernel_rfl)) (by kernel_rfl) (by kernel_rfl)) (by rfl) (by kernel_rfl) F.n_isinstance (by kernel_rfl) F.n_tuple (by kernel_rfl) (by decide) (by kernel_rfl)) (by rfl))) (.cons (dt_cmp (de_callB (f := lenF) (fun X ft => cr_lenF ft) (by kernel_rfl) F.n_len (by kernel_rfl) (da_cons (de_var (i := 0) (by rfl) (vis_by (by kernel_rfl)) (by kernel_rfl) (by kernel_rfl)) da_nil (by rfl)) (by rfl) (by decide) (by kernel_rfl)) de_int (by rfl)) (.cons (dt_not (dt_tru (de_call (f_is_integer F (by decide)) (by kernel_rfl) (da_cons (de_ix (de_var (i := 0) (by rfl) (vis_by (by kernel_rfl)) (by kernel_rfl) (by kernel_rfl)) de_int (by rfl)) (da_cons de_int (da_cons (de_globI (by kernel_rfl) F.c_MOST_WHOLE (by kernel_rfl)) da_nil (by rfl)) (by rfl)) (by rfl)) (by rfl) (by kernel_rfl)) (by rfl))) .nil)))) (ds_cons (ds_ret de_bl) ds_nil) ds_nil) (ds_cons (ds_if (dt_or (.cons (dt_not (dt_tru (de_call (f_are_pieces F (by decide)) (by kernel_rfl) (da_cons (de_ix (de_var (i := 0) (by rfl) (vis_by (by kernel_rfl)) (by kernel_rfl) (by kernel_rfl)) de_int (by rfl)) (da_cons (de_ix (de_var (i := 0) (by rfl) (vis_by (by kernel_rfl)) (by kernel_rfl) (by kernel_rfl)) de_int (by rfl)) da_nil (by rfl)) (by rfl)) (by rfl) (by kernel_rfl)) (by rfl))) (.cons (dt_cmp (de_callB (f := lenF) (fun X ft => cr_lenF ft) (by kernel_rfl) F.n_len (by kernel_rfl) (da_cons (de_ix (de_var (i := 0) (by rfl) (vis_by (by kernel_rfl)) (by kernel_rfl) (by kernel_rfl)) de_int (by rfl)) da_nil (by rfl)) (by rfl) (by decide) (by kernel_rfl)) (de_globI (by kernel_rfl) F.c_MOST_PIECES (by kernel_rfl)) (by rfl)) .nil))) (ds_cons (ds_ret de_bl) ds_nil) ds_nil) (ds_cons (ds_ret (de_cmp (de_ix (de_var (i := 0) (by rfl) (vis_by (by kernel_rfl)) (by kernel_rfl) (by kernel_rfl)) de_int (by rfl)) (de_callTy (f := tupleF) (fun X ft => cr_tupleF ft) (by kernel_rfl) F.n_tuple (by kernel_rfl) (da_cons (de_callB (f := sortF) (fun X ft => cr_sortF ft) (by kernel_rfl) F.n_sorted (by kernel_rfl) (da_cons (de_ix (de_var (i := 0) (by rfl) (vis_by (by kernel_rfl)) (by kernel_rfl) (by kernel_rfl)) de_int (by rfl)) da_nil (by rfl)) (by rfl) (by decide) (by kernel_rfl)) da_nil (by rfl)) (by rfl) (by decide) (by kernel_rfl)) (by rfl))) ds_nil)))
theorem S_is_heap : FnScope N_is_heap ["value"] (defScope (top 42)) := ⟨rfl, rfl, rfl, by decide +kernel, rfl, by decide +kernel, by decide +kernel⟩
theorem f_is_heap {k : Nat} (F : Fx G cL) (hk : 3 ≤ k) : FnS G k "is_heap" 1 phi_is_heap := by
  obtain ⟨g, fd, h, hg⟩ := F.d_is_heap
  exact (fnS_of h hg S_is_heap (h.bindsN (fun _ _ _ _ _ _ us hl => match us, hl with | [_], _ => rfl)) (s_is_heap F)).mono hk
/-! ### _law_can -/
abbrev N__law_can : List Str := ["_law_script", "_law_k", "_law_cell"]
abbrev st__law_can_1 : DenS :=
  (sSet 2 (dDat (dIf (asB (dCmp .Lt (dVar 1) (dApp lenF (dCons (dVar 0) dNil)))) (dApp absF (dCons (dApp intF (dCons (dP2 ixW (dVar 0) (dVar 1)) dNil)) dNil)) (dP2 addW (dP2 mulW (dCst (.int 509)) (dVar 1)) (dCst (.int 97))))))
abbrev st__law_can_2 : DenS :=
  (sRet (dApp lstF (dCons (dDat (dIf (asB (dCmp .GtE (dVar 2) (dP2 powW (dCst (.int 10)) (dCst (.int 18))))) (dVar 2) (dCst (.int 0)))) (dCons (dDat (dP2 addW (dP2 modW (dApp intF (dCons (dP2 addW (dP2 addW (dP2 mulW (dVar 2) (dCst (.int 67))) (dP2 mulW (dCst (.int 5387)) (dVar 1))) (dCst (.int 43))) dNil)) (dCst (.int 2147483477))) (dCst (.int 1)))) dNil))))
abbrev m__law_can : DenS :=
  (sSeq st__law_can_1 (sSeq st__law_can_2 sNil))
def phi__law_can : Phi := runD N__law_can m__law_can
theorem w__law_can {Q : W → MH → Prop} {E : ExP} {h : MH} {a0 a1 : W} (p : wS (fun _ h1 => Q (.d .non) h1) Q (fun _ _ => False) (fun _ _ => False) E (m__law_can [some a0, some a1, none] h)) : wE Q E (phi__law_can [a0, a1] h) := wE_run (N := N__law_can) p
theorem s__law_can (F : Fx G cL) : DSs G N__law_can ⟨defScope (top 44), Str.ofString "", none⟩ 0 (defBody (top 44)) m__law_can :=
  (ds_cons (ds_set (i := 2) (by rfl) (loc_by (by kernel_rfl)) (de_dat (de_if (dt_cmp (de_var (i := 1) (by rfl) (vis_by (by kernel_rfl)) (by kernel_rfl) (by kernel_rfl)) (de_callB (f := lenF) (fun X ft => cr_lenF ft) (by kernel_rfl) F.n_len (by kernel_rfl) (da_cons (de_var (i := 0) (by rfl) (vis_by (by kernel_rfl)) (by kernel_rfl) (by kernel_rfl)) da_nil (by rfl)) (by rfl) (by decide) (by kernel_rfl)) (by rfl)) (de_callB (f := absF) (fun X ft => cr_absF) (by kernel_rfl) F.n_abs (by kernel_rfl) (da_cons (de_callTy (f := intF) (fun X ft => cr_intF) (by kernel_rfl) F.n_int (by kernel_rfl) (da_cons (de_ix (de_var (i := 0) (by rfl) (vis_by (by kernel_rfl)) (by kernel_rfl) (by kernel_rfl)) (de_var (i := 1) (by rfl) (vis_by (by kernel_rfl)) (by kernel_rfl) (by kernel_rfl)) (by rfl)) da_nil (by rfl)) (by rfl) (by decide) (by kernel_rfl)) da_nil (by rfl)) (by rfl) (by decide) (by kernel_rfl)) (de_bin (f := addW) (fun X ft => op_addW ft) (de_bin (f := mulW) (fun X ft => op_mulW ft) de_int (de_var (i := 1) (by rfl) (vis_by (by kernel_rfl)) (by kernel_rfl) (by kernel_rfl))) de_int))) (fun _ _ => rfl)) (ds_cons (ds_ret (de_lst (da_cons (de_dat (de_if (dt_cmp (de_var (i := 2) (by rfl) (vis_by (by kernel_rfl)) (by kernel_rfl) (by kernel_rfl)) (de_bin (f := powW) (fun X ft => op_powW) de_int de_int) (by rfl)) (de_var (i := 2) (by rfl) (vis_by (by kernel_rfl)) (by kernel_rfl) (by kernel_rfl)) de_int)) (da_cons (de_dat (de_bin (f := addW) (fun X ft => op_addW ft) (de_bin (f := modW) (fun X ft => op_modW) (de_callTy (f := intF) (fun X ft => cr_intF) (by kernel_rfl) F.n_int (by kernel_rfl) (da_cons (de_bin (f := addW) (fun X ft => op_addW ft) (de_bin (f := addW) (fun X ft => op_addW ft) (de_bin (f := mulW) (fun X ft => op_mulW ft) (de_var (i := 2) (by rfl) (vis_by (by kernel_rfl)) (by kernel_rfl) (by kernel_rfl)) de_int) (de_bin (f := mulW) (fun X ft => op_mulW ft) de_int (de_var (i := 1) (by rfl) (vis_by (by kernel_rfl)) (by kernel_rfl) (by kernel_rfl)))) de_int) da_nil (by rfl)) (by rfl) (by decide) (by kernel_rfl)) de_int) de_int)) da_nil (by rfl)) (by rfl)))) ds_nil))
theorem S__law_can : FnScope N__law_can ["_law_script", "_law_k"] (defScope (top 44)) := ⟨rfl, rfl, rfl, by decide +kernel, rfl, by decide +kernel, by decide +kernel⟩
theorem f__law_can {k : Nat} (F : Fx G cL) (hk : 1 ≤ k) : FnS G k "_law_can" 2 phi__law_can := by
  obtain ⟨g, fd, h, hg⟩ := F.d__law_can
  exact (fnS_of h hg S__law_can (h.bindsN (fun _ _ _ _ _ _ us hl => match us, hl with | [_, _], _ => rfl)) (s__law_can F)).mono hk
/-! ### _law_pour -/
abbrev N__law_pour : List Str := ["_law_can_here", "_law_many", "_law_wide", "_law_part"]
abbrev st__law_pour_1 : DenS :=
  (sSet 3 (dDat (dP2 modW (dApp intF (dCons (dP2 ixW (dVar 0) (dCst (.int 0))) dNil)) (dVar 1))))
abbrev st__law_pour_2 : DenS :=
  (sItem 0 (dDat (dP2 divW (dP2 ixW (dVar 0) (dCst (.int 0))) (dVar 1))) (dCst (.int 0)))
abbrev st__law_pour_3 : DenS :=
  (sIf (asB (dCmp .Gt (dP2 ixW (dVar 0) (dCst (.int 0))) (dCst (.int 0)))) (sSeq st__law_pour_1 (sSeq st__law_pour_2 (sSeq (sRet (dVar 3)) sNil))) sNil)
abbrev st__law_pour_4 : DenS :=
  (sItem 0 (dDat (dP2 modW (dApp intF (dCons (dP2 addW (dP2 mulW (dP2 ixW (dVar 0) (dCst (.int 1))) (dCst (.int 43177))) (dCst (.int 211))) dNil)) (dCst (.int 2147483477)))) (dCst (.int 1)))
abbrev st__law_pour_5 : DenS :=
  (sSet 2 (dDat (dP2 modW (dApp intF (dCons (dP2 mulW (dP2 ixW (dVar 0) (dCst (.int 1))) (dP2 addW (dP2 divW (dP2 ixW (dVar 0) (dCst (.int 1))) (dCst (.int 8))) (dCst (.int 47)))) dNil)) (dCst (.int 2147483399)))))
abbrev st__law_pour_6 : DenS :=
  (sRet (dP2 modW (dApp intF (dCons (dP2 divW (dVar 2) (dCst (.int 32))) dNil)) (dVar 1)))
abbrev m__law_pour : DenS :=
  (sSeq st__law_pour_3 (sSeq st__law_pour_4 (sSeq st__law_pour_5 (sSeq st__law_pour_6 sNil))))
def phi__law_pour : Phi := runD N__law_pour m__law_pour
theorem w__law_pour {Q : W → MH → Prop} {E : ExP} {h : MH} {a0 a1 : W} (p : wS (fun _ h1 => Q (.d .non) h1) Q (fun _ _ => False) (fun _ _ => False) E (m__law_pour [some a0, some a1, none, none] h)) : wE Q E (phi__law_pour [a0, a1] h) := wE_run (N := N__law_pour) p
theorem s__law_pour (F : Fx G cL) : DSs G N__law_pour ⟨defScope (top 45), Str.ofString "", none⟩ 0 (defBody (top 45)) m__law_pour :=
  (ds_cons (ds_if (dt_cmp (de_ix (de_var (i := 0) (by rfl) (vis_by (by kernel_rfl)) (by kernel_rfl) (by kernel_rfl)) de_int (by rfl)) de_int (by rfl)) (ds_cons (ds_set (i := 3) (by rfl) (loc_by (by kernel_rfl)) (de_dat (de_bin (f := modW) (fun X ft => op_modW) (de_callTy (f := intF) (fun X ft => cr_intF) (by kernel_rfl) F.n_int (by kernel_rfl) (da_cons (de_ix (de_var (i := 0) (by rfl) (vis_by (by kernel_rfl)) (by kernel_rfl) (by kernel_rfl)) de_int (by rfl)) da_nil (by rfl)) (by rfl) (by decide) (by kernel_rfl)) (de_var (i := 1) (by rfl) (vis_by (by kernel_rfl)) (by kernel_rfl) (by kernel_rfl)))) (fun _ _ => rfl)) (ds_cons (ds_item (i := 0) (by rfl) (vis_by (by kernel_rfl)) (by kernel_rfl) (by kernel_rfl) (de_dat (de_bin (f := divW) (fun X ft => op_divW) (de_ix (de_var (i := 0) (by rfl) (vis_by (by kernel_rfl)) (by kernel_rfl) (by kernel_rfl)) de_int (by rfl)) (de_var (i := 1) (by rfl) (vis_by (by kernel_rfl)) (by kernel_rfl) (by kernel_rfl)))) de_int (fun _ _ => rfl) (fun _ => rfl) (fun _ => rfl) (fun _ => rfl)) (ds_cons (ds_ret (de_var (i := 3) (by rfl) (vis_by (by kernel_rfl)) (by kernel_rfl) (by kernel_rfl))) ds_nil))) ds_nil) (ds_cons (ds_item (i := 0) (by rfl) (vis_by (by kernel_rfl)) (by kernel_rfl) (by kernel_rfl) (de_dat (de_bin (f := modW) (fun X ft => op_modW) (de_callTy (f := intF) (fun X ft => cr_intF) (by kernel_rfl) F.n_int (by kernel_rfl) (da_cons (de_bin (f := addW) (fun X ft => op_addW ft) (de_bin (f := mulW) (fun X ft => op_mulW ft) (de_ix (de_var (i := 0) (by rfl) (vis_by (by kernel_rfl)) (by kernel_rfl) (by kernel_rfl)) de_int (by rfl)) de_int) de_int) da_nil (by rfl)) (by rfl) (by decide) (by kernel_rfl)) de_int)) de_int (fun _ _ => rfl) (fun _ => rfl) (fun _ => rfl) (fun _ => rfl)) (ds_cons (ds_set (i := 2) (by rfl) (loc_by (by kernel_rfl)) (de_dat (de_bin (f := modW) (fun X ft => op_modW) (de_callTy (f := intF) (fun X ft => cr_intF) (by kernel_rfl) F.n_int (by kernel_rfl) (da_cons (de_bin (f := mulW) (fun X ft => op_mulW ft) (de_ix (de_var (i := 0) (by rfl) (vis_by (by kernel_rfl)) (by kernel_rfl) (by kernel_rfl)) de_int (by rfl)) (de_bin (f := addW) (fun X ft => op_addW ft) (de_bin (f := divW) (fun X ft => op_divW) (de_ix (de_var (i := 0) (by rfl) (vis_by (by kernel_rfl)) (by kernel_rfl) (by kernel_rfl)) de_int (by rfl)) de_int) de_int)) da_nil (by rfl)) (by rfl) (by decide) (by kernel_rfl)) de_int)) (fun _ _ => rfl)) (ds_cons (ds_ret (de_bin (f := modW) (fun X ft => op_modW) (de_callTy (f := intF) (fun X ft => cr_intF) (by kernel_rfl) F.n_int (by kernel_rfl) (da_cons (de_bin (f := divW) (fun X ft => op_divW) (de_var (i := 2) (by rfl) (vis_by (by kernel_rfl)) (by kernel_rfl) (by kernel_rfl)) de_int) da_nil (by rfl)) (by rfl) (by decide) (by kernel_rfl)) (de_var (i := 1) (by rfl) (vis_by (by kernel_rfl)) (by kernel_rfl) (by kernel_rfl)))) ds_nil))))
theorem S__law_pour : FnScope N__law_pour ["_law_can_here", "_law_many"] (defScope (top 45)) := ⟨rfl, rfl, rfl, by decide +kernel, rfl, by decide +kernel, by decide +kernel⟩
theorem f__law_pour {k : Nat} (F : Fx G cL) (hk : 1 ≤ k) : FnS G k "_law_pour" 2 phi__law_pour := by
  obtain ⟨g, fd, h, hg⟩ := F.d__law_pour
  exact (fnS_of h hg S__law_pour (h.bindsN (fun _ _ _ _ _ _ us hl => match us, hl with | [_, _], _ => rfl)) (s__law_pour F)).mono hk
/-! ### _law_pick -/
abbrev N__law_pick : List Str := ["_law_can_here", "_law_things"]
abbrev st__law_pick_1 : DenS :=
  (sRet (dP2 ixW (dVar 1) (dCall 2 phi__law_pour (dCons (dVar 0) (dCons (dArg (dApp lenF (dCons (dVar 1) dNil))) dNil)))))
abbrev m__law_pick : DenS :=
  (sSeq st__law_pick_1 sNil)
def phi__law_pick : Phi := runD N__law_pick m__law_pick
theorem w__law_pick {Q : W → MH → Prop} {E : ExP} {h : MH} {a0 a1 : W} (p : wS (fun _ h1 => Q (.d .non) h1) Q (fun _ _ => False) (fun _ _ => False) E (m__law_pick [some a0, some a1] h)) : wE Q E (phi__law_pick [a0, a1] h) := wE_run (N := N__law_pick) p
theorem s__law_pick (F : Fx G cL) : DSs G N__law_pick ⟨defScope (top 46), Str.ofString "", none⟩ 1 (defBody (top 46)) m__law_pick :=
  (ds_cons (ds_ret (de_ix (de_var (i := 1) (by rfl) (vis_by (by kernel_rfl)) (by kernel_rfl) (by kernel_rfl)) (de_call (f__law_pour F (by decide)) (by kernel_rfl) (da_cons (de_var (i := 0) (by rfl) (vis_by (by kernel_rfl)) (by kernel_rfl) (by kernel_rfl)) (da_cons (de_arg (de_callB (f := lenF) (fun X ft => cr_lenF ft) (by kernel_rfl) F.n_len (by kernel_rfl) (da_cons (de_var (i := 1) (by rfl) (vis_by (by kernel_rfl)) (by kernel_rfl) (by kernel_rfl)) da_nil (by rfl)) (by rfl) (by decide) (by kernel_rfl))) da_nil (by rfl)) (by rfl)) (by rfl) (by kernel_rfl)) (by rfl))) ds_nil)
theorem S__law_pick : FnScope N__law_pick ["_law_can_here", "_law_things"] (defScope (top 46)) := ⟨rfl, rfl, rfl, by decide +kernel, rfl, by decide +kernel, by decide +kernel⟩
theorem f__law_pick {k : Nat} (F : Fx G cL) (hk : 2 ≤ k) : FnS G k "_law_pick" 2 phi__law_pick := by
  obtain ⟨g, fd, h, hg⟩ := F.d__law_pick
  exact (fnS_of h hg S__law_pick (h.bindsN (fun _ _ _ _ _ _ us hl => match us, hl with | [_, _], _ => rfl)) (s__law_pick F)).mono hk
/-! ### _law_weight -/
abbrev N__law_weight : List Str := ["_law_weights", "_law_chain", "_law_letter"]
abbrev i__law_weight_1 : Den (List D) :=
  (iSeq (dVar 1))
abbrev e__law_weight_1 : Den W :=
  (dP2 ixW (dVar 0) (dMs idxF (dCst (.str "abc")) (dVar 2)))
abbrev st__law_weight_1 : DenS :=
  (sRet (dApp sumF (dCons (dLc (.nm 2) i__law_weight_1 dYes e__law_weight_1 [2]) dNil)))
abbrev m__law_weight : DenS :=
  (sSeq st__law_weight_1 sNil)
def phi__law_weight : Phi := runD N__law_weight m__law_weight
theorem w__law_weight {Q : W → MH → Prop} {E : ExP} {h : MH} {a0 a1 : W} (p : wS (fun _ h1 => Q (.d .non) h1) Q (fun _ _ => False) (fun _ _ => False) E (m__law_weight [some a0, some a1, none] h)) : wE Q E (phi__law_weight [a0, a1] h) := wE_run (N := N__law_weight) p
theorem s__law_weight (F : Fx G cL) : DSs G N__law_weight ⟨defScope (top 47), Str.ofString "", none⟩ 0 (defBody (top 47)) m__law_weight :=
  (ds_cons (ds_ret (de_callB (f := sumF) (fun X ft => cr_sumF ft) (by kernel_rfl) F.n_sum (by kernel_rfl) (da_cons (de_lc (own := [("_law_letter", 2)]) (di_seq (de_var (i := 1) (by rfl) (vis_by (by kernel_rfl)) (by kernel_rfl) (by kernel_rfl))) (by kernel_rfl) (dg_nm (by rfl) (.inl (by kernel_rfl))) (by rfl) dc_nil (de_ix (de_var (i := 0) (by rfl) (vis_by (by kernel_rfl)) (by kernel_rfl) (by kernel_rfl)) (de_ms (f := idxF) PySem.F.slot_str_index PySem.F.type_str_index (fun X ft => mt_idxF) de_str (de_var (i := 2) (by rfl) (vis_by (by kernel_rfl)) (by kernel_rfl) (by kernel_rfl)) (by rfl) (fun _ _ => rfl) (by rfl)) (by rfl)) (fun _ _ => rfl)) da_nil (by rfl)) (by rfl) (by decide) (by kernel_rfl))) ds_nil)
theorem S__law_weight : FnScope N__law_weight ["_law_weights", "_law_chain"] (defScope (top 47)) := ⟨rfl, rfl, rfl, by decide +kernel, rfl, by decide +kernel, by decide +kernel⟩
theorem f__law_weight {k : Nat} (F : Fx G cL) (hk : 1 ≤ k) : FnS G k "_law_weight" 2 phi__law_weight := by
  obtain ⟨g, fd, h, hg⟩ := F.d__law_weight
  exact (fnS_of h hg S__law_weight (h.bindsN (fun _ _ _ _ _ _ us hl => match us, hl with | [_, _], _ => rfl)) (s__law_weight F)).mono hk
/-! ### _law_heap -/
abbrev N__law_heap : List Str := ["_law_weights", "_law_chain", "_law_begins", "_law_ends", "_law_at"]
abbrev i__law_heap_1 : Den (List D) :=
  (iApp rng2W (dCons (dCst (.int 1)) (dCons (dApp lenF (dCons (dVar 1) dNil)) dNil)))
abbrev e__law_heap_1 : Den W :=
  (dDat (dCall 2 phi__law_weight (dCons (dVar 0) (dCons (dArg (dSl (dVar 1) none (some (dVar 4)))) dNil))))
abbrev st__law_heap_1 : DenS :=
  (sSet 2 (dLc (.nm 4) i__law_heap_1 dYes e__law_heap_1 [4]))
abbrev i__law_heap_2 : Den (List D) :=
  (iApp rng2W (dCons (dCst (.int 1)) (dCons (dApp lenF (dCons (dVar 1) dNil)) dNil)))
abbrev e__law_heap_2 : Den W :=
  (dDat (dCall 2 phi__law_weight (dCons (dVar 0) (dCons (dArg (dSl (dVar 1) (some (dVar 4)) none)) dNil))))
abbrev st__law_heap_2 : DenS :=
  (sSet 3 (dLc (.nm 4) i__law_heap_2 dYes e__law_heap_2 [4]))
abbrev st__law_heap_3 : DenS :=
  (sRet (dApp tupF (dCons (dDat (dCall 2 phi__law_weight (dCons (dVar 0) (dCons (dVar 1) dNil)))) (dCons (dDat (dApp tupleF (dCons (dApp sortF (dCons (dP2 addW (dVar 2) (dVar 3)) dNil)) dNil))) dNil))))
abbrev m__law_heap : DenS :=
  (sSeq st__law_heap_1 (sSeq (sFrz 2) (sSeq st__law_heap_2 (sSeq (sFrz 3) (sSeq st__law_heap_3 sNil)))))
def phi__law_heap : Phi := runD N__law_heap m__law_heap
theorem w__law_heap {Q : W → MH → Prop} {E : ExP} {h : MH} {a0 a1 : W} (p : wS (fun _ h1 => Q (.d .non) h1) Q (fun _ _ => False) (fun _ _ => False) E (m__law_heap [some a0, some a1, none, none, none] h)) : wE Q E (phi__law_heap [a0, a1] h) := wE_run (N := N__law_heap) p
theorem s__law_heap (F : Fx G cL) : DSs G N__law_heap ⟨defScope (top 48), Str.ofString "", none⟩ 1 (defBody (top 48)) m__law_heap :=
  (ds_cons (ds_setLc (own := [("_law_at", 4)]) (i := 2) (by rfl) (by kernel_rfl) (sw_with (by kernel_rfl)) (di_range2 (by kernel_rfl) F.n_range (da_cons de_int (da_cons (de_callB (f := lenF) (fun X ft => cr_lenF ft) (by kernel_rfl) F.n_len (by kernel_rfl) (da_cons (de_var (i := 1) (by rfl) (vis_by (by kernel_rfl)) (by kernel_rfl) (by kernel_rfl)) da_nil (by rfl)) (by rfl) (by decide) (by kernel_rfl)) da_nil (by rfl)) (by rfl)) (by rfl) (by rfl)) (by kernel_rfl) (dg_nm (by rfl) (.inl (by kernel_rfl))) (by rfl) dc_nil (de_dat (de_call (f__law_weight F (by decide)) (by kernel_rfl) (da_cons (de_var (i := 0) (by rfl) (vis_by (by kernel_rfl)) (by kernel_rfl) (by kernel_rfl)) (da_cons (de_arg (de_sl (de_var (i := 1) (by rfl) (vis_by (by kernel_rfl)) (by kernel_rfl) (by kernel_rfl)) .none (.some (de_var (i := 4) (by rfl) (vis_by (by kernel_rfl)) (by kernel_rfl) (by kernel_rfl))))) da_nil (by rfl)) (by rfl)) (by rfl) (by kernel_rfl))) (fun _ _ => rfl)) (dss_frz (i := 2) (ds_cons (ds_setLc (own := [("_law_at", 4)]) (i := 3) (by rfl) (by kernel_rfl) (sw_with (by kernel_rfl)) (di_range2 (by kernel_rfl) F.n_range (da_cons de_int (da_cons (de_callB (f := lenF) (fun X ft => cr_lenF ft) (by kernel_rfl) F.n_len (by kernel_rfl) (da_cons (de_var (i := 1) (by rfl) (vis_by (by kernel_rfl)) (by kernel_rfl) (by kernel_rfl)) da_nil (by rfl)) (by rfl) (by decide) (by kernel_rfl)) da_nil (by rfl)) (by rfl)) (by rfl) (by rfl)) (by kernel_rfl) (dg_nm (by rfl) (.inl (by kernel_rfl))) (by rfl) dc_nil (de_dat (de_call (f__law_weight F (by decide)) (by kernel_rfl) (da_cons (de_var (i := 0) (by rfl) (vis_by (by kernel_rfl)) (by kernel_rfl) (by kernel_rfl)) (da_cons (de_arg (de_sl (de_var (i := 1) (by rfl) (vis_by (by kernel_rfl)) (by kernel_rfl) (by kernel_rfl)) (.some (de_var (i := 4) (by rfl) (vis_by (by kernel_rfl)) (by kernel_rfl) (by kernel_rfl))) .none)) da_nil (by rfl)) (by rfl)) (by rfl) (by kernel_rfl))) (fun _ _ => rfl)) (dss_frz (i := 3) (ds_cons (ds_ret (de_tup (da_cons (de_dat (de_call (f__law_weight F (by decide)) (by kernel_rfl) (da_cons (de_var (i := 0) (by rfl) (vis_by (by kernel_rfl)) (by kernel_rfl) (by kernel_rfl)) (da_cons (de_var (i := 1) (by rfl) (vis_by (by kernel_rfl)) (by kernel_rfl) (by kernel_rfl)) da_nil (by rfl)) (by rfl)) (by rfl) (by kernel_rfl))) (da_cons (de_dat (de_callTy (f := tupleF) (fun X ft => cr_tupleF ft) (by kernel_rfl) F.n_tuple (by kernel_rfl) (da_cons (de_callB (f := sortF) (fun X ft => cr_sortF ft) (by kernel_rfl) F.n_sorted (by kernel_rfl) (da_cons (de_bin (f := addW) (fun X ft => op_addW ft) (de_var (i := 2) (by rfl) (vis_by (by kernel_rfl)) (by kernel_rfl) (by kernel_rfl)) (de_var (i := 3) (by rfl) (vis_by (by kernel_rfl)) (by kernel_rfl) (by kernel_rfl))) da_nil (by rfl)) (by rfl) (by decide) (by kernel_rfl)) da_nil (by rfl)) (by rfl) (by decide) (by kernel_rfl))) da_nil (by rfl)) (by rfl)))) ds_nil)))))
theorem S__law_heap : FnScope N__law_heap ["_law_weights", "_law_chain"] (defScope (top 48)) := ⟨rfl, rfl, rfl, by decide +kernel, rfl, by decide +kernel, by decide +kernel⟩
theorem f__law_heap {k : Nat} (F : Fx G cL) (hk : 2 ≤ k) : FnS G k "_law_heap" 2 phi__law_heap := by
  obtain ⟨g, fd, h, hg⟩ := F.d__law_heap
  exact (fnS_of h hg S__law_heap (h.bindsN (fun _ _ _ _ _ _ us hl => match us, hl with | [_, _], _ => rfl)) (s__law_heap F)).mono hk
/-! ### _law_any_weights -/
abbrev N__law_any_weights : List Str := ["_law_can_here", "_law_turn"]
abbrev i__law_any_weights_1 : Den (List D) :=
  (iApp rng1W (dCons (dP2 addW (dCst (.int 2)) (dCall 2 phi__law_pour (dCons (dVar 0) (dCons (dCst (.int 2)) dNil)))) dNil))
abbrev e__law_any_weights_1 : Den W :=
  (dDat (dP2 addW (dCst (.int 1)) (dCall 2 phi__law_pour (dCons (dVar 0) (dCons (dArg (dCall 2 phi__law_pick (dCons (dVar 0) (dCons (dArg (dApp lstF (dCons (dCst (.int 3)) (dCons (dCst (.int 5)) (dCons (dCst (.int 9)) dNil))))) dNil)))) dNil)))))
abbrev st__law_any_weights_1 : DenS :=
  (sRet (dApp tupleF (dCons (dLc (.nm 1) i__law_any_weights_1 dYes e__law_any_weights_1 [1]) dNil)))
abbrev m__law_any_weights : DenS :=
  (sSeq st__law_any_weights_1 sNil)
def phi__law_any_weights : Phi := runD N__law_any_weights m__law_any_weights
theorem w__law_any_weights {Q : W → MH → Prop} {E : ExP} {h : MH} {a0 : W} (p : wS (fun _ h1 => Q (.d .non) h1) Q (fun _ _ => False) (fun _ _ => False) E (m__law_any_weights [some a0, none] h)) : wE Q E (phi__law_any_weights [a0] h) := wE_run (N := N__law_any_weights) p
theorem s__law_any_weights (F : Fx G cL) : DSs G N__law_any_weights ⟨defScope (top 49), Str.ofString "", none⟩ 2 (defBody (top 49)) m__law_any_weights :=
  (ds_cons (ds_ret (de_callTy (f := tupleF) (fun X ft => cr_tupleF ft) (by kernel_rfl) F.n_tuple (by kernel_rfl) (da_cons (de_lc (own := [("_law_turn", 1)]) (di_range1 (by kernel_rfl) F.n_range (da_cons (de_bin (f := addW) (fun X ft => op_addW ft) de_int (de_call (f__law_pour F (by decide)) (by kernel_rfl) (da_cons (de_var (i := 0) (by rfl) (vis_by (by kernel_rfl)) (by kernel_rfl) (by kernel_rfl)) (da_cons de_int da_nil (by rfl)) (by rfl)) (by rfl) (by kernel_rfl))) da_nil (by rfl)) (by rfl)) (by kernel_rfl) (dg_nm (by rfl) (.inl (by kernel_rfl))) (by rfl) dc_nil (de_dat (de_bin (f := addW) (fun X ft => op_addW ft) de_int (de_call (f__law_pour F (by decide)) (by kernel_rfl) (da_cons (de_var (i := 0) (by rfl) (vis_by (by kernel_rfl)) (by kernel_rfl) (by kernel_rfl)) (da_cons (de_arg (de_call (f__law_pick F (by decide)) (by kernel_rfl) (da_cons (de_var (i := 0) (by rfl) (vis_by (by kernel_rfl)) (by kernel_rfl) (by kernel_rfl)) (da_cons (de_arg (de_lst (da_cons de_int (da_cons de_int (da_cons de_int da_nil (by rfl)) (by rfl)) (by rfl)))) da_nil (by rfl)) (by rfl)) (by rfl) (by kernel_rfl))) da_nil (by rfl)) (by rfl)) (by rfl) (by kernel_rfl)))) (fun _ _ => rfl)) da_nil (by rfl)) (by rfl) (by decide) (by kernel_rfl))) ds_nil)
theorem S__law_any_weights : FnScope N__law_any_weights ["_law_can_here"] (defScope (top 49)) := ⟨rfl, rfl, rfl, by decide +kernel, rfl, by decide +kernel, by decide +kernel⟩
theorem f__law_any_weights {k : Nat} (F : Fx G cL) (hk : 3 ≤ k) : FnS G k "_law_any_weights" 1 phi__law_any_weights := by
  obtain ⟨g, fd, h, hg⟩ := F.d__law_any_weights
  exact (fnS_of h hg S__law_any_weights (h.bindsN (fun _ _ _ _ _ _ us hl => match us, hl with | [_], _ => rfl)) (s__law_any_weights F)).mono hk
/-! ### _law_any_chain -/
abbrev N__law_any_chain : List Str := ["_law_can_here", "_law_weights", "_law_most", "_law_letters", "_law_turn"]
abbrev st__law_any_chain_1 : DenS :=
  (sSet 3 (dDat (dSl (dCst (.str "abc")) none (some (dApp lenF (dCons (dVar 1) dNil))))))
abbrev i__law_any_chain_1 : Den (List D) :=
  (iApp rng1W (dCons (dP2 addW (dCst (.int 1)) (dCall 2 phi__law_pour (dCons (dVar 0) (dCons (dVar 2) dNil)))) dNil))
abbrev e__law_any_chain_1 : Den W :=
  (dDat (dCall 2 phi__law_pick (dCons (dVar 0) (dCons (dVar 3) dNil))))
abbrev st__law_any_chain_2 : DenS :=
  (sRet (dMs joiF (dCst (.str "")) (dLc (.nm 4) i__law_any_chain_1 dYes e__law_any_chain_1 [4])))
abbrev m__law_any_chain : DenS :=
  (sSeq st__law_any_chain_1 (sSeq st__law_any_chain_2 sNil))
def phi__law_any_chain : Phi := runD N__law_any_chain m__law_any_chain
theorem w__law_any_chain {Q : W → MH → Prop} {E : ExP} {h : MH} {a0 a1 a2 : W} (p : wS (fun _ h1 => Q (.d .non) h1) Q (fun _ _ => False) (fun _ _ => False) E (m__law_any_chain [some a0, some a1, some a2, none, none] h)) : wE Q E (phi__law_any_chain [a0, a1, a2] h) := wE_run (N := N__law_any_chain) p
theorem s__law_any_chain (F : Fx G cL) : DSs G N__law_any_chain ⟨defScope (top 50), Str.ofString "", none⟩ 2 (defBody (top 50)) m__law_any_chain :=
  (ds_cons (ds_set (i := 3) (by rfl) (loc_by (by kernel_rfl)) (de_dat (de_sl de_str .none (.some (de_callB (f := lenF) (fun X ft => cr_lenF ft) (by kernel_rfl) F.n_len (by kernel_rfl) (da_cons (de_var (i := 1) (by rfl) (vis_by (by kernel_rfl)) (by kernel_rfl) (by kernel_rfl)) da_nil (by rfl)) (by rfl) (by decide) (by kernel_rfl))))) (fun _ _ => rfl)) (ds_cons (ds_ret (de_ms (f := joiF) PySem.F.slot_str_join PySem.F.type_str_join (fun X ft => mt_joiF ft) de_str (de_lc (own := [("_law_turn", 4)]) (di_range1 (by kernel_rfl) F.n_range (da_cons (de_bin (f := addW) (fun X ft => op_addW ft) de_int (de_call (f__law_pour F (by decide)) (by kernel_rfl) (da_cons (de_var (i := 0) (by rfl) (vis_by (by kernel_rfl)) (by kernel_rfl) (by kernel_rfl)) (da_cons (de_var (i := 2) (by rfl) (vis_by (by kernel_rfl)) (by kernel_rfl) (by kernel_rfl)) da_nil (by rfl)) (by rfl)) (by rfl) (by kernel_rfl))) da_nil (by rfl)) (by rfl)) (by kernel_rfl) (dg_nm (by rfl) (.inl (by kernel_rfl))) (by rfl) dc_nil (de_dat (de_call (f__law_pick F (by decide)) (by kernel_rfl) (da_cons (de_var (i := 0) (by rfl) (vis_by (by kernel_rfl)) (by kernel_rfl) (by kernel_rfl)) (da_cons (de_var (i := 3) (by rfl) (vis_by (by kernel_rfl)) (by kernel_rfl) (by kernel_rfl)) da_nil (by rfl)) (by rfl)) (by rfl) (by kernel_rfl))) (fun _ _ => rfl)) (by rfl) (fun _ _ => rfl) (by rfl))) ds_nil))
theorem S__law_any_chain : FnScope N__law_any_chain ["_law_can_here", "_law_weights", "_law_most"] (defScope (top 50)) := ⟨rfl, rfl, rfl, by decide +kernel, rfl, by decide +kernel, by decide +kernel⟩
theorem f__law_any_chain {k : Nat} (F : Fx G cL) (hk : 3 ≤ k) : FnS G k "_law_any_chain" 3 phi__law_any_chain := by
  obtain ⟨g, fd, h, hg⟩ := F.d__law_any_chain
  exact (fnS_of h hg S__law_any_chain (h.bindsN (fun _ _ _ _ _ _ us hl => match us, hl with | [_, _, _], _ => rfl)) (s__law_any_chain F)).mono hk
/-! ### _law_int -/
abbrev N__law_int : List Str := ["_law_value", "_law_low", "_law_high"]
abbrev st__law_int_1 : DenS :=
  (sRet (dAndV [(dIsa "int" (dVar 0)), (dNotW (dIsa "bool" (dVar 0))), (dChain .LtE .LtE (dVar 1) (dVar 0) (dVar 2))]))
abbrev m__law_int : DenS :=
  (sSeq st__law_int_1 sNil)
def phi__law_int : Phi := runD N__law_int m__law_int
theorem w__law_int {Q : W → MH → Prop} {E : ExP} {h : MH} {a0 a1 a2 : W} (p : wS (fun _ h1 => Q (.d .non) h1) Q (fun _ _ => False) (fun _ _ => False) E (m__law_int [some a0, some a1, some a2] h)) : wE Q E (phi__law_int [a0, a1, a2] h) := wE_run (N := N__law_int) p
theorem s__law_int (F : Fx G cL) : DSs G N__law_int ⟨defScope (top 51), Str.ofString "", none⟩ 0 (defBody (top 51)) m__law_int :=
  (ds_cons (ds_ret (de_and (.cons (de_isa (T := "int") (de_var (i := 0) (by rfl) (vis_by (by kernel_rfl)) (by kernel_rfl) (by kernel_rfl)) (by rfl) (by kernel_rfl) F.n_isinstance (by kernel_rfl) F.n_int (by kernel_rfl) (by decide) (by kernel_rfl)) (.cons (de_not (de_isa (T := "bool") (de_var (i := 0) (by rfl) (vis_by (by kernel_rfl)) (by kernel_rfl) (by kernel_rfl)) (by rfl) (by kernel_rfl) F.n_isinstance (by kernel_rfl) F.n_bool (by kernel_rfl) (by decide) (by kernel_rfl))) (.cons (de_chain (de_var (i := 1) (by rfl) (vis_by (by kernel_rfl)) (by kernel_rfl) (by kernel_rfl)) (de_var (i := 0) (by rfl) (vis_by (by kernel_rfl)) (by kernel_rfl) (by kernel_rfl)) (de_var (i := 2) (by rfl) (vis_by (by kernel_rfl)) (by kernel_rfl) (by kernel_rfl)) (by rfl)) .nil))))) ds_nil)
theorem S__law_int : FnScope N__law_int ["_law_value", "_law_low", "_law_high"] (defScope (top 51)) := ⟨rfl, rfl, rfl, by decide +kernel, rfl, by decide +kernel, by decide +kernel⟩
theorem f__law_int {k : Nat} (F : Fx G cL) (hk : 1 ≤ k) : FnS G k "_law_int" 3 phi__law_int := by
  obtain ⟨g, fd, h, hg⟩ := F.d__law_int
  exact (fnS_of h hg S__law_int (h.bindsN (fun _ _ _ _ _ _ us hl => match us, hl with | [_, _, _], _ => rfl)) (s__law_int F)).mono hk
/-! ### _law_good_weights -/
abbrev N__law_good_weights : List Str := ["_law_value", "_law_one"]
abbrev st__law_good_weights_1 : DenS :=
  (sIf (dOrs [(dNot (tru (dIsa "tuple" (dVar 0)))), (asB (dCmp .NotIn (dApp lenF (dCons (dVar 0) dNil)) (dApp lstF (dCons (dCst (.int 2)) (dCons (dCst (.int 3)) dNil)))))]) (sSeq (sRet (dCst (.bl false))) sNil) sNil)
abbrev i__law_good_weights_1 : Den (List D) :=
  (iSeq (dVar 0))
abbrev e__law_good_weights_1 : Den W :=
  (dVar 1)
abbrev t__law_good_weights_1 : Den Bool :=
  (dNot (tru (dCall 3 phi__law_int (dCons (dVar 1) (dCons (dCst (.int 1)) (dCons (dCst (.int 9)) dNil))))))
abbrev st__law_good_weights_2 : DenS :=
  (sRet (dCmp .Eq (dLc (.nm 1) i__law_good_weights_1 t__law_good_weights_1 e__law_good_weights_1 [1]) (dApp lstF dNil)))
abbrev m__law_good_weights : DenS :=
  (sSeq st__law_good_weights_1 (sSeq st__law_good_weights_2 sNil))
def phi__law_good_weights : Phi := runD N__law_good_weights m__law_good_weights
theorem w__law_good_weights {Q : W → MH → Prop} {E : ExP} {h : MH} {a0 : W} (p : wS (fun _ h1 => Q (.d .non) h1) Q (fun _ _ => False) (fun _ _ => False) E (m__law_good_weights [some a0, none] h)) : wE Q E (phi__law_good_weights [a0] h) := wE_run (N := N__law_good_weights) p
theorem s__law_good_weights (F : Fx G cL) : DSs G N__law_good_weights ⟨defScope (top 52), Str.ofString "", none⟩ 1 (defBody (top 52)) m__law_good_weights :=
  (ds_cons (ds_if (dt_or (.cons (dt_not (dt_tru (de_isa (T := "tuple") (de_var (i := 0) (by rfl) (vis_by (by kernel_rfl)) (by kernel_rfl) (by kernel_rfl)) (by rfl) (by kernel_rfl) F.n_isinstance (by kernel_rfl) F.n_tuple (by kernel_rfl) (by decide) (by kernel_rfl)) (by rfl))) (.cons (dt_cmp (de_callB (f := lenF) (fun X ft => cr_lenF ft) (by kernel_rfl) F.n_len (by kernel_rfl) (da_cons (de_var (i := 0) (by rfl) (vis_by (by kernel_rfl)) (by kernel_rfl) (by kernel_rfl)) da_nil (by rfl)) (by rfl) (by decide) (by kernel_rfl)) (de_lst (da_cons de_int (da_cons de_int da_nil (by rfl)) (by rfl))) (by rfl)) .nil))) (ds_cons (ds_ret de_bl) ds_nil) ds_nil) (ds_cons (ds_ret (de_cmp (de_lc (own := [("_law_one", 1)]) (di_seq (de_var (i := 0) (by rfl) (vis_by (by kernel_rfl)) (by kernel_rfl) (by kernel_rfl))) (by kernel_rfl) (dg_nm (by rfl) (.inl (by kernel_rfl))) (by rfl) (dc_one (dt_not (dt_tru (de_call (f__law_int F (by decide)) (by kernel_rfl) (da_cons (de_var (i := 1) (by rfl) (vis_by (by kernel_rfl)) (by kernel_rfl) (by kernel_rfl)) (da_cons de_int (da_cons de_int da_nil (by rfl)) (by rfl)) (by rfl)) (by rfl) (by kernel_rfl)) (by rfl)))) (de_var (i := 1) (by rfl) (vis_by (by kernel_rfl)) (by kernel_rfl) (by kernel_rfl)) (fun _ _ => rfl)) (de_lst da_nil) (by rfl))) ds_nil))
theorem S__law_good_weights : FnScope N__law_good_weights ["_law_value"] (defScope (top 52)) := ⟨rfl, rfl, rfl, by decide +kernel, rfl, by decide +kernel, by decide +kernel⟩
theorem f__law_good_weights {k : Nat} (F : Fx G cL) (hk : 2 ≤ k) : FnS G k "_law_good_weights" 1 phi__law_good_weights := by
  obtain ⟨g, fd, h, hg⟩ := F.d__law_good_weights
  exact (fnS_of h hg S__law_good_weights (h.bindsN (fun _ _ _ _ _ _ us hl => match us, hl with | [_], _ => rfl)) (s__law_good_weights F)).mono hk
/-! ### _law_good_chain -/
abbrev N__law_good_chain : List Str := ["_law_weights", "_law_value", "_law_sign"]
abbrev st__law_good_chain_1 : DenS :=
  (sIf (dOrs [(dNot (tru (dIsa "str" (dVar 1)))), (dNot (asB (dChain .LtE .LtE (dCst (.int 1)) (dApp lenF (dCons (dVar 1) dNil)) (dCst (.int 14)))))]) (sSeq (sRet (dCst (.bl false))) sNil) sNil)
abbrev i__law_good_chain_1 : Den (List D) :=
  (iSeq (dVar 1))
abbrev e__law_good_chain_1 : Den W :=
  (dVar 2)
abbrev t__law_good_chain_1 : Den Bool :=
  (asB (dCmp .NotIn (dVar 2) (dSl (dCst (.str "abc")) none (some (dApp lenF (dCons (dVar 0) dNil))))))
abbrev st__law_good_chain_2 : DenS :=
  (sRet (dCmp .Eq (dLc (.nm 2) i__law_good_chain_1 t__law_good_chain_1 e__law_good_chain_1 [2]) (dApp lstF dNil)))
abbrev m__law_good_chain : DenS :=
  (sSeq st__law_good_chain_1 (sSeq st__law_good_chain_2 sNil))
def phi__law_good_chain : Phi := runD N__law_good_chain m__law_good_chain
theorem w__law_good_chain {Q : W → MH → Prop} {E : ExP} {h : MH} {a0 a1 : W} (p : wS (fun _ h1 => Q (.d .non) h1) Q (fun _ _ => False) (fun _ _ => False) E (m__law_good_chain [some a0, some a1, none] h)) : wE Q E (phi__law_good_chain [a0, a1] h) := wE_run (N := N__law_good_chain) p
theorem s__law_good_chain (F : Fx G cL) : DSs G N__law_good_chain ⟨defScope (top 53), Str.ofString "", none⟩ 0 (defBody (top 53)) m__law_good_chain :=
  (ds_cons (ds_if (dt_or (.cons (dt_not (dt_tru (de_isa (T := "str") (de_var (i := 1) (by rfl) (vis_by (by kernel_rfl)) (by kernel_rfl) (by kernel_rfl)) (by rfl) (by kernel_rfl) F.n_isinstance (by kernel_rfl) F.n_str (by kernel_rfl) (by decide) (by kernel_rfl)) (by rfl))) (.cons (dt_not (dt_chain de_int (de_callB (f := lenF) (fun X ft => cr_lenF ft) (by kernel_rfl) F.n_len (by kernel_rfl) (da_cons (de_var (i := 1) (by rfl) (vis_by (by kernel_rfl)) (by kernel_rfl) (by kernel_rfl)) da_nil (by rfl)) (by rfl) (by decide) (by kernel_rfl)) de_int (by rfl))) .nil))) (ds_cons (ds_ret de_bl) ds_nil) ds_nil) (ds_cons (ds_ret (de_cmp (de_lc (own := [("_law_sign", 2)]) (di_seq (de_var (i := 1) (by rfl) (vis_by (by kernel_rfl)) (by kernel_rfl) (by kernel_rfl))) (by kernel_rfl) (dg_nm (by rfl) (.inl (by kernel_rfl))) (by rfl) (dc_one (dt_cmp (de_var (i := 2) (by rfl) (vis_by (by kernel_rfl)) (by kernel_rfl) (by kernel_rfl)) (de_sl de_str .none (.some (de_callB (f := lenF) (fun X ft => cr_lenF ft) (by kernel_rfl) F.n_len (by kernel_rfl) (da_cons (de_var (i := 0) (by rfl) (vis_by (by kernel_rfl)) (by kernel_rfl) (by kernel_rfl)) da_nil (by rfl)) (by rfl) (by decide) (by kernel_rfl)))) (by rfl))) (de_var (i := 2) (by rfl) (vis_by (by kernel_rfl)) (by kernel_rfl) (by kernel_rfl)) (fun _ _ => rfl)) (de_lst da_nil) (by rfl))) ds_nil))
theorem S__law_good_chain : FnScope N__law_good_chain ["_law_weights", "_law_value"] (defScope (top 53)) := ⟨rfl, rfl, rfl, by decide +kernel, rfl, by decide +kernel, by decide +kernel⟩
theorem f__law_good_chain {k : Nat} (F : Fx G cL) (hk : 1 ≤ k) : FnS G k "_law_good_chain" 2 phi__law_good_chain := by
  obtain ⟨g, fd, h, hg⟩ := F.d__law_good_chain
  exact (fnS_of h hg S__law_good_chain (h.bindsN (fun _ _ _ _ _ _ us hl => match us, hl with | [_, _], _ => rfl)) (s__law_good_chain F)).mono hk
/-! ### _law_good_heap -/
abbrev N__law_good_heap : List Str := ["_law_value", "_law_one", "_law_at"]
abbrev st__law_good_heap_1 : DenS :=
  (sIf (dOrs [(dNot (tru (dIsa "tuple" (dVar 0)))), (asB (dCmp .NotEq (dApp lenF (dCons (dVar 0) dNil)) (dCst (.int 2)))), (dNot (tru (dCall 3 phi__law_int (dCons (dP2 ixW (dVar 0) (dCst (.int 0))) (dCons (dCst (.int 1)) (dCons (dCst (.int 126)) dNil))))))]) (sSeq (sRet (dCst (.bl false))) sNil) sNil)
abbrev st__law_good_heap_2 : DenS :=
  (sIf (dOrs [(dNot (tru (dIsa "tuple" (dP2 ixW (dVar 0) (dCst (.int 1)))))), (asB (dCmp .Gt (dApp lenF (dCons (dP2 ixW (dVar 0) (dCst (.int 1))) dNil)) (dCst (.int 30))))]) (sSeq (sRet (dCst (.bl false))) sNil) sNil)
abbrev i__law_good_heap_1 : Den (List D) :=
  (iSeq (dP2 ixW (dVar 0) (dCst (.int 1))))
abbrev e__law_good_heap_1 : Den W :=
  (dVar 1)
abbrev t__law_good_heap_1 : Den Bool :=
  (dNot (tru (dCall 3 phi__law_int (dCons (dVar 1) (dCons (dCst (.int 1)) (dCons (dArg (dP2 subW (dP2 ixW (dVar 0) (dCst (.int 0))) (dCst (.int 1)))) dNil))))))
abbrev st__law_good_heap_3 : DenS :=
  (sIf (asB (dCmp .NotEq (dLc (.nm 1) i__law_good_heap_1 t__law_good_heap_1 e__law_good_heap_1 [1]) (dApp lstF dNil))) (sSeq (sRet (dCst (.bl false))) sNil) sNil)
abbrev i__law_good_heap_2 : Den (List D) :=
  (iApp rng2W (dCons (dCst (.int 1)) (dCons (dApp lenF (dCons (dP2 ixW (dVar 0) (dCst (.int 1))) dNil)) dNil)))
abbrev e__law_good_heap_2 : Den W :=
  (dVar 2)
abbrev t__law_good_heap_2 : Den Bool :=
  (asB (dCmp .Lt (dP2 ixW (dP2 ixW (dVar 0) (dCst (.int 1))) (dVar 2)) (dP2 ixW (dP2 ixW (dVar 0) (dCst (.int 1))) (dP2 subW (dVar 2) (dCst (.int 1))))))
abbrev st__law_good_heap_4 : DenS :=
  (sRet (dCmp .Eq (dLc (.nm 2) i__law_good_heap_2 t__law_good_heap_2 e__law_good_heap_2 [2]) (dApp lstF dNil)))
abbrev m__law_good_heap : DenS :=
  (sSeq st__law_good_heap_1 (sSeq st__law_good_heap_2 (sSeq st__law_good_heap_3 (sSeq st__law_good_heap_4 sNil))))
def phi__law_good_heap : Phi := runD N__law_good_heap m__law_good_heap
theorem w__law_good_heap {Q : W → MH → Prop} {E : ExP} {h : MH} {a0 : W} (p : wS (fun _ h1 => Q (.d .non) h1) Q (fun _ _ => False) (fun _ _ => False) E (m__law_good_heap [some a0, none, none] h)) : wE Q E (phi__law_good_heap [a0] h) := wE_run (N := N__law_good_heap) p
theorem s__law_good_heap (F : Fx G cL) : DSs G N__law_good_heap ⟨defScope (top 54), Str.ofString "", none⟩ 1 (defBody (top 54)) m__law_good_heap :=
  (ds_cons (ds_if (dt_or (.cons (dt_not (dt_tru (de_isa (T := "tuple") (de_var (i := 0) (by rfl) (vis_by (by kernel_rfl)) (by kernel_rfl) (by kernel_rfl)) (by rfl) (by kernel_rfl) F.n_isinstance (by kernel_rfl) F.n_tuple (by kernel_rfl) (by decide) (by kernel_rfl)) (by rfl))) (.cons (dt_cmp (de_callB (f := lenF) (fun X ft => cr_lenF ft) (by kernel_rfl) F.n_len (by kernel_rfl) (da_cons (de_var (i := 0) (by rfl) (vis_by (by kernel_rfl)) (by kernel_rfl) (by kernel_rfl)) da_nil (by rfl)) (by rfl) (by decide) (by kernel_rfl)) de_int (by rfl)) (.cons (dt_not (dt_tru (de_call (f__law_int F (by decide)) (by kernel_rfl) (da_cons (de_ix (de_var (i := 0) (by rfl) (vis_by (by kernel_rfl)) (by kernel_rfl) (by kernel_rfl)) de_int (by rfl)) (da_cons de_int (da_cons de_int da_nil (by rfl)) (by rfl)) (by rfl)) (by rfl) (by kernel_rfl)) (by rfl))) .nil)))) (ds_cons (ds_ret de_bl) ds_nil) ds_nil) (ds_cons (ds_if (dt_or (.cons (dt_not (dt_tru (de_isa (T := "tuple") (de_ix (de_var (i := 0) (by rfl) (vis_by (by kernel_rfl)) (by kernel_rfl) (by kernel_rfl)) de_int (by rfl)) (by rfl) (by kernel_rfl) F.n_isinstance (by kernel_rfl) F.n_tuple (by kernel_rfl) (by decide) (by kernel_rfl)) (by rfl))) (.cons (dt_cmp (de_callB (f := lenF) (fun X ft => cr_lenF ft) (by kernel_rfl) F.n_len (by kernel_rfl) (da_cons (de_ix (de_var (i := 0) (by rfl) (vis_by (by kernel_rfl)) (by kernel_rfl) (by kernel_rfl)) de_int (by rfl)) da_nil (by rfl)) (by rfl) (by decide) (by kernel_rfl)) de_int (by rfl)) .nil))) (ds_cons (ds_ret de_bl) ds_nil) ds_nil) (ds_cons (ds_if (dt_cmp (de_lc (own := [("_law_one", 1)]) (di_seq (de_ix (de_var (i := 0) (by rfl) (vis_by (by kernel_rfl)) (by kernel_rfl) (by kernel_rfl)) de_int (by rfl))) (by kernel_rfl) (dg_nm (by rfl) (.inl (by kernel_rfl))) (by rfl) (dc_one (dt_not (dt_tru (de_call (f__law_int F (by decide)) (by kernel_rfl) (da_cons (de_var (i := 1) (by rfl) (vis_by (by kernel_rfl)) (by kernel_rfl) (by kernel_rfl)) (da_cons de_int (da_cons (de_arg (de_bin (f := subW) (fun X ft => op_subW) (de_ix (de_var (i := 0) (by rfl) (vis_by (by kernel_rfl)) (by kernel_rfl) (by kernel_rfl)) de_int (by rfl)) de_int)) da_nil (by rfl)) (by rfl)) (by rfl)) (by rfl) (by kernel_rfl)) (by rfl)))) (de_var (i := 1) (by rfl) (vis_by (by kernel_rfl)) (by kernel_rfl) (by kernel_rfl)) (fun _ _ => rfl)) (de_lst da_nil) (by rfl)) (ds_cons (ds_ret de_bl) ds_nil) ds_nil) (ds_cons (ds_ret (de_cmp (de_lc (own := [("_law_at", 2)]) (di_range2 (by kernel_rfl) F.n_range (da_cons de_int (da_cons (de_callB (f := lenF) (fun X ft => cr_lenF ft) (by kernel_rfl) F.n_len (by kernel_rfl) (da_cons (de_ix (de_var (i := 0) (by rfl) (vis_by (by kernel_rfl)) (by kernel_rfl) (by kernel_rfl)) de_int (by rfl)) da_nil (by rfl)) (by rfl) (by decide) (by kernel_rfl)) da_nil (by rfl)) (by rfl)) (by rfl) (by rfl)) (by kernel_rfl) (dg_nm (by rfl) (.inl (by kernel_rfl))) (by rfl) (dc_one (dt_cmp (de_ix (de_ix (de_var (i := 0) (by rfl) (vis_by (by kernel_rfl)) (by kernel_rfl) (by kernel_rfl)) de_int (by rfl)) (de_var (i := 2) (by rfl) (vis_by (by kernel_rfl)) (by kernel_rfl) (by kernel_rfl)) (by rfl)) (de_ix (de_ix (de_var (i := 0) (by rfl) (vis_by (by kernel_rfl)) (by kernel_rfl) (by kernel_rfl)) de_int (by rfl)) (de_bin (f := subW) (fun X ft => op_subW) (de_var (i := 2) (by rfl) (vis_by (by kernel_rfl)) (by kernel_rfl) (by kernel_rfl)) de_int) (by rfl)) (by rfl))) (de_var (i := 2) (by rfl) (vis_by (by kernel_rfl)) (by kernel_rfl) (by kernel_rfl)) (fun _ _ => rfl)) (de_lst da_nil) (by rfl))) ds_nil))))
theorem S__law_good_heap : FnScope N__law_good_heap ["_law_value"] (defScope (top 54)) := ⟨rfl, rfl, rfl, by decide +kernel, rfl, by decide +kernel, by decide +kernel⟩
theorem f__law_good_heap {k : Nat} (F : Fx G cL) (hk : 2 ≤ k) : FnS G k "_law_good_heap" 1 phi__law_good_heap := by
  obtain ⟨g, fd, h, hg⟩ := F.d__law_good_heap
  exact (fnS_of h hg S__law_good_heap (h.bindsN (fun _ _ _ _ _ _ us hl => match us, hl with | [_], _ => rfl)) (s__law_good_heap F)).mono hk
/-! ### _law_any_value -/
abbrev N__law_any_value : List Str := ["_law_can_here", "_law_deep", "_law_some", "_law_made", "_law_part"]
abbrev st__law_any_value_1 : DenS :=
  (sSet 2 (dDat (dApp lstF (dCons (dCst .non) (dCons (dCst (.bl true)) (dCons (dCst (.bl false)) (dCons (dCst (.int 0)) (dCons (dCst (.int 1)) (dCons (dCst (.int 2)) (dCons (dCst (.int 9)) (dCons (dCst (.int 10)) (dCons (dCst (.int 126)) (dCons (dCst (.int 127)) (dCons (dNeg (dCst (.int 1))) (dCons (dDat (dP2 powW (dCst (.int 10)) (dCst (.int 30)))) (dCons (dCst (.str "")) (dCons (dCst (.str "a")) (dCons (dCst (.str "abc")) (dCons (dCst (.str "d")) (dCons (dCst (.str "3:")) (dCons (dApp tupF dNil) (dCons (dDat (dApp lstF dNil)) (dCons (dApp tupF (dCons (dCst (.int 1)) dNil)) (dCons (dApp tupF (dCons (dCst (.int 2)) (dCons (dCst (.int 3)) dNil))) dNil))))))))))))))))))))))))
abbrev st__law_any_value_2 : DenS :=
  (sSet 2 (dDat (dP2 addW (dVar 2) (dApp lstF (dCons (dApp tupF (dCons (dCst (.int 1)) (dCons (dCst (.int 1)) (dCons (dCst (.int 2)) dNil)))) (dCons (dApp tupF (dCons (dCst (.int 0)) (dCons (dCst (.int 2)) dNil))) (dCons (dApp tupF (dCons (dCst (.int 10)) (dCons (dApp tupF (dCons (dCst (.int 2)) (dCons (dCst (.int 8)) dNil))) dNil))) (dCons (dApp tupF (dCons (dCst (.int 3)) (dCons (dApp tupF dNil) dNil))) (dCons (dApp tupF (dCons (dCst (.int 3)) (dCons (dApp tupF (dCons (dCst (.int 3)) dNil)) dNil))) (dCons (dApp tupF (dCons (dCst (.int 10)) (dCons (dApp tupF (dCons (dCst (.int 8)) (dCons (dCst (.int 2)) dNil))) dNil))) (dCons (dDat (dApp lstF (dCons (dCst (.int 2)) (dCons (dCst (.int 3)) dNil)))) (dCons (dCst (.str "A")) (dCons (dApp tupF (dCons (dCst (.int 2)) (dCons (dCst (.int 10)) dNil))) (dCons (dApp tupF (dCons (dCst (.int 1)) (dCons (dCst (.bl true)) dNil))) dNil))))))))))))))
abbrev st__law_any_value_3 : DenS :=
  (sRet (dCall 2 phi__law_pick (dCons (dVar 0) (dCons (dVar 2) dNil))))
abbrev st__law_any_value_4 : DenS :=
  (sIf (dOrs [(asB (dCmp .Eq (dVar 1) (dCst (.int 0)))), (asB (dCmp .Lt (dCall 2 phi__law_pour (dCons (dVar 0) (dCons (dCst (.int 9)) dNil))) (dCst (.int 6))))]) (sSeq st__law_any_value_3 sNil) sNil)
abbrev i__law_any_value_1 : Den (List D) :=
  (iApp rng1W (dCons (dCall 2 phi__law_pour (dCons (dVar 0) (dCons (dCst (.int 4)) dNil))) dNil))
abbrev e__law_any_value_1 (phi : Phi) : Den W :=
  (dDat (dCall 2 phi (dCons (dVar 0) (dCons (dArg (dP2 subW (dVar 1) (dCst (.int 1)))) dNil))))
abbrev st__law_any_value_5 (phi : Phi) : DenS :=
  (sSet 3 (dLc (.nm 4) i__law_any_value_1 dYes (e__law_any_value_1 phi) [4]))
abbrev st__law_any_value_6 : DenS :=
  (sRet (dIf (asB (dCmp .Eq (dCall 2 phi__law_pour (dCons (dVar 0) (dCons (dCst (.int 3)) dNil))) (dCst (.int 0)))) (dVar 3) (dApp tupleF (dCons (dVar 3) dNil))))
abbrev m__law_any_value (phi : Phi) : DenS :=
  (sSeq st__law_any_value_1 (sSeq st__law_any_value_2 (sSeq st__law_any_value_4 (sSeq (st__law_any_value_5 phi) (sSeq (sFrz 3) (sSeq st__law_any_value_6 sNil))))))
def phi__law_any_value : Nat → Phi
  | 0 => fun _ _ => none
  | n + 1 => runD N__law_any_value (m__law_any_value (phi__law_any_value n))
theorem w__law_any_value {Q : W → MH → Prop} {E : ExP} {h : MH} {a0 a1 : W} {k : Nat} (p : wS (fun _ h1 => Q (.d .non) h1) Q (fun _ _ => False) (fun _ _ => False) E (m__law_any_value (phi__law_any_value k) [some a0, some a1, none, none, none] h)) : wE Q E (phi__law_any_value (k + 1) [a0, a1] h) := wE_run (N := N__law_any_value) p
theorem s__law_any_value {k : Nat} (F : Fx G cL) (hk : 2 ≤ k) {phi : Phi} (rec : FnS G k "_law_any_value" 2 phi) : DSs G N__law_any_value ⟨defScope (top 55), Str.ofString "", none⟩ k (defBody (top 55)) (m__law_any_value phi) :=
  (ds_cons (ds_set (i := 2) (by rfl) (loc_by (by kernel_rfl)) (de_dat (de_lst (da_cons de_non (da_cons de_bl (da_cons de_bl (da_cons de_int (da_cons de_int (da_cons de_int (da_cons de_int (da_cons de_int (da_cons de_int (da_cons de_int (da_cons (de_neg de_int) (da_cons (de_dat (de_bin (f := powW) (fun X ft => op_powW) de_int de_int)) (da_cons de_str (da_cons de_str (da_cons de_str (da_cons de_str (da_cons de_str (da_cons (de_tup da_nil) (da_cons (de_dat (de_lst da_nil)) (da_cons (de_tup (da_cons de_int da_nil (by rfl))) (da_cons (de_tup (da_cons de_int (da_cons de_int da_nil (by rfl)) (by rfl))) da_nil (by rfl)) (by rfl)) (by rfl)) (by rfl)) (by rfl)) (by rfl)) (by rfl)) (by rfl)) (by rfl)) (by rfl)) (by rfl)) (by rfl)) (by rfl)) (by rfl)) (by rfl)) (by rfl)) (by rfl)) (by rfl)) (by rfl)) (by rfl)) (by rfl)))) (fun _ _ => rfl)) (ds_cons (ds_set (i := 2) (by rfl) (loc_by (by kernel_rfl)) (de_dat (de_bin (f := addW) (fun X ft => op_addW ft) (de_var (i := 2) (by rfl) (vis_by (by kernel_rfl)) (by kernel_rfl) (by kernel_rfl)) (de_lst (da_cons (de_tup (da_cons de_int (da_cons de_int (da_cons de_int da_nil (by rfl)) (by rfl)) (by rfl))) (da_cons (de_tup (da_cons de_int (da_cons de_int da_nil (by rfl)) (by rfl))) (da_cons (de_tup (da_cons de_int (da_cons (de_tup (da_cons de_int (da_cons de_int da_nil (by rfl)) (by rfl))) da_nil (by rfl)) (by rfl))) (da_cons (de_tup (da_cons de_int (da_cons (de_tup da_nil) da_nil (by rfl)) (by rfl))) (da_cons (de_tup (da_cons de_int (da_cons (de_tup (da_cons de_int da_nil (by rfl))) da_nil (by rfl)) (by rfl))) (da_cons (de_tup (da_cons de_int (da_cons (de_tup (da_cons de_int (da_cons de_int da_nil (by rfl)) (by rfl))) da_nil (by rfl)) (by rfl))) (da_cons (de_dat (de_lst (da_cons de_int (da_cons de_int da_nil (by rfl)) (by rfl)))) (da_cons de_str (da_cons (de_tup (da_cons de_int (da_cons de_int da_nil (by rfl)) (by rfl))) (da_cons (de_tup (da_cons de_int (da_cons de_bl da_nil (by rfl)) (by rfl))) da_nil (by rfl)) (by rfl)) (by rfl)) (by rfl)) (by rfl)) (by rfl)) (by rfl)) (by rfl)) (by rfl)) (by rfl))))) (fun _ _ => rfl)) (ds_cons (ds_if (dt_or (.cons (dt_cmp (de_var (i := 1) (by rfl) (vis_by (by kernel_rfl)) (by kernel_rfl) (by kernel_rfl)) de_int (by rfl)) (.cons (dt_cmp (de_call (f__law_pour F (by omega)) (by kernel_rfl) (da_cons (de_var (i := 0) (by rfl) (vis_by (by kernel_rfl)) (by kernel_rfl) (by kernel_rfl)) (da_cons de_int da_nil (by rfl)) (by rfl)) (by rfl) (by kernel_rfl)) de_int (by rfl)) .nil))) (ds_cons (ds_ret (de_call (f__law_pick F (by omega)) (by kernel_rfl) (da_cons (de_var (i := 0) (by rfl) (vis_by (by kernel_rfl)) (by kernel_rfl) (by kernel_rfl)) (da_cons (de_var (i := 2) (by rfl) (vis_by (by kernel_rfl)) (by kernel_rfl) (by kernel_rfl)) da_nil (by rfl)) (by rfl)) (by rfl) (by kernel_rfl))) ds_nil) ds_nil) (ds_cons (ds_setLc (own := [("_law_part", 4)]) (i := 3) (by rfl) (by kernel_rfl) (sw_with (by kernel_rfl)) (di_range1 (by kernel_rfl) F.n_range (da_cons (de_call (f__law_pour F (by omega)) (by kernel_rfl) (da_cons (de_var (i := 0) (by rfl) (vis_by (by kernel_rfl)) (by kernel_rfl) (by kernel_rfl)) (da_cons de_int da_nil (by rfl)) (by rfl)) (by rfl) (by kernel_rfl)) da_nil (by rfl)) (by rfl)) (by kernel_rfl) (dg_nm (by rfl) (.inl (by kernel_rfl))) (by rfl) dc_nil (de_dat (de_call rec (by kernel_rfl) (da_cons (de_var (i := 0) (by rfl) (vis_by (by kernel_rfl)) (by kernel_rfl) (by kernel_rfl)) (da_cons (de_arg (de_bin (f := subW) (fun X ft => op_subW) (de_var (i := 1) (by rfl) (vis_by (by kernel_rfl)) (by kernel_rfl) (by kernel_rfl)) de_int)) da_nil (by rfl)) (by rfl)) (by rfl) (by kernel_rfl))) (fun _ _ => rfl)) (dss_frz (i := 3) (ds_cons (ds_ret (de_if (dt_cmp (de_call (f__law_pour F (by omega)) (by kernel_rfl) (da_cons (de_var (i := 0) (by rfl) (vis_by (by kernel_rfl)) (by kernel_rfl) (by kernel_rfl)) (da_cons de_int da_nil (by rfl)) (by rfl)) (by rfl) (by kernel_rfl)) de_int (by rfl)) (de_var (i := 3) (by rfl) (vis_by (by kernel_rfl)) (by kernel_rfl) (by kernel_rfl)) (de_callTy (f := tupleF) (fun X ft => cr_tupleF ft) (by kernel_rfl) F.n_tuple (by kernel_rfl) (da_cons (de_var (i := 3) (by rfl) (vis_by (by kernel_rfl)) (by kernel_rfl) (by kernel_rfl)) da_nil (by rfl)) (by rfl) (by decide) (by kernel_rfl)))) ds_nil))))))
theorem S__law_any_value : FnScope N__law_any_value ["_law_can_here", "_law_deep"] (defScope (top 55)) := ⟨rfl, rfl, rfl, by decide +kernel, rfl, by decide +kernel, by decide +kernel⟩
theorem g__law_any_value (F : Fx G cL) : ∀ n, FnS G (3 + n) "_law_any_value" 2 (phi__law_any_value n)
  | 0 => by
    obtain ⟨g, fd, h, hg⟩ := F.d__law_any_value
    exact fnS_of h hg S__law_any_value (h.bindsN (fun _ _ _ _ _ _ us hl => match us, hl with | [_, _], _ => rfl)) (m := fun _ _ => none) ⟨fun X Wx ft tk => ⟨fun pins s st H D I t => by obtain ⟨_, _, _, _, _, _, p⟩ := t; exact p.elim⟩⟩ |>.mono (Nat.le_refl _)
  | n + 1 => by
    obtain ⟨g, fd, h, hg⟩ := F.d__law_any_value
    exact (fnS_of h hg S__law_any_value (h.bindsN (fun _ _ _ _ _ _ us hl => match us, hl with | [_, _], _ => rfl)) (s__law_any_value F (Nat.le_trans (by decide : 2 ≤ 3) (Nat.le_add_right 3 n)) (g__law_any_value F n)))
theorem f__law_any_value {k : Nat} (F : Fx G cL) (hk : 15 ≤ k) : FnS G k "_law_any_value" 2 (phi__law_any_value 12) := (g__law_any_value F 12).mono hk
/-! ### _law_bent -/
abbrev N__law_bent : List Str := ["_law_can_here", "_law_value", "_law_near", "_law_at", "_law_way"]
abbrev st__law_bent_1 : DenS :=
  (sSet 2 (dDat (dApp lstF (dCons (dDat (dCall 2 (phi__law_any_value 12) (dCons (dVar 0) (dCons (dCst (.int 1)) dNil)))) (dCons (dDat (dCall 2 (phi__law_any_value 12) (dCons (dVar 0) (dCons (dCst (.int 1)) dNil)))) dNil)))))
abbrev st__law_bent_2 : DenS :=
  (sSet 2 (dDat (dP2 addW (dVar 2) (dApp lstF (dCons (dCst (.str "a")) (dCons (dCst (.str "c")) (dCons (dCst (.str "d")) (dCons (dDat (dP2 addW (dVar 1) (dCst (.str "b")))) (dCons (dDat (dP2 mulW (dVar 1) (dCst (.int 3)))) (dCons (dDat (dSl (dVar 1) (some (dCst (.int 1))) none)) dNil))))))))))
abbrev st__law_bent_3 : DenS :=
  (sSet 2 (dDat (dP2 addW (dVar 2) (dApp lstF (dCons (dDat (dP2 addW (dVar 1) (dCst (.int 1)))) (dCons (dDat (dP2 subW (dVar 1) (dCst (.int 1)))) (dCons (dNotW (dVar 1)) (dCons (dDat (dApp strF (dCons (dVar 1) dNil))) (dCons (dNeg (dVar 1)) (dCons (dDat (dP2 mulW (dCst (.int 9)) (dVar 1))) dNil))))))))))
abbrev st__law_bent_4 : DenS :=
  (sIf (tru (dIsa "int" (dVar 1))) (sSeq st__law_bent_3 sNil) sNil)
abbrev st__law_bent_5 : DenS :=
  (sIf (tru (dIsa "str" (dVar 1))) (sSeq st__law_bent_2 sNil) (sSeq st__law_bent_4 sNil))
abbrev st__law_bent_6 : DenS :=
  (sRet (dCall 2 phi__law_pick (dCons (dVar 0) (dCons (dVar 2) dNil))))
abbrev st__law_bent_7 : DenS :=
  (sIf (dOrs [(dNot (tru (dIsa "tuple" (dVar 1)))), (asB (dCmp .Eq (dVar 1) (dApp tupF dNil))), (asB (dCmp .Eq (dCall 2 phi__law_pour (dCons (dVar 0) (dCons (dCst (.int 7)) dNil))) (dCst (.int 0))))]) (sSeq st__law_bent_1 (sSeq st__law_bent_5 (sSeq st__law_bent_6 sNil))) sNil)
abbrev st__law_bent_8 : DenS :=
  (sPar2 3 4 (dCons (dDat (dCall 2 phi__law_pour (dCons (dVar 0) (dCons (dArg (dApp lenF (dCons (dVar 1) dNil))) dNil)))) (dCons (dDat (dCall 2 phi__law_pour (dCons (dVar 0) (dCons (dCst (.int 9)) dNil)))) dNil)))
abbrev st__law_bent_9 : DenS :=
  (sRet (dP2 addW (dSl (dVar 1) none (some (dVar 3))) (dSl (dVar 1) (some (dP2 addW (dVar 3) (dCst (.int 1)))) none)))
abbrev st__law_bent_10 : DenS :=
  (sIf (asB (dCmp .Eq (dVar 4) (dCst (.int 0)))) (sSeq st__law_bent_9 sNil) sNil)
abbrev st__law_bent_11 : DenS :=
  (sRet (dP2 addW (dSl (dVar 1) none (some (dP2 addW (dVar 3) (dCst (.int 1))))) (dSl (dVar 1) (some (dVar 3)) none)))
abbrev st__law_bent_12 : DenS :=
  (sIf (asB (dCmp .Eq (dVar 4) (dCst (.int 1)))) (sSeq st__law_bent_11 sNil) sNil)
abbrev st__law_bent_13 : DenS :=
  (sIf (asB (dCmp .Eq (dVar 4) (dCst (.int 2)))) (sSeq (sRet (dRv (dVar 1))) sNil) sNil)
abbrev st__law_bent_14 : DenS :=
  (sRet (dApp listF (dCons (dVar 1) dNil)))
abbrev st__law_bent_15 : DenS :=
  (sIf (asB (dCmp .Eq (dVar 4) (dCst (.int 3)))) (sSeq st__law_bent_14 sNil) sNil)
abbrev st__law_bent_16 (phi : Phi) : DenS :=
  (sRet (dP2 addW (dP2 addW (dSl (dVar 1) none (some (dVar 3))) (dApp tupF (dCons (dDat (dCall 2 phi (dCons (dVar 0) (dCons (dP2 ixW (dVar 1) (dVar 3)) dNil)))) dNil))) (dSl (dVar 1) (some (dP2 addW (dVar 3) (dCst (.int 1)))) none)))
abbrev m__law_bent (phi : Phi) : DenS :=
  (sSeq st__law_bent_7 (sSeq st__law_bent_8 (sSeq st__law_bent_10 (sSeq st__law_bent_12 (sSeq st__law_bent_13 (sSeq st__law_bent_15 (sSeq (st__law_bent_16 phi) sNil)))))))
def phi__law_bent : Nat → Phi
  | 0 => fun _ _ => none
  | n + 1 => runD N__law_bent (m__law_bent (phi__law_bent n))
theorem w__law_bent {Q : W → MH → Prop} {E : ExP} {h : MH} {a0 a1 : W} {k : Nat} (p : wS (fun _ h1 => Q (.d .non) h1) Q (fun _ _ => False) (fun _ _ => False) E (m__law_bent (phi__law_bent k) [some a0, some a1, none, none, none] h)) : wE Q E (phi__law_bent (k + 1) [a0, a1] h) := wE_run (N := N__law_bent) p
theorem s__law_bent {k : Nat} (F : Fx G cL) (hk : 15 ≤ k) {phi : Phi} (rec : FnS G k "_law_bent" 2 phi) : DSs G N__law_bent ⟨defScope (top 56), Str.ofString "", none⟩ k (defBody (top 56)) (m__law_bent phi) :=
  (ds_cons (ds_if (dt_or (.cons (dt_not (dt_tru (de_isa (T := "tuple") (de_var (i := 1) (by rfl) (vis_by (by kernel_rfl)) (by kernel_rfl) (by kernel_rfl)) (by rfl) (by kernel_rfl) F.n_isinstance (by kernel_rfl) F.n_tuple (by kernel_rfl) (by decide) (by kernel_rfl)) (by rfl))) (.cons (dt_cmp (de_var (i := 1) (by rfl) (vis_by (by kernel_rfl)) (by kernel_rfl) (by kernel_rfl)) (de_tup da_nil) (by rfl)) (.cons (dt_cmp (de_call (f__law_pour F (by omega)) (by kernel_rfl) (da_cons (de_var (i := 0) (by rfl) (vis_by (by kernel_rfl)) (by kernel_rfl) (by kernel_rfl)) (da_cons de_int da_nil (by rfl)) (by rfl)) (by rfl) (by kernel_rfl)) de_int (by rfl)) .nil)))) (ds_cons (ds_set (i := 2) (by rfl) (loc_by (by kernel_rfl)) (de_dat (de_lst (da_cons (de_dat (de_call (f__law_any_value F (by omega)) (by kernel_rfl) (da_cons (de_var (i := 0) (by rfl) (vis_by (by kernel_rfl)) (by kernel_rfl) (by kernel_rfl)) (da_cons de_int da_nil (by rfl)) (by rfl)) (by rfl) (by kernel_rfl))) (da_cons (de_dat (de_call (f__law_any_value F (by omega)) (by kernel_rfl) (da_cons (de_var (i := 0) (by rfl) (vis_by (by kernel_rfl)) (by kernel_rfl) (by kernel_rfl)) (da_cons de_int da_nil (by rfl)) (by rfl)) (by rfl) (by kernel_rfl))) da_nil (by rfl)) (by rfl)))) (fun _ _ => rfl)) (ds_cons (ds_if (dt_tru (de_isa (T := "str") (de_var (i := 1) (by rfl) (vis_by (by kernel_rfl)) (by kernel_rfl) (by kernel_rfl)) (by rfl) (by kernel_rfl) F.n_isinstance (by kernel_rfl) F.n_str (by kernel_rfl) (by decide) (by kernel_rfl)) (by rfl)) (ds_cons (ds_set (i := 2) (by rfl) (loc_by (by kernel_rfl)) (de_dat (de_bin (f := addW) (fun X ft => op_addW ft) (de_var (i := 2) (by rfl) (vis_by (by kernel_rfl)) (by kernel_rfl) (by kernel_rfl)) (de_lst (da_cons de_str (da_cons de_str (da_cons de_str (da_cons (de_dat (de_bin (f := addW) (fun X ft => op_addW ft) (de_var (i := 1) (by rfl) (vis_by (by kernel_rfl)) (by kernel_rfl) (by kernel_rfl)) de_str)) (da_cons (de_dat (de_bin (f := mulW) (fun X ft => op_mulW ft) (de_var (i := 1) (by rfl) (vis_by (by kernel_rfl)) (by kernel_rfl) (by kernel_rfl)) de_int)) (da_cons (de_dat (de_sl (de_var (i := 1) (by rfl) (vis_by (by kernel_rfl)) (by kernel_rfl) (by kernel_rfl)) (.some de_int) .none)) da_nil (by rfl)) (by rfl)) (by rfl)) (by rfl)) (by rfl)) (by rfl))))) (fun _ _ => rfl)) ds_nil) (ds_cons (ds_if (dt_tru (de_isa (T := "int") (de_var (i := 1) (by rfl) (vis_by (by kernel_rfl)) (by kernel_rfl) (by kernel_rfl)) (by rfl) (by kernel_rfl) F.n_isinstance (by kernel_rfl) F.n_int (by kernel_rfl) (by decide) (by kernel_rfl)) (by rfl)) (ds_cons (ds_set (i := 2) (by rfl) (loc_by (by kernel_rfl)) (de_dat (de_bin (f := addW) (fun X ft => op_addW ft) (de_var (i := 2) (by rfl) (vis_by (by kernel_rfl)) (by kernel_rfl) (by kernel_rfl)) (de_lst (da_cons (de_dat (de_bin (f := addW) (fun X ft => op_addW ft) (de_var (i := 1) (by rfl) (vis_by (by kernel_rfl)) (by kernel_rfl) (by kernel_rfl)) de_int)) (da_cons (de_dat (de_bin (f := subW) (fun X ft => op_subW) (de_var (i := 1) (by rfl) (vis_by (by kernel_rfl)) (by kernel_rfl) (by kernel_rfl)) de_int)) (da_cons (de_not (de_var (i := 1) (by rfl) (vis_by (by kernel_rfl)) (by kernel_rfl) (by kernel_rfl))) (da_cons (de_dat (de_callTy (f := strF) (fun X ft => cr_strF) (by kernel_rfl) F.n_str (by kernel_rfl) (da_cons (de_var (i := 1) (by rfl) (vis_by (by kernel_rfl)) (by kernel_rfl) (by kernel_rfl)) da_nil (by rfl)) (by rfl) (by decide) (by kernel_rfl))) (da_cons (de_neg (de_var (i := 1) (by rfl) (vis_by (by kernel_rfl)) (by kernel_rfl) (by kernel_rfl))) (da_cons (de_dat (de_bin (f := mulW) (fun X ft => op_mulW ft) de_int (de_var (i := 1) (by rfl) (vis_by (by kernel_rfl)) (by kernel_rfl) (by kernel_rfl)))) da_nil (by rfl)) (by rfl)) (by rfl)) (by rfl)) (by rfl)) (by rfl))))) (fun _ _ => rfl)) ds_nil) ds_nil) ds_nil)) (ds_cons (ds_ret (de_call (f__law_pick F (by omega)) (by kernel_rfl) (da_cons (de_var (i := 0) (by rfl) (vis_by (by kernel_rfl)) (by kernel_rfl) (by kernel_rfl)) (da_cons (de_var (i := 2) (by rfl) (vis_by (by kernel_rfl)) (by kernel_rfl) (by kernel_rfl)) da_nil (by rfl)) (by rfl)) (by rfl) (by kernel_rfl))) ds_nil))) ds_nil) (ds_cons (ds_par2 (i := 3) (j := 4) (by rfl) (by rfl) (by decide) (by kernel_rfl) (by kernel_rfl) (da_cons (de_dat (de_call (f__law_pour F (by omega)) (by kernel_rfl) (da_cons (de_var (i := 0) (by rfl) (vis_by (by kernel_rfl)) (by kernel_rfl) (by kernel_rfl)) (da_cons (de_arg (de_callB (f := lenF) (fun X ft => cr_lenF ft) (by kernel_rfl) F.n_len (by kernel_rfl) (da_cons (de_var (i := 1) (by rfl) (vis_by (by kernel_rfl)) (by kernel_rfl) (by kernel_rfl)) da_nil (by rfl)) (by rfl) (by decide) (by kernel_rfl))) da_nil (by rfl)) (by rfl)) (by rfl) (by kernel_rfl))) (da_cons (de_dat (de_call (f__law_pour F (by omega)) (by kernel_rfl) (da_cons (de_var (i := 0) (by rfl) (vis_by (by kernel_rfl)) (by kernel_rfl) (by kernel_rfl)) (da_cons de_int da_nil (by rfl)) (by rfl)) (by rfl) (by kernel_rfl))) da_nil (by rfl)) (by rfl)) (sw_stores (by kernel_rfl)) (fun _ => rfl)) (ds_cons (ds_if (dt_cmp (de_var (i := 4) (by rfl) (vis_by (by kernel_rfl)) (by kernel_rfl) (by kernel_rfl)) de_int (by rfl)) (ds_cons (ds_ret (de_bin (f := addW) (fun X ft => op_addW ft) (de_sl (de_var (i := 1) (by rfl) (vis_by (by kernel_rfl)) (by kernel_rfl) (by kernel_rfl)) .none (.some (de_var (i := 3) (by rfl) (vis_by (by kernel_rfl)) (by kernel_rfl) (by kernel_rfl)))) (de_sl (de_var (i := 1) (by rfl) (vis_by (by kernel_rfl)) (by kernel_rfl) (by kernel_rfl)) (.some (de_bin (f := addW) (fun X ft => op_addW ft) (de_var (i := 3) (by rfl) (vis_by (by kernel_rfl)) (by kernel_rfl) (by kernel_rfl)) de_int)) .none))) ds_nil) ds_nil) (ds_cons (ds_if (dt_cmp (de_var (i := 4) (by rfl) (vis_by (by kernel_rfl)) (by kernel_rfl) (by kernel_rfl)) de_int (by rfl)) (ds_cons (ds_ret (de_bin (f := addW) (fun X ft => op_addW ft) (de_sl (de_var (i := 1) (by rfl) (vis_by (by kernel_rfl)) (by kernel_rfl) (by kernel_rfl)) .none (.some (de_bin (f := addW) (fun X ft => op_addW ft) (de_var (i := 3) (by rfl) (vis_by (by kernel_rfl)) (by kernel_rfl) (by kernel_rfl)) de_int))) (de_sl (de_var (i := 1) (by rfl) (vis_by (by kernel_rfl)) (by kernel_rfl) (by kernel_rfl)) (.some (de_var (i := 3) (by rfl) (vis_by (by kernel_rfl)) (by kernel_rfl) (by kernel_rfl))) .none))) ds_nil) ds_nil) (ds_cons (ds_if (dt_cmp (de_var (i := 4) (by rfl) (vis_by (by kernel_rfl)) (by kernel_rfl) (by kernel_rfl)) de_int (by rfl)) (ds_cons (ds_ret (de_rev (de_var (i := 1) (by rfl) (vis_by (by kernel_rfl)) (by kernel_rfl) (by kernel_rfl)))) ds_nil) ds_nil) (ds_cons (ds_if (dt_cmp (de_var (i := 4) (by rfl) (vis_by (by kernel_rfl)) (by kernel_rfl) (by kernel_rfl)) de_int (by rfl)) (ds_cons (ds_ret (de_callTy (f := listF) (fun X ft => cr_listF ft) (by kernel_rfl) F.n_list (by kernel_rfl) (da_cons (de_var (i := 1) (by rfl) (vis_by (by kernel_rfl)) (by kernel_rfl) (by kernel_rfl)) da_nil (by rfl)) (by rfl) (by decide) (by kernel_rfl))) ds_nil) ds_nil) (ds_cons (ds_ret (de_bin (f := addW) (fun X ft => op_addW ft) (de_bin (f := addW) (fun X ft => op_addW ft) (de_sl (de_var (i := 1) (by rfl) (vis_by (by kernel_rfl)) (by kernel_rfl) (by kernel_rfl)) .none (.some (de_var (i := 3) (by rfl) (vis_by (by kernel_rfl)) (by kernel_rfl) (by kernel_rfl)))) (de_tup (da_cons (de_dat (de_call rec (by kernel_rfl) (da_cons (de_var (i := 0) (by rfl) (vis_by (by kernel_rfl)) (by kernel_rfl) (by kernel_rfl)) (da_cons (de_ix (de_var (i := 1) (by rfl) (vis_by (by kernel_rfl)) (by kernel_rfl) (by kernel_rfl)) (de_var (i := 3) (by rfl) (vis_by (by kernel_rfl)) (by kernel_rfl) (by kernel_rfl)) (by rfl)) da_nil (by rfl)) (by rfl)) (by rfl) (by kernel_rfl))) da_nil (by rfl)))) (de_sl (de_var (i := 1) (by rfl) (vis_by (by kernel_rfl)) (by kernel_rfl) (by kernel_rfl)) (.some (de_bin (f := addW) (fun X ft => op_addW ft) (de_var (i := 3) (by rfl) (vis_by (by kernel_rfl)) (by kernel_rfl) (by kernel_rfl)) de_int)) .none))) ds_nil)))))))
theorem S__law_bent : FnScope N__law_bent ["_law_can_here", "_law_value"] (defScope (top 56)) := ⟨rfl, rfl, rfl, by decide +kernel, rfl, by decide +kernel, by decide +kernel⟩
theorem g__law_bent (F : Fx G cL) : ∀ n, FnS G (16 + n) "_law_bent" 2 (phi__law_bent n)
  | 0 => by
    obtain ⟨g, fd, h, hg⟩ := F.d__law_bent
    exact fnS_of h hg S__law_bent (h.bindsN (fun _ _ _ _ _ _ us hl => match us, hl with | [_, _], _ => rfl)) (m := fun _ _ => none) ⟨fun X Wx ft tk => ⟨fun pins s st H D I t => by obtain ⟨_, _, _, _, _, _, p⟩ := t; exact p.elim⟩⟩ |>.mono (Nat.le_refl _)
  | n + 1 => by
    obtain ⟨g, fd, h, hg⟩ := F.d__law_bent
    exact (fnS_of h hg S__law_bent (h.bindsN (fun _ _ _ _ _ _ us hl => match us, hl with | [_, _], _ => rfl)) (s__law_bent F (Nat.le_trans (by decide : 15 ≤ 16) (Nat.le_add_right 16 n)) (g__law_bent F n)))
theorem f__law_bent {k : Nat} (F : Fx G cL) (hk : 46 ≤ k) : FnS G k "_law_bent" 2 (phi__law_bent 30) := (g__law_bent F 30).mono hk
/-! ### _law_known -/
abbrev N__law_known : List Str := ["_law_weights", "_law_value", "_law_found", "_law_one"]
abbrev st__law_known_1 : DenS :=
  (sSet 2 (dDat (dApp lstF (dCons (dDat (dCall 1 phi_is_weights (dCons (dVar 1) dNil))) (dCons (dDat (dCall 2 phi_is_chain (dCons (dVar 0) (dCons (dVar 1) dNil)))) (dCons (dDat (dCall 1 phi_is_heap (dCons (dVar 1) dNil))) dNil))))))
abbrev i__law_known_1 : Den (List D) :=
  (iSeq (dVar 2))
abbrev e__law_known_1 : Den W :=
  (dVar 3)
abbrev t__law_known_1 : Den Bool :=
  (dNot (tru (dIsa "bool" (dVar 3))))
abbrev st__law_known_2 : DenS :=
  (sIf (asB (dCmp .NotEq (dLc (.nm 3) i__law_known_1 t__law_known_1 e__law_known_1 [3]) (dApp lstF dNil))) (sSeq (sRet (dCst (.bl false))) sNil) sNil)
abbrev st__law_known_3 : DenS :=
  (sRet (dCmp .Eq (dVar 2) (dApp lstF (dCons (dDat (dCall 1 phi__law_good_weights (dCons (dVar 1) dNil))) (dCons (dDat (dCall 2 phi__law_good_chain (dCons (dVar 0) (dCons (dVar 1) dNil)))) (dCons (dDat (dCall 1 phi__law_good_heap (dCons (dVar 1) dNil))) dNil))))))
abbrev m__law_known : DenS :=
  (sSeq st__law_known_1 (sSeq st__law_known_2 (sSeq st__law_known_3 sNil)))
def phi__law_known : Phi := runD N__law_known m__law_known
theorem w__law_known {Q : W → MH → Prop} {E : ExP} {h : MH} {a0 a1 : W} (p : wS (fun _ h1 => Q (.d .non) h1) Q (fun _ _ => False) (fun _ _ => False) E (m__law_known [some a0, some a1, none, none] h)) : wE Q E (phi__law_known [a0, a1] h) := wE_run (N := N__law_known) p
theorem s__law_known (F : Fx G cL) : DSs G N__law_known ⟨defScope (top 60), Str.ofString "", none⟩ 4 (defBody (top 60)) m__law_known :=
  (ds_cons (ds_set (i := 2) (by rfl) (loc_by (by kernel_rfl)) (de_dat (de_lst (da_cons (de_dat (de_call (f_is_weights F (by decide)) (by kernel_rfl) (da_cons (de_var (i := 1) (by rfl) (vis_by (by kernel_rfl)) (by kernel_rfl) (by kernel_rfl)) da_nil (by rfl)) (by rfl) (by kernel_rfl))) (da_cons (de_dat (de_call (f_is_chain F (by decide)) (by kernel_rfl) (da_cons (de_var (i := 0) (by rfl) (vis_by (by kernel_rfl)) (by kernel_rfl) (by kernel_rfl)) (da_cons (de_var (i := 1) (by rfl) (vis_by (by kernel_rfl)) (by kernel_rfl) (by kernel_rfl)) da_nil (by rfl)) (by rfl)) (by rfl) (by kernel_rfl))) (da_cons (de_dat (de_call (f_is_heap F (by decide)) (by kernel_rfl) (da_cons (de_var (i := 1) (by rfl) (vis_by (by kernel_rfl)) (by kernel_rfl) (by kernel_rfl)) da_nil (by rfl)) (by rfl) (by kernel_rfl))) da_nil (by rfl)) (by rfl)) (by rfl)))) (fun _ _ => rfl)) (ds_cons (ds_if (dt_cmp (de_lc (own := [("_law_one", 3)]) (di_seq (de_var (i := 2) (by rfl) (vis_by (by kernel_rfl)) (by kernel_rfl) (by kernel_rfl))) (by kernel_rfl) (dg_nm (by rfl) (.inl (by kernel_rfl))) (by rfl) (dc_one (dt_not (dt_tru (de_isa (T := "bool") (de_var (i := 3) (by rfl) (vis_by (by kernel_rfl)) (by kernel_rfl) (by kernel_rfl)) (by rfl) (by kernel_rfl) F.n_isinstance (by kernel_rfl) F.n_bool (by kernel_rfl) (by decide) (by kernel_rfl)) (by rfl)))) (de_var (i := 3) (by rfl) (vis_by (by kernel_rfl)) (by kernel_rfl) (by kernel_rfl)) (fun _ _ => rfl)) (de_lst da_nil) (by rfl)) (ds_cons (ds_ret de_bl) ds_nil) ds_nil) (ds_cons (ds_ret (de_cmp (de_var (i := 2) (by rfl) (vis_by (by kernel_rfl)) (by kernel_rfl) (by kernel_rfl)) (de_lst (da_cons (de_dat (de_call (f__law_good_weights F (by decide)) (by kernel_rfl) (da_cons (de_var (i := 1) (by rfl) (vis_by (by kernel_rfl)) (by kernel_rfl) (by kernel_rfl)) da_nil (by rfl)) (by rfl) (by kernel_rfl))) (da_cons (de_dat (de_call (f__law_good_chain F (by decide)) (by kernel_rfl) (da_cons (de_var (i := 0) (by rfl) (vis_by (by kernel_rfl)) (by kernel_rfl) (by kernel_rfl)) (da_cons (de_var (i := 1) (by rfl) (vis_by (by kernel_rfl)) (by kernel_rfl) (by kernel_rfl)) da_nil (by rfl)) (by rfl)) (by rfl) (by kernel_rfl))) (da_cons (de_dat (de_call (f__law_good_heap F (by decide)) (by kernel_rfl) (da_cons (de_var (i := 1) (by rfl) (vis_by (by kernel_rfl)) (by kernel_rfl) (by kernel_rfl)) da_nil (by rfl)) (by rfl) (by kernel_rfl))) da_nil (by rfl)) (by rfl)) (by rfl))) (by rfl))) ds_nil)))
theorem S__law_known : FnScope N__law_known ["_law_weights", "_law_value"] (defScope (top 60)) := ⟨rfl, rfl, rfl, by decide +kernel, rfl, by decide +kernel, by decide +kernel⟩
theorem f__law_known {k : Nat} (F : Fx G cL) (hk : 5 ≤ k) : FnS G k "_law_known" 2 phi__law_known := by
  obtain ⟨g, fd, h, hg⟩ := F.d__law_known
  exact (fnS_of h hg S__law_known (h.bindsN (fun _ _ _ _ _ _ us hl => match us, hl with | [_, _], _ => rfl)) (s__law_known F)).mono hk
/-! ### _law_chain_right -/
abbrev N__law_chain_right : List Str := ["_law_weights", "_law_chain", "_law_heap_here"]
abbrev st__law_chain_right_1 : DenS :=
  (sSet 2 (dDat (dCall 2 phi_heap_of (dCons (dVar 0) (dCons (dVar 1) dNil)))))
abbrev st__law_chain_right_2 : DenS :=
  (sIf (dOrs [(asB (dCmp .NotEq (dVar 2) (dCall 2 phi__law_heap (dCons (dVar 0) (dCons (dVar 1) dNil))))), (dNot (tru (dCall 1 phi_is_heap (dCons (dVar 2) dNil)))), (asB (dCmp .NotEq (dCall 2 phi_heap_of (dCons (dVar 0) (dCons (dArg (dRv (dVar 1))) dNil))) (dVar 2)))]) (sSeq (sRet (dCst (.bl false))) sNil) sNil)
abbrev st__law_chain_right_3 : DenS :=
  (sIf (dOrs [(asB (dCmp .NotEq (dCall 2 phi_weight_of (dCons (dVar 0) (dCons (dVar 1) dNil))) (dP2 ixW (dVar 2) (dCst (.int 0))))), (asB (dCmp .NotEq (dCall 2 phi_turned (dCons (dVar 0) (dCons (dVar 1) dNil))) (dRv (dVar 1))))]) (sSeq (sRet (dCst (.bl false))) sNil) sNil)
abbrev st__law_chain_right_4 : DenS :=
  (sRet (dChain .Eq .Eq (dCall 2 phi_upright (dCons (dVar 0) (dCons (dVar 1) dNil))) (dApp minSF (dCons (dVar 1) (dCons (dRv (dVar 1)) dNil))) (dCall 2 phi_upright (dCons (dVar 0) (dCons (dArg (dRv (dVar 1))) dNil)))))
abbrev m__law_chain_right : DenS :=
  (sSeq st__law_chain_right_1 (sSeq st__law_chain_right_2 (sSeq st__law_chain_right_3 (sSeq st__law_chain_right_4 sNil))))
def phi__law_chain_right : Phi := runD N__law_chain_right m__law_chain_right
theorem w__law_chain_right {Q : W → MH → Prop} {E : ExP} {h : MH} {a0 a1 : W} (p : wS (fun _ h1 => Q (.d .non) h1) Q (fun _ _ => False) (fun _ _ => False) E (m__law_chain_right [some a0, some a1, none] h)) : wE Q E (phi__law_chain_right [a0, a1] h) := wE_run (N := N__law_chain_right) p
theorem s__law_chain_right (F : Fx G cL) : DSs G N__law_chain_right ⟨defScope (top 61), Str.ofString "", none⟩ 5 (defBody (top 61)) m__law_chain_right :=
  (ds_cons (ds_set (i := 2) (by rfl) (loc_by (by kernel_rfl)) (de_dat (de_call (f_heap_of F (by decide)) (by kernel_rfl) (da_cons (de_var (i := 0) (by rfl) (vis_by (by kernel_rfl)) (by kernel_rfl) (by kernel_rfl)) (da_cons (de_var (i := 1) (by rfl) (vis_by (by kernel_rfl)) (by kernel_rfl) (by kernel_rfl)) da_nil (by rfl)) (by rfl)) (by rfl) (by kernel_rfl))) (fun _ _ => rfl)) (ds_cons (ds_if (dt_or (.cons (dt_cmp (de_var (i := 2) (by rfl) (vis_by (by kernel_rfl)) (by kernel_rfl) (by kernel_rfl)) (de_call (f__law_heap F (by decide)) (by kernel_rfl) (da_cons (de_var (i := 0) (by rfl) (vis_by (by kernel_rfl)) (by kernel_rfl) (by kernel_rfl)) (da_cons (de_var (i := 1) (by rfl) (vis_by (by kernel_rfl)) (by kernel_rfl) (by kernel_rfl)) da_nil (by rfl)) (by rfl)) (by rfl) (by kernel_rfl)) (by rfl)) (.cons (dt_not (dt_tru (de_call (f_is_heap F (by decide)) (by kernel_rfl) (da_cons (de_var (i := 2) (by rfl) (vis_by (by kernel_rfl)) (by kernel_rfl) (by kernel_rfl)) da_nil (by rfl)) (by rfl) (by kernel_rfl)) (by rfl))) (.cons (dt_cmp (de_call (f_heap_of F (by decide)) (by kernel_rfl) (da_cons (de_var (i := 0) (by rfl) (vis_by (by kernel_rfl)) (by kernel_rfl) (by kernel_rfl)) (da_cons (de_arg (de_rev (de_var (i := 1) (by rfl) (vis_by (by kernel_rfl)) (by kernel_rfl) (by kernel_rfl)))) da_nil (by rfl)) (by rfl)) (by rfl) (by kernel_rfl)) (de_var (i := 2) (by rfl) (vis_by (by kernel_rfl)) (by kernel_rfl) (by kernel_rfl)) (by rfl)) .nil)))) (ds_cons (ds_ret de_bl) ds_nil) ds_nil) (ds_cons (ds_if (dt_or (.cons (dt_cmp (de_call (f_weight_of F (by decide)) (by kernel_rfl) (da_cons (de_var (i := 0) (by rfl) (vis_by (by kernel_rfl)) (by kernel_rfl) (by kernel_rfl)) (da_cons (de_var (i := 1) (by rfl) (vis_by (by kernel_rfl)) (by kernel_rfl) (by kernel_rfl)) da_nil (by rfl)) (by rfl)) (by rfl) (by kernel_rfl)) (de_ix (de_var (i := 2) (by rfl) (vis_by (by kernel_rfl)) (by kernel_rfl) (by kernel_rfl)) de_int (by rfl)) (by rfl)) (.cons (dt_cmp (de_call (f_turned F (by decide)) (by kernel_rfl) (da_cons (de_var (i := 0) (by rfl) (vis_by (by kernel_rfl)) (by kernel_rfl) (by kernel_rfl)) (da_cons (de_var (i := 1) (by rfl) (vis_by (by kernel_rfl)) (by kernel_rfl) (by kernel_rfl)) da_nil (by rfl)) (by rfl)) (by rfl) (by kernel_rfl)) (de_rev (de_var (i := 1) (by rfl) (vis_by (by kernel_rfl)) (by kernel_rfl) (by kernel_rfl))) (by rfl)) .nil))) (ds_cons (ds_ret de_bl) ds_nil) ds_nil) (ds_cons (ds_ret (de_chain (de_call (f_upright F (by decide)) (by kernel_rfl) (da_cons (de_var (i := 0) (by rfl) (vis_by (by kernel_rfl)) (by kernel_rfl) (by kernel_rfl)) (da_cons (de_var (i := 1) (by rfl) (vis_by (by kernel_rfl)) (by kernel_rfl) (by kernel_rfl)) da_nil (by rfl)) (by rfl)) (by rfl) (by kernel_rfl)) (de_callB (f := minSF) (fun X ft => cr_minSF ft) (by kernel_rfl) F.n_min (by kernel_rfl) (da_cons (de_var (i := 1) (by rfl) (vis_by (by kernel_rfl)) (by kernel_rfl) (by kernel_rfl)) (da_cons (de_rev (de_var (i := 1) (by rfl) (vis_by (by kernel_rfl)) (by kernel_rfl) (by kernel_rfl))) da_nil (by rfl)) (by rfl)) (by rfl) (by decide) (by kernel_rfl)) (de_call (f_upright F (by decide)) (by kernel_rfl) (da_cons (de_var (i := 0) (by rfl) (vis_by (by kernel_rfl)) (by kernel_rfl) (by kernel_rfl)) (da_cons (de_arg (de_rev (de_var (i := 1) (by rfl) (vis_by (by kernel_rfl)) (by kernel_rfl) (by kernel_rfl)))) da_nil (by rfl)) (by rfl)) (by rfl) (by kernel_rfl)) (by rfl))) ds_nil))))
theorem S__law_chain_right : FnScope N__law_chain_right ["_law_weights", "_law_chain"] (defScope (top 61)) := ⟨rfl, rfl, rfl, by decide +kernel, rfl, by decide +kernel, by decide +kernel⟩
theorem f__law_chain_right {k : Nat} (F : Fx G cL) (hk : 6 ≤ k) : FnS G k "_law_chain_right" 2 phi__law_chain_right := by
  obtain ⟨g, fd, h, hg⟩ := F.d__law_chain_right
  exact (fnS_of h hg S__law_chain_right (h.bindsN (fun _ _ _ _ _ _ us hl => match us, hl with | [_, _], _ => rfl)) (s__law_chain_right F)).mono hk
/-! ### _law_refused -/
abbrev N__law_refused : List Str := ["_law_weights", "_law_odd", "_law_calls", "_law_words", "_law_call"]
abbrev st__law_refused_1 : DenS :=
  (sSet 2 (dApp tupF (dCons (dCst (.fr "weight_of")) (dCons (dCst (.fr "heap_of")) (dCons (dCst (.fr "turned")) (dCons (dCst (.fr "upright")) dNil))))))
abbrev i__law_refused_1 : Den (List D) :=
  (iSeq (dVar 2))
abbrev e__law_refused_1 : Den W :=
  (dDat (dTry false (dCallV 2 ["weight_of", "heap_of", "turned", "upright"] [phi_weight_of, phi_heap_of, phi_turned, phi_upright] 4 (dCons (dVar 0) (dCons (dVar 1) dNil)))))
abbrev st__law_refused_2 : DenS :=
  (sIf (asB (dCmp .NotEq (dLc (.nm 4) i__law_refused_1 dYes e__law_refused_1 [4]) (dP2 mulW (dApp lstF (dCons (dCst (.str "chain value")) dNil)) (dCst (.int 4))))) (sSeq (sRet (dCst (.bl false))) sNil) sNil)
abbrev st__law_refused_3 : DenS :=
  (sIf (dNot (tru (dCall 2 phi__law_good_chain (dCons (dVar 0) (dCons (dVar 1) dNil))))) (sSeq st__law_refused_2 sNil) sNil)
abbrev i__law_refused_2 : Den (List D) :=
  (iSeq (dVar 2))
abbrev e__law_refused_2 : Den W :=
  (dDat (dTry false (dCallV 2 ["weight_of", "heap_of", "turned", "upright"] [phi_weight_of, phi_heap_of, phi_turned, phi_upright] 4 (dCons (dVar 1) (dCons (dCst .non) dNil)))))
abbrev st__law_refused_4 : DenS :=
  (sSet 3 (dLc (.nm 4) i__law_refused_2 dYes e__law_refused_2 [4]))
abbrev st__law_refused_5 : DenS :=
  (sIf (asB (dCmp .NotEq (dP2 addW (dVar 3) (dApp lstF (dCons (dDat (dTry false (dCall 2 phi_is_chain (dCons (dVar 1) (dCons (dCst .non) dNil))))) dNil))) (dP2 mulW (dApp lstF (dCons (dCst (.str "weights value")) dNil)) (dCst (.int 5))))) (sSeq (sRet (dCst (.bl false))) sNil) sNil)
abbrev st__law_refused_6 : DenS :=
  (sIf (dNot (tru (dCall 1 phi__law_good_weights (dCons (dVar 1) dNil)))) (sSeq st__law_refused_4 (sSeq (sFrz 3) (sSeq st__law_refused_5 sNil))) sNil)
abbrev m__law_refused : DenS :=
  (sSeq st__law_refused_1 (sSeq st__law_refused_3 (sSeq st__law_refused_6 (sSeq (sRet (dCst (.bl true))) sNil))))
def phi__law_refused : Phi := runD N__law_refused m__law_refused
theorem w__law_refused {Q : W → MH → Prop} {E : ExP} {h : MH} {a0 a1 : W} (p : wS (fun _ h1 => Q (.d .non) h1) Q (fun _ _ => False) (fun _ _ => False) E (m__law_refused [some a0, some a1, none, none, none] h)) : wE Q E (phi__law_refused [a0, a1] h) := wE_run (N := N__law_refused) p
theorem s__law_refused (F : Fx G cL) : DSs G N__law_refused ⟨defScope (top 62), "_law_refused" ++ ".<locals>.", some (cL "_law_refused")⟩ 59 (defBody (top 62)) m__law_refused :=
  (ds_cons (ds_set (i := 2) (by rfl) (loc_by (by kernel_rfl)) (de_tup (da_cons (de_globF (by kernel_rfl) F.d_weight_of (by kernel_rfl)) (da_cons (de_globF (by kernel_rfl) F.d_heap_of (by kernel_rfl)) (da_cons (de_globF (by kernel_rfl) F.d_turned (by kernel_rfl)) (da_cons (de_globF (by kernel_rfl) F.d_upright (by kernel_rfl)) da_nil (by rfl)) (by rfl)) (by rfl)) (by rfl))) (fun _ _ => rfl)) (ds_cons (ds_if (dt_not (dt_tru (de_call (f__law_good_chain F (by decide)) (by kernel_rfl) (da_cons (de_var (i := 0) (by rfl) (vis_by (by kernel_rfl)) (by kernel_rfl) (by kernel_rfl)) (da_cons (de_var (i := 1) (by rfl) (vis_by (by kernel_rfl)) (by kernel_rfl) (by kernel_rfl)) da_nil (by rfl)) (by rfl)) (by rfl) (by kernel_rfl)) (by rfl))) (ds_cons (ds_if (dt_cmp (de_lc (own := [("_law_call", 4)]) (di_seq (de_var (i := 2) (by rfl) (vis_by (by kernel_rfl)) (by kernel_rfl) (by kernel_rfl))) (by kernel_rfl) (dg_nm (by rfl) (.inr ⟨rfl, loc_by (by kernel_rfl)⟩)) (by rfl) dc_nil (de_dat (de_try F.l__law_word F.names F.cat F.tab__law_refused.blk (by kernel_rfl) (by kernel_rfl) (by decide) (by kernel_rfl) (fun _ => rfl) (fun _ _ _ _ _ => rfl) (de_callV (i := 4) (.cons (f_weight_of F (by decide)) (.cons (f_heap_of F (by decide)) (.cons (f_turned F (by decide)) (.cons (f_upright F (by decide)) .nil)))) (by rfl) (vis_by (by kernel_rfl)) (by kernel_rfl) (by kernel_rfl) (da_cons (de_var (i := 0) (by rfl) (vis_by (by kernel_rfl)) (by kernel_rfl) (by kernel_rfl)) (da_cons (de_var (i := 1) (by rfl) (vis_by (by kernel_rfl)) (by kernel_rfl) (by kernel_rfl)) da_nil (by rfl)) (by rfl)) (by rfl)))) (fun _ _ => rfl)) (de_bin (f := mulW) (fun X ft => op_mulW ft) (de_lst (da_cons de_str da_nil (by rfl))) de_int) (by rfl)) (ds_cons (ds_ret de_bl) ds_nil) ds_nil) ds_nil) ds_nil) (ds_cons (ds_if (dt_not (dt_tru (de_call (f__law_good_weights F (by decide)) (by kernel_rfl) (da_cons (de_var (i := 1) (by rfl) (vis_by (by kernel_rfl)) (by kernel_rfl) (by kernel_rfl)) da_nil (by rfl)) (by rfl) (by kernel_rfl)) (by rfl))) (ds_cons (ds_setLc (own := [("_law_call", 4)]) (i := 3) (by rfl) (by kernel_rfl) (sw_with (by kernel_rfl)) (di_seq (de_var (i := 2) (by rfl) (vis_by (by kernel_rfl)) (by kernel_rfl) (by kernel_rfl))) (by kernel_rfl) (dg_nm (by rfl) (.inr ⟨rfl, loc_by (by kernel_rfl)⟩)) (by rfl) dc_nil (de_dat (de_try F.l__law_word F.names F.cat F.tab__law_refused.blk (by kernel_rfl) (by kernel_rfl) (by decide) (by kernel_rfl) (fun _ => rfl) (fun _ _ _ _ _ => rfl) (de_callV (i := 4) (.cons (f_weight_of F (by decide)) (.cons (f_heap_of F (by decide)) (.cons (f_turned F (by decide)) (.cons (f_upright F (by decide)) .nil)))) (by rfl) (vis_by (by kernel_rfl)) (by kernel_rfl) (by kernel_rfl) (da_cons (de_var (i := 1) (by rfl) (vis_by (by kernel_rfl)) (by kernel_rfl) (by kernel_rfl)) (da_cons de_non da_nil (by rfl)) (by rfl)) (by rfl)))) (fun _ _ => rfl)) (dss_frz (i := 3) (ds_cons (ds_if (dt_cmp (de_bin (f := addW) (fun X ft => op_addW ft) (de_var (i := 3) (by rfl) (vis_by (by kernel_rfl)) (by kernel_rfl) (by kernel_rfl)) (de_lst (da_cons (de_dat (de_try F.l__law_word F.names F.cat F.tab__law_refused (by kernel_rfl) (by kernel_rfl) (by decide) (by kernel_rfl) (fun _ => rfl) (fun _ _ _ _ _ => rfl) (de_call (f_is_chain F (by decide)) (by kernel_rfl) (da_cons (de_var (i := 1) (by rfl) (vis_by (by kernel_rfl)) (by kernel_rfl) (by kernel_rfl)) (da_cons de_non da_nil (by rfl)) (by rfl)) (by rfl) (by kernel_rfl)))) da_nil (by rfl)))) (de_bin (f := mulW) (fun X ft => op_mulW ft) (de_lst (da_cons de_str da_nil (by rfl))) de_int) (by rfl)) (ds_cons (ds_ret de_bl) ds_nil) ds_nil) ds_nil))) ds_nil) (ds_cons (ds_ret de_bl) ds_nil))))
theorem S__law_refused : FnScope N__law_refused ["_law_weights", "_law_odd"] (defScope (top 62)) := ⟨rfl, rfl, rfl, by decide +kernel, rfl, by decide +kernel, by decide +kernel⟩
theorem f__law_refused {k : Nat} (F : Fx G cL) (hk : 60 ≤ k) : FnS G k "_law_refused" 2 phi__law_refused := by
  obtain ⟨g, fd, h, hg, hc⟩ := F.d__law_refused
  exact (fnS_lam h hg hc S__law_refused (h.bindsN (fun _ _ _ _ _ _ us hl => match us, hl with | [_, _], _ => rfl)) (s__law_refused F)).mono hk
/-! ### _law_written -/
abbrev N__law_written : List Str := ["_law_rows", "_law_weights", "_law_value"]
abbrev st__law_written_1 : DenS :=
  (sSet 0 (dDat (dApp lstF (dCons (dApp tupF (dCons (dCst (.int 1)) (dCons (dCst (.int 9)) dNil))) (dCons (dApp tupF (dCons (dCst (.int 1)) (dCons (dCst (.int 10)) dNil))) (dCons (dApp tupF (dCons (dCst (.int 0)) (dCons (dCst (.int 1)) dNil))) (dCons (dApp tupF (dCons (dCst (.int 1)) dNil)) (dCons (dApp tupF (dCons (dCst (.int 1)) (dCons (dCst (.int 1)) (dCons (dCst (.int 1)) dNil)))) (dCons (dApp tupF (dCons (dCst (.int 1)) (dCons (dCst (.int 1)) (dCons (dCst (.int 1)) (dCons (dCst (.int 1)) dNil))))) (dCons (dApp tupF (dCons (dCst (.int 1)) (dCons (dCst (.bl true)) dNil))) (dCons (dDat (dApp lstF (dCons (dCst (.int 1)) (dCons (dCst (.int 2)) dNil)))) (dCons (dCst (.str "a")) (dCons (dCst (.str "c")) (dCons (dDat (dP2 mulW (dCst (.str "a")) (dCst (.int 14)))) dNil))))))))))))))
abbrev st__law_written_2 : DenS :=
  (sSet 0 (dDat (dP2 addW (dVar 0) (dApp lstF (dCons (dDat (dP2 mulW (dCst (.str "a")) (dCst (.int 15)))) (dCons (dCst (.str "ab c")) (dCons (dApp tupF (dCons (dCst (.int 126)) (dCons (dDat (dP2 mulW (dApp tupF (dCons (dCst (.int 1)) dNil)) (dCst (.int 30)))) dNil))) (dCons (dApp tupF (dCons (dCst (.int 126)) (dCons (dDat (dP2 mulW (dApp tupF (dCons (dCst (.int 1)) dNil)) (dCst (.int 31)))) dNil))) (dCons (dApp tupF (dCons (dCst (.int 127)) (dCons (dApp tupF dNil) dNil))) (dCons (dApp tupF (dCons (dCst (.int 1)) (dCons (dApp tupF dNil) dNil))) (dCons (dApp tupF (dCons (dCst (.int 1)) (dCons (dApp tupF (dCons (dCst (.int 1)) dNil)) dNil))) (dCons (dApp tupF (dCons (dCst (.int 0)) (dCons (dApp tupF dNil) dNil))) dNil))))))))))))
abbrev st__law_written_3 : DenS :=
  (sSet 0 (dDat (dP2 addW (dVar 0) (dApp lstF (dCons (dApp tupF (dCons (dCst (.int 5)) (dCons (dApp tupF (dCons (dCst (.int 2)) (dCons (dCst (.int 2)) (dCons (dCst (.int 4)) dNil)))) dNil))) (dCons (dApp tupF (dCons (dCst (.int 5)) (dCons (dApp tupF (dCons (dCst (.int 4)) (dCons (dCst (.int 2)) dNil))) dNil))) dNil))))))
abbrev st__law_written_4 : DenS :=
  (sSet 0 (dDat (dP2 addW (dVar 0) (dApp lstF (dCons (dApp tupF (dCons (dCst (.int 5)) (dCons (dDat (dApp lstF (dCons (dCst (.int 2)) dNil))) dNil))) (dCons (dApp tupF (dCons (dCst (.int 5)) (dCons (dApp tupF (dCons (dCst (.int 0)) dNil)) dNil))) (dCons (dApp tupF (dCons (dCst (.int 5)) (dCons (dApp tupF (dCons (dCst (.int 5)) dNil)) dNil))) (dCons (dApp tupF (dCons (dCst (.int 5)) (dCons (dApp tupF (dCons (dCst (.bl true)) dNil)) dNil))) (dCons (dApp tupF (dCons (dCst (.bl true)) (dCons (dApp tupF dNil) dNil))) (dCons (dApp tupF (dCons (dCst (.int 5)) (dCons (dApp tupF dNil) (dCons (dApp tupF dNil) dNil)))) dNil))))))))))
abbrev i__law_written_1 : Den (List D) :=
  (iSeq (dVar 0))
abbrev e__law_written_1 : Den W :=
  (dVar 2)
abbrev t__law_written_1 : Den Bool :=
  (dNot (tru (dCall 2 phi__law_known (dCons (dVar 1) (dCons (dVar 2) dNil)))))
abbrev st__law_written_5 : DenS :=
  (sIf (asB (dCmp .NotEq (dLc (.nm 2) i__law_written_1 t__law_written_1 e__law_written_1 [2]) (dApp lstF dNil))) (sSeq (sRet (dCst (.bl false))) sNil) sNil)
abbrev i__law_written_2 : Den (List D) :=
  (iSeq (dDat (dApp lstF (dCons (dApp tupF (dCons (dCst (.int 2)) (dCons (dCst (.int 3)) dNil))) (dCons (dApp tupF (dCons (dCst (.int 1)) (dCons (dCst (.int 1)) (dCons (dCst (.int 2)) dNil)))) dNil)))))
abbrev b__law_written_1 : DenS :=
  (sSeq st__law_written_5 sNil)
abbrev st__law_written_6 : DenS :=
  (sFor (.nm 1) i__law_written_2 b__law_written_1)
abbrev st__law_written_7 : DenS :=
  (sIf (dOrs [(asB (dCmp .IsNot (dCall 2 phi_is_chain (dCons (dApp tupF (dCons (dCst (.int 2)) (dCons (dCst (.int 3)) dNil))) (dCons (dCst (.str "abc")) dNil))) (dCst (.bl false)))), (asB (dCmp .IsNot (dCall 2 phi_is_chain (dCons (dApp tupF (dCons (dCst (.int 1)) (dCons (dCst (.int 1)) (dCons (dCst (.int 2)) dNil)))) (dCons (dCst (.str "abc")) dNil))) (dCst (.bl true))))]) (sSeq (sRet (dCst (.bl false))) sNil) sNil)
abbrev st__law_written_8 : DenS :=
  (sIf (asB (dCmp .IsNot (dCall 1 phi_is_heap (dCons (dApp tupF (dCons (dCst (.int 5)) (dCons (dApp tupF (dCons (dCst (.int 2)) (dCons (dCst (.int 2)) (dCons (dCst (.int 4)) dNil)))) dNil))) dNil)) (dCst (.bl true)))) (sSeq (sRet (dCst (.bl false))) sNil) sNil)
abbrev st__law_written_9 : DenS :=
  (sIf (dOrs [(asB (dCmp .NotEq (dCall 2 phi_heap_of (dCons (dApp tupF (dCons (dCst (.int 2)) (dCons (dCst (.int 3)) dNil))) (dCons (dCst (.str "abba")) dNil))) (dApp tupF (dCons (dCst (.int 10)) (dCons (dApp tupF (dCons (dCst (.int 2)) (dCons (dCst (.int 2)) (dCons (dCst (.int 5)) (dCons (dCst (.int 5)) (dCons (dCst (.int 8)) (dCons (dCst (.int 8)) dNil))))))) dNil))))), (asB (dCmp .NotEq (dCall 2 phi_heap_of (dCons (dApp tupF (dCons (dCst (.int 2)) (dCons (dCst (.int 3)) dNil))) (dCons (dCst (.str "b")) dNil))) (dApp tupF (dCons (dCst (.int 3)) (dCons (dApp tupF dNil) dNil)))))]) (sSeq (sRet (dCst (.bl false))) sNil) sNil)
abbrev st__law_written_10 : DenS :=
  (sRet (dAndV [(dCmp .Eq (dCall 2 phi_upright (dCons (dApp tupF (dCons (dCst (.int 2)) (dCons (dCst (.int 3)) dNil))) (dCons (dCst (.str "baa")) dNil))) (dCst (.str "aab"))), (dCmp .Eq (dCall 2 phi_turned (dCons (dApp tupF (dCons (dCst (.int 2)) (dCons (dCst (.int 3)) dNil))) (dCons (dCst (.str "aab")) dNil))) (dCst (.str "baa"))), (dCmp .Eq (dCall 2 phi_weight_of (dCons (dApp tupF (dCons (dCst (.int 2)) (dCons (dCst (.int 3)) dNil))) (dCons (dCst (.str "abba")) dNil))) (dCst (.int 10)))]))
abbrev m__law_written : DenS :=
  (sSeq st__law_written_1 (sSeq st__law_written_2 (sSeq st__law_written_3 (sSeq st__law_written_4 (sSeq st__law_written_6 (sSeq st__law_written_7 (sSeq st__law_written_8 (sSeq st__law_written_9 (sSeq st__law_written_10 sNil)))))))))
def phi__law_written : Phi := runD N__law_written m__law_written
theorem w__law_written {Q : W → MH → Prop} {E : ExP} {h : MH} (p : wS (fun _ h1 => Q (.d .non) h1) Q (fun _ _ => False) (fun _ _ => False) E (m__law_written [none, none, none] h)) : wE Q E (phi__law_written [] h) := by
  delta phi__law_written
  with_reducible exact wE_run0 (N := N__law_written) (m := m__law_written) (st := [none, none, none]) rfl p
theorem s__law_written (F : Fx G cL) : DSs G N__law_written ⟨defScope (top 63), Str.ofString "", none⟩ 5 (defBody (top 63)) m__law_written :=
  (ds_cons (ds_set (i := 0) (by rfl) (loc_by (by kernel_rfl)) (de_dat (de_lst (da_cons (de_tup (da_cons de_int (da_cons de_int da_nil (by rfl)) (by rfl))) (da_cons (de_tup (da_cons de_int (da_cons de_int da_nil (by rfl)) (by rfl))) (da_cons (de_tup (da_cons de_int (da_cons de_int da_nil (by rfl)) (by rfl))) (da_cons (de_tup (da_cons de_int da_nil (by rfl))) (da_cons (de_tup (da_cons de_int (da_cons de_int (da_cons de_int da_nil (by rfl)) (by rfl)) (by rfl))) (da_cons (de_tup (da_cons de_int (da_cons de_int (da_cons de_int (da_cons de_int da_nil (by rfl)) (by rfl)) (by rfl)) (by rfl))) (da_cons (de_tup (da_cons de_int (da_cons de_bl da_nil (by rfl)) (by rfl))) (da_cons (de_dat (de_lst (da_cons de_int (da_cons de_int da_nil (by rfl)) (by rfl)))) (da_cons de_str (da_cons de_str (da_cons (de_dat (de_bin (f := mulW) (fun X ft => op_mulW ft) de_str de_int)) da_nil (by rfl)) (by rfl)) (by rfl)) (by rfl)) (by rfl)) (by rfl)) (by rfl)) (by rfl)) (by rfl)) (by rfl)) (by rfl)))) (fun _ _ => rfl)) (ds_cons (ds_set (i := 0) (by rfl) (loc_by (by kernel_rfl)) (de_dat (de_bin (f := addW) (fun X ft => op_addW ft) (de_var (i := 0) (by rfl) (vis_by (by kernel_rfl)) (by kernel_rfl) (by kernel_rfl)) (de_lst (da_cons (de_dat (de_bin (f := mulW) (fun X ft => op_mulW ft) de_str de_int)) (da_cons de_str (da_cons (de_tup (da_cons de_int (da_cons (de_dat (de_bin (f := mulW) (fun X ft => op_mulW ft) (de_tup (da_cons de_int da_nil (by rfl))) de_int)) da_nil (by rfl)) (by rfl))) (da_cons (de_tup (da_cons de_int (da_cons (de_dat (de_bin (f := mulW) (fun X ft => op_mulW ft) (de_tup (da_cons de_int da_nil (by rfl))) de_int)) da_nil (by rfl)) (by rfl))) (da_cons (de_tup (da_cons de_int (da_cons (de_tup da_nil) da_nil (by rfl)) (by rfl))) (da_cons (de_tup (da_cons de_int (da_cons (de_tup da_nil) da_nil (by rfl)) (by rfl))) (da_cons (de_tup (da_cons de_int (da_cons (de_tup (da_cons de_int da_nil (by rfl))) da_nil (by rfl)) (by rfl))) (da_cons (de_tup (da_cons de_int (da_cons (de_tup da_nil) da_nil (by rfl)) (by rfl))) da_nil (by rfl)) (by rfl)) (by rfl)) (by rfl)) (by rfl)) (by rfl)) (by rfl)) (by rfl))))) (fun _ _ => rfl)) (ds_cons (ds_set (i := 0) (by rfl) (loc_by (by kernel_rfl)) (de_dat (de_bin (f := addW) (fun X ft => op_addW ft) (de_var (i := 0) (by rfl) (vis_by (by kernel_rfl)) (by kernel_rfl) (by kernel_rfl)) (de_lst (da_cons (de_tup (da_cons de_int (da_cons (de_tup (da_cons de_int (da_cons de_int (da_cons de_int da_nil (by rfl)) (by rfl)) (by rfl))) da_nil (by rfl)) (by rfl))) (da_cons (de_tup (da_cons de_int (da_cons (de_tup (da_cons de_int (da_cons de_int da_nil (by rfl)) (by rfl))) da_nil (by rfl)) (by rfl))) da_nil (by rfl)) (by rfl))))) (fun _ _ => rfl)) (ds_cons (ds_set (i := 0) (by rfl) (loc_by (by kernel_rfl)) (de_dat (de_bin (f := addW) (fun X ft => op_addW ft) (de_var (i := 0) (by rfl) (vis_by (by kernel_rfl)) (by kernel_rfl) (by kernel_rfl)) (de_lst (da_cons (de_tup (da_cons de_int (da_cons (de_dat (de_lst (da_cons de_int da_nil (by rfl)))) da_nil (by rfl)) (by rfl))) (da_cons (de_tup (da_cons de_int (da_cons (de_tup (da_cons de_int da_nil (by rfl))) da_nil (by rfl)) (by rfl))) (da_cons (de_tup (da_cons de_int (da_cons (de_tup (da_cons de_int da_nil (by rfl))) da_nil (by rfl)) (by rfl))) (da_cons (de_tup (da_cons de_int (da_cons (de_tup (da_cons de_bl da_nil (by rfl))) da_nil (by rfl)) (by rfl))) (da_cons (de_tup (da_cons de_bl (da_cons (de_tup da_nil) da_nil (by rfl)) (by rfl))) (da_cons (de_tup (da_cons de_int (da_cons (de_tup da_nil) (da_cons (de_tup da_nil) da_nil (by rfl)) (by rfl)) (by rfl))) da_nil (by rfl)) (by rfl)) (by rfl)) (by rfl)) (by rfl)) (by rfl))))) (fun _ _ => rfl)) (ds_cons (ds_for (di_seq (de_dat (de_lst (da_cons (de_tup (da_cons de_int (da_cons de_int da_nil (by rfl)) (by rfl))) (da_cons (de_tup (da_cons de_int (da_cons de_int (da_cons de_int da_nil (by rfl)) (by rfl)) (by rfl))) da_nil (by rfl)) (by rfl))))) (dg_nm (by rfl) (.inr ⟨rfl, loc_by (by kernel_rfl)⟩)) (ds_cons (ds_if (dt_cmp (de_lc (own := [("_law_value", 2)]) (di_seq (de_var (i := 0) (by rfl) (vis_by (by kernel_rfl)) (by kernel_rfl) (by kernel_rfl))) (by kernel_rfl) (dg_nm (by rfl) (.inl (by kernel_rfl))) (by rfl) (dc_one (dt_not (dt_tru (de_call (f__law_known F (by decide)) (by kernel_rfl) (da_cons (de_var (i := 1) (by rfl) (vis_by (by kernel_rfl)) (by kernel_rfl) (by kernel_rfl)) (da_cons (de_var (i := 2) (by rfl) (vis_by (by kernel_rfl)) (by kernel_rfl) (by kernel_rfl)) da_nil (by rfl)) (by rfl)) (by rfl) (by kernel_rfl)) (by rfl)))) (de_var (i := 2) (by rfl) (vis_by (by kernel_rfl)) (by kernel_rfl) (by kernel_rfl)) (fun _ _ => rfl)) (de_lst da_nil) (by rfl)) (ds_cons (ds_ret de_bl) ds_nil) ds_nil) ds_nil) (fun _ _ => rfl)) (ds_cons (ds_if (dt_or (.cons (dt_cmp (de_call (f_is_chain F (by decide)) (by kernel_rfl) (da_cons (de_tup (da_cons de_int (da_cons de_int da_nil (by rfl)) (by rfl))) (da_cons de_str da_nil (by rfl)) (by rfl)) (by rfl) (by kernel_rfl)) de_bl (by rfl)) (.cons (dt_cmp (de_call (f_is_chain F (by decide)) (by kernel_rfl) (da_cons (de_tup (da_cons de_int (da_cons de_int (da_cons de_int da_nil (by rfl)) (by rfl)) (by rfl))) (da_cons de_str da_nil (by rfl)) (by rfl)) (by rfl) (by kernel_rfl)) de_bl (by rfl)) .nil))) (ds_cons (ds_ret de_bl) ds_nil) ds_nil) (ds_cons (ds_if (dt_cmp (de_call (f_is_heap F (by decide)) (by kernel_rfl) (da_cons (de_tup (da_cons de_int (da_cons (de_tup (da_cons de_int (da_cons de_int (da_cons de_int da_nil (by rfl)) (by rfl)) (by rfl))) da_nil (by rfl)) (by rfl))) da_nil (by rfl)) (by rfl) (by kernel_rfl)) de_bl (by rfl)) (ds_cons (ds_ret de_bl) ds_nil) ds_nil) (ds_cons (ds_if (dt_or (.cons (dt_cmp (de_call (f_heap_of F (by decide)) (by kernel_rfl) (da_cons (de_tup (da_cons de_int (da_cons de_int da_nil (by rfl)) (by rfl))) (da_cons de_str da_nil (by rfl)) (by rfl)) (by rfl) (by kernel_rfl)) (de_tup (da_cons de_int (da_cons (de_tup (da_cons de_int (da_cons de_int (da_cons de_int (da_cons de_int (da_cons de_int (da_cons de_int da_nil (by rfl)) (by rfl)) (by rfl)) (by rfl)) (by rfl)) (by rfl))) da_nil (by rfl)) (by rfl))) (by rfl)) (.cons (dt_cmp (de_call (f_heap_of F (by decide)) (by kernel_rfl) (da_cons (de_tup (da_cons de_int (da_cons de_int da_nil (by rfl)) (by rfl))) (da_cons de_str da_nil (by rfl)) (by rfl)) (by rfl) (by kernel_rfl)) (de_tup (da_cons de_int (da_cons (de_tup da_nil) da_nil (by rfl)) (by rfl))) (by rfl)) .nil))) (ds_cons (ds_ret de_bl) ds_nil) ds_nil) (ds_cons (ds_ret (de_and (.cons (de_cmp (de_call (f_upright F (by decide)) (by kernel_rfl) (da_cons (de_tup (da_cons de_int (da_cons de_int da_nil (by rfl)) (by rfl))) (da_cons de_str da_nil (by rfl)) (by rfl)) (by rfl) (by kernel_rfl)) de_str (by rfl)) (.cons (de_cmp (de_call (f_turned F (by decide)) (by kernel_rfl) (da_cons (de_tup (da_cons de_int (da_cons de_int da_nil (by rfl)) (by rfl))) (da_cons de_str da_nil (by rfl)) (by rfl)) (by rfl) (by kernel_rfl)) de_str (by rfl)) (.cons (de_cmp (de_call (f_weight_of F (by decide)) (by kernel_rfl) (da_cons (de_tup (da_cons de_int (da_cons de_int da_nil (by rfl)) (by rfl))) (da_cons de_str da_nil (by rfl)) (by rfl)) (by rfl) (by kernel_rfl)) de_int (by rfl)) .nil))))) ds_nil)))))))))
theorem S__law_written : FnScope N__law_written [] (defScope (top 63)) := ⟨rfl, rfl, rfl, by decide +kernel, rfl, by decide +kernel, by decide +kernel⟩
theorem f__law_written {k : Nat} (F : Fx G cL) (hk : 6 ≤ k) : FnS G k "_law_written" 0 phi__law_written := by
  obtain ⟨g, fd, h, hg⟩ := F.d__law_written
  exact (fnS_of h hg S__law_written (h.bindsN (fun _ _ _ _ _ _ us hl => match us, hl with | [], _ => rfl)) (s__law_written F)).mono hk
/-! ### law -/
abbrev N_law : List Str := ["_law_script", "_law_k", "_law_can_here", "_law_weights", "_law_chain", "_law_value", "_law_odd", "_law_turn"]
abbrev st_law_1 : DenS :=
  (sSet 2 (dShr (dCall 2 phi__law_can (dCons (dVar 0) (dCons (dVar 1) dNil)))))
abbrev st_law_2 : DenS :=
  (sSet 3 (dDat (dCall 1 phi__law_any_weights (dCons (dVar 2) dNil))))
abbrev st_law_3 : DenS :=
  (sSet 4 (dDat (dCall 3 phi__law_any_chain (dCons (dVar 2) (dCons (dVar 3) (dCons (dCst (.int 14)) dNil))))))
abbrev st_law_4 : DenS :=
  (sIf (dNot (tru (dCall 2 phi__law_chain_right (dCons (dVar 3) (dCons (dVar 4) dNil))))) (sSeq (sRet (dCst (.bl false))) sNil) sNil)
abbrev st_law_5 : DenS :=
  (sIf (dOrs [(dNot (tru (dCall 2 phi__law_known (dCons (dVar 3) (dCons (dVar 5) dNil))))), (dNot (tru (dCall 2 phi__law_refused (dCons (dVar 3) (dCons (dVar 5) dNil)))))]) (sSeq (sRet (dCst (.bl false))) sNil) sNil)
abbrev st_law_6 : DenS :=
  (sSet 5 (dDat (dCall 2 (phi__law_bent 30) (dCons (dVar 2) (dCons (dVar 5) dNil)))))
abbrev i_law_1 : Den (List D) :=
  (iApp rng1W (dCons (dCst (.int 4)) dNil))
abbrev b_law_1 : DenS :=
  (sSeq st_law_5 (sSeq st_law_6 sNil))
abbrev i_law_2 : Den (List D) :=
  (iSeq (dDat (dApp lstF (dCons (dVar 3) (dCons (dVar 4) (dCons (dDat (dCall 2 phi__law_heap (dCons (dVar 3) (dCons (dVar 4) dNil)))) (dCons (dVar 4) dNil)))))))
abbrev b_law_2 : DenS :=
  (sSeq (sFor (.nm 7) i_law_1 b_law_1) sNil)
abbrev st_law_7 : DenS :=
  (sSet 6 (dDat (dCall 2 (phi__law_any_value 12) (dCons (dVar 2) (dCons (dCst (.int 3)) dNil)))))
abbrev st_law_8 : DenS :=
  (sIf (dOrs [(dNot (tru (dCall 2 phi__law_known (dCons (dVar 3) (dCons (dVar 6) dNil))))), (dNot (tru (dCall 2 phi__law_refused (dCons (dVar 3) (dCons (dVar 6) dNil)))))]) (sSeq (sRet (dCst (.bl false))) sNil) sNil)
abbrev i_law_3 : Den (List D) :=
  (iApp rng1W (dCons (dApp maxF (dCons (dCst (.int 5)) (dCons (dApp minSF (dCons (dCst (.int 12)) (dCons (dApp lenF (dCons (dVar 0) dNil)) dNil))) dNil))) dNil))
abbrev b_law_3 : DenS :=
  (sSeq st_law_1 (sSeq st_law_2 (sSeq st_law_3 (sSeq st_law_4 (sSeq (sFor (.nm 5) i_law_2 b_law_2) (sSeq st_law_7 (sSeq st_law_8 sNil)))))))
abbrev m_law : DenS :=
  (sSeq (sFor (.nm 1) i_law_3 b_law_3) (sSeq (sRet (dCall 0 phi__law_written dNil)) sNil))
def phi_law : Phi := runD N_law m_law
theorem w_law {Q : W → MH → Prop} {E : ExP} {h : MH} {a0 : W} (p : wS (fun _ h1 => Q (.d .non) h1) Q (fun _ _ => False) (fun _ _ => False) E (m_law [some a0, none, none, none, none, none, none, none] h)) : wE Q E (phi_law [a0] h) := wE_run (N := N_law) p
theorem s_law (F : Fx G cL) : DSs G N_law ⟨defScope (top 64), "law" ++ ".<locals>.", some (cL "law")⟩ 60 (defBody (top 64)) m_law :=
  (ds_cons (ds_for (di_range1 (by kernel_rfl) F.n_range (da_cons (de_callB (f := maxF) (fun X ft => cr_maxF ft) (by kernel_rfl) F.n_max (by kernel_rfl) (da_cons de_int (da_cons (de_callB (f := minSF) (fun X ft => cr_minSF ft) (by kernel_rfl) F.n_min (by kernel_rfl) (da_cons de_int (da_cons (de_callB (f := lenF) (fun X ft => cr_lenF ft) (by kernel_rfl) F.n_len (by kernel_rfl) (da_cons (de_var (i := 0) (by rfl) (vis_by (by kernel_rfl)) (by kernel_rfl) (by kernel_rfl)) da_nil (by rfl)) (by rfl) (by decide) (by kernel_rfl)) da_nil (by rfl)) (by rfl)) (by rfl) (by decide) (by kernel_rfl)) da_nil (by rfl)) (by rfl)) (by rfl) (by decide) (by kernel_rfl)) da_nil (by rfl)) (by rfl)) (dg_nm (by rfl) (.inr ⟨rfl, loc_by (by kernel_rfl)⟩)) (ds_cons (ds_set (i := 2) (by rfl) (loc_by (by kernel_rfl)) (de_shr (de_call (f__law_can F (by decide)) (by kernel_rfl) (da_cons (de_var (i := 0) (by rfl) (vis_by (by kernel_rfl)) (by kernel_rfl) (by kernel_rfl)) (da_cons (de_var (i := 1) (by rfl) (vis_by (by kernel_rfl)) (by kernel_rfl) (by kernel_rfl)) da_nil (by rfl)) (by rfl)) (by rfl) (by kernel_rfl))) (fun _ _ => rfl)) (ds_cons (ds_set (i := 3) (by rfl) (loc_by (by kernel_rfl)) (de_dat (de_call (f__law_any_weights F (by decide)) (by kernel_rfl) (da_cons (de_var (i := 2) (by rfl) (vis_by (by kernel_rfl)) (by kernel_rfl) (by kernel_rfl)) da_nil (by rfl)) (by rfl) (by kernel_rfl))) (fun _ _ => rfl)) (ds_cons (ds_set (i := 4) (by rfl) (loc_by (by kernel_rfl)) (de_dat (de_call (f__law_any_chain F (by decide)) (by kernel_rfl) (da_cons (de_var (i := 2) (by rfl) (vis_by (by kernel_rfl)) (by kernel_rfl) (by kernel_rfl)) (da_cons (de_var (i := 3) (by rfl) (vis_by (by kernel_rfl)) (by kernel_rfl) (by kernel_rfl)) (da_cons de_int da_nil (by rfl)) (by rfl)) (by rfl)) (by rfl) (by kernel_rfl))) (fun _ _ => rfl)) (ds_cons (ds_if (dt_not (dt_tru (de_call (f__law_chain_right F (by decide)) (by kernel_rfl) (da_cons (de_var (i := 3) (by rfl) (vis_by (by kernel_rfl)) (by kernel_rfl) (by kernel_rfl)) (da_cons (de_var (i := 4) (by rfl) (vis_by (by kernel_rfl)) (by kernel_rfl) (by kernel_rfl)) da_nil (by rfl)) (by rfl)) (by rfl) (by kernel_rfl)) (by rfl))) (ds_cons (ds_ret de_bl) ds_nil) ds_nil) (ds_cons (ds_for (di_seq (de_dat (de_lst (da_cons (de_var (i := 3) (by rfl) (vis_by (by kernel_rfl)) (by kernel_rfl) (by kernel_rfl)) (da_cons (de_var (i := 4) (by rfl) (vis_by (by kernel_rfl)) (by kernel_rfl) (by kernel_rfl)) (da_cons (de_dat (de_call (f__law_heap F (by decide)) (by kernel_rfl) (da_cons (de_var (i := 3) (by rfl) (vis_by (by kernel_rfl)) (by kernel_rfl) (by kernel_rfl)) (da_cons (de_var (i := 4) (by rfl) (vis_by (by kernel_rfl)) (by kernel_rfl) (by kernel_rfl)) da_nil (by rfl)) (by rfl)) (by rfl) (by kernel_rfl))) (da_cons (de_var (i := 4) (by rfl) (vis_by (by kernel_rfl)) (by kernel_rfl) (by kernel_rfl)) da_nil (by rfl)) (by rfl)) (by rfl)) (by rfl))))) (dg_nm (by rfl) (.inr ⟨rfl, loc_by (by kernel_rfl)⟩)) (ds_cons (ds_for (di_range1 (by kernel_rfl) F.n_range (da_cons de_int da_nil (by rfl)) (by rfl)) (dg_nm (by rfl) (.inr ⟨rfl, loc_by (by kernel_rfl)⟩)) (ds_cons (ds_if (dt_or (.cons (dt_not (dt_tru (de_call (f__law_known F (by decide)) (by kernel_rfl) (da_cons (de_var (i := 3) (by rfl) (vis_by (by kernel_rfl)) (by kernel_rfl) (by kernel_rfl)) (da_cons (de_var (i := 5) (by rfl) (vis_by (by kernel_rfl)) (by kernel_rfl) (by kernel_rfl)) da_nil (by rfl)) (by rfl)) (by rfl) (by kernel_rfl)) (by rfl))) (.cons (dt_not (dt_tru (de_call (f__law_refused F (by decide)) (by kernel_rfl) (da_cons (de_var (i := 3) (by rfl) (vis_by (by kernel_rfl)) (by kernel_rfl) (by kernel_rfl)) (da_cons (de_var (i := 5) (by rfl) (vis_by (by kernel_rfl)) (by kernel_rfl) (by kernel_rfl)) da_nil (by rfl)) (by rfl)) (by rfl) (by kernel_rfl)) (by rfl))) .nil))) (ds_cons (ds_ret de_bl) ds_nil) ds_nil) (ds_cons (ds_set (i := 5) (by rfl) (loc_by (by kernel_rfl)) (de_dat (de_call (f__law_bent F (by decide)) (by kernel_rfl) (da_cons (de_var (i := 2) (by rfl) (vis_by (by kernel_rfl)) (by kernel_rfl) (by kernel_rfl)) (da_cons (de_var (i := 5) (by rfl) (vis_by (by kernel_rfl)) (by kernel_rfl) (by kernel_rfl)) da_nil (by rfl)) (by rfl)) (by rfl) (by kernel_rfl))) (fun _ _ => rfl)) ds_nil)) (fun _ _ => rfl)) ds_nil) (fun _ _ => rfl)) (ds_cons (ds_set (i := 6) (by rfl) (loc_by (by kernel_rfl)) (de_dat (de_call (f__law_any_value F (by decide)) (by kernel_rfl) (da_cons (de_var (i := 2) (by rfl) (vis_by (by kernel_rfl)) (by kernel_rfl) (by kernel_rfl)) (da_cons de_int da_nil (by rfl)) (by rfl)) (by rfl) (by kernel_rfl))) (fun _ _ => rfl)) (ds_cons (ds_if (dt_or (.cons (dt_not (dt_tru (de_call (f__law_known F (by decide)) (by kernel_rfl) (da_cons (de_var (i := 3) (by rfl) (vis_by (by kernel_rfl)) (by kernel_rfl) (by kernel_rfl)) (da_cons (de_var (i := 6) (by rfl) (vis_by (by kernel_rfl)) (by kernel_rfl) (by kernel_rfl)) da_nil (by rfl)) (by rfl)) (by rfl) (by kernel_rfl)) (by rfl))) (.cons (dt_not (dt_tru (de_call (f__law_refused F (by decide)) (by kernel_rfl) (da_cons (de_var (i := 3) (by rfl) (vis_by (by kernel_rfl)) (by kernel_rfl) (by kernel_rfl)) (da_cons (de_var (i := 6) (by rfl) (vis_by (by kernel_rfl)) (by kernel_rfl) (by kernel_rfl)) da_nil (by rfl)) (by rfl)) (by rfl) (by kernel_rfl)) (by rfl))) .nil))) (ds_cons (ds_ret de_bl) ds_nil) ds_nil) ds_nil))))))) (fun _ _ => rfl)) (ds_cons (ds_ret (de_call0 (f__law_written F (by decide)) (by kernel_rfl) (by kernel_rfl))) ds_nil))
theorem S_law : FnScope N_law ["_law_script"] (defScope (top 64)) := ⟨rfl, rfl, rfl, by decide +kernel, rfl, by decide +kernel, by decide +kernel⟩
theorem f_law (F : Fx G cL) {g : Addr} {fd : FuncData} (FD : FunD G.K "law" "law" (defArgs (top 64)) (defBody (top 64)) (defScope (top 64)) [] [] g fd) (hc : fd.code = .ref (cL "law")) : FnOk G.prog G.w G.K G.mg G.base (L2N.CX G.prog G.w) 61 g fd ["_law_script"] (spD G 1 phi_law) :=
  fnok_law FD hc S_law (s_law F)
end
end Lw

set_option maxHeartbeats 4000000
namespace Dn
open PySem PySem.Spec PyProof.Rows L2
section
variable {α : Type} {Q : α → MH → Prop} {E : ExP} {nx bk ct : Rho → MH → Prop} {rt : W → MH → Prop} {h : MH} {rho : Rho}
/-! ### the kinds of goals -/
theorem nopE {r : Option (Out α × MH)} (p : wE Q E r) : wE Q E r := p
theorem nopS {r : Option (OutS × MH)} (p : wS nx rt bk ct E r) : wS nx rt bk ct E r := p
theorem nopL {T : Tgt} {mt : Den Bool} {me : Den W} {ds : List D} {R : List D → MH → Prop} (p : ∃ ys h2, lcGo T mt me rho ds h = some (ys, h2) ∧ R ys h2) : ∃ ys h2, lcGo T mt me rho ds h = some (ys, h2) ∧ R ys h2 := p
theorem wC_eqd {Q : W → MH → Prop} {r : Option (Out W × MH)} {x : D} (e : r = some (.ok (.d x), h)) (q : Q (.d x) h) : wE (fun w h2 => h2.length = h.length ∧ keptRef h.length w = true ∧ Q w h2) (fun c fs h2 => h2.length = h.length ∧ E c fs h2) r := by
  rw [e]
  exact ⟨rfl, rfl, q⟩
end
end Dn

set_option maxHeartbeats 4000000
namespace Lw
open PySem Dn L2

theorem p_pour {n : Nat} {h : MH} {m : Int} (c : Can n h) (h0 : 0 < m) (h1 : m < 1073741824) : Draws (phi__law_pour [.ref n, .d (.int m)] h) n h fun x => ∃ r : Int, x = .int r ∧ 0 ≤ r ∧ r < m := by
  obtain ⟨a, b, e, b0, b1⟩ := c
  have e0 : ixW (.ref n) (.d (.int 0)) h = some (.d (.int a)) := by simp [ixW, qw, tw, lw, obl, e, atI, ixN]
  have e1 : ixW (.ref n) (.d (.int 1)) h = some (.d (.int b)) := by simp [ixW, qw, tw, lw, obl, e, atI, ixN]
  have hn := (List.getElem?_eq_some_iff.mp e).1
  have hb : -P64 < b && b < P64 := by unfold P64; simp; omega
  by_cases ha : 0 < a
  · refine ⟨.int (a % m), h.set n (.lst [.int (a / m), .int b]), ?_, ⟨_, rfl, Int.emod_nonneg _ (by omega), Int.emod_lt_of_pos _ h0⟩, ⟨_, _, by rw [List.getElem?_set_self hn], b0, b1⟩, List.length_set⟩
    simp [phi__law_pour, m__law_pour, st__law_pour_1, st__law_pour_2, st__law_pour_3, st__law_pour_4, st__law_pour_5, st__law_pour_6, runD, sSeq, sIf, sRet, sSet, sPut, sItem, eBind, asB, dCmp, cmpW, ltW, dBind, mBind, dVar, dCst, dP2, dApp, dCons, dNil, intF, e0, obl, e, ixN, dDat, datW, modW, divW, retW, ha, h0, h1, List.getElem?_set_self hn]
  · have s1 : ∀ x y : D, ixW (.ref n) (.d (.int 1)) (h.set n (.lst [x, y])) = some (.d y) := fun x y => by simp [ixW, qw, tw, lw, obl, atI, ixN, List.getElem?_set_self hn]
    have m1 : ∀ z : Int, z % 2147483477 < P64 ∧ -P64 < z % 2147483477 := fun z => by unfold P64; omega
    have p1 : mulW (.d (.int b)) (.d (.int 43177)) = fun _ => some (.d (.int (b * 43177))) := by funext h; simp [mulW, P64]
    have p2 : ∀ (z w : Int), mulW (.d (.int (z % 2147483477))) (.d (.int w)) = fun _ => some (.d (.int (z % 2147483477 * w))) := fun z w => by funext h; simp [mulW, m1]
    refine ⟨.int (((b * 43177 + 211) % 2147483477) * (((b * 43177 + 211) % 2147483477) / 8 + 47) % 2147483399 / 32 % m), h.set n (.lst [.int a, .int ((b * 43177 + 211) % 2147483477)]), ?_, ⟨_, rfl, Int.emod_nonneg _ (by omega), Int.emod_lt_of_pos _ h0⟩, ⟨_, _, by rw [List.getElem?_set_self hn], by omega, by omega⟩, List.length_set⟩
    simp [phi__law_pour, m__law_pour, st__law_pour_1, st__law_pour_2, st__law_pour_3, st__law_pour_4, st__law_pour_5, st__law_pour_6, runD, sSeq, sIf, sRet, sSet, sPut, sItem, sNil, eBind, asB, dCmp, cmpW, ltW, dBind, mBind, dVar, dCst, dP2, dApp, dCons, dNil, intF, e0, e1, obl, e, ixN, dDat, datW, modW, divW, addW, p1, p2, s1, retW, ha, h0, h1, List.getElem?_set_self hn]
theorem takeAll {α : Type} {h h' : List α} (l : h'.length = h.length) : h'.take h.length = h' := List.take_of_length_le (Nat.le_of_eq l)
theorem p_pick {n : Nat} {h : MH} {ds : List D} (c : Can n h) (h0 : ds ≠ []) (h1 : ds.length < 1000) : Draws (phi__law_pick [.ref n, .d (.lst ds)] h) n h (· ∈ ds) := by
  have l0 : 0 < ds.length := List.length_pos_iff.mpr h0
  obtain ⟨_, h', q, ⟨r, rfl, r0, r1⟩, c', l⟩ := p_pour (m := (ds.length : Int)) c (by omega) (by omega)
  have t := takeAll l
  have r2 : r.toNat < ds.length := by omega
  have ix : ixW (.d (.lst ds)) (.d (.int r)) h' = some (.d ds[r.toNat]) := by simp [ixW, qw, tw, lw, atI, ixN, r0, r1, r2]
  refine ⟨ds[r.toNat], h', ?_, List.getElem_mem _, c', l⟩
  simp [phi__law_pick, m__law_pick, st__law_pick_1, runD, sSeq, sIf, sRet, sRetN, sRetV, sSet, sPut, sItem, sNil, sFrz, sDrop, sRaise, sUnp, sPar2, sAug, augF, eBind, asB, dCmp, dChain, cmpW, ltW, leW, dBind, mBind, dVar, dCst, dP2, dApp, dCons, dNil, intF, absF, maxF, minF, lenF, dDat, datW, dArg, argW, modW, divW, addW, subW, retW, dIf, dNot, tru, truW, dNotW, dIsa, isaF, kindW, isaB, dAnds, dOrs, dAndV, dOrV, dCall, trunc, keptRef, argOk, lw, tw, qw, iApp, iSeq, itemsW, rng1W, rng2W, L62, LIM, lstF, tupF, allD, tupleF, Option.map_some, dYes, q, t, ix]
theorem p_pickS {n : Nat} {h : MH} {x : Str} (c : Can n h) (h0 : 0 < x.cps.size) (h1 : x.cps.size < 1000) : Draws (phi__law_pick [.ref n, .d (.str x)] h) n h (fun d => ∃ c ∈ x.cps.toList, d = .str ⟨#[c]⟩) := by
  obtain ⟨_, h', q, ⟨r, rfl, r0, r1⟩, c', l⟩ := p_pour (m := (x.length : Int)) c (by unfold Str.length; omega) (by unfold Str.length; omega)
  have t := takeAll l
  unfold Str.length at r1
  have r2 : r.toNat < x.cps.toList.length := by rw [Array.length_toList]; omega
  have r3 : r < (x.cps.toList.length : Int) := by rw [Array.length_toList]; exact r1
  have ix : ixW (.d (.str x)) (.d (.int r)) h' = some (.d (.str ⟨#[x.cps.toList[r.toNat]]⟩)) := by
    show (if x.length ≤ LIM then (L2.atI x.cps.toList r).map fun c => W.d (.str ⟨#[c]⟩) else none) = _
    rw [if_pos (by unfold Str.length LIM; omega)]
    have e : L2.atI x.cps.toList r = some x.cps.toList[r.toNat] := by
      unfold L2.atI L2.ixN
      rw [if_pos r0, if_pos r3]
      show x.cps.toList[r.toNat]? = _
      rw [List.getElem?_eq_getElem r2]
    rw [e]
    rfl
  refine ⟨_, h', ?_, ⟨_, List.getElem_mem r2, rfl⟩, c', l⟩
  have ll : x.length ≤ 16777216 := by unfold Str.length; omega
  simp [phi__law_pick, m__law_pick, st__law_pick_1, runD, sSeq, sIf, sRet, sRetN, sRetV, sSet, sPut, sItem, sNil, sFrz, sDrop, sRaise, sUnp, sPar2, sAug, augF, eBind, asB, dCmp, dChain, cmpW, ltW, leW, dBind, mBind, dVar, dCst, dP2, dApp, dCons, dNil, intF, absF, maxF, minF, lenF, dDat, datW, dArg, argW, modW, divW, addW, subW, retW, dIf, dNot, tru, truW, dNotW, dIsa, isaF, kindW, isaB, dAnds, dOrs, dAndV, dOrV, dCall, trunc, keptRef, argOk, lw, tw, qw, iApp, iSeq, itemsW, rng1W, rng2W, L62, LIM, lstF, tupF, allD, tupleF, Option.map_some, dYes, q, t, ix, ll]
theorem p_any_weights {n : Nat} {h : MH} (c : Can n h) : Draws (phi__law_any_weights [.ref n] h) n h fun x => ∃ ws : List Int, x = .tup (ws.map .int) ∧ (ws.length = 2 ∨ ws.length = 3) ∧ ∀ w ∈ ws, 1 ≤ w ∧ w ≤ 9 := by
  obtain ⟨_, h1, q, ⟨r, rfl, r0, r1⟩, c1, l1⟩ := p_pour (m := 2) c (by omega) (by omega)
  have t1 := takeAll l1
  have em : i__law_any_weights_1 [some (.ref n), none] h = some (.ok (rangeD 0 (2 + r).toNat), h1) := by
    have b1 : -4611686018427387904 ≤ 2 + r := by omega
    have b2 : 2 + r < 4611686018427387904 := by omega
    simp [i__law_any_weights_1, runD, sSeq, sIf, sRet, sRetN, sRetV, sSet, sPut, sItem, sNil, sFrz, sDrop, sRaise, sUnp, sPar2, sAug, augF, eBind, asB, dCmp, dChain, cmpW, ltW, leW, dBind, mBind, dVar, dCst, dP2, dApp, dCons, dNil, intF, absF, maxF, minF, lenF, dDat, datW, dArg, argW, modW, divW, addW, subW, retW, dIf, dNot, tru, truW, dNotW, dIsa, isaF, kindW, isaB, dAnds, dOrs, dAndV, dOrV, dCall, trunc, keptRef, argOk, lw, tw, qw, iApp, iSeq, itemsW, rng1W, rng2W, L62, LIM, lstF, tupF, allD, tupleF, Option.map_some, dYes, q, t1, b1, b2]
  obtain ⟨ys, h2, e2, ⟨c2, l2⟩, len, py⟩ := lcGo_inv (T := .nm 1) (mt := dYes) (me := e__law_any_weights_1)
    (rho := wipeR [some (.ref n), none] [1]) (I := fun h' => Can n h' ∧ h'.length = h.length) (P := fun y => ∃ i, y = .int i ∧ 1 ≤ i ∧ i ≤ 9) (rangeD 0 (2 + r).toNat) h1 (fun d _ h ⟨c, l⟩ => by
      obtain ⟨y, h3, q3, m3, c3, l3⟩ := p_pick (ds := [.int 3, .int 5, .int 9]) c (by simp) (by simp)
      have t3 := takeAll l3
      have : ∃ z : Int, y = .int z ∧ 0 < z ∧ z ≤ 9 := by
        simp at m3
        rcases m3 with rfl | rfl | rfl
        · exact ⟨3, rfl, by omega, by omega⟩
        · exact ⟨5, rfl, by omega, by omega⟩
        · exact ⟨9, rfl, by omega, by omega⟩
      obtain ⟨z, rfl, z0, z1⟩ := this
      obtain ⟨_, h4, q4, ⟨i, rfl, i0, i1⟩, c4, l4⟩ := p_pour (m := z) c3 (by omega) (by omega)
      have t4 := takeAll l4
      refine ⟨_, h, .int (1 + i), h4, rfl, rfl, ?_, ⟨c4, by omega⟩, _, rfl, by omega, by omega⟩
      simp [e__law_any_weights_1, setR, wipeR, runD, sSeq, sIf, sRet, sRetN, sRetV, sSet, sPut, sItem, sNil, sFrz, sDrop, sRaise, sUnp, sPar2, sAug, augF, eBind, asB, dCmp, dChain, cmpW, ltW, leW, dBind, mBind, dVar, dCst, dP2, dApp, dCons, dNil, intF, absF, maxF, minF, lenF, dDat, datW, dArg, argW, modW, divW, addW, subW, retW, dIf, dNot, tru, truW, dNotW, dIsa, isaF, kindW, isaB, dAnds, dOrs, dAndV, dOrV, dCall, trunc, keptRef, argOk, lw, tw, qw, iApp, iSeq, itemsW, rng1W, rng2W, L62, LIM, lstF, tupF, allD, tupleF, Option.map_some, dYes, q3, q4, t3, t4]) ⟨c1, l1⟩
  have hlen : ys.length = (2 + r).toNat := by rw [len]; simp [rangeD]
  obtain ⟨ws, rfl, pw⟩ := ints_of py
  rw [List.length_map] at hlen
  refine ⟨_, h2, ret_of (dApp_of (dCons_of (dLc_of em e2 (by rw [List.length_map]; unfold LIM; omega)) dNil_of) rfl), ⟨ws, rfl, by omega, pw⟩, c2, l2⟩
/-! ### a chain of letters -/
def isL (k : Nat) (c : Nat) : Prop := c = 97 ∨ c = 98 ∨ (k = 3 ∧ c = 99)
theorem isL_lt {k c : Nat} (h : isL k c) : c < 128 := by rcases h with rfl | rfl | ⟨_, rfl⟩ <;> decide
def kindsS (k : Nat) : Str := if k = 2 then "ab" else "abc"
theorem cut_kinds {k : Nat} (h : k = 2 ∨ k = 3) : cutS "abc" none (some (k : Int)) = kindsS k := by
  rcases h with rfl | rfl <;> decide +kernel
theorem strs_of {P : Nat → Prop} : ∀ {ys : List D}, (∀ y ∈ ys, ∃ c, P c ∧ y = D.str ⟨#[c]⟩) → ∃ cs : List Nat, ys = cs.map (fun c => .str ⟨#[c]⟩) ∧ ∀ c ∈ cs, P c
  | [], _ => ⟨[], rfl, fun _ z => by cases z⟩
  | y :: ys, H => by
    obtain ⟨i, p, rfl⟩ := H y List.mem_cons_self
    obtain ⟨ns, rfl, q⟩ := strs_of (ys := ys) fun z hz => H z (List.mem_cons_of_mem _ hz)
    exact ⟨i :: ns, rfl, fun j hj => by rcases List.mem_cons.mp hj with rfl | hj; exact p; exact q j hj⟩
theorem strsD_of : ∀ cs : List Nat, strsD (cs.map fun c => D.str ⟨#[c]⟩) = some (cs.map fun c => ⟨#[c]⟩)
  | [] => rfl
  | c :: cs => by simp [strsD, strsD_of cs]
theorem joinL_one : ∀ cs : List Nat, TL.joinL [] (cs.map fun c => [c]) = cs
  | [] => rfl
  | [c] => rfl
  | c :: d :: r => by
    show [c] ++ ([] ++ TL.joinL [] ((d :: r).map fun c => [c])) = _
    rw [joinL_one (d :: r)]
    rfl
theorem join_nil (cs : List Nat) : Txt.join "" (cs.map fun c => (⟨#[c]⟩ : Str)) = ⟨cs.toArray⟩ := by
  have e := SX.join_S [] (cs.map fun c => [c])
  rw [joinL_one, List.map_map] at e
  exact e
theorem joiF_of {cs : List Nat} {h : MH} (hl : cs.length < 1000) : joiF "" (.own (cs.map fun c => .str ⟨#[c]⟩)) h = some (.d (.str ⟨cs.toArray⟩)) := by
  have e : ((cs.map fun c => (⟨#[c]⟩ : Str)).map fun y : Str => y.length).sum = cs.length := by
    clear hl
    induction cs with
    | nil => rfl
    | cons c cs ih => rw [List.map_cons, List.map_cons, List.sum_cons, ih]; show 1 + _ = _; rw [List.length_cons]; omega
  show (match strsD (cs.map fun c => D.str ⟨#[c]⟩) with
    | some ys => if (ys.map fun y : Str => y.length).sum + ys.length * (Str.ofString "").length ≤ LIM then some (W.d (.str (Txt.join "" ys))) else none
    | none => none) = _
  rw [strsD_of]
  show (if ((cs.map fun c => (⟨#[c]⟩ : Str)).map fun y : Str => y.length).sum + (cs.map fun c => (⟨#[c]⟩ : Str)).length * (Str.ofString "").length ≤ LIM then some (W.d (.str (Txt.join "" (cs.map fun c => (⟨#[c]⟩ : Str))))) else none) = _
  rw [if_pos (by rw [e]; show _ + _ * 0 ≤ 16777216; omega), join_nil]
theorem p_any_chain {n : Nat} {h : MH} {ds : List D} {m : Int} (c : Can n h) (hk : ds.length = 2 ∨ ds.length = 3) (h0 : 0 < m) (h1 : m < 100) : Draws (phi__law_any_chain [.ref n, .d (.tup ds), .d (.int m)] h) n h fun x => ∃ cs : List Nat, x = .str ⟨cs.toArray⟩ ∧ 1 ≤ cs.length ∧ cs.length ≤ m ∧ ∀ c ∈ cs, isL ds.length c := by
  have ek : st__law_any_chain_1 [some (.ref n), some (.d (.tup ds)), some (.d (.int m)), none, none] h = some (.nx [some (.ref n), some (.d (.tup ds)), some (.d (.int m)), some (.d (.str (kindsS ds.length))), none], h) := by
    rw [← cut_kinds hk]
    rfl
  obtain ⟨_, h1, q, ⟨r, rfl, r0, r1⟩, c1, l1⟩ := p_pour (m := m) c (by omega) (by omega)
  have t1 := takeAll l1
  have em : i__law_any_chain_1 [some (.ref n), some (.d (.tup ds)), some (.d (.int m)), some (.d (.str (kindsS ds.length))), none] h = some (.ok (rangeD 0 (1 + r).toNat), h1) := by
    have b1 : -4611686018427387904 ≤ 1 + r := by omega
    have b2 : 1 + r < 4611686018427387904 := by omega
    simp [i__law_any_chain_1, runD, sSeq, sIf, sRet, sRetN, sRetV, sSet, sPut, sItem, sNil, sFrz, sDrop, sRaise, sUnp, sPar2, sAug, augF, eBind, asB, dCmp, dChain, cmpW, ltW, leW, dBind, mBind, dVar, dCst, dP2, dApp, dCons, dNil, intF, absF, maxF, minF, lenF, dDat, datW, dArg, argW, modW, divW, addW, subW, retW, dIf, dNot, tru, truW, dNotW, dIsa, isaF, kindW, isaB, dAnds, dOrs, dAndV, dOrV, dCall, trunc, keptRef, argOk, lw, tw, qw, iApp, iSeq, itemsW, rng1W, rng2W, L62, LIM, lstF, tupF, allD, tupleF, Option.map_some, dYes, q, t1, b1, b2]
  have ks : (kindsS ds.length).cps.size < 1000 ∧ 0 < (kindsS ds.length).cps.size := by rcases hk with e | e <;> rw [e] <;> decide +kernel
  obtain ⟨ys, h2, e2, ⟨c2, l2⟩, len, py⟩ := lcGo_inv (T := .nm 4) (mt := dYes) (me := e__law_any_chain_1)
    (rho := wipeR [some (.ref n), some (.d (.tup ds)), some (.d (.int m)), some (.d (.str (kindsS ds.length))), none] [4]) (I := fun h' => Can n h' ∧ h'.length = h.length) (P := fun y => ∃ c, isL ds.length c ∧ y = .str ⟨#[c]⟩) (rangeD 0 (1 + r).toNat) h1 (fun d _ h ⟨c, l⟩ => by
      obtain ⟨y, h3, q3, ⟨x, m3, rfl⟩, c3, l3⟩ := p_pickS (x := kindsS ds.length) c ks.2 ks.1
      have t3 := takeAll l3
      refine ⟨_, h, .str ⟨#[x]⟩, h3, rfl, rfl, ?_, ⟨c3, by omega⟩, _, ?_, rfl⟩
      · simp [e__law_any_chain_1, setR, wipeR, runD, sSeq, sIf, sRet, sRetN, sRetV, sSet, sPut, sItem, sNil, sFrz, sDrop, sRaise, sUnp, sPar2, sAug, augF, eBind, asB, dCmp, dChain, cmpW, ltW, leW, dBind, mBind, dVar, dCst, dP2, dApp, dCons, dNil, intF, absF, maxF, minF, lenF, dDat, datW, dArg, argW, modW, divW, addW, subW, retW, dIf, dNot, tru, truW, dNotW, dIsa, isaF, kindW, isaB, dAnds, dOrs, dAndV, dOrV, dCall, trunc, keptRef, argOk, lw, tw, qw, iApp, iSeq, itemsW, rng1W, rng2W, L62, LIM, lstF, tupF, allD, tupleF, Option.map_some, dYes, q3, t3]
      · rcases hk with e | e
        · rw [e] at m3 ⊢
          have : x ∈ [97, 98] := m3
          simp at this
          rcases this with rfl | rfl
          · exact .inl rfl
          · exact .inr (.inl rfl)
        · rw [e] at m3 ⊢
          have : x ∈ [97, 98, 99] := m3
          simp at this
          rcases this with rfl | rfl | rfl
          · exact .inl rfl
          · exact .inr (.inl rfl)
          · exact .inr (.inr ⟨rfl, rfl⟩)) ⟨c1, l1⟩
  obtain ⟨cs, rfl, pc⟩ := strs_of py
  have hlen : cs.length = (1 + r).toNat := by rw [List.length_map] at len; rw [len]; simp [rangeD]
  refine ⟨.str ⟨cs.toArray⟩, h2, ?_, ⟨cs, rfl, by omega, by omega, pc⟩, c2, l2⟩
  refine run_rt ((sSeq_nx ek).trans (sSeq_rt (sRet_of ?_)))
  refine (dBind_ok (rfl : dCst (.str "") _ _ = some (.ok (.d (.str "")), h))).trans ?_
  refine (dBind_ok (dLc_of em e2 (by rw [List.length_map]; unfold LIM; omega))).trans ?_
  show (joiF "" (.own (cs.map fun c => .str ⟨#[c]⟩)) h2).map _ = _
  rw [joiF_of (by omega)]
  rfl
/-! ### the cells of a turn -/
theorem p_can {ns : List Int} {k : Nat} {h : MH} (hk : k < 100) (hl : ns.length < 1000) : ∃ a b : Int, phi__law_can [.d (.lst (ns.map .int)), .d (.int k)] h = some (.ok (.own [.int a, .int b]), h) ∧ 0 ≤ b ∧ b < 2147483648 := by
  have e1 : ∃ z : Int, 0 ≤ z ∧ st__law_can_1 [some (.d (.lst (ns.map .int))), some (.d (.int k)), none] h = some (.nx [some (.d (.lst (ns.map .int))), some (.d (.int k)), some (.d (.int z))], h) := by
    by_cases q : (k : Int) < ns.length
    · have q2 : k < ns.length := by omega
      refine ⟨if ns[k] < 0 then -ns[k] else ns[k], by split <;> omega, ?_⟩
      have ix : ixW (.d (.lst (ns.map .int))) (.d (.int k)) h = some (.d (.int ns[k])) := by simp [ixW, qw, tw, lw, atI, ixN, q2]
      simp [st__law_can_1, runD, sSeq, sIf, sRet, sRetN, sRetV, sSet, sPut, sItem, sNil, sFrz, sDrop, sRaise, sUnp, sPar2, sAug, augF, eBind, asB, dCmp, dChain, cmpW, ltW, leW, dBind, mBind, dVar, dCst, dP2, dApp, dCons, dNil, intF, absF, maxF, minF, lenF, dDat, datW, dArg, argW, modW, divW, addW, subW, retW, dIf, dNot, tru, truW, dNotW, dIsa, isaF, kindW, isaB, dAnds, dOrs, dAndV, dOrV, dCall, trunc, keptRef, argOk, lw, tw, qw, iApp, iSeq, itemsW, rng1W, rng2W, L62, LIM, lstF, tupF, allD, tupleF, Option.map_some, dYes, q, q2, ix]
    · refine ⟨509 * k + 97, by omega, ?_⟩
      have mm : mulW (.d (.int 509)) (.d (.int k)) h = some (.d (.int (509 * k))) := by simp [mulW, P64]
      simp [st__law_can_1, runD, sSeq, sIf, sRet, sRetN, sRetV, sSet, sPut, sItem, sNil, sFrz, sDrop, sRaise, sUnp, sPar2, sAug, augF, eBind, asB, dCmp, dChain, cmpW, ltW, leW, dBind, mBind, dVar, dCst, dP2, dApp, dCons, dNil, intF, absF, maxF, minF, lenF, dDat, datW, dArg, argW, modW, divW, addW, subW, retW, dIf, dNot, tru, truW, dNotW, dIsa, isaF, kindW, isaB, dAnds, dOrs, dAndV, dOrV, dCall, trunc, keptRef, argOk, lw, tw, qw, iApp, iSeq, itemsW, rng1W, rng2W, L62, LIM, lstF, tupF, allD, tupleF, Option.map_some, dYes, q, mm]
  obtain ⟨z, z0, e1⟩ := e1
  have pw : powW (.d (.int 10)) (.d (.int 18)) h = some (.d (.int 1000000000000000000)) := by rfl
  have m1 : mulW (.d (.int z)) (.d (.int 67)) h = some (.d (.int (z * 67))) := by simp [mulW, P64]
  have m2 : mulW (.d (.int 5387)) (.d (.int k)) h = some (.d (.int (5387 * k))) := by simp [mulW, P64]
  refine ⟨if 1000000000000000000 ≤ z then z else 0, (z * 67 + 5387 * k + 43) % 2147483477 + 1, ?_, by omega, by omega⟩
  refine run_rt ((sSeq_nx e1).trans (sSeq_rt ?_))
  by_cases q : 1000000000000000000 ≤ z <;> simp [st__law_can_2, runD, sSeq, sIf, sRet, sRetN, sRetV, sSet, sPut, sItem, sNil, sFrz, sDrop, sRaise, sUnp, sPar2, sAug, augF, eBind, asB, dCmp, dChain, cmpW, ltW, leW, dBind, mBind, dVar, dCst, dP2, dApp, dCons, dNil, intF, absF, maxF, minF, lenF, dDat, datW, dArg, argW, modW, divW, addW, subW, retW, dIf, dNot, tru, truW, dNotW, dIsa, isaF, kindW, isaB, dAnds, dOrs, dAndV, dOrV, dCall, trunc, keptRef, argOk, lw, tw, qw, iApp, iSeq, itemsW, rng1W, rng2W, L62, LIM, lstF, tupF, allD, tupleF, Option.map_some, dYes, pw, m1, m2, q]

end Lw

set_option maxHeartbeats 4000000
namespace Lw
open PySem Dn L2 PyProof.Rows

/-! ### data of bounded size -/
def gdD : Nat → D → Bool
  | _, .non => true
  | _, .bl _ => true
  | _, .int i => decide (i.natAbs < 10 ^ 40)
  | _, .str x => decide (x.length ≤ 2000)
  | 0, _ => false
  | n + 1, .tup ds => decide (ds.length ≤ 4000) && ds.all (gdD n)
  | n + 1, .lst ds => decide (ds.length ≤ 4000) && ds.all (gdD n)
  | _, .fr _ => false
theorem gd_tup {n : Nat} {ds : List D} (h : gdD (n + 1) (.tup ds) = true) : ds.length ≤ 4000 ∧ ∀ d ∈ ds, gdD n d = true := by
  have h' : (decide (ds.length ≤ 4000) && ds.all (gdD n)) = true := h
  rw [Bool.and_eq_true, List.all_eq_true, decide_eq_true_eq] at h'
  exact h'
theorem gd_mk {n : Nat} {ds : List D} (l : ds.length ≤ 4000) (h : ∀ d ∈ ds, gdD n d = true) : gdD (n + 1) (.tup ds) = true ∧ gdD (n + 1) (.lst ds) = true := by
  have h' : (decide (ds.length ≤ 4000) && ds.all (gdD n)) = true := by
    rw [Bool.and_eq_true, List.all_eq_true, decide_eq_true_eq]
    exact ⟨l, h⟩
  exact ⟨h', h'⟩
theorem gd_mono : ∀ (n m : Nat), n ≤ m → ∀ d : D, gdD n d = true → gdD m d = true := by
  intro n
  induction n with
  | zero =>
    intro m _ d h
    cases d <;> first | (cases m <;> first | rfl | exact h) | (cases h)
  | succ n ih =>
    intro m hm d h
    obtain ⟨m', rfl⟩ : ∃ m', m = m' + 1 := ⟨m - 1, by omega⟩
    cases d with
    | tup ds => exact (gd_mk (gd_tup h).1 fun d hd => ih m' (by omega) d ((gd_tup h).2 d hd)).1
    | lst ds =>
      have h2 : gdD (n + 1) (.tup ds) = true := h
      exact (gd_mk (gd_tup h2).1 fun d hd => ih m' (by omega) d ((gd_tup h2).2 d hd)).2
    | fr x => cases h
    | _ => exact h
theorem gd_ok : ∀ (n : Nat) (d : D), gdD n d = true → okD n d = true := by
  intro n
  induction n with
  | zero => intro d h; cases d <;> first | rfl | (cases h)
  | succ n ih =>
    intro d h
    cases d with
    | tup ds =>
      show ds.all (okD n) = true
      exact List.all_eq_true.mpr fun d hd => ih d ((gd_tup h).2 d hd)
    | lst ds =>
      have h2 : gdD (n + 1) (.tup ds) = true := h
      show ds.all (okD n) = true
      exact List.all_eq_true.mpr fun d hd => ih d ((gd_tup h2).2 d hd)
    | fr x => cases h
    | _ => rfl
/-- by their digits, their length -/
def gdX (b l : Nat) : Nat → D → Bool
  | _, .non => true
  | _, .bl _ => true
  | _, .int i => decide (i.natAbs < 10 ^ b)
  | _, .str x => decide (x.length ≤ l)
  | 0, _ => false
  | n + 1, .tup ds => decide (ds.length ≤ l) && ds.all (gdX b l n)
  | n + 1, .lst ds => decide (ds.length ≤ l) && ds.all (gdX b l n)
  | _, .fr _ => false
theorem gx_tup {b l n : Nat} {ds : List D} (h : gdX b l (n + 1) (.tup ds) = true) : ds.length ≤ l ∧ ∀ d ∈ ds, gdX b l n d = true := by
  have h' : (decide (ds.length ≤ l) && ds.all (gdX b l n)) = true := h
  rw [Bool.and_eq_true, List.all_eq_true, decide_eq_true_eq] at h'
  exact h'
theorem gx_mk {b l n : Nat} {ds : List D} (hl : ds.length ≤ l) (h : ∀ d ∈ ds, gdX b l n d = true) : gdX b l (n + 1) (.tup ds) = true ∧ gdX b l (n + 1) (.lst ds) = true := by
  have h' : (decide (ds.length ≤ l) && ds.all (gdX b l n)) = true := by
    rw [Bool.and_eq_true, List.all_eq_true, decide_eq_true_eq]
    exact ⟨hl, h⟩
  exact ⟨h', h'⟩
theorem gx_mono {b b' l l' : Nat} (hb : b ≤ b') (hl : l ≤ l') : ∀ (n m : Nat), n ≤ m → ∀ d : D, gdX b l n d = true → gdX b' l' m d = true := by
  have hi : ∀ (n m : Nat) (i : Int), gdX b l n (.int i) = true → gdX b' l' m (.int i) = true := fun n m i h => by
    have h1 : decide (i.natAbs < 10 ^ b) = true := by cases n <;> exact h
    have h2 : decide (i.natAbs < 10 ^ b') = true := decide_eq_true (Nat.lt_of_lt_of_le (of_decide_eq_true h1) (Nat.pow_le_pow_right (by decide) hb))
    cases m <;> exact h2
  have hs : ∀ (n m : Nat) (x : Str), gdX b l n (.str x) = true → gdX b' l' m (.str x) = true := fun n m x h => by
    have h1 : decide (x.length ≤ l) = true := by cases n <;> exact h
    have h2 : decide (x.length ≤ l') = true := decide_eq_true (Nat.le_trans (of_decide_eq_true h1) hl)
    cases m <;> exact h2
  intro n
  induction n with
  | zero =>
    intro m _ d h
    cases d with
    | int i => exact hi _ _ i h
    | str x => exact hs _ _ x h
    | non => cases m <;> rfl
    | bl c => cases m <;> rfl
    | _ => cases h
  | succ n ih =>
    intro m hm d h
    obtain ⟨m', rfl⟩ : ∃ m', m = m' + 1 := ⟨m - 1, by omega⟩
    cases d with
    | tup ds => exact (gx_mk (Nat.le_trans (gx_tup h).1 hl) fun d hd => ih m' (by omega) d ((gx_tup h).2 d hd)).1
    | lst ds =>
      have h2 : gdX b l (n + 1) (.tup ds) = true := h
      exact (gx_mk (Nat.le_trans (gx_tup h2).1 hl) fun d hd => ih m' (by omega) d ((gx_tup h2).2 d hd)).2
    | fr x => cases h
    | int i => exact hi _ _ i h
    | str x => exact hs _ _ x h
    | _ => rfl
theorem gx_gd {b l : Nat} (hb : b ≤ 40) (hl : l ≤ 2000) : ∀ (n : Nat) (d : D), gdX b l n d = true → gdD n d = true := by
  intro n
  induction n with
  | zero =>
    intro d h
    cases d with
    | int i => exact decide_eq_true (Nat.lt_of_lt_of_le (of_decide_eq_true h) (Nat.pow_le_pow_right (by decide) hb))
    | str x => exact decide_eq_true (Nat.le_trans (of_decide_eq_true h) hl)
    | non => rfl
    | bl c => rfl
    | _ => cases h
  | succ n ih =>
    intro d h
    cases d with
    | tup ds => exact (gd_mk (by have := (gx_tup h).1; omega) fun d hd => ih d ((gx_tup h).2 d hd)).1
    | lst ds =>
      have h2 : gdX b l (n + 1) (.tup ds) = true := h
      exact (gd_mk (by have := (gx_tup h2).1; omega) fun d hd => ih d ((gx_tup h2).2 d hd)).2
    | fr x => cases h
    | int i => exact decide_eq_true (Nat.lt_of_lt_of_le (of_decide_eq_true h) (Nat.pow_le_pow_right (by decide) hb))
    | str x => exact decide_eq_true (Nat.le_trans (of_decide_eq_true h) hl)
    | _ => rfl
theorem okD_mono : ∀ (n m : Nat), n ≤ m → ∀ d : D, okD n d = true → okD m d = true := by
  intro n
  induction n with
  | zero =>
    intro m _ d h
    cases d <;> first | (cases m <;> rfl) | (cases h)
  | succ n ih =>
    intro m hm d h
    obtain ⟨m', rfl⟩ : ∃ m', m = m' + 1 := ⟨m - 1, by omega⟩
    cases d with
    | tup ds =>
      have h' : ds.all (okD n) = true := h
      show ds.all (okD m') = true
      exact List.all_eq_true.mpr fun x hx => ih m' (by omega) x (List.all_eq_true.mp h' x hx)
    | lst ds =>
      have h' : ds.all (okD n) = true := h
      show ds.all (okD m') = true
      exact List.all_eq_true.mpr fun x hx => ih m' (by omega) x (List.all_eq_true.mp h' x hx)
    | fr x => cases h
    | _ => rfl
theorem len_tup {ds : List D} {h : MH} : lenF [.d (.tup ds)] h = some (.d (.int ds.length)) := rfl
theorem len_lst {ds : List D} {h : MH} : lenF [.d (.lst ds)] h = some (.d (.int ds.length)) := rfl
theorem len_bor {ds : List D} {h : MH} : lenF [.bor ds] h = some (.d (.int ds.length)) := rfl
theorem len_own {ds : List D} {h : MH} : lenF [.own ds] h = some (.d (.int ds.length)) := rfl
theorem erase_map {α β : Type} (f : α → β) : ∀ (l : List α) (j : Nat), (l.map f).eraseIdx j = (l.eraseIdx j).map f
  | [], _ => by simp
  | a :: l, 0 => by simp
  | a :: l, j + 1 => by simp [erase_map f l j]
end Lw

set_option maxHeartbeats 4000000
namespace Lw
open PySem Dn L2 PyProof.Rows
local macro_rules | `(tactic| walk_at "v") => `(tactic| ((with_reducible refine wO_ex ?_); (refine Exists.intro ?_ (And.intro ?_ ?_)); rotate_left; first | with_reducible exact c_eqI | with_reducible exact c_neI | with_reducible exact c_eqS | with_reducible exact c_neS | with_reducible assumption | with_reducible exact len_tup | with_reducible exact len_lst | with_reducible exact len_bor | with_reducible exact len_own | exact rfl | exact m_r (by decide) | exact m_l (by decide)))
local macro_rules | `(tactic| walk_at "1") => `(tactic| first
  | with_reducible refine wS_seq ?_ | with_reducible refine wS_if ?_ | with_reducible refine wS_set ?_ | with_reducible refine wS_ret ?_ | with_reducible refine wS_nil ?_
  | ((with_reducible refine wE_var ?_); refine ⟨_, rfl, _, rfl, ?_⟩)
  | with_reducible refine wE_cst ?_ | with_reducible refine wE_p2 ?_ | with_reducible refine wE_app ?_ | with_reducible refine wE_nil ?_ | with_reducible refine wE_cons ?_ | with_reducible refine wE_cmp ?_ | with_reducible refine wE_chain ?_
  | with_reducible refine wE_asB ?_ | with_reducible refine wE_tru ?_ | with_reducible refine wE_not ?_ | with_reducible refine wE_notW ?_ | with_reducible refine wE_neg ?_ | with_reducible refine wE_and1 ?_ | with_reducible refine wE_and ?_
  | with_reducible refine wE_or1 ?_ | with_reducible refine wE_or ?_ | with_reducible refine wE_if ?_ | with_reducible refine wE_andV1 ?_ | with_reducible refine wE_andV ?_ | with_reducible refine wE_orV1 ?_ | with_reducible refine wE_orV ?_
  | with_reducible refine wE_isa ?_ | with_reducible refine wE_dat ?_ | with_reducible refine wE_arg ?_ | with_reducible refine wE_shr ?_ | with_reducible refine wE_rv ?_ | with_reducible refine wE_part0 ?_ | with_reducible refine wE_part1 ?_
  | with_reducible refine wE_cnt ?_ | with_reducible refine wE_sset ?_ | with_reducible refine wE_sl ?_ | with_reducible refine wE_ms ?_ | with_reducible refine wE_call ?_ | with_reducible refine wE_try ?_ | with_reducible refine wE_word ?_ | with_reducible refine wE_iseq ?_ | with_reducible refine wE_iapp ?_ | with_reducible refine wE_lc ?_
  | with_reducible refine wS_cont ?_ | with_reducible refine wS_break ?_ | with_reducible refine wS_retN ?_ | ((with_reducible refine wS_retV ?_); refine ⟨_, rfl, rfl, ?_⟩) | with_reducible refine wS_drop ?_ | with_reducible refine wS_raise ?_ | ((with_reducible refine wS_frz ?_); refine ⟨_, rfl, ?_⟩) | ((with_reducible refine wS_frz' ?_); refine ⟨_, rfl, ?_⟩)
  | with_reducible refine wS_unp ?_ | ((with_reducible refine wS_aug ?_); refine ⟨_, rfl, ?_⟩) | ((with_reducible refine wS_own ?_); refine ⟨_, rfl, ?_⟩) | ((with_reducible refine wS_ownSet ?_); refine ⟨_, rfl, ?_⟩) | with_reducible refine wS_par2 ?_ | with_reducible refine wS_par3 ?_ | with_reducible refine wS_item ?_ | with_reducible refine wS_itemO ?_ | with_reducible refine wS_for ?_
  | with_reducible refine wI_t ?_ | with_reducible refine wI_f ?_
  | with_reducible refine wI_at (by assumption) ?_ | with_reducible refine wI_af (by assumption) ?_ | refine wI_at (by rfl) ?_ | refine wI_af (by rfl) ?_
  | ((fail_if_success (with_reducible refine wO_ex ?_)); (first | refine ⟨_, rfl, ?_⟩ | refine ⟨_, _, rfl, ?_⟩ | refine ⟨_, _, _, rfl, ?_⟩ | refine And.intro (by rfl) ?_)))
local macro_rules | `(tactic| walk_at "p") => `(tactic| repeat (first | walk_at "v" | walk_at "1"))


/-! ### any value -/
theorem p_some (n : Nat) (v : D) (h : MH) : ∃ L : List D, (∀ k : DenS, sSeq st__law_any_value_1 (sSeq st__law_any_value_2 k) [some (.ref n), some (.d v), none, none, none] h = k [some (.ref n), some (.d v), some (.d (.lst L)), none, none] h) ∧ L ≠ [] ∧ L.length < 1000 ∧ ∀ d ∈ L, gdX 31 10 5 d = true :=
  ⟨_, fun k => rfl, by decide +kernel, by decide +kernel, by decide +kernel⟩
theorem p_anyX {n : Nat} : ∀ (k f : Nat) {h : MH}, k + 1 ≤ f → Can n h → Draws (phi__law_any_value f [.ref n, .d (.int k)] h) n h (fun d => gdX 31 10 (5 + k) d = true)
  | 0, 0, _, hf, _ => by omega
  | k + 1, 0, _, hf, _ => by omega
  | 0, f + 1, h, hf, c => by
    obtain ⟨L, e, l0, l1, l2⟩ := p_some n (.int ((0 : Nat) : Int)) h
    refine drawsE_of (w__law_any_value ?_)
    show wS _ _ _ _ _ (sSeq st__law_any_value_1 (sSeq st__law_any_value_2 _) _ _)
    rw [e]
    walk_at "p"
    refine wC_dr (p_pick c l0 l1) fun x h1 m c1 lh => ?_
    walk_at "p"
    exact ⟨l2 x m, c1, lh⟩
  | k + 1, f + 1, h, hf, c => by
    obtain ⟨L, e, l0, l1, l2⟩ := p_some n (.int ((k + 1 : Nat) : Int)) h
    refine drawsE_of (w__law_any_value ?_)
    show wS _ _ _ _ _ (sSeq st__law_any_value_1 (sSeq st__law_any_value_2 _) _ _)
    rw [e]
    walk_at "p"
    refine wC_dr (p_pour c (by omega) (by omega)) ?_
    rintro _ h1 ⟨r, rfl, r0, r1⟩ c1 lh
    walk_at "p"
    refine wI_by (fun hr => ?_) (fun hr => ?_)
    · walk_at "p"
      refine wC_dr (p_pick c1 l0 l1) fun x h2 m c2 lh2 => ?_
      walk_at "p"
      exact ⟨gx_mono (Nat.le_refl _) (Nat.le_refl _) 5 _ (by omega) x (l2 x m), c2, by omega⟩
    · walk_at "p"
      refine wC_dr (p_pour c1 (by omega) (by omega)) ?_
      rintro _ h2 ⟨j, rfl, j0, j1⟩ c2 lh2
      walk_at "p"
      refine wO_of (r_1 (by unfold L62; omega)) ?_
      refine lc_inv (fun h' => Can n h' ∧ h'.length = h.length) (fun y => gdX 31 10 (5 + k) y = true) ?_ ?_ ⟨c2, by omega⟩ ?_
      · intro d _ h' ⟨c', lh'⟩
        refine ⟨_, rfl, ?_⟩
        walk_at "p"
        rw [show ((k + 1 : Nat) : Int) - 1 = (k : Int) by omega]
        refine wC_dr (p_anyX k f (by omega) c') fun x h3 m c3 lh3 => ?_
        walk_at "p"
        exact ⟨⟨c3, by omega⟩, m⟩
      · simp [rangeD, LIM]; omega
      · intro ys h3 ⟨c3, lh3⟩ len py
        have ly : ys.length ≤ 10 := by rw [len]; simp [rangeD]; omega
        walk_at "p"
        refine wC_dr (p_pour c3 (by omega) (by omega)) ?_
        rintro _ h4 ⟨i, rfl, i0, i1⟩ c4 lh4
        walk_at "p"
        have g := gx_mk ly py
        refine wI_by (fun hi => ?_) (fun hi => ?_)
        · walk_at "p"
          exact ⟨gx_mono (Nat.le_refl _) (Nat.le_refl _) _ _ (by omega) _ g.2, c4, by omega⟩
        · walk_at "p"
          exact ⟨gx_mono (Nat.le_refl _) (Nat.le_refl _) _ _ (by omega) _ g.1, c4, by omega⟩
theorem p_any {n : Nat} (k f : Nat) {h : MH} (hf : k + 1 ≤ f) (c : Can n h) : Draws (phi__law_any_value f [.ref n, .d (.int k)] h) n h (fun d => gdD (5 + k) d = true) := by
  obtain ⟨x, h', e, p, q⟩ := p_anyX k f hf c
  exact ⟨x, h', e, gx_gd (by decide) (by decide) _ x p, q⟩
end Lw

set_option maxHeartbeats 4000000
namespace Lw
open PySem Dn L2 PyProof.Rows
local macro_rules | `(tactic| walk_at "v") => `(tactic| ((with_reducible refine wO_ex ?_); (refine Exists.intro ?_ (And.intro ?_ ?_)); rotate_left; first | with_reducible exact c_eqI | with_reducible exact c_neI | with_reducible exact c_eqS | with_reducible exact c_neS | with_reducible assumption | with_reducible exact len_tup | with_reducible exact len_lst | with_reducible exact len_bor | with_reducible exact len_own | exact rfl | exact m_r (by decide) | exact m_l (by decide)))
local macro_rules | `(tactic| walk_at "1") => `(tactic| first
  | with_reducible refine wS_seq ?_ | with_reducible refine wS_if ?_ | with_reducible refine wS_set ?_ | with_reducible refine wS_ret ?_ | with_reducible refine wS_nil ?_
  | ((with_reducible refine wE_var ?_); refine ⟨_, rfl, _, rfl, ?_⟩)
  | with_reducible refine wE_cst ?_ | with_reducible refine wE_p2 ?_ | with_reducible refine wE_app ?_ | with_reducible refine wE_nil ?_ | with_reducible refine wE_cons ?_ | with_reducible refine wE_cmp ?_ | with_reducible refine wE_chain ?_
  | with_reducible refine wE_asB ?_ | with_reducible refine wE_tru ?_ | with_reducible refine wE_not ?_ | with_reducible refine wE_notW ?_ | with_reducible refine wE_neg ?_ | with_reducible refine wE_and1 ?_ | with_reducible refine wE_and ?_
  | with_reducible refine wE_or1 ?_ | with_reducible refine wE_or ?_ | with_reducible refine wE_if ?_ | with_reducible refine wE_andV1 ?_ | with_reducible refine wE_andV ?_ | with_reducible refine wE_orV1 ?_ | with_reducible refine wE_orV ?_
  | with_reducible refine wE_isa ?_ | with_reducible refine wE_dat ?_ | with_reducible refine wE_arg ?_ | with_reducible refine wE_shr ?_ | with_reducible refine wE_rv ?_ | with_reducible refine wE_part0 ?_ | with_reducible refine wE_part1 ?_
  | with_reducible refine wE_cnt ?_ | with_reducible refine wE_sset ?_ | with_reducible refine wE_sl ?_ | with_reducible refine wE_ms ?_ | with_reducible refine wE_call ?_ | with_reducible refine wE_try ?_ | with_reducible refine wE_word ?_ | with_reducible refine wE_iseq ?_ | with_reducible refine wE_iapp ?_ | with_reducible refine wE_lc ?_
  | with_reducible refine wS_cont ?_ | with_reducible refine wS_break ?_ | with_reducible refine wS_retN ?_ | ((with_reducible refine wS_retV ?_); refine ⟨_, rfl, rfl, ?_⟩) | with_reducible refine wS_drop ?_ | with_reducible refine wS_raise ?_ | ((with_reducible refine wS_frz ?_); refine ⟨_, rfl, ?_⟩) | ((with_reducible refine wS_frz' ?_); refine ⟨_, rfl, ?_⟩)
  | with_reducible refine wS_unp ?_ | ((with_reducible refine wS_aug ?_); refine ⟨_, rfl, ?_⟩) | ((with_reducible refine wS_own ?_); refine ⟨_, rfl, ?_⟩) | ((with_reducible refine wS_ownSet ?_); refine ⟨_, rfl, ?_⟩) | with_reducible refine wS_par2 ?_ | with_reducible refine wS_par3 ?_ | with_reducible refine wS_item ?_ | with_reducible refine wS_itemO ?_ | with_reducible refine wS_for ?_
  | with_reducible refine wI_t ?_ | with_reducible refine wI_f ?_
  | with_reducible refine wI_at (by assumption) ?_ | with_reducible refine wI_af (by assumption) ?_ | refine wI_at (by rfl) ?_ | refine wI_af (by rfl) ?_
  | ((fail_if_success (with_reducible refine wO_ex ?_)); (first | refine ⟨_, rfl, ?_⟩ | refine ⟨_, _, rfl, ?_⟩ | refine ⟨_, _, _, rfl, ?_⟩ | refine And.intro (by rfl) ?_)))
local macro_rules | `(tactic| walk_at "p") => `(tactic| repeat (first | walk_at "v" | walk_at "1"))

abbrev wD (ws : List Int) : D := .tup (ws.map .int)
abbrev cS (cs : List Nat) : Str := ⟨cs.toArray⟩
abbrev cD (c : Nat) : D := .str ⟨#[c]⟩
def wt (ws : List Int) (c : Nat) : Int := (ws[c - 97]?).getD 0
def wtS (ws : List Int) (cs : List Nat) : Int := (cs.map (wt ws)).sum
structure Wok (ws : List Int) : Prop where
  len : ws.length = 2 ∨ ws.length = 3
  rng : ∀ w ∈ ws, 1 ≤ w ∧ w ≤ 9
structure Cok (ws : List Int) (cs : List Nat) : Prop where
  lo : 1 ≤ cs.length
  hi : cs.length ≤ 14
  ok : ∀ c ∈ cs, isL ws.length c
theorem shape {ws : List Int} (h : ws.length = 2 ∨ ws.length = 3) : (∃ a b, ws = [a, b]) ∨ ∃ a b c, ws = [a, b, c] := by
  match ws, h with
  | [a, b], _ => exact .inl ⟨a, b, rfl⟩
  | [a, b, c], _ => exact .inr ⟨a, b, c, rfl⟩
  | [], h => simp at h
  | [_], h => simp at h
  | _ :: _ :: _ :: _ :: _, h => simp at h
theorem charsD_cS (cs : List Nat) : charsD (cS cs) = cs.map cD := by unfold charsD; simp
theorem intsD_map {α : Type} (f : α → Int) : ∀ xs : List α, intsD (xs.map fun x => D.int (f x)) = some (xs.map f)
  | [] => rfl
  | x :: xs => by simp [intsD, intsD_map f xs]
theorem bools_true {α : Type} : ∀ xs : List α, bools (xs.map fun _ => D.bl true) = some (xs.map fun _ => true)
  | [] => rfl
  | x :: xs => by simp [bools, bools_true xs]

def isInt (v : D) (lo hi : Int) : Bool := match v with
  | .int i => decide (lo ≤ i) && decide (i ≤ hi)
  | _ => false
theorem cut_take (cs : List Nat) (k : Nat) : cutS (cS cs) none (some (k : Int)) = cS (cs.take k) := by
  unfold cutS
  rw [HT.sIx_nat, HT.sIx_none]
  show (⟨((cs.toArray.toList.drop 0).take (min k cs.toArray.size - 0)).toArray⟩ : Str) = _
  simp only [List.drop_zero, Nat.sub_zero, List.size_toArray]
  have e : cs.take (min k cs.length) = cs.take k := by
    rcases Nat.le_total k cs.length with h | h
    · rw [Nat.min_eq_left h]
    · rw [Nat.min_eq_right h, List.take_of_length_le h, List.take_of_length_le (Nat.le_refl _)]
  rw [e]
/-! ### sorted integers -/
def sortI (ns : List Int) : List Int := ns.mergeSort fun a b => decide (a ≤ b)
theorem sortD_ints (ns : List Int) : sortD (ns.map .int) = (sortI ns).map .int := by
  unfold sortD sortI
  refine (List.map_mergeSort fun a _ b _ => ?_).symm
  have e := PySem.W.dataLe_int (fun x : Int => x)
  have e2 := congrFun (congrFun e a) b
  exact e2.symm
theorem sortI_perm {xs ys : List Int} (p : xs.Perm ys) : sortI xs = sortI ys := by
  have tr : ∀ a b c : Int, decide (a ≤ b) = true → decide (b ≤ c) = true → decide (a ≤ c) = true := fun a b c h1 h2 => decide_eq_true (Int.le_trans (of_decide_eq_true h1) (of_decide_eq_true h2))
  have tot : ∀ a b : Int, (decide (a ≤ b) || decide (b ≤ a)) = true := fun a b => by rcases Int.le_total a b with h | h <;> simp [h]
  have pp : (sortI xs).Perm (sortI ys) := ((List.mergeSort_perm _ _).trans p).trans (List.mergeSort_perm _ _).symm
  exact pp.eq_of_pairwise (fun a b _ _ h1 h2 => Int.le_antisymm (of_decide_eq_true h1) (of_decide_eq_true h2)) (List.pairwise_mergeSort tr tot xs) (List.pairwise_mergeSort tr tot ys)
theorem sortable_ints {ns : List Int} (hl : ns.length ≤ 1000) : sortableB (ns.map .int) = true := by
  unfold sortableB
  have a : ((ns.map D.int).all fun d => (ns.map D.int).all fun e => PySem.W.alike (toPy d) (toPy e)) = true := by
    simp [List.all_eq_true]
    intro x _ y _
    rfl
  have b : (ns.map D.int).all notTN = true := by simp [List.all_eq_true, notTN]
  have c : (ns.map D.int).all (okD 60) = true := by simp [List.all_eq_true, okD]
  rw [a, b, c]
  simp [LIM]
  omega
theorem sortI_len (ns : List Int) : (sortI ns).length = ns.length := List.length_mergeSort _
theorem sortI_mem {ns : List Int} {x : Int} : x ∈ sortI ns ↔ x ∈ ns := (List.mergeSort_perm _ _).mem_iff
theorem sortI_sorted (ns : List Int) : (sortI ns).Pairwise (· ≤ ·) := by
  have tr : ∀ a b c : Int, decide (a ≤ b) = true → decide (b ≤ c) = true → decide (a ≤ c) = true := fun a b c h1 h2 => decide_eq_true (Int.le_trans (of_decide_eq_true h1) (of_decide_eq_true h2))
  have tot : ∀ a b : Int, (decide (a ≤ b) || decide (b ≤ a)) = true := fun a b => by rcases Int.le_total a b with h | h <;> simp [h]
  exact (List.pairwise_mergeSort tr tot ns).imp fun h => of_decide_eq_true h
theorem sortI_of {xs ys : List Int} (p : xs.Perm ys) (s : ys.Pairwise (· ≤ ·)) : sortI xs = ys :=
  ((List.mergeSort_perm _ _).trans p).eq_of_pairwise (fun a b _ _ h1 h2 => Int.le_antisymm h1 h2) (sortI_sorted xs) s
theorem sortI_iff (ns : List Int) : ns = sortI ns ↔ ns.Pairwise (· ≤ ·) := ⟨fun e => by rw [e]; exact sortI_sorted ns, fun s => (sortI_of (List.Perm.refl _) s).symm⟩
theorem cut_drop (cs : List Nat) (k : Nat) : cutS (cS cs) (some (k : Int)) none = cS (cs.drop k) := by
  unfold cutS
  rw [HT.sIx_nat, HT.sIx_none]
  show (⟨((cs.toArray.toList.drop (min k cs.toArray.size)).take (cs.toArray.size - min k cs.toArray.size)).toArray⟩ : Str) = _
  simp only [List.size_toArray]
  have e1 : (cs.drop (min k cs.length)).take (cs.length - min k cs.length) = cs.drop k := by
    rcases Nat.le_total k cs.length with h | h
    · rw [Nat.min_eq_left h]
      exact List.take_of_length_le (by rw [List.length_drop]; omega)
    · rw [Nat.min_eq_right h, Nat.sub_self, List.take_zero, List.drop_of_length_le h]
  rw [e1]
theorem cS_len (cs : List Nat) : (cS cs).length = cs.length := List.size_toArray
/-! ### equality of rows of whole numbers -/
theorem eqD_ints (a b : List Int) : PyData.eqvAll (toPys (a.map .int)) (toPys (b.map .int)) = decide (a = b) := by
  induction a generalizing b with
  | nil => cases b <;> simp [toPys, PyData.eqvAll]
  | cons x a ih =>
    cases b with
    | nil => simp [toPys, PyData.eqvAll]
    | cons y b =>
      have e : PyData.eqv (toPy (.int x)) (toPy (.int y)) = decide (x = y) := eqD_int x y
      simp only [List.map_cons, toPys, PyData.eqvAll, ih b, e]
      by_cases h1 : x = y <;> by_cases h2 : a = b <;> simp [h1, h2]
theorem eqD_tupI (a b : List Int) : eqD (.tup (a.map .int)) (.tup (b.map .int)) = decide (a = b) := by
  unfold eqD
  simp only [toPy, PyData.eqv]
  exact eqD_ints a b
theorem eqD_lst_nil (ds : List D) : eqD (.lst ds) (.lst []) = ds.isEmpty := by
  cases ds <;> (unfold eqD; simp only [toPy, toPys, PyData.eqv, PyData.eqvAll]; rfl)
theorem c_neN {ds : List D} {h : MH} (o : ds.all (okD 59) = true) : cmpW .NotEq (.bor ds) (.own []) h = some (!ds.isEmpty) ∧ cmpW .NotEq (.own ds) (.own []) h = some (!ds.isEmpty) ∧ cmpW .Eq (.own ds) (.own []) h = some ds.isEmpty := by
  have o1 : okD 60 (.lst ds) = true := o
  have o2 : okD 60 (.lst []) = true := rfl
  have e : eqW (.own ds) (.own []) h = some ds.isEmpty := by
    show (if okD 60 (.lst ds) && okD 60 (.lst []) then some (eqD (.lst ds) (.lst [])) else none) = _
    rw [o1, o2, eqD_lst_nil]; rfl
  have e' : eqW (.bor ds) (.own []) h = some ds.isEmpty := e
  refine ⟨?_, ?_, e⟩
  · show (eqW (.bor ds) (.own []) h).map _ = _
    rw [e']; rfl
  · show (eqW (.own ds) (.own []) h).map _ = _
    rw [e]; rfl
theorem ok_ints (ns : List Int) : (ns.map D.int).all (okD 59) = true := by
  rw [List.all_map]
  exact List.all_eq_true.mpr fun _ _ => rfl
theorem tup_ints (ns : List Int) (n : Nat) : okD (n + 1) (.tup (ns.map .int)) = true := by
  show (ns.map D.int).all (okD n) = true
  rw [List.all_map]
  exact List.all_eq_true.mpr fun _ _ => by cases n <;> rfl
/-! ### heaps -/
abbrev hpD (w : Int) (ps : List Int) : D := .tup [.int w, .tup (ps.map .int)]
structure Gh (w : Int) (ps : List Int) : Prop where
  w1 : 1 ≤ w
  w2 : w ≤ 126
  len : ps.length ≤ 30
  rng : ∀ p ∈ ps, 1 ≤ p ∧ p ≤ w - 1
  srt : ps.Pairwise (· ≤ ·)
theorem wt_rng {ws : List Int} (W : Wok ws) {c : Nat} (hc : isL ws.length c) : 1 ≤ wt ws c ∧ wt ws c ≤ 9 := by
  have key : c - 97 < ws.length := by
    rcases hc with rfl | rfl | ⟨e, rfl⟩
    · have := W.len; omega
    · have := W.len; omega
    · omega
  unfold wt
  rw [List.getElem?_eq_getElem key]
  exact W.rng _ (List.getElem_mem key)
theorem wtS_app (ws : List Int) (a b : List Nat) : wtS ws (a ++ b) = wtS ws a + wtS ws b := by unfold wtS; rw [List.map_append, List.sum_append]
theorem wtS_rng {ws : List Int} (W : Wok ws) : ∀ {cs : List Nat}, (∀ c ∈ cs, isL ws.length c) → (cs.length : Int) ≤ wtS ws cs ∧ wtS ws cs ≤ 9 * cs.length
  | [], _ => by simp [wtS]
  | c :: cs, h => by
    have i := wtS_rng W (cs := cs) fun x hx => h x (List.mem_cons_of_mem _ hx)
    have j := wt_rng W (h c List.mem_cons_self)
    have e : wtS ws (c :: cs) = wt ws c + wtS ws cs := by unfold wtS; rw [List.map_cons, List.sum_cons]
    rw [e, List.length_cons]
    omega
theorem wt_cut {ws : List Int} (W : Wok ws) {cs : List Nat} (hc : ∀ c ∈ cs, isL ws.length c) {k : Nat} (k0 : 0 < k) (k1 : k < cs.length) : 1 ≤ wtS ws (cs.take k) ∧ wtS ws (cs.take k) ≤ wtS ws cs - 1 ∧ 1 ≤ wtS ws (cs.drop k) ∧ wtS ws (cs.drop k) ≤ wtS ws cs - 1 := by
  have a := wtS_rng W (cs := cs.take k) fun c h => hc c (List.mem_of_mem_take h)
  have b := wtS_rng W (cs := cs.drop k) fun c h => hc c (List.mem_of_mem_drop h)
  have e : wtS ws cs = wtS ws (cs.take k) + wtS ws (cs.drop k) := by rw [← wtS_app, List.take_append_drop]
  rw [List.length_take] at a
  rw [List.length_drop] at b
  omega
/-- the pieces as the law tells them -/
def begL (ws : List Int) (cs : List Nat) : List Int := (List.range (cs.length - 1)).map fun i => wtS ws (cs.take (i + 1))
def endL (ws : List Int) (cs : List Nat) : List Int := (List.range (cs.length - 1)).map fun i => wtS ws (cs.drop (i + 1))
def heapL (ws : List Int) (cs : List Nat) : List Int := sortI (begL ws cs ++ endL ws cs)
theorem heapL_len (ws : List Int) (cs : List Nat) : (heapL ws cs).length = 2 * (cs.length - 1) := by
  unfold heapL begL endL
  rw [sortI_len, List.length_append, List.length_map, List.length_map, List.length_range]; omega
theorem heapL_gh {ws : List Int} {cs : List Nat} (W : Wok ws) (C : Cok ws cs) : Gh (wtS ws cs) (heapL ws cs) := by
  have a := wtS_rng W C.ok
  have lo := C.lo
  have hi := C.hi
  refine ⟨by omega, by omega, by rw [heapL_len]; omega, fun p hp => ?_, sortI_sorted _⟩
  rcases List.mem_append.mp (sortI_mem.mp hp) with h | h
  · obtain ⟨i, hi, rfl⟩ := List.mem_map.mp h
    have := wt_cut W C.ok (k := i + 1) (by omega) (by have := List.mem_range.mp hi; omega)
    exact ⟨this.1, this.2.1⟩
  · obtain ⟨i, hi, rfl⟩ := List.mem_map.mp h
    have := wt_cut W C.ok (k := i + 1) (by omega) (by have := List.mem_range.mp hi; omega)
    exact ⟨this.2.2.1, this.2.2.2⟩
end Lw

set_option maxHeartbeats 4000000
namespace Lw
open PySem Dn L2 PyProof.Rows
local macro_rules | `(tactic| walk_at "v") => `(tactic| ((with_reducible refine wO_ex ?_); (refine Exists.intro ?_ (And.intro ?_ ?_)); rotate_left; first | with_reducible exact c_eqI | with_reducible exact c_neI | with_reducible exact c_eqS | with_reducible exact c_neS | with_reducible assumption | with_reducible exact len_tup | with_reducible exact len_lst | with_reducible exact len_bor | with_reducible exact len_own | exact rfl | exact m_r (by decide) | exact m_l (by decide)))
local macro_rules | `(tactic| walk_at "1") => `(tactic| first
  | with_reducible refine wS_seq ?_ | with_reducible refine wS_if ?_ | with_reducible refine wS_set ?_ | with_reducible refine wS_ret ?_ | with_reducible refine wS_nil ?_
  | ((with_reducible refine wE_var ?_); refine ⟨_, rfl, _, rfl, ?_⟩)
  | with_reducible refine wE_cst ?_ | with_reducible refine wE_p2 ?_ | with_reducible refine wE_app ?_ | with_reducible refine wE_nil ?_ | with_reducible refine wE_cons ?_ | with_reducible refine wE_cmp ?_ | with_reducible refine wE_chain ?_
  | with_reducible refine wE_asB ?_ | with_reducible refine wE_tru ?_ | with_reducible refine wE_not ?_ | with_reducible refine wE_notW ?_ | with_reducible refine wE_neg ?_ | with_reducible refine wE_and1 ?_ | with_reducible refine wE_and ?_
  | with_reducible refine wE_or1 ?_ | with_reducible refine wE_or ?_ | with_reducible refine wE_if ?_ | with_reducible refine wE_andV1 ?_ | with_reducible refine wE_andV ?_ | with_reducible refine wE_orV1 ?_ | with_reducible refine wE_orV ?_
  | with_reducible refine wE_isa ?_ | with_reducible refine wE_dat ?_ | with_reducible refine wE_arg ?_ | with_reducible refine wE_shr ?_ | with_reducible refine wE_rv ?_ | with_reducible refine wE_part0 ?_ | with_reducible refine wE_part1 ?_
  | with_reducible refine wE_cnt ?_ | with_reducible refine wE_sset ?_ | with_reducible refine wE_sl ?_ | with_reducible refine wE_ms ?_ | with_reducible refine wE_call ?_ | with_reducible refine wE_try ?_ | with_reducible refine wE_word ?_ | with_reducible refine wE_iseq ?_ | with_reducible refine wE_iapp ?_ | with_reducible refine wE_lc ?_
  | with_reducible refine wS_cont ?_ | with_reducible refine wS_break ?_ | with_reducible refine wS_retN ?_ | ((with_reducible refine wS_retV ?_); refine ⟨_, rfl, rfl, ?_⟩) | with_reducible refine wS_drop ?_ | with_reducible refine wS_raise ?_ | ((with_reducible refine wS_frz ?_); refine ⟨_, rfl, ?_⟩) | ((with_reducible refine wS_frz' ?_); refine ⟨_, rfl, ?_⟩)
  | with_reducible refine wS_unp ?_ | ((with_reducible refine wS_aug ?_); refine ⟨_, rfl, ?_⟩) | ((with_reducible refine wS_own ?_); refine ⟨_, rfl, ?_⟩) | ((with_reducible refine wS_ownSet ?_); refine ⟨_, rfl, ?_⟩) | with_reducible refine wS_par2 ?_ | with_reducible refine wS_par3 ?_ | with_reducible refine wS_item ?_ | with_reducible refine wS_itemO ?_ | with_reducible refine wS_for ?_
  | with_reducible refine wI_t ?_ | with_reducible refine wI_f ?_
  | with_reducible refine wI_at (by assumption) ?_ | with_reducible refine wI_af (by assumption) ?_ | refine wI_at (by rfl) ?_ | refine wI_af (by rfl) ?_
  | ((fail_if_success (with_reducible refine wO_ex ?_)); (first | refine ⟨_, rfl, ?_⟩ | refine ⟨_, _, rfl, ?_⟩ | refine ⟨_, _, _, rfl, ?_⟩ | refine And.intro (by rfl) ?_)))
local macro_rules | `(tactic| walk_at "p") => `(tactic| repeat (first | walk_at "v" | walk_at "1"))

/-! ### a value bent at one place -/
theorem cut_leB (w : Str) (lo hi : Option Int) : (cutS w lo hi).length ≤ w.length := by
  unfold cutS Str.length
  simp only [List.size_toArray, List.length_take, List.length_drop, Array.length_toList]
  omega
theorem gx_int {b l n : Nat} {i : Int} (h : gdX b l n (.int i) = true) : i.natAbs < 10 ^ b := by cases n <;> exact of_decide_eq_true h
theorem gx_str {b l n : Nat} {x : Str} (h : gdX b l n (.str x) = true) : x.length ≤ l := by cases n <;> exact of_decide_eq_true h
theorem gx_intI {b l n : Nat} {i : Int} (h : i.natAbs < 10 ^ b) : gdX b l n (.int i) = true := by cases n <;> exact decide_eq_true h
theorem gx_strI {b l n : Nat} {x : Str} (h : x.length ≤ l) : gdX b l n (.str x) = true := by cases n <;> exact decide_eq_true h
theorem gx_bl {b l n : Nat} {c : Bool} : gdX b l n (.bl c) = true := by cases n <;> rfl
theorem app_lenB (a b : Str) : (a ++ b).length = a.length + b.length := by
  have e : (a ++ b).cps.toList = a.cps.toList ++ b.cps.toList := TL.tl_append a b
  have := congrArg List.length e
  rw [List.length_append, Array.length_toList, Array.length_toList, Array.length_toList] at this
  exact this
theorem rep_len (x : Str) (n : Nat) : (strRep x n).length = n * x.length := by
  unfold strRep Str.length
  simp only [List.size_toArray]
  rw [PyProof.Rows.lm_len_rep_flat, Array.length_toList]
theorem num_len (i : Int) {b : Nat} (h : i.natAbs < 10 ^ b) (hb : 1 ≤ b) : (Str.ofString (toString i)).length ≤ b + 1 := by
  have rl : ∀ m : Nat, m < 10 ^ b → (Nat.repr m).length ≤ b := fun m hm => by
    exact (Nat.length_repr_le_iff hb).mpr hm
  rw [PyProof.Rows.ofString_len]
  cases i with
  | ofNat m =>
    have := rl m h
    show (Nat.repr m).length ≤ _
    omega
  | negSucc m =>
    have := rl (m + 1) h
    show ("-" ++ Nat.repr (m + 1)).length ≤ _
    have h1 : "-".length = 1 := by first | rfl | decide
    simp [String.length_append]
    omega
theorem near_ok {n b l k : Nat} {h : MH} {v : D} {nx bk ct : Rho → MH → Prop} {R : Dn.W → MH → Prop} (b31 : 31 ≤ b) (b50 : b ≤ 50) (l10 : 18 ≤ l) (l300 : l ≤ 1000) (hv : gdX b l k v = true) (c : Can n h)
    (q : ∀ x h', gdX (b + 1) (3 * l) (k + 8) x = true → Can n h' → h'.length = h.length → R (.d x) h') :
    wS nx R bk ct NoEx (sSeq st__law_bent_1 (sSeq st__law_bent_5 (sSeq st__law_bent_6 sNil)) [some (.ref n), some (.d v), none, none, none] h) := by
  have up : ∀ x, gdX 31 10 6 x = true → gdX (b + 1) (3 * l) (k + 8) x = true := fun x hx => gx_mono (by omega) (by omega) 6 (k + 8) (by omega) x hx
  have hpb : (10 : Nat) ^ (b + 1) = 10 * 10 ^ b := by rw [Nat.pow_succ, Nat.mul_comm]
  have p70 : (10 : Nat) ^ b < 10 ^ 70 := Nat.pow_lt_pow_right (by decide) (by omega)
  have p31 : (10 : Nat) ^ 31 ≤ 10 ^ b := Nat.pow_le_pow_right (by decide) b31
  have p1 : (1 : Nat) < 10 ^ b := Nat.lt_of_lt_of_le (by decide) p31
  walk_at "p"
  refine wC_dr (p_anyX (n := n) 1 12 (by omega) c) ?_
  rintro x h1 gx c1 lh1
  walk_at "p"
  refine wC_dr (p_anyX (n := n) 1 12 (by omega) c1) ?_
  rintro y h2 gy c2 lh2
  walk_at "p"
  have gx' := up x gx
  have gy' := up y gy
  -- a pick from a row of good things
  have fin : ∀ L : List D, L ≠ [] → L.length < 1000 → (∀ d ∈ L, gdX (b + 1) (3 * l) (k + 8) d = true) → wS nx R bk ct NoEx (sSeq st__law_bent_6 sNil [some (.ref n), some (.d v), some (.d (.lst L)), none, none] h2) := fun L l0 l1 ok => by
    walk_at "p"
    refine wC_dr (p_pick c2 l0 l1) fun z h3 m c3 lh3 => ?_
    walk_at "p"
    exact q z h3 (ok z m) c3 (by omega)
  have fin2 := fin [x, y] (by simp) (by simp) (fun d hd => by
    simp at hd
    rcases hd with rfl | rfl
    · exact gx'
    · exact gy')
  cases v with
  | fr x => cases k <;> cases hv
  | non => repeat (first | exact fin2 | walk_at "v" | walk_at "1")
  | tup ds => repeat (first | exact fin2 | walk_at "v" | walk_at "1")
  | lst ds => repeat (first | exact fin2 | walk_at "v" | walk_at "1")
  | str s =>
    have hs := gx_str hv
    have e1 : addW (.d (.str s)) (.d (.str "b")) h2 = some (.d (.str (s ++ "b"))) := a_str (by have : (Str.ofString "b").length = 1 := rfl; unfold LIM; omega)
    have e2 : mulW (.d (.str s)) (.d (.int 3)) h2 = some (.d (.str (strRep s 3))) := if_pos ⟨by decide, by decide, by omega⟩
    have e3 : slW (.d (.str s)) (some 1) none h2 = some (.d (.str (cutS s (some 1) none))) := if_pos (by unfold LIM; omega)
    have core := fin [x, y, .str "a", .str "c", .str "d", .str (s ++ "b"), .str (strRep s 3), .str (cutS s (some 1) none)] (by simp) (by simp) (fun d hd => by
      simp only [List.mem_cons, List.not_mem_nil, or_false] at hd
      rcases hd with rfl | rfl | rfl | rfl | rfl | rfl | rfl | rfl
      · exact gx'
      · exact gy'
      · exact gx_strI (by have : (Str.ofString "a").length = 1 := rfl; omega)
      · exact gx_strI (by have : (Str.ofString "c").length = 1 := rfl; omega)
      · exact gx_strI (by have : (Str.ofString "d").length = 1 := rfl; omega)
      · exact gx_strI (by rw [app_lenB]; have : (Str.ofString "b").length = 1 := rfl; omega)
      · exact gx_strI (by rw [rep_len]; omega)
      · exact gx_strI (by have := cut_leB s (some 1) none; omega))
    repeat (first | exact core | walk_at "v" | walk_at "1")
  | int i =>
    have hi := gx_int hv
    have e1 : strF [.d (.int i)] h2 = some (.d (.str (toString i))) := if_pos (Nat.lt_trans hi p70)
    have nl := num_len i hi (by omega)
    have core := fin [x, y, .int (i + 1), .int (i - 1), .bl (!(i != 0)), .str (toString i), .int (-i), .int (9 * i)] (by simp) (by simp) (fun d hd => by
      simp only [List.mem_cons, List.not_mem_nil, or_false] at hd
      rcases hd with rfl | rfl | rfl | rfl | rfl | rfl | rfl | rfl
      · exact gx'
      · exact gy'
      · exact gx_intI (by rw [hpb]; omega)
      · exact gx_intI (by rw [hpb]; omega)
      · exact gx_bl
      · exact gx_strI (by omega)
      · exact gx_intI (by rw [hpb]; omega)
      · exact gx_intI (by rw [hpb, Int.natAbs_mul]; show 9 * i.natAbs < _; omega))
    repeat (first | exact core | walk_at "v" | walk_at "1")
  | bl t =>
    have core := fin [x, y, .int (b2 t + 1), .int (b2 t - 1), .bl (!t), .str (boolS t), .int (-(b2 t)), .int (9 * b2 t)] (by simp) (by simp) (fun d hd => by
      have bt : b2 t = 0 ∨ b2 t = 1 := by cases t <;> simp [b2]
      simp only [List.mem_cons, List.not_mem_nil, or_false] at hd
      rcases hd with rfl | rfl | rfl | rfl | rfl | rfl | rfl | rfl
      · exact gx'
      · exact gy'
      · exact gx_intI (by rw [hpb]; omega)
      · exact gx_intI (by rw [hpb]; omega)
      · exact gx_bl
      · exact gx_strI (by cases t <;> (show _ ≤ _; have : (boolS true).length = 4 := rfl; have : (boolS false).length = 5 := rfl; omega))
      · exact gx_intI (by rw [hpb]; omega)
      · exact gx_intI (by rw [hpb]; omega))
    repeat (first | exact core | walk_at "v" | walk_at "1")
theorem eqD_tup_e (ds : List D) : eqD (.tup ds) (.tup []) = ds.isEmpty := by
  cases ds with
  | nil => exact eqD_refl _
  | cons d ds => exact eqD_tup_nil (by simp)
theorem ix_tup {ds : List D} {i : Int} {n : Nat} {h : MH} (e : i = n) (l : n < ds.length) : ixW (.d (.tup ds)) (.d (.int i)) h = some (.d ds[n]) := by
  subst e
  have e : L2.atI ds (n : Int) = some ds[n] := by
    unfold L2.atI L2.ixN
    rw [if_pos (by omega), if_pos (by omega)]
    show ds[((n : Int)).toNat]? = _
    rw [show ((n : Int)).toNat = n from rfl, List.getElem?_eq_getElem l]
  show (L2.atI ds (n : Int)).map Dn.W.d = _
  rw [e]; rfl
theorem cut_sub {ds : List D} {lo hi : Option Int} {d : D} (h : d ∈ Dn.cutD ds lo hi) : d ∈ ds := List.mem_of_mem_drop (List.mem_of_mem_take h)
theorem p_bent {n b l : Nat} (b31 : 31 ≤ b) (b50 : b ≤ 50) (l10 : 18 ≤ l) (l300 : l ≤ 1000) : ∀ (k f : Nat) {h : MH} {v : D}, k + 1 ≤ f → k ≤ 40 → gdX b l k v = true → Can n h → DrawsW (phi__law_bent f [.ref n, .d v] h) n h (fun d => gdX (b + 1) (3 * l) (k + 8) d = true)
  | _, 0, _, _, hf, _, _, _ => by omega
  | k, f + 1, h, v, hf, hk, hv, c => by
    have R : ∀ (nx bk ct : Rho → MH → Prop) (h1 : MH), Can n h1 → h1.length = h.length → wS nx (fun w h' => ∃ x, datW w = some (.d x) ∧ gdX (b + 1) (3 * l) (k + 8) x = true ∧ Can n h' ∧ h'.length = h.length) bk ct NoEx (sSeq st__law_bent_1 (sSeq st__law_bent_5 (sSeq st__law_bent_6 sNil)) [some (.ref n), some (.d v), none, none, none] h1) := fun nx bk ct h1 c1 l1 =>
      near_ok b31 b50 l10 l300 hv c1 fun x h' g c' l' => ⟨x, rfl, g, c', by omega⟩
    refine drawsWE_of (w__law_bent ?_)
    cases v with
    | fr x => cases k <;> cases hv
    | tup ds =>
      cases k with
      | zero => cases hv
      | succ k =>
        obtain ⟨hl, hd⟩ := gx_tup hv
        have ok : okD 60 (.tup ds) = true := by
          show ds.all (okD 59) = true
          exact List.all_eq_true.mpr fun d hd' => okD_mono k 59 (by omega) d (by
            have key : ∀ (m : Nat) (d : D), gdX b l m d = true → okD m d = true := by
              intro m
              induction m with
              | zero => intro d hd; cases d <;> first | rfl | (cases hd)
              | succ m ih =>
                intro d hd
                cases d with
                | tup es => show es.all (okD m) = true; exact List.all_eq_true.mpr fun x hx => ih x ((gx_tup hd).2 x hx)
                | lst es =>
                  have h2 : gdX b l (m + 1) (.tup es) = true := hd
                  show es.all (okD m) = true; exact List.all_eq_true.mpr fun x hx => ih x ((gx_tup h2).2 x hx)
                | fr x => cases hd
                | _ => rfl
            exact key k d (hd d hd'))
        have ec : cmpW .Eq (.d (.tup ds)) (.d (.tup [])) h = some ds.isEmpty := by
          show (if okD 60 (.tup ds) && okD 60 (.tup []) then some (eqD (.tup ds) (.tup [])) else none) = _
          rw [ok, eqD_tup_e]; rfl
        walk_at "p"
        cases ee : ds.isEmpty with
        | true =>
          have core := fun nx bk ct => R nx bk ct h c rfl
          repeat (first | exact core _ _ _ | walk_at "v" | walk_at "1")
        | false =>
          have l0 : 0 < ds.length := by
            cases ds with
            | nil => cases ee
            | cons a ds => simp
          walk_at "p"
          refine wC_dr (p_pour c (by omega) (by omega)) ?_
          rintro _ h1 ⟨r, rfl, r0, r1⟩ c1 l1
          walk_at "p"
          refine wI_by (fun q => ?_) (fun q => ?_)
          · have core := fun nx bk ct => R nx bk ct h1 c1 l1
            repeat (first | exact core _ _ _ | walk_at "v" | walk_at "1")
          walk_at "p"
          refine wC_dr (p_pour c1 (by omega) (by omega)) ?_
          rintro _ h2 ⟨a, rfl, a0, a1⟩ c2 l2
          walk_at "p"
          refine wC_dr (p_pour c2 (by omega) (by omega)) ?_
          rintro _ h3 ⟨w, rfl, w0, w1⟩ c3 l3
          have up : ∀ d ∈ ds, gdX (b + 1) (3 * l) (k + 8) d = true := fun d hd' => gx_mono (by omega) (by omega) k (k + 8) (by omega) d (hd d hd')
          have aT : ∀ A B : List D, A.length ≤ 1000 → B.length ≤ 1000 → addW (.d (.tup A)) (.d (.tup B)) h3 = some (.d (.tup (A ++ B))) := fun A B ha hb => if_pos (by unfold LIM; omega)
          have cl : ∀ lo hi, (Dn.cutD ds lo hi).length ≤ ds.length := fun lo hi => cutD_len ds lo hi
          have cA : ∀ lo hi lo' hi', (∀ d ∈ Dn.cutD ds lo hi ++ Dn.cutD ds lo' hi', gdX (b + 1) (3 * l) (k + 8) d = true) ∧ (Dn.cutD ds lo hi ++ Dn.cutD ds lo' hi').length ≤ 3 * l := fun lo hi lo' hi' => ⟨fun d hd' => by
            rcases List.mem_append.mp hd' with h | h
            · exact up d (cut_sub h)
            · exact up d (cut_sub h), by
            have := cl lo hi; have := cl lo' hi'
            rw [List.length_append]; omega⟩
          walk_at "p"
          refine wI_by (fun q => ?_) (fun q => ?_)
          · have e := aT _ _ (by have := cl none (some a); omega : (Dn.cutD ds none (some a)).length ≤ 1000) (by have := cl (some (a + 1)) none; omega : (Dn.cutD ds (some (a + 1)) none).length ≤ 1000)
            walk_at "p"
            exact ⟨(gx_mk (cA _ _ _ _).2 (cA _ _ _ _).1).1, c3, by omega⟩
          walk_at "p"
          refine wI_by (fun q => ?_) (fun q => ?_)
          · have e := aT _ _ (by have := cl none (some (a + 1)); omega : (Dn.cutD ds none (some (a + 1))).length ≤ 1000) (by have := cl (some a) none; omega : (Dn.cutD ds (some a) none).length ≤ 1000)
            walk_at "p"
            exact ⟨(gx_mk (cA _ _ _ _).2 (cA _ _ _ _).1).1, c3, by omega⟩
          walk_at "p"
          refine wI_by (fun q => ?_) (fun q => ?_)
          · walk_at "p"
            exact ⟨(gx_mk (by rw [List.length_reverse]; omega) fun d hd' => up d (List.mem_reverse.mp hd')).1, c3, by omega⟩
          walk_at "p"
          refine wI_by (fun q => ?_) (fun q => ?_)
          · walk_at "p"
            exact ⟨(gx_mk (by omega) up).2, c3, by omega⟩
          have ix := ix_tup (ds := ds) (i := a) (n := a.toNat) (h := h3) (by omega) (by omega)
          walk_at "p"
          refine wC_drW (p_bent b31 b50 l10 l300 k f (by omega) (by omega) (hd _ (List.getElem_mem (by omega))) c3) ?_
          intro w' x h4 ex gx c4 l4 k4
          refine wO_of ex ?_
          have e1 : addW (.d (.tup (Dn.cutD ds none (some a)))) (.d (.tup [x])) h4 = some (.d (.tup (Dn.cutD ds none (some a) ++ [x]))) := if_pos (by have := cl none (some a); unfold LIM; simp; omega)
          have e2 : addW (.d (.tup (Dn.cutD ds none (some a) ++ [x]))) (.d (.tup (Dn.cutD ds (some (a + 1)) none))) h4 = some (.d (.tup ((Dn.cutD ds none (some a) ++ [x]) ++ Dn.cutD ds (some (a + 1)) none))) := if_pos (by have := cl none (some a); have := cl (some (a + 1)) none; unfold LIM; simp; omega)
          walk_at "p"
          refine ⟨(gx_mk (by have := cl none (some a); have := cl (some (a + 1)) none; simp; omega) fun d hd' => ?_).1, c4, by omega⟩
          rcases List.mem_append.mp hd' with h' | h'
          · rcases List.mem_append.mp h' with h' | h'
            · exact up d (cut_sub h')
            · rw [List.mem_singleton.mp h']; exact gx
          · exact up d (cut_sub h')
    | _ =>
      have core := fun nx bk ct => R nx bk ct h c rfl
      repeat (first | exact core _ _ _ | walk_at "v" | walk_at "1")
end Lw

set_option maxHeartbeats 4000000
namespace Lw
open PySem Dn L2 PyProof.Rows
local macro_rules | `(tactic| walk_at "v") => `(tactic| ((with_reducible refine wO_ex ?_); (refine Exists.intro ?_ (And.intro ?_ ?_)); rotate_left; first | with_reducible exact c_eqI | with_reducible exact c_neI | with_reducible exact c_eqS | with_reducible exact c_neS | with_reducible assumption | with_reducible exact len_tup | with_reducible exact len_lst | with_reducible exact len_bor | with_reducible exact len_own | exact rfl | exact m_r (by decide) | exact m_l (by decide)))
local macro_rules | `(tactic| walk_at "1") => `(tactic| first
  | with_reducible refine wS_seq ?_ | with_reducible refine wS_if ?_ | with_reducible refine wS_set ?_ | with_reducible refine wS_ret ?_ | with_reducible refine wS_nil ?_
  | ((with_reducible refine wE_var ?_); refine ⟨_, rfl, _, rfl, ?_⟩)
  | with_reducible refine wE_cst ?_ | with_reducible refine wE_p2 ?_ | with_reducible refine wE_app ?_ | with_reducible refine wE_nil ?_ | with_reducible refine wE_cons ?_ | with_reducible refine wE_cmp ?_ | with_reducible refine wE_chain ?_
  | with_reducible refine wE_asB ?_ | with_reducible refine wE_tru ?_ | with_reducible refine wE_not ?_ | with_reducible refine wE_notW ?_ | with_reducible refine wE_neg ?_ | with_reducible refine wE_and1 ?_ | with_reducible refine wE_and ?_
  | with_reducible refine wE_or1 ?_ | with_reducible refine wE_or ?_ | with_reducible refine wE_if ?_ | with_reducible refine wE_andV1 ?_ | with_reducible refine wE_andV ?_ | with_reducible refine wE_orV1 ?_ | with_reducible refine wE_orV ?_
  | with_reducible refine wE_isa ?_ | with_reducible refine wE_dat ?_ | with_reducible refine wE_arg ?_ | with_reducible refine wE_shr ?_ | with_reducible refine wE_rv ?_ | with_reducible refine wE_part0 ?_ | with_reducible refine wE_part1 ?_
  | with_reducible refine wE_cnt ?_ | with_reducible refine wE_sset ?_ | with_reducible refine wE_sl ?_ | with_reducible refine wE_ms ?_ | with_reducible refine wE_call ?_ | with_reducible refine wE_try ?_ | with_reducible refine wE_word ?_ | with_reducible refine wE_iseq ?_ | with_reducible refine wE_iapp ?_ | with_reducible refine wE_lc ?_
  | with_reducible refine wS_cont ?_ | with_reducible refine wS_break ?_ | with_reducible refine wS_retN ?_ | ((with_reducible refine wS_retV ?_); refine ⟨_, rfl, rfl, ?_⟩) | with_reducible refine wS_drop ?_ | with_reducible refine wS_raise ?_ | ((with_reducible refine wS_frz ?_); refine ⟨_, rfl, ?_⟩) | ((with_reducible refine wS_frz' ?_); refine ⟨_, rfl, ?_⟩)
  | with_reducible refine wS_unp ?_ | ((with_reducible refine wS_aug ?_); refine ⟨_, rfl, ?_⟩) | ((with_reducible refine wS_own ?_); refine ⟨_, rfl, ?_⟩) | ((with_reducible refine wS_ownSet ?_); refine ⟨_, rfl, ?_⟩) | with_reducible refine wS_par2 ?_ | with_reducible refine wS_par3 ?_ | with_reducible refine wS_item ?_ | with_reducible refine wS_itemO ?_ | with_reducible refine wS_for ?_
  | with_reducible refine wI_t ?_ | with_reducible refine wI_f ?_
  | with_reducible refine wI_at (by assumption) ?_ | with_reducible refine wI_af (by assumption) ?_ | refine wI_at (by rfl) ?_ | refine wI_af (by rfl) ?_
  | ((fail_if_success (with_reducible refine wO_ex ?_)); (first | refine ⟨_, rfl, ?_⟩ | refine ⟨_, _, rfl, ?_⟩ | refine ⟨_, _, _, rfl, ?_⟩ | refine And.intro (by rfl) ?_)))
local macro_rules | `(tactic| walk_at "p") => `(tactic| repeat (first | walk_at "v" | walk_at "1"))


section
variable {h : MH} {rho : Rho} {T : Tgt} {me : Den Dn.W} {mt : Den Bool}
theorem lc_mapE {Q : List D → MH → Prop} {ds ys : List D} (g : D → D) (e : ds.map g = ys) (H : ∀ d ∈ ds, lcM T me rho h g d) (l : ds.length ≤ LIM) (q : Q ys h) : ∃ ys h2, lcGo T dYes me rho ds h = some (ys, h2) ∧ ys.length ≤ LIM ∧ Q ys h2 := by
  subst e; exact lc_map g H l q
theorem lc_filtE {Q : List D → MH → Prop} {ds ys : List D} (p : D → Bool) (g : D → D) (e : (ds.filter p).map g = ys) (H : ∀ d ∈ ds, lcP T mt me rho h p g d) (l : ds.length ≤ LIM) (q : Q ys h) : ∃ ys h2, lcGo T mt me rho ds h = some (ys, h2) ∧ ys.length ≤ LIM ∧ Q ys h2 := by
  subst e; exact lc_filt p g H l q
/-! ### leaves of rows -/
theorem a_lst {A B : List D} (l : A.length + B.length ≤ LIM) : addW (.d (.lst A)) (.d (.lst B)) h = some (.own (A ++ B)) ∧ addW (.own A) (.own B) h = some (.own (A ++ B)) ∧ addW (.d (.lst A)) (.own B) h = some (.own (A ++ B)) ∧ addW (.own A) (.d (.lst B)) h = some (.own (A ++ B)) := ⟨if_pos l, if_pos l, if_pos l, if_pos l⟩
theorem s_int {ns : List Int} (l : ns.length ≤ 1000) : sortF [.own (ns.map .int)] h = some (.own ((sortI ns).map .int)) ∧ sortF [.bor (ns.map .int)] h = some (.own ((sortI ns).map .int)) ∧ sortF [.d (.tup (ns.map .int))] h = some (.own ((sortI ns).map .int)) ∧ sortF [.d (.lst (ns.map .int))] h = some (.own ((sortI ns).map .int)) := by
  have e : (if sortableB (ns.map .int) = true then some (Dn.W.own (sortD (ns.map .int))) else none) = some (.own ((sortI ns).map .int)) := by rw [if_pos (sortable_ints l), sortD_ints]
  exact ⟨e, e, e, e⟩
theorem len_cs {cs : List Nat} (l : cs.length ≤ LIM) : lenF [.d (.str (cS cs))] h = some (.d (.int cs.length)) := by
  rw [l_str (by rw [cS_len]; exact l), cS_len]
theorem ix_int {ns : List Int} {i : Int} {n : Nat} (e : i = n) (l : n < ns.length) : ixW (.d (.tup (ns.map .int))) (.d (.int i)) h = some (.d (.int ns[n])) := by
  subst e
  have e : L2.atI (ns.map D.int) (n : Int) = some (.int ns[n]) := by
    unfold L2.atI L2.ixN
    rw [if_pos (by omega), if_pos (by rw [List.length_map]; omega)]
    show (ns.map D.int)[(n : Int).toNat]? = _
    rw [show ((n : Int)).toNat = n from rfl, List.getElem?_map, List.getElem?_eq_getElem l]; rfl
  show (L2.atI (ns.map D.int) (n : Int)).map Dn.W.d = _
  rw [e]; rfl
theorem sl_to {cs : List Nat} {k : Int} {n : Nat} (l : cs.length ≤ LIM) (e : k = n) : slW (.d (.str (cS cs))) none (some k) h = some (.d (.str (cS (cs.take n)))) := by
  subst e; rw [← cut_take]; exact if_pos (by rw [cS_len]; exact l)
theorem sl_from {cs : List Nat} {k : Int} {n : Nat} (l : cs.length ≤ LIM) (e : k = n) : slW (.d (.str (cS cs))) (some k) none h = some (.d (.str (cS (cs.drop n)))) := by
  subst e; rw [← cut_drop]; exact if_pos (by rw [cS_len]; exact l)
end
theorem p_law_int {v : D} {lo hi : Int} {h : MH} (hv : okD 60 v = true) : phi__law_int [.d v, .d (.int lo), .d (.int hi)] h = some (.ok (.d (.bl (isInt v lo hi))), h) := by
  have key : ∀ i : Int, phi__law_int [.d (.int i), .d (.int lo), .d (.int hi)] h = some (.ok (.d (.bl (decide (lo ≤ i) && decide (i ≤ hi)))), h) := fun i => by
    refine eq_of (w__law_int ?_)
    walk_at "p"
    refine wI_by (fun q => ?_) (fun q => ?_)
    · walk_at "p"
      exact ⟨by rw [q, Bool.true_and], rfl⟩
    · walk_at "p"
      exact ⟨by rw [q, Bool.false_and], rfl⟩
  cases v with
  | int i => exact key i
  | fr x => cases hv
  | _ => rfl
theorem p_idx {ws : List Int} {c : Nat} {h : MH} (W : Wok ws) (hc : isL ws.length c) : e__law_weight_1 [some (.d (wD ws)), none, some (.d (cD c))] h = some (.ok (.d (.int (wt ws c))), h) := by
  rcases shape W.len with ⟨a, b, rfl⟩ | ⟨a, b, d, rfl⟩
  · rcases hc with rfl | rfl | ⟨z, rfl⟩
    · kernel_rfl
    · kernel_rfl
    · cases z
  · rcases hc with rfl | rfl | ⟨z, rfl⟩ <;> kernel_rfl
def dCh (f : Nat → Int) : D → D
  | .str x => .int (f (x.cps.toList.headD 0))
  | d => d
theorem p_law_weight {ws : List Int} {cs : List Nat} {h : MH} (W : Wok ws) (hl : cs.length ≤ 1000) (hc : ∀ c ∈ cs, isL ws.length c) : phi__law_weight [.d (wD ws), .d (.str (cS cs))] h = some (.ok (.d (.int (wtS ws cs))), h) := by
  refine eq_of (w__law_weight ?_)
  walk_at "p"
  refine lc_mapE (dCh (wt ws)) (ys := (cs.map (wt ws)).map .int) ?_ ?_ ?_ ?_
  · rw [charsD_cS, List.map_map, List.map_map]; rfl
  · intro d hd
    rw [charsD_cS] at hd
    obtain ⟨c, hc', rfl⟩ := List.mem_map.mp hd
    exact ⟨_, rfl, wE_eq (p_idx W (hc c hc')) ⟨rfl, rfl⟩⟩
  · rw [charsD_cS, List.length_map]; unfold LIM; omega
  · walk_at "p"
    refine wO_of (w := .d (.int (wtS ws cs))) ?_ ?_
    · show (intsD ((cs.map (wt ws)).map .int)).map _ = _
      rw [Dn.ints_map]; rfl
    · walk_at "p"
      rfl
def dNum (f : Int → Int) : D → D
  | .int x => .int (f x)
  | d => d
theorem rng_map (f : Nat → Int) (n : Nat) : (rangeD 1 n).map (dNum fun x => f (x.toNat - 1)) = ((List.range n).map f).map .int := by
  unfold rangeD
  rw [List.map_map, List.map_map]
  refine List.map_congr_left fun i _ => ?_
  show D.int (f (((1 : Int) + (i : Int)).toNat - 1)) = _
  rw [show ((1 : Int) + (i : Int)).toNat - 1 = i by omega]; rfl
theorem p_law_heap {ws : List Int} {cs : List Nat} {h : MH} (W : Wok ws) (C : Cok ws cs) : phi__law_heap [.d (wD ws), .d (.str (cS cs))] h = some (.ok (.d (hpD (wtS ws cs) (heapL ws cs))), h) := by
  have lo := C.lo
  have hi := C.hi
  have l0 : cs.length ≤ LIM := by unfold LIM; omega
  have l1 := len_cs (h := h) l0
  have r1 : rng2W [.d (.int 1), .d (.int cs.length)] = some (rangeD 1 (cs.length - 1)) := by
    rw [r_2 (by unfold L62; omega)]
    congr 2; omega
  have ll : (rangeD 1 (cs.length - 1)).length ≤ LIM := by unfold rangeD LIM; rw [List.length_map, List.length_range]; omega
  refine eq_of (w__law_heap ?_)
  walk_at "p"
  refine lc_mapE _ (rng_map (fun i => wtS ws (cs.take (i + 1))) (cs.length - 1)) ?_ ll ?_
  · intro d hd
    obtain ⟨i, hi, rfl⟩ := List.mem_map.mp hd
    refine ⟨_, rfl, ?_⟩
    have q := p_law_weight (h := h) (cs := cs.take (i + 1)) W (by rw [List.length_take]; omega) (fun c hc => C.ok c (List.mem_of_mem_take hc))
    walk_at "p"
    refine wO_of (sl_to (n := i + 1) l0 (by omega)) ?_
    walk_at "p"
    refine wC_eq q rfl ?_
    walk_at "p"
    refine ⟨?_, rfl⟩
    show _ = Dn.W.d (.int (wtS ws (cs.take (((1 : Int) + (i : Int)).toNat - 1 + 1))))
    rw [show ((1 : Int) + (i : Int)).toNat - 1 + 1 = i + 1 by omega]
  walk_at "p"
  refine lc_mapE _ (rng_map (fun i => wtS ws (cs.drop (i + 1))) (cs.length - 1)) ?_ ll ?_
  · intro d hd
    obtain ⟨i, hi, rfl⟩ := List.mem_map.mp hd
    refine ⟨_, rfl, ?_⟩
    have q := p_law_weight (h := h) (cs := cs.drop (i + 1)) W (by rw [List.length_drop]; omega) (fun c hc => C.ok c (List.mem_of_mem_drop hc))
    walk_at "p"
    refine wO_of (sl_from (n := i + 1) l0 (by omega)) ?_
    walk_at "p"
    refine wC_eq q rfl ?_
    walk_at "p"
    refine ⟨?_, rfl⟩
    show _ = Dn.W.d (.int (wtS ws (cs.drop (((1 : Int) + (i : Int)).toNat - 1 + 1))))
    rw [show ((1 : Int) + (i : Int)).toNat - 1 + 1 = i + 1 by omega]
  walk_at "p"
  refine wC_eq (p_law_weight W (by omega) C.ok) rfl ?_
  walk_at "p"
  refine wO_of (a_lst ?_).1 ?_
  · simp [LIM]; omega
  walk_at "p"
  rw [← List.map_append]
  refine wO_of (s_int ?_).1 ?_
  · simp; omega
  walk_at "p"
  rfl
end Lw

set_option maxHeartbeats 4000000
namespace Lw
open PySem Dn L2 PyProof.Rows
local macro_rules | `(tactic| walk_at "v") => `(tactic| ((with_reducible refine wO_ex ?_); (refine Exists.intro ?_ (And.intro ?_ ?_)); rotate_left; first | with_reducible exact c_eqI | with_reducible exact c_neI | with_reducible exact c_eqS | with_reducible exact c_neS | with_reducible assumption | with_reducible exact len_tup | with_reducible exact len_lst | with_reducible exact len_bor | with_reducible exact len_own | exact rfl | exact m_r (by decide) | exact m_l (by decide)))
local macro_rules | `(tactic| walk_at "1") => `(tactic| first
  | with_reducible refine wS_seq ?_ | with_reducible refine wS_if ?_ | with_reducible refine wS_set ?_ | with_reducible refine wS_ret ?_ | with_reducible refine wS_nil ?_
  | ((with_reducible refine wE_var ?_); refine ⟨_, rfl, _, rfl, ?_⟩)
  | with_reducible refine wE_cst ?_ | with_reducible refine wE_p2 ?_ | with_reducible refine wE_app ?_ | with_reducible refine wE_nil ?_ | with_reducible refine wE_cons ?_ | with_reducible refine wE_cmp ?_ | with_reducible refine wE_chain ?_
  | with_reducible refine wE_asB ?_ | with_reducible refine wE_tru ?_ | with_reducible refine wE_not ?_ | with_reducible refine wE_notW ?_ | with_reducible refine wE_neg ?_ | with_reducible refine wE_and1 ?_ | with_reducible refine wE_and ?_
  | with_reducible refine wE_or1 ?_ | with_reducible refine wE_or ?_ | with_reducible refine wE_if ?_ | with_reducible refine wE_andV1 ?_ | with_reducible refine wE_andV ?_ | with_reducible refine wE_orV1 ?_ | with_reducible refine wE_orV ?_
  | with_reducible refine wE_isa ?_ | with_reducible refine wE_dat ?_ | with_reducible refine wE_arg ?_ | with_reducible refine wE_shr ?_ | with_reducible refine wE_rv ?_ | with_reducible refine wE_part0 ?_ | with_reducible refine wE_part1 ?_
  | with_reducible refine wE_cnt ?_ | with_reducible refine wE_sset ?_ | with_reducible refine wE_sl ?_ | with_reducible refine wE_ms ?_ | with_reducible refine wE_call ?_ | with_reducible refine wE_try ?_ | with_reducible refine wE_word ?_ | with_reducible refine wE_iseq ?_ | with_reducible refine wE_iapp ?_ | with_reducible refine wE_lc ?_
  | with_reducible refine wS_cont ?_ | with_reducible refine wS_break ?_ | with_reducible refine wS_retN ?_ | ((with_reducible refine wS_retV ?_); refine ⟨_, rfl, rfl, ?_⟩) | with_reducible refine wS_drop ?_ | with_reducible refine wS_raise ?_ | ((with_reducible refine wS_frz ?_); refine ⟨_, rfl, ?_⟩) | ((with_reducible refine wS_frz' ?_); refine ⟨_, rfl, ?_⟩)
  | with_reducible refine wS_unp ?_ | ((with_reducible refine wS_aug ?_); refine ⟨_, rfl, ?_⟩) | ((with_reducible refine wS_own ?_); refine ⟨_, rfl, ?_⟩) | ((with_reducible refine wS_ownSet ?_); refine ⟨_, rfl, ?_⟩) | with_reducible refine wS_par2 ?_ | with_reducible refine wS_par3 ?_ | with_reducible refine wS_item ?_ | with_reducible refine wS_itemO ?_ | with_reducible refine wS_for ?_
  | with_reducible refine wI_t ?_ | with_reducible refine wI_f ?_
  | with_reducible refine wI_at (by assumption) ?_ | with_reducible refine wI_af (by assumption) ?_ | refine wI_at (by rfl) ?_ | refine wI_af (by rfl) ?_
  | ((fail_if_success (with_reducible refine wO_ex ?_)); (first | refine ⟨_, rfl, ?_⟩ | refine ⟨_, _, rfl, ?_⟩ | refine ⟨_, _, _, rfl, ?_⟩ | refine And.intro (by rfl) ?_)))
local macro_rules | `(tactic| walk_at "p") => `(tactic| repeat (first | walk_at "v" | walk_at "1"))

theorem pop_int {ns : List Int} {r : Int} {h : MH} (r0 : 0 ≤ r) (r1 : r < ns.length) (l : ns.length ≤ 1000) : ∃ x, popF (ns.map .int) [.d (.int r)] h = some (x, (ns.eraseIdx r.toNat).map .int) := by
  have e : seqIndex? r (ns.map D.int).length = some r.toNat := by
    have := (L2.ixN_seq (n := ns.length) (i := r) (j := r.toNat) (by unfold L2.ixN; rw [if_pos r0, if_pos r1])).1
    rw [List.length_map]; exact this
  have l2 : r.toNat < (ns.map D.int).length := by rw [List.length_map]; omega
  refine ⟨(ns.map D.int)[r.toNat], ?_⟩
  show (if -9223372036854775808 ≤ r ∧ r < 9223372036854775808 then match seqIndex? r (ns.map D.int).length with
    | some k => ((ns.map D.int)[k]?).map fun y => (y, (ns.map D.int).eraseIdx k)
    | none => none
    else none) = _
  rw [if_pos (by omega), e]
  show ((ns.map D.int)[r.toNat]?).map _ = _
  rw [List.getElem?_eq_getElem l2, erase_map]
  rfl
theorem app_int {ns : List Int} {x : Int} {h : MH} (l : ns.length ≤ 1000) : appF (ns.map .int) [.d (.int x)] h = some (.non, (ns ++ [x]).map .int) := by
  show (if (ns.map D.int).length < LIM then some (D.non, ns.map D.int ++ [.int x]) else none) = _
  rw [if_pos (by rw [List.length_map]; unfold LIM; omega), List.map_append]
  rfl
/-! ### what is a heap -/
def srtD (ps : List D) : Bool := match intsD ps with
  | some ns => decide (ns.Pairwise (· ≤ ·))
  | none => false
def goodH : D → Bool
  | .tup [.int w, .tup ps] => (decide (1 ≤ w) && decide (w ≤ 126)) && (decide (ps.length ≤ 30) && (ps.all (fun d => isInt d 1 (w - 1)) && srtD ps))
  | _ => false
theorem ints_all {lo hi : Int} : ∀ {ps : List D}, ps.all (fun d => isInt d lo hi) = true → ∃ ns : List Int, ps = ns.map .int ∧ ∀ p ∈ ns, lo ≤ p ∧ p ≤ hi
  | [], _ => ⟨[], rfl, fun _ z => by cases z⟩
  | d :: ps, h => by
    rw [List.all_cons, Bool.and_eq_true] at h
    obtain ⟨ns, rfl, r⟩ := ints_all h.2
    cases d with
    | int i =>
      have h1 : (decide (lo ≤ i) && decide (i ≤ hi)) = true := h.1
      simp at h1
      exact ⟨i :: ns, rfl, fun p hp => by rcases List.mem_cons.mp hp with rfl | hp; exact h1; exact r p hp⟩
    | _ => cases h.1
theorem goodH_hp {w : Int} {ps : List Int} (G : Gh w ps) : goodH (hpD w ps) = true := by
  have e : (ps.map D.int).all (fun d => isInt d 1 (w - 1)) = true := by
    rw [List.all_map]
    exact List.all_eq_true.mpr fun p hp => by
      have := G.rng p hp
      show (decide (1 ≤ p) && decide (p ≤ w - 1)) = true
      simp; omega
  have s : srtD (ps.map .int) = true := by
    unfold srtD
    rw [Dn.ints_map]
    exact decide_eq_true G.srt
  show ((decide (1 ≤ w) && decide (w ≤ 126)) && (decide ((ps.map D.int).length ≤ 30) && ((ps.map D.int).all (fun d => isInt d 1 (w - 1)) && srtD (ps.map .int)))) = true
  rw [e, s, List.length_map]
  have := G.w1; have := G.w2; have := G.len
  simp; omega
theorem goodH_ex {v : D} (g : goodH v = true) : ∃ w ps, v = hpD w ps ∧ Gh w ps := by
  unfold goodH at g
  split at g
  · rename_i w ps
    simp only [Bool.and_eq_true, decide_eq_true_eq] at g
    obtain ⟨⟨g1, g2⟩, g3, g4, g5⟩ := g
    obtain ⟨ns, rfl, r⟩ := ints_all g4
    refine ⟨w, ns, rfl, g1, g2, by rw [List.length_map] at g3; exact g3, r, ?_⟩
    unfold srtD at g5
    rw [Dn.ints_map] at g5
    exact of_decide_eq_true g5
  · cases g
theorem two_of {α : Type} {ds : List α} (h : ds.length = 2) : ∃ a b, ds = [a, b] := by
  match ds, h with
  | [a, b], _ => exact ⟨a, b, rfl⟩
theorem adj_iff (ns : List Int) : ns.Pairwise (· ≤ ·) ↔ ∀ i : Nat, (h : i + 1 < ns.length) → ns[i] ≤ ns[i + 1] := by
  constructor
  · intro s i h
    exact List.pairwise_iff_getElem.mp s i (i + 1) (by omega) h (by omega)
  · intro a
    refine List.pairwise_iff_getElem.mpr fun i j hi hj hij => ?_
    obtain ⟨k, rfl⟩ : ∃ k, j = i + 1 + k := ⟨j - (i + 1), by omega⟩
    clear hij
    induction k with
    | zero => exact a i hj
    | succ k ih =>
      have := ih (by omega)
      have := a (i + 1 + k) (by omega)
      exact Int.le_trans (ih (by omega)) this
theorem p_law_good_heap {v : D} {h : MH} (hv : gdD 50 v = true) : phi__law_good_heap [.d v] h = some (.ok (.d (.bl (goodH v))), h) := by
  refine eq_of (w__law_good_heap ?_)
  cases v with
  | fr x => cases hv
  | tup ds =>
    have hd := gd_tup hv
    walk_at "p"
    refine wI_by (fun q => ?_) (fun q => ?_)
    · walk_at "p"
      have n2 : ds.length ≠ 2 := by simp at q; omega
      have e : goodH (.tup ds) = false := by
        match ds, n2 with
        | [], _ => rfl
        | [a], _ => cases a <;> rfl
        | a :: b :: c :: r, _ => cases a <;> first | rfl | (cases b <;> rfl)
        | [a, b], z => exact absurd rfl z
      rw [e]; exact ⟨rfl, rfl⟩
    have n2 : ds.length = 2 := by simp at q; omega
    obtain ⟨a, b, rfl⟩ := two_of n2
    have ga := hd.2 a (by simp)
    have gb := hd.2 b (by simp)
    walk_at "p"
    refine wC_eq (p_law_int (okD_mono 49 60 (by omega) a (gd_ok 49 a ga))) rfl ?_
    walk_at "p"
    cases qa : isInt a 1 126 with
    | false =>
      walk_at "p"
      have e : goodH (.tup [a, b]) = false := by
        cases a with
        | int w =>
          have z : (decide (1 ≤ w) && decide (w ≤ 126)) = false := qa
          cases b with
          | tup ps => show (((decide (1 ≤ w) && decide (w ≤ 126)) && _) : Bool) = false; rw [z]; rfl
          | _ => rfl
        | _ => rfl
      rw [e]; exact ⟨rfl, rfl⟩
    | true =>
      obtain ⟨w, rfl, w0⟩ : ∃ w, a = .int w ∧ (decide (1 ≤ w) && decide (w ≤ 126)) = true := by
        cases a with
        | int w => exact ⟨w, rfl, qa⟩
        | _ => cases qa
      walk_at "p"
      cases b with
      | fr x => cases gb
      | tup ps =>
        have hp := gd_tup gb
        have gd : goodH (.tup [.int w, .tup ps]) = (decide (ps.length ≤ 30) && (ps.all (fun d => isInt d 1 (w - 1)) && srtD ps)) := by
          show (((decide (1 ≤ w) && decide (w ≤ 126)) && _) : Bool) = _
          rw [w0, Bool.true_and]
        rw [gd]
        walk_at "p"
        refine wI_by (fun q => ?_) (fun q => ?_)
        · walk_at "p"
          have e : decide (ps.length ≤ 30) = false := by simp at q; simp; omega
          rw [e]; exact ⟨rfl, rfl⟩
        have l30 : ps.length ≤ 30 := by simp at q; omega
        rw [decide_eq_true l30, Bool.true_and]
        walk_at "p"
        refine lc_filt (fun d => !isInt d 1 (w - 1)) id ?_ ?_ ?_
        · intro d hd'
          refine ⟨_, rfl, ?_, fun _ => ?_⟩
          · walk_at "p"
            refine wC_eq (p_law_int (okD_mono 48 60 (by omega) d (gd_ok 48 d (hp.2 d hd')))) rfl ?_
            walk_at "p"
            rfl
          · walk_at "p"
            rfl
        · unfold LIM; omega
        rw [List.map_id]
        have ok : (ps.filter fun d => !isInt d 1 (w - 1)).all (okD 59) = true := List.all_eq_true.mpr fun d hx => okD_mono 48 59 (by omega) d (gd_ok 48 d (hp.2 d (List.mem_filter.mp hx).1))
        have e1 := (c_neN (h := h) ok).2.1
        walk_at "p"
        cases qp : ps.all fun d => isInt d 1 (w - 1) with
        | false =>
          have ne : (ps.filter fun d => !isInt d 1 (w - 1)).isEmpty = false := by
            cases z : ps.filter fun d => !isInt d 1 (w - 1) with
            | cons => rfl
            | nil =>
              have := List.filter_eq_nil_iff.mp z
              have : (ps.all fun d => isInt d 1 (w - 1)) = true := List.all_eq_true.mpr fun d hx => by have := this d hx; simpa using this
              rw [qp] at this; cases this
          rw [ne]
          walk_at "p"
          rfl
        | true =>
          have ne : (ps.filter fun d => !isInt d 1 (w - 1)) = [] := List.filter_eq_nil_iff.mpr fun d hx => by simp [List.all_eq_true.mp qp d hx]
          rw [ne]
          obtain ⟨ns, rfl, rg⟩ := ints_all qp
          rw [List.length_map] at l30
          have r1 : rng2W [.d (.int 1), .d (.int ((ns.map D.int).length : Int))] = some (rangeD 1 (ns.length - 1)) := by
            rw [List.length_map, r_2 (by unfold L62; omega)]
            congr 2; omega
          walk_at "p"
          refine lc_filt (fun d => match d with | .int x => decide ((ns[x.toNat]?).getD 0 < (ns[x.toNat - 1]?).getD 0) | _ => false) id ?_ ?_ ?_
          · intro d hd'
            obtain ⟨i, hi, rfl⟩ := List.mem_map.mp hd'
            have hi := List.mem_range.mp hi
            refine ⟨_, rfl, ?_, fun _ => ?_⟩
            · walk_at "p"
              refine wO_of (ix_int (n := i + 1) (by omega) (by omega)) ?_
              walk_at "p"
              refine wO_of (ix_int (n := i) (by omega) (by omega)) ?_
              walk_at "p"
              refine ⟨?_, rfl⟩
              show _ = decide ((ns[((1 : Int) + (i : Int)).toNat]?).getD 0 < (ns[((1 : Int) + (i : Int)).toNat - 1]?).getD 0)
              rw [show ((1 : Int) + (i : Int)).toNat = i + 1 by omega, List.getElem?_eq_getElem (show i + 1 < ns.length by omega), Nat.add_sub_cancel, List.getElem?_eq_getElem (show i < ns.length by omega)]
              rfl
            · walk_at "p"
              rfl
          · unfold rangeD LIM; rw [List.length_map, List.length_range]; omega
          rw [List.map_id]
          generalize hz : (rangeD 1 (ns.length - 1)).filter _ = zs
          have ok : zs.all (okD 59) = true := List.all_eq_true.mpr fun d hx => by
            rw [← hz] at hx
            obtain ⟨i, _, rfl⟩ := List.mem_map.mp (List.mem_filter.mp hx).1
            rfl
          have e1 := (c_neN (h := h) ok).2.2
          walk_at "p"
          refine ⟨congrArg (fun b => Dn.W.d (.bl b)) ?_, rfl⟩
          have s : srtD (ns.map .int) = decide (ns.Pairwise (· ≤ ·)) := by unfold srtD; rw [Dn.ints_map]
          rw [s, Bool.true_and]
          cases ze : zs with
          | nil =>
            rw [ze] at hz
            have f := List.filter_eq_nil_iff.mp hz
            symm
            refine decide_eq_true ((adj_iff ns).mpr fun i hi => ?_)
            have := f (.int (1 + (i : Int))) (List.mem_map.mpr ⟨i, List.mem_range.mpr (by omega), rfl⟩)
            simp only [show ((1 : Int) + (i : Int)).toNat = i + 1 by omega, List.getElem?_eq_getElem hi, Nat.add_sub_cancel, List.getElem?_eq_getElem (show i < ns.length by omega)] at this
            simp at this
            exact this
          | cons z r =>
            symm
            refine decide_eq_false fun s => ?_
            have hz' : z ∈ zs := by rw [ze]; exact List.mem_cons_self
            rw [← hz] at hz'
            obtain ⟨hm, hq⟩ := List.mem_filter.mp hz'
            obtain ⟨i, hi, rfl⟩ := List.mem_map.mp hm
            have hi := List.mem_range.mp hi
            have := (adj_iff ns).mp s i (by omega)
            simp only [show ((1 : Int) + (i : Int)).toNat = i + 1 by omega, List.getElem?_eq_getElem (show i + 1 < ns.length by omega), Nat.add_sub_cancel, List.getElem?_eq_getElem (show i < ns.length by omega)] at hq
            simp at hq
            omega
      | _ =>
        walk_at "p"
        rfl
  | _ =>
    walk_at "p"
    rfl
end Lw

set_option maxHeartbeats 4000000
namespace Lw
open PySem Dn L2 PyProof.Rows
local macro_rules | `(tactic| walk_at "v") => `(tactic| ((with_reducible refine wO_ex ?_); (refine Exists.intro ?_ (And.intro ?_ ?_)); rotate_left; first | with_reducible exact c_eqI | with_reducible exact c_neI | with_reducible exact c_eqS | with_reducible exact c_neS | with_reducible assumption | with_reducible exact len_tup | with_reducible exact len_lst | with_reducible exact len_bor | with_reducible exact len_own | exact rfl | exact m_r (by decide) | exact m_l (by decide)))
local macro_rules | `(tactic| walk_at "1") => `(tactic| first
  | with_reducible refine wS_seq ?_ | with_reducible refine wS_if ?_ | with_reducible refine wS_set ?_ | with_reducible refine wS_ret ?_ | with_reducible refine wS_nil ?_
  | ((with_reducible refine wE_var ?_); refine ⟨_, rfl, _, rfl, ?_⟩)
  | with_reducible refine wE_cst ?_ | with_reducible refine wE_p2 ?_ | with_reducible refine wE_app ?_ | with_reducible refine wE_nil ?_ | with_reducible refine wE_cons ?_ | with_reducible refine wE_cmp ?_ | with_reducible refine wE_chain ?_
  | with_reducible refine wE_asB ?_ | with_reducible refine wE_tru ?_ | with_reducible refine wE_not ?_ | with_reducible refine wE_notW ?_ | with_reducible refine wE_neg ?_ | with_reducible refine wE_and1 ?_ | with_reducible refine wE_and ?_
  | with_reducible refine wE_or1 ?_ | with_reducible refine wE_or ?_ | with_reducible refine wE_if ?_ | with_reducible refine wE_andV1 ?_ | with_reducible refine wE_andV ?_ | with_reducible refine wE_orV1 ?_ | with_reducible refine wE_orV ?_
  | with_reducible refine wE_isa ?_ | with_reducible refine wE_dat ?_ | with_reducible refine wE_arg ?_ | with_reducible refine wE_shr ?_ | with_reducible refine wE_rv ?_ | with_reducible refine wE_part0 ?_ | with_reducible refine wE_part1 ?_
  | with_reducible refine wE_cnt ?_ | with_reducible refine wE_sset ?_ | with_reducible refine wE_sl ?_ | with_reducible refine wE_ms ?_ | with_reducible refine wE_call ?_ | with_reducible refine wE_try ?_ | with_reducible refine wE_word ?_ | with_reducible refine wE_iseq ?_ | with_reducible refine wE_iapp ?_ | with_reducible refine wE_lc ?_
  | with_reducible refine wS_cont ?_ | with_reducible refine wS_break ?_ | with_reducible refine wS_retN ?_ | ((with_reducible refine wS_retV ?_); refine ⟨_, rfl, rfl, ?_⟩) | with_reducible refine wS_drop ?_ | with_reducible refine wS_raise ?_ | ((with_reducible refine wS_frz ?_); refine ⟨_, rfl, ?_⟩) | ((with_reducible refine wS_frz' ?_); refine ⟨_, rfl, ?_⟩)
  | with_reducible refine wS_unp ?_ | ((with_reducible refine wS_aug ?_); refine ⟨_, rfl, ?_⟩) | ((with_reducible refine wS_own ?_); refine ⟨_, rfl, ?_⟩) | ((with_reducible refine wS_ownSet ?_); refine ⟨_, rfl, ?_⟩) | with_reducible refine wS_par2 ?_ | with_reducible refine wS_par3 ?_ | with_reducible refine wS_item ?_ | with_reducible refine wS_itemO ?_ | with_reducible refine wS_for ?_
  | with_reducible refine wI_t ?_ | with_reducible refine wI_f ?_
  | with_reducible refine wI_at (by assumption) ?_ | with_reducible refine wI_af (by assumption) ?_ | refine wI_at (by rfl) ?_ | refine wI_af (by rfl) ?_
  | ((fail_if_success (with_reducible refine wO_ex ?_)); (first | refine ⟨_, rfl, ?_⟩ | refine ⟨_, _, rfl, ?_⟩ | refine ⟨_, _, _, rfl, ?_⟩ | refine And.intro (by rfl) ?_)))
local macro_rules | `(tactic| walk_at "p") => `(tactic| repeat (first | walk_at "v" | walk_at "1"))

theorem p_is_integer {v : D} {lo hi : Int} {h : MH} (hv : okD 60 v = true) : phi_is_integer [.d v, .d (.int lo), .d (.int hi)] h = some (.ok (.d (.bl (isInt v lo hi))), h) := by
  have key : ∀ i : Int, phi_is_integer [.d (.int i), .d (.int lo), .d (.int hi)] h = some (.ok (.d (.bl (decide (lo ≤ i) && decide (i ≤ hi)))), h) := fun i => by
    refine eq_of (w_is_integer ?_)
    walk_at "p"
    refine wI_by (fun q => ?_) (fun q => ?_)
    · walk_at "p"
      exact ⟨by rw [q, Bool.true_and], rfl⟩
    · walk_at "p"
      exact ⟨by rw [q, Bool.false_and], rfl⟩
  cases v with
  | int i => exact key i
  | fr x => cases hv
  | _ => rfl
theorem bools_mapF {α : Type} (f : α → Bool) : ∀ xs : List α, bools (xs.map fun x => D.bl (f x)) = some (xs.map f)
  | [] => rfl
  | x :: xs => by simp [bools, bools_mapF f xs]
theorem all_bl {α : Type} (f : α → Bool) (xs : List α) {h : MH} : allF [.own (xs.map fun x => D.bl (f x))] h = some (.d (.bl (xs.all f))) := by
  show (bools (xs.map fun x => D.bl (f x))).map _ = _
  rw [bools_mapF]
  show some (Dn.W.d (.bl ((xs.map f).all id))) = _
  rw [List.all_map]; rfl
def arePs (v : D) (w : Int) : Bool := match v with
  | .tup ps => ps.all fun d => isInt d 1 (w - 1)
  | _ => false
theorem p_are_pieces {v : D} {w : Int} {h : MH} (hv : gdD 49 v = true) : phi_are_pieces [.d v, .d (.int w)] h = some (.ok (.d (.bl (arePs v w))), h) := by
  refine eq_of (w_are_pieces ?_)
  cases v with
  | fr x => cases hv
  | tup ps =>
    have hp := gd_tup hv
    walk_at "p"
    refine lc_map (fun d => .bl (isInt d 1 (w - 1))) ?_ ?_ ?_
    · intro d hd
      refine ⟨_, rfl, ?_⟩
      walk_at "p"
      refine wC_eq (p_is_integer (okD_mono 48 60 (by omega) d (gd_ok 48 d (hp.2 d hd)))) rfl ?_
      walk_at "p"
      rfl
    · unfold LIM; omega
    have e := all_bl (fun d => isInt d 1 (w - 1)) ps (h := h)
    walk_at "p"
    rfl
  | _ =>
    walk_at "p"
    rfl
theorem goodH_split {a b : D} : goodH (.tup [a, b]) = (match a with
  | .int w => isInt a 1 126 && (arePs b w && (match b with | .tup ps => decide (ps.length ≤ 30) && srtD ps | _ => false))
  | _ => false) := by
  cases a with
  | int w =>
    cases b with
    | tup ps =>
      show ((decide (1 ≤ w) && decide (w ≤ 126)) && (decide (ps.length ≤ 30) && (ps.all (fun d => isInt d 1 (w - 1)) && srtD ps))) = ((decide (1 ≤ w) && decide (w ≤ 126)) && (ps.all (fun d => isInt d 1 (w - 1)) && (decide (ps.length ≤ 30) && srtD ps)))
      cases decide (1 ≤ w) && decide (w ≤ 126) <;> cases decide (ps.length ≤ 30) <;> cases (ps.all fun d => isInt d 1 (w - 1)) <;> rfl
    | _ => show false = (_ && (false && false)); simp
  | _ => rfl
theorem goodH_n2 {ds : List D} (n2 : ds.length ≠ 2) : goodH (.tup ds) = false := by
  match ds, n2 with
  | [], _ => rfl
  | [a], _ => cases a <;> rfl
  | a :: b :: c :: r, _ => cases a <;> first | rfl | (cases b <;> rfl)
  | [a, b], z => exact absurd rfl z
theorem isInt_ex {a : D} {lo hi : Int} (h : isInt a lo hi = true) : ∃ w, a = .int w ∧ lo ≤ w ∧ w ≤ hi := by
  cases a with
  | int w =>
    have h : (decide (lo ≤ w) && decide (w ≤ hi)) = true := h
    simp at h
    exact ⟨w, rfl, h.1, h.2⟩
  | _ => cases h
theorem p_is_heap {v : D} {h : MH} (hv : gdD 50 v = true) : phi_is_heap [.d v] h = some (.ok (.d (.bl (goodH v))), h) := by
  refine eq_of (w_is_heap ?_)
  cases v with
  | fr x => cases hv
  | tup ds =>
    have hd := gd_tup hv
    walk_at "p"
    refine wI_by (fun q => ?_) (fun q => ?_)
    · walk_at "p"
      rw [goodH_n2 (by simp at q; omega)]; exact ⟨rfl, rfl⟩
    have n2 : ds.length = 2 := by simp at q; omega
    obtain ⟨a, b, rfl⟩ := two_of n2
    have ga := hd.2 a (by simp)
    have gb := hd.2 b (by simp)
    walk_at "p"
    refine wC_eq (p_is_integer (okD_mono 49 60 (by omega) a (gd_ok 49 a ga))) rfl ?_
    walk_at "p"
    rw [goodH_split]
    cases qa : isInt a 1 126 with
    | false =>
      walk_at "p"
      cases a <;> exact ⟨rfl, rfl⟩
    | true =>
      obtain ⟨w, rfl, w0, w1⟩ := isInt_ex qa
      walk_at "p"
      refine wC_eq (p_are_pieces gb) rfl ?_
      walk_at "p"
      show wI (!arePs b w) _ _
      cases qb : arePs b w with
      | false =>
        walk_at "p"
        exact ⟨by simp [qb], rfl⟩
      | true =>
        cases b with
        | tup ps =>
          have qb' : (ps.all fun d => isInt d 1 (w - 1)) = true := qb
          obtain ⟨ns, rfl, rg⟩ := ints_all qb'
          walk_at "p"
          refine wI_by (fun q => ?_) (fun q => ?_)
          · walk_at "p"
            have e : decide ((ns.map D.int).length ≤ 30) = false := by simp at q; simp; omega
            exact ⟨by simp only [e]; simp, rfl⟩
          have l30 : ns.length ≤ 30 := by simp at q; omega
          have e : decide ((ns.map D.int).length ≤ 30) = true := by simp; omega
          have es := (s_int (h := h) (ns := ns) (by omega)).2.2.1
          have ec : cmpW .Eq (.d (.tup (ns.map .int))) (.d (.tup ((sortI ns).map .int))) h = some (decide (ns = sortI ns)) := by
            show (if okD 60 (.tup (ns.map .int)) && okD 60 (.tup ((sortI ns).map .int)) then some (eqD (.tup (ns.map .int)) (.tup ((sortI ns).map .int))) else none) = _
            rw [tup_ints, tup_ints, eqD_tupI]; rfl
          walk_at "p"
          refine ⟨congrArg (fun b => Dn.W.d (.bl b)) ?_, rfl⟩
          simp only [e]
          have s : srtD (ns.map .int) = decide (ns.Pairwise (· ≤ ·)) := by unfold srtD; rw [Dn.ints_map]
          rw [s, qb, Bool.true_and, Bool.true_and, Bool.true_and]
          exact decide_eq_decide.mpr (sortI_iff ns)
        | _ => cases qb
  | _ =>
    walk_at "p"
    rfl
theorem gd_hp {w : Int} {ps : List Int} (G : Gh w ps) : gdD 50 (hpD w ps) = true := by
  have a := G.w1; have b := G.w2; have c := G.len
  have e : ∀ d ∈ ps.map D.int, gdD 48 d = true := fun d hd => by
    obtain ⟨p, hp, rfl⟩ := List.mem_map.mp hd
    have := G.rng p hp
    show decide (p.natAbs < 10 ^ 40) = true
    exact decide_eq_true (by omega)
  have e2 : gdD 49 (.tup (ps.map .int)) = true := (gd_mk (by rw [List.length_map]; omega) e).1
  refine (gd_mk (n := 49) (by simp) fun d hd => ?_).1
  simp at hd
  rcases hd with rfl | rfl
  · show decide (w.natAbs < 10 ^ 40) = true
    exact decide_eq_true (by omega)
  · exact e2
end Lw

set_option maxHeartbeats 4000000
namespace Lw
open PySem Dn L2 PyProof.Rows
local macro_rules | `(tactic| walk_at "v") => `(tactic| ((with_reducible refine wO_ex ?_); (refine Exists.intro ?_ (And.intro ?_ ?_)); rotate_left; first | with_reducible exact c_eqI | with_reducible exact c_neI | with_reducible exact c_eqS | with_reducible exact c_neS | with_reducible assumption | with_reducible exact len_tup | with_reducible exact len_lst | with_reducible exact len_bor | with_reducible exact len_own | exact rfl | exact m_r (by decide) | exact m_l (by decide)))
local macro_rules | `(tactic| walk_at "1") => `(tactic| first
  | with_reducible refine wS_seq ?_ | with_reducible refine wS_if ?_ | with_reducible refine wS_set ?_ | with_reducible refine wS_ret ?_ | with_reducible refine wS_nil ?_
  | ((with_reducible refine wE_var ?_); refine ⟨_, rfl, _, rfl, ?_⟩)
  | with_reducible refine wE_cst ?_ | with_reducible refine wE_p2 ?_ | with_reducible refine wE_app ?_ | with_reducible refine wE_nil ?_ | with_reducible refine wE_cons ?_ | with_reducible refine wE_cmp ?_ | with_reducible refine wE_chain ?_
  | with_reducible refine wE_asB ?_ | with_reducible refine wE_tru ?_ | with_reducible refine wE_not ?_ | with_reducible refine wE_notW ?_ | with_reducible refine wE_neg ?_ | with_reducible refine wE_and1 ?_ | with_reducible refine wE_and ?_
  | with_reducible refine wE_or1 ?_ | with_reducible refine wE_or ?_ | with_reducible refine wE_if ?_ | with_reducible refine wE_andV1 ?_ | with_reducible refine wE_andV ?_ | with_reducible refine wE_orV1 ?_ | with_reducible refine wE_orV ?_
  | with_reducible refine wE_isa ?_ | with_reducible refine wE_dat ?_ | with_reducible refine wE_arg ?_ | with_reducible refine wE_shr ?_ | with_reducible refine wE_rv ?_ | with_reducible refine wE_part0 ?_ | with_reducible refine wE_part1 ?_
  | with_reducible refine wE_cnt ?_ | with_reducible refine wE_sset ?_ | with_reducible refine wE_sl ?_ | with_reducible refine wE_ms ?_ | with_reducible refine wE_call ?_ | with_reducible refine wE_try ?_ | with_reducible refine wE_word ?_ | with_reducible refine wE_iseq ?_ | with_reducible refine wE_iapp ?_ | with_reducible refine wE_lc ?_
  | with_reducible refine wS_cont ?_ | with_reducible refine wS_break ?_ | with_reducible refine wS_retN ?_ | ((with_reducible refine wS_retV ?_); refine ⟨_, rfl, rfl, ?_⟩) | with_reducible refine wS_drop ?_ | with_reducible refine wS_raise ?_ | ((with_reducible refine wS_frz ?_); refine ⟨_, rfl, ?_⟩) | ((with_reducible refine wS_frz' ?_); refine ⟨_, rfl, ?_⟩)
  | with_reducible refine wS_unp ?_ | ((with_reducible refine wS_aug ?_); refine ⟨_, rfl, ?_⟩) | ((with_reducible refine wS_own ?_); refine ⟨_, rfl, ?_⟩) | ((with_reducible refine wS_ownSet ?_); refine ⟨_, rfl, ?_⟩) | with_reducible refine wS_par2 ?_ | with_reducible refine wS_par3 ?_ | with_reducible refine wS_item ?_ | with_reducible refine wS_itemO ?_ | with_reducible refine wS_for ?_
  | with_reducible refine wI_t ?_ | with_reducible refine wI_f ?_
  | with_reducible refine wI_at (by assumption) ?_ | with_reducible refine wI_af (by assumption) ?_ | refine wI_at (by rfl) ?_ | refine wI_af (by rfl) ?_
  | ((fail_if_success (with_reducible refine wO_ex ?_)); (first | refine ⟨_, rfl, ?_⟩ | refine ⟨_, _, rfl, ?_⟩ | refine ⟨_, _, _, rfl, ?_⟩ | refine And.intro (by rfl) ?_)))
local macro_rules | `(tactic| walk_at "p") => `(tactic| repeat (first | walk_at "v" | walk_at "1"))

theorem p_kinds {ds : List D} {h : MH} (hk : ds.length = 2 ∨ ds.length = 3) : phi_kinds_of [.d (.tup ds)] h = some (.ok (.d (.str (kindsS ds.length))), h) := by
  rw [← cut_kinds hk]
  rfl
theorem p_link_weight {ws : List Int} {c : Nat} {h : MH} (W : Wok ws) (hc : isL ws.length c) : phi_link_weight [.d (wD ws), .d (cD c)] h = some (.ok (.d (.int (wt ws c))), h) := by
  rcases shape W.len with ⟨a, b, rfl⟩ | ⟨a, b, d, rfl⟩
  · rcases hc with rfl | rfl | ⟨z, rfl⟩
    · have e : phi_link_weight [.d (wD [a, b]), .d (cD 97)] h = some (.ok (.d (.int [a].sum)), h) := by kernel_rfl
      rw [e]; simp [wt]
    · have e : phi_link_weight [.d (wD [a, b]), .d (cD 98)] h = some (.ok (.d (.int [b].sum)), h) := by kernel_rfl
      rw [e]; simp [wt]
    · cases z
  · rcases hc with rfl | rfl | ⟨z, rfl⟩
    · have e : phi_link_weight [.d (wD [a, b, d]), .d (cD 97)] h = some (.ok (.d (.int [a].sum)), h) := by kernel_rfl
      rw [e]; simp [wt]
    · have e : phi_link_weight [.d (wD [a, b, d]), .d (cD 98)] h = some (.ok (.d (.int [b].sum)), h) := by kernel_rfl
      rw [e]; simp [wt]
    · have e : phi_link_weight [.d (wD [a, b, d]), .d (cD 99)] h = some (.ok (.d (.int [d].sum)), h) := by kernel_rfl
      rw [e]; simp [wt]
theorem p_weight_by {ws : List Int} {cs : List Nat} {h : MH} (W : Wok ws) (hl : cs.length ≤ 1000) (hc : ∀ c ∈ cs, isL ws.length c) : phi_weight_by [.d (wD ws), .d (.str (cS cs))] h = some (.ok (.d (.int (wtS ws cs))), h) := by
  refine eq_of (w_weight_by ?_)
  walk_at "p"
  refine lc_mapE (dCh (wt ws)) (ys := (cs.map (wt ws)).map .int) ?_ ?_ ?_ ?_
  · rw [charsD_cS, List.map_map, List.map_map]; rfl
  · intro d hd
    rw [charsD_cS] at hd
    obtain ⟨c, hc', rfl⟩ := List.mem_map.mp hd
    refine ⟨_, rfl, ?_⟩
    walk_at "p"
    refine wC_eq (p_link_weight W (hc c hc')) rfl ?_
    walk_at "p"
    rfl
  · rw [charsD_cS, List.length_map]; unfold LIM; omega
  · walk_at "p"
    refine wO_of (w := .d (.int (wtS ws cs))) ?_ ?_
    · show (intsD ((cs.map (wt ws)).map .int)).map _ = _
      rw [Dn.ints_map]; rfl
    · walk_at "p"
      rfl
theorem p_beginnings {ws : List Int} {cs : List Nat} {h : MH} (W : Wok ws) (C : Cok ws cs) : phi_beginnings_of [.d (wD ws), .d (.str (cS cs))] h = some (.ok (.own ((begL ws cs).map .int)), h) := by
  have lo := C.lo
  have hi := C.hi
  have l0 : cs.length ≤ LIM := by unfold LIM; omega
  have l1 := len_cs (h := h) l0
  have r1 : rng2W [.d (.int 1), .d (.int cs.length)] = some (rangeD 1 (cs.length - 1)) := by
    rw [r_2 (by unfold L62; omega)]
    congr 2; omega
  have ll : (rangeD 1 (cs.length - 1)).length ≤ LIM := by unfold rangeD LIM; rw [List.length_map, List.length_range]; omega
  refine eq_of (w_beginnings_of ?_)
  walk_at "p"
  refine lc_mapE _ (rng_map (fun i => wtS ws (cs.take (i + 1))) (cs.length - 1)) ?_ ll ?_
  · intro d hd
    obtain ⟨i, hi, rfl⟩ := List.mem_map.mp hd
    refine ⟨_, rfl, ?_⟩
    have q := p_weight_by (h := h) (cs := cs.take (i + 1)) W (by rw [List.length_take]; omega) (fun c hc => C.ok c (List.mem_of_mem_take hc))
    walk_at "p"
    refine wO_of (sl_to (n := i + 1) l0 (by omega)) ?_
    walk_at "p"
    refine wC_eq q rfl ?_
    walk_at "p"
    refine ⟨?_, rfl⟩
    show _ = Dn.W.d (.int (wtS ws (cs.take (((1 : Int) + (i : Int)).toNat - 1 + 1))))
    rw [show ((1 : Int) + (i : Int)).toNat - 1 + 1 = i + 1 by omega]
  walk_at "p"
  rfl
theorem p_pieces {w : Int} {bs : List Int} {h : MH} (hl : bs.length ≤ 400) : phi_pieces_by [.d (.int w), .d (.lst (bs.map .int))] h = some (.ok (.d (.tup ((sortI (bs ++ bs.map fun b => w - b)).map .int))), h) := by
  have es := (s_int (ns := bs ++ bs.map fun b => w - b) (h := h) (by rw [List.length_append, List.length_map]; omega)).1
  have ea : addW (.d (.lst (bs.map .int))) (.own ((bs.map fun b => w - b).map .int)) h = some (.own ((bs ++ bs.map fun b => w - b).map .int)) := by
    rw [List.map_append]
    exact (a_lst (by simp only [List.length_map]; unfold LIM; omega)).2.2.1
  refine eq_of (w_pieces_by ?_)
  walk_at "p"
  refine lc_mapE (dNum fun b => w - b) (ys := (bs.map fun b => w - b).map .int) ?_ ?_ ?_ ?_
  · rw [List.map_map, List.map_map]; rfl
  · intro d hd
    obtain ⟨b, _, rfl⟩ := List.mem_map.mp hd
    refine ⟨_, rfl, ?_⟩
    walk_at "p"
    rfl
  · rw [List.length_map]; unfold LIM; omega
  walk_at "p"
  rfl
theorem endL_eq (ws : List Int) (cs : List Nat) : (begL ws cs).map (fun b => wtS ws cs - b) = endL ws cs := by
  unfold begL endL
  rw [List.map_map]
  refine List.map_congr_left fun i _ => ?_
  show wtS ws cs - wtS ws (cs.take (i + 1)) = wtS ws (cs.drop (i + 1))
  have e : wtS ws cs = wtS ws (cs.take (i + 1)) + wtS ws (cs.drop (i + 1)) := by rw [← wtS_app, List.take_append_drop]
  omega
theorem p_heap_by {ws : List Int} {cs : List Nat} {h : MH} (W : Wok ws) (C : Cok ws cs) : phi_heap_by [.d (wD ws), .d (.str (cS cs))] h = some (.ok (.d (hpD (wtS ws cs) (heapL ws cs))), h) := by
  have hi := C.hi
  refine eq_of (w_heap_by ?_)
  walk_at "p"
  refine wC_eq (p_weight_by W (by omega) C.ok) rfl ?_
  walk_at "p"
  refine wC_eq (p_beginnings W C) rfl ?_
  walk_at "p"
  refine wC_eq (p_pieces (by unfold begL; rw [List.length_map, List.length_range]; omega)) rfl ?_
  rw [endL_eq]
  walk_at "p"
  rfl
end Lw

set_option maxHeartbeats 4000000
namespace Lw
open PySem Dn L2 PyProof.Rows
local macro_rules | `(tactic| walk_at "v") => `(tactic| ((with_reducible refine wO_ex ?_); (refine Exists.intro ?_ (And.intro ?_ ?_)); rotate_left; first | with_reducible exact c_eqI | with_reducible exact c_neI | with_reducible exact c_eqS | with_reducible exact c_neS | with_reducible assumption | with_reducible exact len_tup | with_reducible exact len_lst | with_reducible exact len_bor | with_reducible exact len_own | exact rfl | exact m_r (by decide) | exact m_l (by decide)))
local macro_rules | `(tactic| walk_at "1") => `(tactic| first
  | with_reducible refine wS_seq ?_ | with_reducible refine wS_if ?_ | with_reducible refine wS_set ?_ | with_reducible refine wS_ret ?_ | with_reducible refine wS_nil ?_
  | ((with_reducible refine wE_var ?_); refine ⟨_, rfl, _, rfl, ?_⟩)
  | with_reducible refine wE_cst ?_ | with_reducible refine wE_p2 ?_ | with_reducible refine wE_app ?_ | with_reducible refine wE_nil ?_ | with_reducible refine wE_cons ?_ | with_reducible refine wE_cmp ?_ | with_reducible refine wE_chain ?_
  | with_reducible refine wE_asB ?_ | with_reducible refine wE_tru ?_ | with_reducible refine wE_not ?_ | with_reducible refine wE_notW ?_ | with_reducible refine wE_neg ?_ | with_reducible refine wE_and1 ?_ | with_reducible refine wE_and ?_
  | with_reducible refine wE_or1 ?_ | with_reducible refine wE_or ?_ | with_reducible refine wE_if ?_ | with_reducible refine wE_andV1 ?_ | with_reducible refine wE_andV ?_ | with_reducible refine wE_orV1 ?_ | with_reducible refine wE_orV ?_
  | with_reducible refine wE_isa ?_ | with_reducible refine wE_dat ?_ | with_reducible refine wE_arg ?_ | with_reducible refine wE_shr ?_ | with_reducible refine wE_rv ?_ | with_reducible refine wE_part0 ?_ | with_reducible refine wE_part1 ?_
  | with_reducible refine wE_cnt ?_ | with_reducible refine wE_sset ?_ | with_reducible refine wE_sl ?_ | with_reducible refine wE_ms ?_ | with_reducible refine wE_call ?_ | with_reducible refine wE_try ?_ | with_reducible refine wE_word ?_ | with_reducible refine wE_iseq ?_ | with_reducible refine wE_iapp ?_ | with_reducible refine wE_lc ?_
  | with_reducible refine wS_cont ?_ | with_reducible refine wS_break ?_ | with_reducible refine wS_retN ?_ | ((with_reducible refine wS_retV ?_); refine ⟨_, rfl, rfl, ?_⟩) | with_reducible refine wS_drop ?_ | with_reducible refine wS_raise ?_ | ((with_reducible refine wS_frz ?_); refine ⟨_, rfl, ?_⟩) | ((with_reducible refine wS_frz' ?_); refine ⟨_, rfl, ?_⟩)
  | with_reducible refine wS_unp ?_ | ((with_reducible refine wS_aug ?_); refine ⟨_, rfl, ?_⟩) | ((with_reducible refine wS_own ?_); refine ⟨_, rfl, ?_⟩) | ((with_reducible refine wS_ownSet ?_); refine ⟨_, rfl, ?_⟩) | with_reducible refine wS_par2 ?_ | with_reducible refine wS_par3 ?_ | with_reducible refine wS_item ?_ | with_reducible refine wS_itemO ?_ | with_reducible refine wS_for ?_
  | with_reducible refine wI_t ?_ | with_reducible refine wI_f ?_
  | with_reducible refine wI_at (by assumption) ?_ | with_reducible refine wI_af (by assumption) ?_ | refine wI_at (by rfl) ?_ | refine wI_af (by rfl) ?_
  | ((fail_if_success (with_reducible refine wO_ex ?_)); (first | refine ⟨_, rfl, ?_⟩ | refine ⟨_, _, rfl, ?_⟩ | refine ⟨_, _, _, rfl, ?_⟩ | refine And.intro (by rfl) ?_)))
local macro_rules | `(tactic| walk_at "p") => `(tactic| repeat (first | walk_at "v" | walk_at "1"))

/-! ### weights, chains of any value -/
def goodW (v : D) : Bool := match v with
  | .tup ds => (decide ((ds.length : Int) = 2) || decide ((ds.length : Int) = 3)) && ds.all fun d => isInt d 1 9
  | _ => false
theorem goodW_ex {v : D} (g : goodW v = true) : ∃ ws, v = wD ws ∧ Wok ws := by
  unfold goodW at g
  split at g
  · rename_i ds
    rw [Bool.and_eq_true, Bool.or_eq_true, decide_eq_true_eq, decide_eq_true_eq] at g
    obtain ⟨ws, rfl, r⟩ := ints_all g.2
    rw [List.length_map] at g
    exact ⟨ws, rfl, by omega, r⟩
  · cases g
theorem goodW_of {ws : List Int} (W : Wok ws) : goodW (wD ws) = true := by
  have e : (ws.map D.int).all (fun d => isInt d 1 9) = true := by
    rw [List.all_map]
    exact List.all_eq_true.mpr fun w hw => by
      have := W.rng w hw
      show (decide (1 ≤ w) && decide (w ≤ 9)) = true
      simp [this]
  show ((decide (((ws.map D.int).length : Int) = 2) || decide (((ws.map D.int).length : Int) = 3)) && _) = true
  rw [e, List.length_map]
  rcases W.len with l | l <;> simp [l]
theorem in_23 {i : Int} {h : MH} : cmpW .In (.d (.int i)) (.d (.tup [.int 2, .int 3])) h = some (decide (i = 2) || decide (i = 3)) := by
  show (if okD 60 (.int i) && [D.int 2, D.int 3].all (okD 60) then some ([D.int 2, D.int 3].any fun y => eqD y (.int i)) else none) = _
  have o : (okD 60 (.int i) && [D.int 2, D.int 3].all (okD 60)) = true := rfl
  rw [if_pos o]
  simp only [List.any_cons, List.any_nil, eqD_int, Bool.or_false]
  congr 2 <;> (refine decide_eq_decide.mpr ⟨fun h => h.symm, fun h => h.symm⟩)
theorem nin_23 {i : Int} {h : MH} : cmpW .NotIn (.d (.int i)) (.d (.tup [.int 2, .int 3])) h = some (!(decide (i = 2) || decide (i = 3))) := by
  have e : cmpW .NotIn (.d (.int i)) (.d (.tup [.int 2, .int 3])) h = (cmpW .In (.d (.int i)) (.d (.tup [.int 2, .int 3])) h).map (!·) := rfl
  rw [e, in_23]; rfl
theorem nin_23l {i : Int} {h : MH} : cmpW .NotIn (.d (.int i)) (.own [.int 2, .int 3]) h = some (!(decide (i = 2) || decide (i = 3))) := nin_23 (h := h)
theorem p_is_weights {v : D} {h : MH} (hv : gdD 50 v = true) : phi_is_weights [.d v] h = some (.ok (.d (.bl (goodW v))), h) := by
  refine eq_of (w_is_weights ?_)
  cases v with
  | fr x => cases hv
  | tup ds =>
    have hd := gd_tup hv
    have e1 := nin_23 (i := (ds.length : Int)) (h := h)
    have g : goodW (.tup ds) = ((decide ((ds.length : Int) = 2) || decide ((ds.length : Int) = 3)) && ds.all fun d => isInt d 1 9) := rfl
    rw [g]
    walk_at "p"
    cases q : (decide ((ds.length : Int) = 2) || decide ((ds.length : Int) = 3)) with
    | false =>
      walk_at "p"
      rfl
    | true =>
      walk_at "p"
      refine lc_map (fun d => .bl (isInt d 1 9)) ?_ ?_ ?_
      · intro d hd'
        refine ⟨_, rfl, ?_⟩
        walk_at "p"
        refine wC_eq (p_is_integer (okD_mono 49 60 (by omega) d (gd_ok 49 d (hd.2 d hd')))) rfl ?_
        walk_at "p"
        rfl
      · unfold LIM; omega
      have e := all_bl (fun d => isInt d 1 9) ds (h := h)
      walk_at "p"
      rfl
  | _ =>
    walk_at "p"
    rfl
theorem need_w {ws : List Int} {h : MH} (W : Wok ws) : phi_need_weights [.d (wD ws)] h = some (.ok (.d .non), h) := by
  have hv : gdD 50 (wD ws) = true := (gd_mk (n := 49) (by have := W.len; rw [List.length_map]; omega) fun d hd => by
    obtain ⟨w, hw, rfl⟩ := List.mem_map.mp hd
    have := W.rng w hw
    show decide (w.natAbs < 10 ^ 40) = true
    exact decide_eq_true (by omega)).1
  refine eq_of (w_need_weights ?_)
  walk_at "p"
  refine wC_eq (p_is_weights hv) rfl ?_
  rw [goodW_of W]
  walk_at "p"
  rfl
theorem need_w_bad {v : D} {h : MH} (hv : gdD 50 v = true) (g : goodW v = false) : phi_need_weights [.d v] h = some (.ex "InvalidWeights" [], h) := by
  refine ex_of (w_need_weights ?_)
  walk_at "p"
  refine wC_eq (p_is_weights hv) rfl ?_
  rw [g]
  walk_at "p"
  rfl
def goodL (k : Nat) (v : D) : Bool := match v with
  | .str x => (decide (1 ≤ (x.length : Int)) && decide ((x.length : Int) ≤ 14)) && x.cps.toList.all fun c => decide (c ∈ (kindsS k).cps.toList)
  | _ => false
theorem kinds_mem {k c : Nat} (hk : k = 2 ∨ k = 3) : c ∈ (kindsS k).cps.toList ↔ isL k c := by
  have e2 : (kindsS 2).cps.toList = [97, 98] := by decide +kernel
  have e3 : (kindsS 3).cps.toList = [97, 98, 99] := by decide +kernel
  unfold isL
  rcases hk with rfl | rfl
  · rw [e2]; simp
  · rw [e3]; simp
theorem goodL_ex {ws : List Int} {v : D} (W : Wok ws) (g : goodL ws.length v = true) : ∃ cs, v = .str (cS cs) ∧ Cok ws cs := by
  unfold goodL at g
  split at g
  · rename_i x
    simp only [Bool.and_eq_true, decide_eq_true_eq, List.all_eq_true] at g
    obtain ⟨⟨g1, g2⟩, g3⟩ := g
    have e : x.cps.toList.length = x.length := Array.length_toList
    refine ⟨x.cps.toList, congrArg D.str (by cases x; simp), by omega, by omega, fun c hc => (kinds_mem W.len).mp (g3 c hc)⟩
  · cases g
theorem goodL_of {ws : List Int} {cs : List Nat} (W : Wok ws) (C : Cok ws cs) : goodL ws.length (.str (cS cs)) = true := by
  have lo := C.lo
  have hi := C.hi
  show ((decide (1 ≤ ((cS cs).length : Int)) && decide (((cS cs).length : Int) ≤ 14)) && cs.toArray.toList.all fun c => decide (c ∈ (kindsS ws.length).cps.toList)) = true
  rw [cS_len]
  have e : (cs.toArray.toList.all fun c => decide (c ∈ (kindsS ws.length).cps.toList)) = true := List.all_eq_true.mpr fun c hc => decide_eq_true ((kinds_mem W.len).mpr (C.ok c (by simpa using hc)))
  rw [e]
  simp; omega
theorem p_is_links {ws : List Int} {v : D} {h : MH} (W : Wok ws) (hv : gdD 50 v = true) : phi_is_links [.d (wD ws), .d v] h = some (.ok (.d (.bl (goodL ws.length v))), h) := by
  refine eq_of (w_is_links ?_)
  cases v with
  | fr x => cases hv
  | str x =>
    have hx : x.length ≤ 2000 := of_decide_eq_true hv
    have l1 := l_str (x := x) (h := h) (by unfold LIM; omega)
    have g : goodL ws.length (.str x) = ((decide (1 ≤ (x.length : Int)) && decide ((x.length : Int) ≤ 14)) && x.cps.toList.all fun c => decide (c ∈ (kindsS ws.length).cps.toList)) := rfl
    rw [g]
    walk_at "p"
    cases q1 : decide (1 ≤ (x.length : Int)) with
    | false =>
      walk_at "p"
      rfl
    | true =>
      walk_at "p"
      cases q2 : decide ((x.length : Int) ≤ 14) with
      | false =>
        walk_at "p"
        rfl
      | true =>
        walk_at "p"
        refine lc_mapE (fun d => match d with | .str x => .bl (decide (x.cps.toList.headD 0 ∈ (kindsS ws.length).cps.toList)) | d => d) (ys := x.cps.toList.map fun c => .bl (decide (c ∈ (kindsS ws.length).cps.toList))) ?_ ?_ ?_ ?_
        · unfold charsD; rw [List.map_map]; rfl
        · intro d hd
          obtain ⟨c, hc, rfl⟩ := List.mem_map.mp hd
          refine ⟨_, rfl, ?_⟩
          have q := p_kinds (ds := ws.map .int) (h := h) (by rw [List.length_map]; exact W.len)
          rw [List.length_map] at q
          have e : cmpW .In (.d (.str ⟨#[c]⟩)) (.d (.str (kindsS ws.length))) h = some (decide (c ∈ (kindsS ws.length).cps.toList)) := by
            show some (strIn _ _) = _
            exact congrArg some (PySem.StrLaws.found_one _ _)
          walk_at "p"
          refine ⟨?_, rfl⟩
          show Dn.W.d (.bl (strIn ⟨#[c]⟩ (cutS "abc" none (some ((ws.map D.int).length : Int))))) = .d (.bl (decide (c ∈ (kindsS ws.length).cps.toList)))
          rw [List.length_map, cut_kinds W.len]
          exact congrArg (fun b => Dn.W.d (.bl b)) (PySem.StrLaws.found_one _ _)
        · rw [charsD_len]; unfold Str.length at hx; unfold LIM; omega
        have e := all_bl (fun c => decide (c ∈ (kindsS ws.length).cps.toList)) x.cps.toList (h := h)
        walk_at "p"
        rfl
  | _ =>
    walk_at "p"
    rfl
section
variable {ws : List Int} {cs : List Nat} {v : D} {h : MH}
theorem need_l (W : Wok ws) (C : Cok ws cs) : phi_need_links [.d (wD ws), .d (.str (cS cs))] h = some (.ok (.d .non), h) := by
  have hi := C.hi
  have hv : gdD 50 (.str (cS cs)) = true := decide_eq_true (by rw [cS_len]; omega)
  refine eq_of (w_need_links ?_)
  walk_at "p"
  refine wC_eq (p_is_links W hv) rfl ?_
  rw [goodL_of W C]
  walk_at "p"
  rfl
theorem need_l_bad (W : Wok ws) (hv : gdD 50 v = true) (g : goodL ws.length v = false) : phi_need_links [.d (wD ws), .d v] h = some (.ex "InvalidChain" [], h) := by
  refine ex_of (w_need_links ?_)
  walk_at "p"
  refine wC_eq (p_is_links W hv) rfl ?_
  rw [g]
  walk_at "p"
  rfl
theorem need_c (W : Wok ws) (C : Cok ws cs) : phi_need_chain [.d (wD ws), .d (.str (cS cs))] h = some (.ok (.d .non), h) := by
  refine eq_of (w_need_chain ?_)
  walk_at "p"
  refine wC_eq (need_w W) rfl ?_
  walk_at "p"
  refine wC_eq (need_l W C) rfl ?_
  walk_at "p"
  rfl
theorem need_c_badw {c : D} (hv : gdD 50 v = true) (g : goodW v = false) : phi_need_chain [.d v, .d c] h = some (.ex "InvalidWeights" [], h) := by
  refine ex_of (w_need_chain ?_)
  walk_at "p"
  exact wC_ex (need_w_bad hv g) ⟨rfl, rfl, rfl⟩
theorem need_c_bad (W : Wok ws) (hv : gdD 50 v = true) (g : goodL ws.length v = false) : phi_need_chain [.d (wD ws), .d v] h = some (.ex "InvalidChain" [], h) := by
  refine ex_of (w_need_chain ?_)
  walk_at "p"
  refine wC_eq (need_w W) rfl ?_
  walk_at "p"
  exact wC_ex (need_l_bad W hv g) ⟨rfl, rfl, rfl⟩
end
end Lw

set_option maxHeartbeats 4000000
namespace Lw
open PySem Dn L2 PyProof.Rows
local macro_rules | `(tactic| walk_at "v") => `(tactic| ((with_reducible refine wO_ex ?_); (refine Exists.intro ?_ (And.intro ?_ ?_)); rotate_left; first | with_reducible exact c_eqI | with_reducible exact c_neI | with_reducible exact c_eqS | with_reducible exact c_neS | with_reducible assumption | with_reducible exact len_tup | with_reducible exact len_lst | with_reducible exact len_bor | with_reducible exact len_own | exact rfl | exact m_r (by decide) | exact m_l (by decide)))
local macro_rules | `(tactic| walk_at "1") => `(tactic| first
  | with_reducible refine wS_seq ?_ | with_reducible refine wS_if ?_ | with_reducible refine wS_set ?_ | with_reducible refine wS_ret ?_ | with_reducible refine wS_nil ?_
  | ((with_reducible refine wE_var ?_); refine ⟨_, rfl, _, rfl, ?_⟩)
  | with_reducible refine wE_cst ?_ | with_reducible refine wE_p2 ?_ | with_reducible refine wE_app ?_ | with_reducible refine wE_nil ?_ | with_reducible refine wE_cons ?_ | with_reducible refine wE_cmp ?_ | with_reducible refine wE_chain ?_
  | with_reducible refine wE_asB ?_ | with_reducible refine wE_tru ?_ | with_reducible refine wE_not ?_ | with_reducible refine wE_notW ?_ | with_reducible refine wE_neg ?_ | with_reducible refine wE_and1 ?_ | with_reducible refine wE_and ?_
  | with_reducible refine wE_or1 ?_ | with_reducible refine wE_or ?_ | with_reducible refine wE_if ?_ | with_reducible refine wE_andV1 ?_ | with_reducible refine wE_andV ?_ | with_reducible refine wE_orV1 ?_ | with_reducible refine wE_orV ?_
  | with_reducible refine wE_isa ?_ | with_reducible refine wE_dat ?_ | with_reducible refine wE_arg ?_ | with_reducible refine wE_shr ?_ | with_reducible refine wE_rv ?_ | with_reducible refine wE_part0 ?_ | with_reducible refine wE_part1 ?_
  | with_reducible refine wE_cnt ?_ | with_reducible refine wE_sset ?_ | with_reducible refine wE_sl ?_ | with_reducible refine wE_ms ?_ | with_reducible refine wE_call ?_ | with_reducible refine wE_try ?_ | with_reducible refine wE_word ?_ | with_reducible refine wE_iseq ?_ | with_reducible refine wE_iapp ?_ | with_reducible refine wE_lc ?_
  | with_reducible refine wS_cont ?_ | with_reducible refine wS_break ?_ | with_reducible refine wS_retN ?_ | ((with_reducible refine wS_retV ?_); refine ⟨_, rfl, rfl, ?_⟩) | with_reducible refine wS_drop ?_ | with_reducible refine wS_raise ?_ | ((with_reducible refine wS_frz ?_); refine ⟨_, rfl, ?_⟩) | ((with_reducible refine wS_frz' ?_); refine ⟨_, rfl, ?_⟩)
  | with_reducible refine wS_unp ?_ | ((with_reducible refine wS_aug ?_); refine ⟨_, rfl, ?_⟩) | ((with_reducible refine wS_own ?_); refine ⟨_, rfl, ?_⟩) | ((with_reducible refine wS_ownSet ?_); refine ⟨_, rfl, ?_⟩) | with_reducible refine wS_par2 ?_ | with_reducible refine wS_par3 ?_ | with_reducible refine wS_item ?_ | with_reducible refine wS_itemO ?_ | with_reducible refine wS_for ?_
  | with_reducible refine wI_t ?_ | with_reducible refine wI_f ?_
  | with_reducible refine wI_at (by assumption) ?_ | with_reducible refine wI_af (by assumption) ?_ | refine wI_at (by rfl) ?_ | refine wI_af (by rfl) ?_
  | ((fail_if_success (with_reducible refine wO_ex ?_)); (first | refine ⟨_, rfl, ?_⟩ | refine ⟨_, _, rfl, ?_⟩ | refine ⟨_, _, _, rfl, ?_⟩ | refine And.intro (by rfl) ?_)))
local macro_rules | `(tactic| walk_at "p") => `(tactic| repeat (first | walk_at "v" | walk_at "1"))

/-! ### the same value -/
theorem same_d {x : D} {h : MH} (o : okD 60 x = true) : cmpW .NotEq (.d x) (.d x) h = some false ∧ cmpW .Eq (.d x) (.d x) h = some true := by
  have e : eqW (.d x) (.d x) h = some true := by
    show (if okD 60 x && okD 60 x then some (eqD x x) else none) = _
    rw [o, eqD_refl]; rfl
  refine ⟨?_, e⟩
  show (eqW (.d x) (.d x) h).map _ = _
  rw [e]; rfl
theorem same_l {ds : List D} {h : MH} (o : okD 60 (.lst ds) = true) : cmpW .Eq (.own ds) (.own ds) h = some true ∧ cmpW .NotEq (.own ds) (.own ds) h = some false ∧ cmpW .Eq (.d (.lst ds)) (.own ds) h = some true ∧ cmpW .NotEq (.d (.lst ds)) (.own ds) h = some false ∧ cmpW .Eq (.bor ds) (.own ds) h = some true ∧ cmpW .NotEq (.bor ds) (.own ds) h = some false := by
  have e : (if okD 60 (.lst ds) && okD 60 (.lst ds) then some (eqD (.lst ds) (.lst ds)) else none) = some true := by
    rw [o, eqD_refl]; rfl
  have e2 : (if okD 60 (.lst ds) && okD 60 (.lst ds) then some (eqD (.lst ds) (.lst ds)) else none).map (!·) = some false := by
    rw [e]; rfl
  exact ⟨e, e2, e, e2, e, e2⟩
/-- the words of an error caught -/
theorem word_ex {phi : Phi} {ws : List Dn.W} {c : Str} {h : MH} {P1 : Dn.W → MH → Prop} {Q2 : Str → MH → Prop} (e : phi ws h = some (.ex c [], h)) (ec : errL.contains c = true) (q : Q2 c h) :
    wE P1 (fun c fs h2 => h2.length = h.length ∧ fs = [] ∧ errL.contains c = true ∧ Q2 c h2) (phi ws h) :=
  wE_ex e ⟨rfl, rfl, ec, q⟩
theorem nm_chain : namesD "InvalidChain" = "chain value" := by decide +kernel
theorem nm_weights : namesD "InvalidWeights" = "weights value" := by decide +kernel
/-! ### turned chains -/
theorem rv_cs (cs : List Nat) : strRev (cS cs) = cS cs.reverse := rfl
theorem rv_ok {cs : List Nat} {h : MH} (l : cs.length ≤ 14) : revW' (.d (.str (cS cs))) h = some (.d (.str (cS cs.reverse))) := by
  show (if (cS cs).length ≤ LIM then _ else _) = _
  rw [if_pos (by rw [cS_len]; unfold LIM; omega)]
  rfl
def upC (cs : List Nat) : List Nat := if cs.reverse < cs then cs.reverse else cs
theorem upC_rev (cs : List Nat) : upC cs.reverse = upC cs := by
  unfold upC
  rw [List.reverse_reverse]
  by_cases a : cs < cs.reverse
  · rw [if_pos a, if_neg (List.lt_asymm a)]
  · rw [if_neg a]
    by_cases b : cs.reverse < cs
    · rw [if_pos b]
    · rw [if_neg b]
      exact List.le_antisymm (List.not_lt.mp a) (List.not_lt.mp b)
theorem wtS_rev (ws : List Int) : ∀ cs : List Nat, wtS ws cs.reverse = wtS ws cs
  | [] => rfl
  | c :: cs => by
    have e : wtS ws (c :: cs) = wt ws c + wtS ws cs := by unfold wtS; rw [List.map_cons, List.sum_cons]
    have e1 : wtS ws [c] = wt ws c := by simp [wtS]
    rw [List.reverse_cons, wtS_app, wtS_rev ws cs, e, e1]; omega
theorem beg_rev (ws : List Int) (cs : List Nat) : begL ws cs.reverse = (endL ws cs).reverse := by
  unfold begL endL
  rw [List.length_reverse]
  refine List.ext_getElem (by simp) fun i h1 h2 => ?_
  simp only [List.length_map, List.length_range] at h1
  rw [List.getElem_reverse]
  simp only [List.getElem_map, List.getElem_range, List.length_map, List.length_range]
  rw [List.take_reverse, wtS_rev]
  exact congrArg (fun k => wtS ws (cs.drop k)) (by omega)
theorem end_rev (ws : List Int) (cs : List Nat) : endL ws cs.reverse = (begL ws cs).reverse := by
  have e := beg_rev ws cs.reverse
  rw [List.reverse_reverse] at e
  rw [e, List.reverse_reverse]
theorem heapL_rev (ws : List Int) (cs : List Nat) : heapL ws cs.reverse = heapL ws cs := by
  unfold heapL
  refine sortI_perm ?_
  rw [beg_rev, end_rev, ← List.reverse_append]
  exact List.reverse_perm _
theorem Cok.rev {ws : List Int} {cs : List Nat} (C : Cok ws cs) : Cok ws cs.reverse := ⟨by rw [List.length_reverse]; exact C.lo, by rw [List.length_reverse]; exact C.hi, fun c hc => C.ok c (List.mem_reverse.mp hc)⟩
/-! ### the chains' functions -/
section
variable {ws : List Int} {cs : List Nat} {v c : D} {h : MH}
theorem p_is_chain (W : Wok ws) (hv : gdD 50 v = true) : phi_is_chain [.d (wD ws), .d v] h = some (.ok (.d (.bl (goodL ws.length v))), h) := by
  refine eq_of (w_is_chain ?_)
  walk_at "p"
  refine wC_eq (need_w W) rfl ?_
  walk_at "p"
  refine wC_eq (p_is_links W hv) rfl ?_
  walk_at "p"
  rfl
theorem p_is_chain_badw (hv : gdD 50 v = true) (g : goodW v = false) : phi_is_chain [.d v, .d c] h = some (.ex "InvalidWeights" [], h) := by
  refine ex_of (w_is_chain ?_)
  walk_at "p"
  exact wC_ex (need_w_bad hv g) ⟨rfl, rfl, rfl⟩
theorem p_weight_of (W : Wok ws) (C : Cok ws cs) : phi_weight_of [.d (wD ws), .d (.str (cS cs))] h = some (.ok (.d (.int (wtS ws cs))), h) := by
  have hi := C.hi
  refine eq_of (w_weight_of ?_)
  walk_at "p"
  refine wC_eq (need_c W C) rfl ?_
  walk_at "p"
  refine wC_eq (p_weight_by W (by omega) C.ok) rfl ?_
  walk_at "p"
  rfl
theorem p_heap_of (W : Wok ws) (C : Cok ws cs) : phi_heap_of [.d (wD ws), .d (.str (cS cs))] h = some (.ok (.d (hpD (wtS ws cs) (heapL ws cs))), h) := by
  refine eq_of (w_heap_of ?_)
  walk_at "p"
  refine wC_eq (need_c W C) rfl ?_
  walk_at "p"
  refine wC_eq (p_heap_by W C) rfl ?_
  walk_at "p"
  rfl
theorem p_turned (W : Wok ws) (C : Cok ws cs) : phi_turned [.d (wD ws), .d (.str (cS cs))] h = some (.ok (.d (.str (cS cs.reverse))), h) := by
  have e := rv_ok (h := h) C.hi
  refine eq_of (w_turned ?_)
  walk_at "p"
  refine wC_eq (need_c W C) rfl ?_
  walk_at "p"
  rfl
theorem p_upright_by (hl : cs.length ≤ 14) : phi_upright_by [.d (.str (cS cs))] h = some (.ok (.d (.str (cS (upC cs)))), h) := by
  have e := rv_ok (h := h) hl
  have e2 : cmpW .Lt (.d (.str (cS cs.reverse))) (.d (.str (cS cs))) h = some (decide (cs.reverse < cs)) := rfl
  refine eq_of (w_upright_by ?_)
  walk_at "p"
  by_cases q : cs.reverse < cs
  · refine wI_at (decide_eq_true q) ?_
    walk_at "p"
    refine ⟨?_, rfl⟩
    rw [upC, if_pos q]
  · refine wI_af (decide_eq_false q) ?_
    walk_at "p"
    refine ⟨?_, rfl⟩
    rw [upC, if_neg q]
theorem p_upright (W : Wok ws) (C : Cok ws cs) : phi_upright [.d (wD ws), .d (.str (cS cs))] h = some (.ok (.d (.str (cS (upC cs)))), h) := by
  refine eq_of (w_upright ?_)
  walk_at "p"
  refine wC_eq (need_c W C) rfl ?_
  walk_at "p"
  refine wC_eq (p_upright_by C.hi) rfl ?_
  walk_at "p"
  rfl
theorem bad_weight_of (W : Wok ws) (hv : gdD 50 v = true) (g : goodL ws.length v = false) : phi_weight_of [.d (wD ws), .d v] h = some (.ex "InvalidChain" [], h) := by
  refine ex_of (w_weight_of ?_)
  walk_at "p"
  exact wC_ex (need_c_bad W hv g) ⟨rfl, rfl, rfl⟩
theorem bad_heap_of (W : Wok ws) (hv : gdD 50 v = true) (g : goodL ws.length v = false) : phi_heap_of [.d (wD ws), .d v] h = some (.ex "InvalidChain" [], h) := by
  refine ex_of (w_heap_of ?_)
  walk_at "p"
  exact wC_ex (need_c_bad W hv g) ⟨rfl, rfl, rfl⟩
theorem bad_turned (W : Wok ws) (hv : gdD 50 v = true) (g : goodL ws.length v = false) : phi_turned [.d (wD ws), .d v] h = some (.ex "InvalidChain" [], h) := by
  refine ex_of (w_turned ?_)
  walk_at "p"
  exact wC_ex (need_c_bad W hv g) ⟨rfl, rfl, rfl⟩
theorem bad_upright (W : Wok ws) (hv : gdD 50 v = true) (g : goodL ws.length v = false) : phi_upright [.d (wD ws), .d v] h = some (.ex "InvalidChain" [], h) := by
  refine ex_of (w_upright ?_)
  walk_at "p"
  exact wC_ex (need_c_bad W hv g) ⟨rfl, rfl, rfl⟩
theorem badw_weight_of (hv : gdD 50 v = true) (g : goodW v = false) : phi_weight_of [.d v, .d c] h = some (.ex "InvalidWeights" [], h) := by
  refine ex_of (w_weight_of ?_)
  walk_at "p"
  exact wC_ex (need_c_badw hv g) ⟨rfl, rfl, rfl⟩
theorem badw_heap_of (hv : gdD 50 v = true) (g : goodW v = false) : phi_heap_of [.d v, .d c] h = some (.ex "InvalidWeights" [], h) := by
  refine ex_of (w_heap_of ?_)
  walk_at "p"
  exact wC_ex (need_c_badw hv g) ⟨rfl, rfl, rfl⟩
theorem badw_turned (hv : gdD 50 v = true) (g : goodW v = false) : phi_turned [.d v, .d c] h = some (.ex "InvalidWeights" [], h) := by
  refine ex_of (w_turned ?_)
  walk_at "p"
  exact wC_ex (need_c_badw hv g) ⟨rfl, rfl, rfl⟩
theorem badw_upright (hv : gdD 50 v = true) (g : goodW v = false) : phi_upright [.d v, .d c] h = some (.ex "InvalidWeights" [], h) := by
  refine ex_of (w_upright ?_)
  walk_at "p"
  exact wC_ex (need_c_badw hv g) ⟨rfl, rfl, rfl⟩
end
/-! ### the law's own -/
theorem filt_all {α : Type} (f : α → Bool) (xs : List α) : (xs.filter fun x => !f x).isEmpty = xs.all f := by
  cases q : xs.all f with
  | false =>
    cases z : xs.filter fun x => !f x with
    | cons => rfl
    | nil =>
      have := List.filter_eq_nil_iff.mp z
      have : (xs.all f) = true := List.all_eq_true.mpr fun d hx => by have := this d hx; simpa using this
      rw [q] at this; cases this
  | true =>
    have ne : (xs.filter fun x => !f x) = [] := List.filter_eq_nil_iff.mpr fun d hx => by simp [List.all_eq_true.mp q d hx]
    rw [ne]; rfl
theorem p_law_good_weights {v : D} {h : MH} (hv : gdD 50 v = true) : phi__law_good_weights [.d v] h = some (.ok (.d (.bl (goodW v))), h) := by
  refine eq_of (w__law_good_weights ?_)
  cases v with
  | fr x => cases hv
  | tup ds =>
    have hd := gd_tup hv
    have e1 := nin_23l (i := (ds.length : Int)) (h := h)
    have g : goodW (.tup ds) = ((decide ((ds.length : Int) = 2) || decide ((ds.length : Int) = 3)) && ds.all fun d => isInt d 1 9) := rfl
    rw [g]
    walk_at "p"
    cases q : (decide ((ds.length : Int) = 2) || decide ((ds.length : Int) = 3)) with
    | false =>
      walk_at "p"
      rfl
    | true =>
      walk_at "p"
      refine lc_filt (fun d => !isInt d 1 9) id ?_ ?_ ?_
      · intro d hd'
        refine ⟨_, rfl, ?_, fun _ => ?_⟩
        · walk_at "p"
          refine wC_eq (p_law_int (okD_mono 49 60 (by omega) d (gd_ok 49 d (hd.2 d hd')))) rfl ?_
          walk_at "p"
          rfl
        · walk_at "p"
          rfl
      · unfold LIM; omega
      rw [List.map_id]
      have ok : (ds.filter fun d => !isInt d 1 9).all (okD 59) = true := List.all_eq_true.mpr fun d hx => okD_mono 49 59 (by omega) d (gd_ok 49 d (hd.2 d (List.mem_filter.mp hx).1))
      have e2 := (c_neN (h := h) ok).2.2
      rw [filt_all] at e2
      walk_at "p"
      rfl
  | _ =>
    walk_at "p"
    rfl
theorem p_law_good_chain {ws : List Int} {v : D} {h : MH} (W : Wok ws) (hv : gdD 50 v = true) : phi__law_good_chain [.d (wD ws), .d v] h = some (.ok (.d (.bl (goodL ws.length v))), h) := by
  refine eq_of (w__law_good_chain ?_)
  cases v with
  | fr x => cases hv
  | str x =>
    have hx : x.length ≤ 2000 := of_decide_eq_true hv
    have l1 := l_str (x := x) (h := h) (by unfold LIM; omega)
    have g : goodL ws.length (.str x) = ((decide (1 ≤ (x.length : Int)) && decide ((x.length : Int) ≤ 14)) && x.cps.toList.all fun c => decide (c ∈ (kindsS ws.length).cps.toList)) := rfl
    rw [g]
    walk_at "p"
    cases q1 : decide (1 ≤ (x.length : Int)) with
    | false =>
      walk_at "p"
      rfl
    | true =>
      walk_at "p"
      cases q2 : decide ((x.length : Int) ≤ 14) with
      | false =>
        walk_at "p"
        rfl
      | true =>
        walk_at "p"
        refine lc_filt (fun d => match d with | .str x => !decide (x.cps.toList.headD 0 ∈ (kindsS ws.length).cps.toList) | _ => false) id ?_ ?_ ?_
        · intro d hd
          obtain ⟨c, hc, rfl⟩ := List.mem_map.mp hd
          refine ⟨_, rfl, ?_, fun _ => ?_⟩
          · have e : cmpW .NotIn (.d (.str ⟨#[c]⟩)) (.d (.str (kindsS ws.length))) h = some (!decide (c ∈ (kindsS ws.length).cps.toList)) := by
              show some (!strIn _ _) = _
              exact congrArg (fun b => some (!b)) (PySem.StrLaws.found_one _ _)
            walk_at "p"
            refine ⟨?_, rfl⟩
            show (!(strIn ⟨#[c]⟩ (cutS "abc" none (some ((ws.map D.int).length : Int))))) = !decide (c ∈ (kindsS ws.length).cps.toList)
            rw [List.length_map, cut_kinds W.len]
            exact congrArg (fun b => !b) (PySem.StrLaws.found_one _ _)
          · walk_at "p"
            rfl
        · rw [charsD_len]; unfold Str.length at hx; unfold LIM; omega
        rw [List.map_id]
        have eq : ((charsD x).filter (fun d => match d with | .str x => !decide (x.cps.toList.headD 0 ∈ (kindsS ws.length).cps.toList) | _ => false)).isEmpty = x.cps.toList.all fun c => decide (c ∈ (kindsS ws.length).cps.toList) := by
          unfold charsD
          rw [List.filter_map, ← filt_all]
          exact List.isEmpty_map
        have ok : ((charsD x).filter (fun d => match d with | .str x => !decide (x.cps.toList.headD 0 ∈ (kindsS ws.length).cps.toList) | _ => false)).all (okD 59) = true := List.all_eq_true.mpr fun d hx => by
          obtain ⟨c, _, rfl⟩ := List.mem_map.mp (List.mem_filter.mp hx).1
          rfl
        have e2 := (c_neN (h := h) ok).2.2
        rw [eq] at e2
        walk_at "p"
        rfl
  | _ =>
    walk_at "p"
    rfl
end Lw

set_option maxHeartbeats 4000000
namespace Lw
open PySem Dn L2 PyProof.Rows
local macro_rules | `(tactic| walk_at "v") => `(tactic| ((with_reducible refine wO_ex ?_); (refine Exists.intro ?_ (And.intro ?_ ?_)); rotate_left; first | with_reducible exact c_eqI | with_reducible exact c_neI | with_reducible exact c_eqS | with_reducible exact c_neS | with_reducible assumption | with_reducible exact len_tup | with_reducible exact len_lst | with_reducible exact len_bor | with_reducible exact len_own | exact rfl | exact m_r (by decide) | exact m_l (by decide)))
local macro_rules | `(tactic| walk_at "1") => `(tactic| first
  | with_reducible refine wS_seq ?_ | with_reducible refine wS_if ?_ | with_reducible refine wS_set ?_ | with_reducible refine wS_ret ?_ | with_reducible refine wS_nil ?_
  | ((with_reducible refine wE_var ?_); refine ⟨_, rfl, _, rfl, ?_⟩)
  | with_reducible refine wE_cst ?_ | with_reducible refine wE_p2 ?_ | with_reducible refine wE_app ?_ | with_reducible refine wE_nil ?_ | with_reducible refine wE_cons ?_ | with_reducible refine wE_cmp ?_ | with_reducible refine wE_chain ?_
  | with_reducible refine wE_asB ?_ | with_reducible refine wE_tru ?_ | with_reducible refine wE_not ?_ | with_reducible refine wE_notW ?_ | with_reducible refine wE_neg ?_ | with_reducible refine wE_and1 ?_ | with_reducible refine wE_and ?_
  | with_reducible refine wE_or1 ?_ | with_reducible refine wE_or ?_ | with_reducible refine wE_if ?_ | with_reducible refine wE_andV1 ?_ | with_reducible refine wE_andV ?_ | with_reducible refine wE_orV1 ?_ | with_reducible refine wE_orV ?_
  | with_reducible refine wE_isa ?_ | with_reducible refine wE_dat ?_ | with_reducible refine wE_arg ?_ | with_reducible refine wE_shr ?_ | with_reducible refine wE_rv ?_ | with_reducible refine wE_part0 ?_ | with_reducible refine wE_part1 ?_
  | with_reducible refine wE_cnt ?_ | with_reducible refine wE_sset ?_ | with_reducible refine wE_sl ?_ | with_reducible refine wE_ms ?_ | with_reducible refine wE_call ?_ | with_reducible refine wE_try ?_ | with_reducible refine wE_word ?_ | with_reducible refine wE_iseq ?_ | with_reducible refine wE_iapp ?_ | with_reducible refine wE_lc ?_
  | with_reducible refine wS_cont ?_ | with_reducible refine wS_break ?_ | with_reducible refine wS_retN ?_ | ((with_reducible refine wS_retV ?_); refine ⟨_, rfl, rfl, ?_⟩) | with_reducible refine wS_drop ?_ | with_reducible refine wS_raise ?_ | ((with_reducible refine wS_frz ?_); refine ⟨_, rfl, ?_⟩) | ((with_reducible refine wS_frz' ?_); refine ⟨_, rfl, ?_⟩)
  | with_reducible refine wS_unp ?_ | ((with_reducible refine wS_aug ?_); refine ⟨_, rfl, ?_⟩) | ((with_reducible refine wS_own ?_); refine ⟨_, rfl, ?_⟩) | ((with_reducible refine wS_ownSet ?_); refine ⟨_, rfl, ?_⟩) | with_reducible refine wS_par2 ?_ | with_reducible refine wS_par3 ?_ | with_reducible refine wS_item ?_ | with_reducible refine wS_itemO ?_ | with_reducible refine wS_for ?_
  | with_reducible refine wI_t ?_ | with_reducible refine wI_f ?_
  | with_reducible refine wI_at (by assumption) ?_ | with_reducible refine wI_af (by assumption) ?_ | refine wI_at (by rfl) ?_ | refine wI_af (by rfl) ?_
  | ((fail_if_success (with_reducible refine wO_ex ?_)); (first | refine ⟨_, rfl, ?_⟩ | refine ⟨_, _, rfl, ?_⟩ | refine ⟨_, _, _, rfl, ?_⟩ | refine And.intro (by rfl) ?_)))
local macro_rules | `(tactic| walk_at "p") => `(tactic| repeat (first | walk_at "v" | walk_at "1"))

theorem p_known {ws : List Int} {v : D} {h : MH} (W : Wok ws) (hv : gdD 50 v = true) : phi__law_known [.d (wD ws), .d v] h = some (.ok (.d (.bl true)), h) := by
  refine eq_of (w__law_known ?_)
  walk_at "p"
  refine wC_eq (p_is_weights hv) rfl ?_
  walk_at "p"
  refine wC_eq (p_is_chain W hv) rfl ?_
  walk_at "p"
  refine wC_eq (p_is_heap hv) rfl ?_
  walk_at "p"
  refine And.intro (Nat.zero_le _) ?_
  walk_at "p"
  refine wC_eq (p_law_good_weights hv) rfl ?_
  walk_at "p"
  refine wC_eq (p_law_good_chain W hv) rfl ?_
  walk_at "p"
  refine wC_eq (p_law_good_heap hv) rfl ?_
  obtain ⟨s1, s2, s3, s4, s5, s6⟩ := same_l (ds := [.bl (goodW v), .bl (goodL ws.length v), .bl (goodH v)]) (h := h) rfl
  walk_at "p"
  rfl
theorem p_chain_right {ws : List Int} {cs : List Nat} {h : MH} (W : Wok ws) (C : Cok ws cs) : phi__law_chain_right [.d (wD ws), .d (.str (cS cs))] h = some (.ok (.d (.bl true)), h) := by
  have G := heapL_gh W C
  have e1 := rv_ok (h := h) C.hi
  have e2 := same_d (x := hpD (wtS ws cs) (heapL ws cs)) (h := h) (okD_mono 50 60 (by omega) _ (gd_ok 50 _ (gd_hp G)))
  obtain ⟨e3, e4⟩ := e2
  obtain ⟨e5, e6⟩ := same_d (x := .str (cS cs.reverse)) (h := h) rfl
  obtain ⟨e7, e8⟩ := same_d (x := .str (cS (upC cs))) (h := h) rfl
  obtain ⟨e9, e10⟩ := same_d (x := .int (wtS ws cs)) (h := h) rfl
  have e11 : minSF [.d (.str (cS cs)), .d (.str (cS cs.reverse))] h = some (.d (.str (cS (upC cs)))) := by
    show some (Dn.W.d (.str (if cs.reverse < cs then cS cs.reverse else cS cs))) = _
    unfold upC
    split <;> rfl
  refine eq_of (w__law_chain_right ?_)
  walk_at "p"
  refine wC_eq (p_heap_of W C) rfl ?_
  walk_at "p"
  refine wC_eq (p_law_heap W C) rfl ?_
  walk_at "p"
  refine wC_eq (p_is_heap (gd_hp G)) rfl ?_
  rw [goodH_hp G]
  walk_at "p"
  refine wC_eq (p_heap_of W C.rev) rfl ?_
  rw [heapL_rev, wtS_rev]
  walk_at "p"
  refine wC_eq (p_weight_of W C) rfl ?_
  walk_at "p"
  refine wI_af (by simp) ?_
  walk_at "p"
  refine wC_eq (p_turned W C) rfl ?_
  walk_at "p"
  refine wI_af (by simp) ?_
  walk_at "p"
  refine wC_eq (p_upright W C) rfl ?_
  walk_at "p"
  refine wI_at (by simp) ?_
  walk_at "p"
  refine wC_eq (p_upright W C.rev) rfl ?_
  rw [upC_rev]
  walk_at "p"
  simp
abbrev callsD : D := .tup [.fr "weight_of", .fr "heap_of", .fr "turned", .fr "upright"]
theorem calls_of {d : D} (h : d ∈ [D.fr "weight_of", .fr "heap_of", .fr "turned", .fr "upright"]) : d = .fr "weight_of" ∨ d = .fr "heap_of" ∨ d = .fr "turned" ∨ d = .fr "upright" := by
  simpa using h
theorem ref_tail {ws : List Int} {v : D} {h : MH} {y3 y4 : Option Dn.W} {nx bk ct : Rho → MH → Prop} (W : Wok ws) (hv : gdD 50 v = true) :
    wS nx (fun w h1 => w = .d (.bl true) ∧ h1 = h) bk ct NoEx (sSeq st__law_refused_6 (sSeq (sRet (dCst (.bl true))) sNil) [some (.d (wD ws)), some (.d v), some (.d callsD), y3, y4] h) := by
  walk_at "p"
  refine wC_eq (p_law_good_weights hv) rfl ?_
  cases g : goodW v with
  | true =>
    walk_at "p"
    first | exact ⟨rfl, rfl⟩ | rfl
  | false =>
    walk_at "p"
    refine lc_mapE (fun _ => .str "weights value") (ys := [.str "weights value", .str "weights value", .str "weights value", .str "weights value"]) rfl ?_ ?_ ?_
    · intro d hd
      refine ⟨_, rfl, ?_⟩
      rcases calls_of hd with rfl | rfl | rfl | rfl
      · walk_at "p"
        refine wE_callV ⟨_, rfl, 0, _, by decide +kernel, rfl, ?_⟩
        walk_at "p"
        refine word_ex (badw_weight_of hv g) (by decide +kernel) ?_
        rw [nm_weights]
        walk_at "p"
        rfl
      · walk_at "p"
        refine wE_callV ⟨_, rfl, 1, _, by decide +kernel, rfl, ?_⟩
        walk_at "p"
        refine word_ex (badw_heap_of hv g) (by decide +kernel) ?_
        rw [nm_weights]
        walk_at "p"
        rfl
      · walk_at "p"
        refine wE_callV ⟨_, rfl, 2, _, by decide +kernel, rfl, ?_⟩
        walk_at "p"
        refine word_ex (badw_turned hv g) (by decide +kernel) ?_
        rw [nm_weights]
        walk_at "p"
        rfl
      · walk_at "p"
        refine wE_callV ⟨_, rfl, 3, _, by decide +kernel, rfl, ?_⟩
        walk_at "p"
        refine word_ex (badw_upright hv g) (by decide +kernel) ?_
        rw [nm_weights]
        walk_at "p"
        rfl
    · show 4 ≤ _; unfold LIM; omega
    walk_at "p"
    refine word_ex (p_is_chain_badw hv g) (by decide +kernel) ?_
    rw [nm_weights]
    obtain ⟨s1, s2, s3, s4, s5, s6⟩ := same_l (ds := [.str "weights value", .str "weights value", .str "weights value", .str "weights value", .str "weights value"]) (h := h) rfl
    walk_at "p"
    first | exact ⟨rfl, rfl⟩ | rfl
theorem p_refused {ws : List Int} {v : D} {h : MH} (W : Wok ws) (hv : gdD 50 v = true) : phi__law_refused [.d (wD ws), .d v] h = some (.ok (.d (.bl true)), h) := by
  refine eq_of (w__law_refused ?_)
  have tl := fun nx bk ct y3 y4 => ref_tail (ws := ws) (v := v) (h := h) (y3 := y3) (y4 := y4) (nx := nx) (bk := bk) (ct := ct) W hv
  refine wS_seq ?_
  walk_at "p"
  refine wC_eq (p_law_good_chain W hv) rfl ?_
  cases g : goodL ws.length v with
  | true =>
    repeat (first | exact tl _ _ _ _ _ | walk_at "v" | walk_at "1")
  | false =>
    repeat (first | exact tl _ _ _ _ _ | walk_at "v" | walk_at "1")
    refine lc_mapE (fun _ => .str "chain value") (ys := [.str "chain value", .str "chain value", .str "chain value", .str "chain value"]) rfl ?_ ?_ ?_
    · intro d hd
      refine ⟨_, rfl, ?_⟩
      rcases calls_of hd with rfl | rfl | rfl | rfl
      · walk_at "p"
        refine wE_callV ⟨_, rfl, 0, _, by decide +kernel, rfl, ?_⟩
        walk_at "p"
        refine word_ex (bad_weight_of W hv g) (by decide +kernel) ?_
        rw [nm_chain]
        walk_at "p"
        rfl
      · walk_at "p"
        refine wE_callV ⟨_, rfl, 1, _, by decide +kernel, rfl, ?_⟩
        walk_at "p"
        refine word_ex (bad_heap_of W hv g) (by decide +kernel) ?_
        rw [nm_chain]
        walk_at "p"
        rfl
      · walk_at "p"
        refine wE_callV ⟨_, rfl, 2, _, by decide +kernel, rfl, ?_⟩
        walk_at "p"
        refine word_ex (bad_turned W hv g) (by decide +kernel) ?_
        rw [nm_chain]
        walk_at "p"
        rfl
      · walk_at "p"
        refine wE_callV ⟨_, rfl, 3, _, by decide +kernel, rfl, ?_⟩
        walk_at "p"
        refine word_ex (bad_upright W hv g) (by decide +kernel) ?_
        rw [nm_chain]
        walk_at "p"
        rfl
    · show 4 ≤ _; unfold LIM; omega
    obtain ⟨s1, s2, s3, s4, s5, s6⟩ := same_l (ds := [.str "chain value", .str "chain value", .str "chain value", .str "chain value"]) (h := h) rfl
    repeat (first | exact tl _ _ _ _ _ | walk_at "v" | walk_at "1")
end Lw

set_option maxHeartbeats 4000000
namespace Lw
open PySem Dn L2 PyProof.Rows
local macro_rules | `(tactic| walk_at "v") => `(tactic| ((with_reducible refine wO_ex ?_); (refine Exists.intro ?_ (And.intro ?_ ?_)); rotate_left; first | with_reducible exact c_eqI | with_reducible exact c_neI | with_reducible exact c_eqS | with_reducible exact c_neS | with_reducible assumption | with_reducible exact len_tup | with_reducible exact len_lst | with_reducible exact len_bor | with_reducible exact len_own | exact rfl | exact m_r (by decide) | exact m_l (by decide)))
local macro_rules | `(tactic| walk_at "1") => `(tactic| first
  | with_reducible refine wS_seq ?_ | with_reducible refine wS_if ?_ | with_reducible refine wS_set ?_ | with_reducible refine wS_ret ?_ | with_reducible refine wS_nil ?_
  | ((with_reducible refine wE_var ?_); refine ⟨_, rfl, _, rfl, ?_⟩)
  | with_reducible refine wE_cst ?_ | with_reducible refine wE_p2 ?_ | with_reducible refine wE_app ?_ | with_reducible refine wE_nil ?_ | with_reducible refine wE_cons ?_ | with_reducible refine wE_cmp ?_ | with_reducible refine wE_chain ?_
  | with_reducible refine wE_asB ?_ | with_reducible refine wE_tru ?_ | with_reducible refine wE_not ?_ | with_reducible refine wE_notW ?_ | with_reducible refine wE_neg ?_ | with_reducible refine wE_and1 ?_ | with_reducible refine wE_and ?_
  | with_reducible refine wE_or1 ?_ | with_reducible refine wE_or ?_ | with_reducible refine wE_if ?_ | with_reducible refine wE_andV1 ?_ | with_reducible refine wE_andV ?_ | with_reducible refine wE_orV1 ?_ | with_reducible refine wE_orV ?_
  | with_reducible refine wE_isa ?_ | with_reducible refine wE_dat ?_ | with_reducible refine wE_arg ?_ | with_reducible refine wE_shr ?_ | with_reducible refine wE_rv ?_ | with_reducible refine wE_part0 ?_ | with_reducible refine wE_part1 ?_
  | with_reducible refine wE_cnt ?_ | with_reducible refine wE_sset ?_ | with_reducible refine wE_sl ?_ | with_reducible refine wE_ms ?_ | with_reducible refine wE_call ?_ | with_reducible refine wE_try ?_ | with_reducible refine wE_word ?_ | with_reducible refine wE_iseq ?_ | with_reducible refine wE_iapp ?_ | with_reducible refine wE_lc ?_
  | with_reducible refine wS_cont ?_ | with_reducible refine wS_break ?_ | with_reducible refine wS_retN ?_ | ((with_reducible refine wS_retV ?_); refine ⟨_, rfl, rfl, ?_⟩) | with_reducible refine wS_drop ?_ | with_reducible refine wS_raise ?_ | ((with_reducible refine wS_frz ?_); refine ⟨_, rfl, ?_⟩) | ((with_reducible refine wS_frz' ?_); refine ⟨_, rfl, ?_⟩)
  | with_reducible refine wS_unp ?_ | ((with_reducible refine wS_aug ?_); refine ⟨_, rfl, ?_⟩) | ((with_reducible refine wS_own ?_); refine ⟨_, rfl, ?_⟩) | ((with_reducible refine wS_ownSet ?_); refine ⟨_, rfl, ?_⟩) | with_reducible refine wS_par2 ?_ | with_reducible refine wS_par3 ?_ | with_reducible refine wS_item ?_ | with_reducible refine wS_itemO ?_ | with_reducible refine wS_for ?_
  | with_reducible refine wI_t ?_ | with_reducible refine wI_f ?_
  | with_reducible refine wI_at (by assumption) ?_ | with_reducible refine wI_af (by assumption) ?_ | ((fail_if_success (with_reducible refine nopS ?_)); (fail_if_success (with_reducible refine nopE ?_)); (first | refine wI_at (by rfl) ?_ | refine wI_af (by rfl) ?_))
  | ((fail_if_success (with_reducible refine wO_ex ?_)); (fail_if_success (with_reducible refine nopS ?_)); (fail_if_success (with_reducible refine nopE ?_)); (fail_if_success (with_reducible refine nopL ?_)); (first | refine ⟨_, rfl, ?_⟩ | refine ⟨_, _, rfl, ?_⟩ | refine ⟨_, _, _, rfl, ?_⟩ | refine And.intro (by rfl) ?_)))
local macro_rules | `(tactic| walk_at "p") => `(tactic| repeat (first | walk_at "v" | walk_at "1"))

theorem rng_at {m : Nat} {pre post : List D} {d : D} (e : rangeD 0 m = pre ++ d :: post) : d = .int (pre.length : Int) ∧ pre.length < m := by
  have l := congrArg List.length e
  have g := congrArg (fun l : List D => l[pre.length]?) e
  have lm : pre.length < m := by
    have : (rangeD 0 m).length = m := by simp [rangeD]
    rw [this, List.length_append, List.length_cons] at l; omega
  simp [rangeD, List.getElem?_map, List.getElem?_range lm] at g
  exact ⟨g.symm, lm⟩
theorem gx_hp {w : Int} {ps : List Int} (G : Gh w ps) : gdX 31 30 2 (hpD w ps) = true := by
  have a := G.w1; have b := G.w2; have c := G.len
  have e : ∀ d ∈ ps.map D.int, gdX 31 30 0 d = true := fun d hd => by
    obtain ⟨p, hp, rfl⟩ := List.mem_map.mp hd
    have := G.rng p hp
    show decide (p.natAbs < 10 ^ 31) = true
    exact decide_eq_true (by omega)
  have e2 : gdX 31 30 1 (.tup (ps.map .int)) = true := (gx_mk (by rw [List.length_map]; omega) e).1
  refine (gx_mk (n := 1) (by simp) fun d hd => ?_).1
  simp at hd
  rcases hd with rfl | rfl
  · show decide (w.natAbs < 10 ^ 31) = true
    exact decide_eq_true (by omega)
  · exact e2
theorem gx_w {ws : List Int} (W : Wok ws) : gdX 31 30 2 (wD ws) = true := by
  refine (gx_mk (n := 1) (by have := W.len; rw [List.length_map]; omega) fun d hd => ?_).1
  obtain ⟨w, hw, rfl⟩ := List.mem_map.mp hd
  have := W.rng w hw
  show decide (w.natAbs < 10 ^ 31) = true
  exact decide_eq_true (by omega)
theorem gx_c {ws : List Int} {cs : List Nat} (C : Cok ws cs) : gdX 31 30 2 (.str (cS cs)) = true := by
  have := C.hi
  show decide ((cS cs).length ≤ 30) = true
  exact decide_eq_true (by rw [cS_len]; omega)
/-! ### written values -/
def rowsD : List D := [.tup [.int 1, .int 9], .tup [.int 1, .int 10], .tup [.int 0, .int 1], .tup [.int 1], .tup [.int 1, .int 1, .int 1], .tup [.int 1, .int 1, .int 1, .int 1], .tup [.int 1, .bl true], .lst [.int 1, .int 2], .str "a", .str "c", .str "aaaaaaaaaaaaaa", .str "aaaaaaaaaaaaaaa", .str "ab c", .tup [.int 126, .tup [.int 1, .int 1, .int 1, .int 1, .int 1, .int 1, .int 1, .int 1, .int 1, .int 1, .int 1, .int 1, .int 1, .int 1, .int 1, .int 1, .int 1, .int 1, .int 1, .int 1, .int 1, .int 1, .int 1, .int 1, .int 1, .int 1, .int 1, .int 1, .int 1, .int 1]], .tup [.int 126, .tup [.int 1, .int 1, .int 1, .int 1, .int 1, .int 1, .int 1, .int 1, .int 1, .int 1, .int 1, .int 1, .int 1, .int 1, .int 1, .int 1, .int 1, .int 1, .int 1, .int 1, .int 1, .int 1, .int 1, .int 1, .int 1, .int 1, .int 1, .int 1, .int 1, .int 1, .int 1]], .tup [.int 127, .tup []], .tup [.int 1, .tup []], .tup [.int 1, .tup [.int 1]], .tup [.int 0, .tup []], .tup [.int 5, .tup [.int 2, .int 2, .int 4]], .tup [.int 5, .tup [.int 4, .int 2]], .tup [.int 5, .lst [.int 2]], .tup [.int 5, .tup [.int 0]], .tup [.int 5, .tup [.int 5]], .tup [.int 5, .tup [.bl true]], .tup [.bl true, .tup []], .tup [.int 5, .tup [], .tup []]]
theorem rows_gd : rowsD.all (gdD 50) = true := by decide +kernel
theorem W23 : Wok [2, 3] := ⟨.inl rfl, fun w hw => by
  simp at hw
  rcases hw with rfl | rfl <;> omega⟩
theorem W112 : Wok [1, 1, 2] := ⟨.inr rfl, fun w hw => by
  simp at hw
  rcases hw with rfl | rfl <;> omega⟩
theorem C23 {cs : List Nat} (lo : 1 ≤ cs.length) (hi : cs.length ≤ 14) (h : cs.all (fun c => c == 97 || c == 98) = true) : Cok [2, 3] cs := ⟨lo, hi, fun c hc => by
  have := List.all_eq_true.mp h c hc
  simp at this
  rcases this with rfl | rfl
  · exact .inl rfl
  · exact .inr (.inl rfl)⟩
theorem heap_is {ws : List Int} {cs : List Nat} {ps : List Int} (p : (begL ws cs ++ endL ws cs).Perm ps) (s : ps.Pairwise (· ≤ ·)) : heapL ws cs = ps := sortI_of p s
theorem l1 : heapL [2, 3] [97, 98, 98, 97] = [2, 2, 5, 5, 8, 8] := heap_is (by decide +kernel) (by decide)
theorem l2 : heapL [2, 3] [98] = [] := heap_is (by decide +kernel) (by decide)
theorem p_written {h : MH} : phi__law_written [] h = some (.ok (.d (.bl true)), h) := by
  have Ca : Cok [2, 3] [97, 98, 98, 97] := C23 (by decide) (by decide) (by decide)
  have Cb : Cok [2, 3] [98] := C23 (by decide) (by decide) (by decide)
  have Cc : Cok [2, 3] [98, 97, 97] := C23 (by decide) (by decide) (by decide)
  have Cd : Cok [2, 3] [97, 97, 98] := C23 (by decide) (by decide) (by decide)
  have q1 : phi_is_chain [.d (.tup [.int 2, .int 3]), .d (.str "abc")] h = some (.ok (.d (.bl false)), h) := by
    have q := p_is_chain (v := .str "abc") (h := h) W23 (by decide +kernel)
    rw [show goodL ([2, 3] : List Int).length (.str "abc") = false by decide +kernel] at q
    exact q
  have q2 : phi_is_chain [.d (.tup [.int 1, .int 1, .int 2]), .d (.str "abc")] h = some (.ok (.d (.bl true)), h) := by
    have q := p_is_chain (v := .str "abc") (h := h) W112 (by decide +kernel)
    rw [show goodL ([1, 1, 2] : List Int).length (.str "abc") = true by decide +kernel] at q
    exact q
  have q3 : phi_is_heap [.d (.tup [.int 5, .tup [.int 2, .int 2, .int 4]])] h = some (.ok (.d (.bl true)), h) := by
    have q := p_is_heap (v := .tup [.int 5, .tup [.int 2, .int 2, .int 4]]) (h := h) (by decide +kernel)
    rw [show goodH (.tup [.int 5, .tup [.int 2, .int 2, .int 4]]) = true by decide +kernel] at q
    exact q
  have q4 : phi_heap_of [.d (.tup [.int 2, .int 3]), .d (.str "abba")] h = some (.ok (.d (.tup [.int 10, .tup [.int 2, .int 2, .int 5, .int 5, .int 8, .int 8]])), h) := by
    have q := p_heap_of (h := h) W23 Ca
    rw [l1, show wtS [2, 3] [97, 98, 98, 97] = 10 by decide +kernel, show cS [97, 98, 98, 97] = "abba" by decide +kernel] at q
    exact q
  have q5 : phi_heap_of [.d (.tup [.int 2, .int 3]), .d (.str "b")] h = some (.ok (.d (.tup [.int 3, .tup []])), h) := by
    have q := p_heap_of (h := h) W23 Cb
    rw [l2, show wtS [2, 3] [98] = 3 by decide +kernel, show cS [98] = "b" by decide +kernel] at q
    exact q
  have q6 : phi_upright [.d (.tup [.int 2, .int 3]), .d (.str "baa")] h = some (.ok (.d (.str "aab")), h) := by
    have q := p_upright (h := h) W23 Cc
    rw [show cS (upC [98, 97, 97]) = "aab" by decide +kernel, show cS [98, 97, 97] = "baa" by decide +kernel] at q
    exact q
  have q7 : phi_turned [.d (.tup [.int 2, .int 3]), .d (.str "aab")] h = some (.ok (.d (.str "baa")), h) := by
    have q := p_turned (h := h) W23 Cd
    rw [show cS [97, 97, 98].reverse = "baa" by decide +kernel, show cS [97, 97, 98] = "aab" by decide +kernel] at q
    exact q
  have q8 : phi_weight_of [.d (.tup [.int 2, .int 3]), .d (.str "abba")] h = some (.ok (.d (.int 10)), h) := by
    have q := p_weight_of (h := h) W23 Ca
    rw [show wtS [2, 3] [97, 98, 98, 97] = 10 by decide +kernel, show cS [97, 98, 98, 97] = "abba" by decide +kernel] at q
    exact q
  have n4 := (same_d (x := .tup [.int 10, .tup [.int 2, .int 2, .int 5, .int 5, .int 8, .int 8]]) (h := h) (by decide +kernel)).1
  have n5 := (same_d (x := .tup [.int 3, .tup []]) (h := h) (by decide +kernel)).1
  with_reducible refine eq_of ?_
  with_reducible refine w__law_written ?_
  walk_at "p"
  with_reducible refine wS_loop (fun rho h' => h' = h ∧ ∃ y1 y2, rho = [some (.d (.lst rowsD)), y1, y2]) ?_ ?_ ?_
  · exact ⟨rfl, _, _, rfl⟩
  · rintro d hd _ _ ⟨rfl, y1, y2, rfl⟩
    obtain ⟨ws, rfl, W⟩ : ∃ ws, d = wD ws ∧ Wok ws := by
      simp at hd
      rcases hd with rfl | rfl
      · exact ⟨_, rfl, W23⟩
      · exact ⟨_, rfl, W112⟩
    refine ⟨_, rfl, ?_⟩
    walk_at "p"
    with_reducible refine lc_filtE (fun _ => false) id (ys := []) ?_ ?_ ?_ ?_
    · rw [List.filter_eq_nil_iff.mpr (fun _ _ z => by cases z)]; rfl
    · intro d hd
      have g := List.all_eq_true.mp rows_gd d hd
      refine ⟨_, rfl, ?_, fun z => by cases z⟩
      walk_at "p"
      refine wC_eq (p_known W g) rfl ?_
      walk_at "p"
      try rfl
    · show 27 ≤ _; unfold LIM; omega
    walk_at "p"
    first | exact ⟨rfl, _, _, rfl⟩ | exact ⟨_, _, rfl⟩ | rfl
  · rintro _ _ ⟨rfl, y1, y2, rfl⟩
    walk_at "p"
    with_reducible refine wC_eqd q1 ?_
    walk_at "p"
    with_reducible refine wC_eqd q2 ?_
    walk_at "p"
    with_reducible refine wC_eqd q3 ?_
    walk_at "p"
    with_reducible refine wC_eqd q4 ?_
    walk_at "p"
    try (with_reducible refine wO_of n4 ?_; walk_at "p")
    with_reducible refine wC_eqd q5 ?_
    walk_at "p"
    try (with_reducible refine wO_of n5 ?_; walk_at "p")
    with_reducible refine wC_eqd q6 ?_
    walk_at "p"
    try ((with_reducible refine wI_at (by simp) ?_); walk_at "p")
    with_reducible refine wC_eqd q7 ?_
    walk_at "p"
    try ((with_reducible refine wI_at (by simp) ?_); walk_at "p")
    with_reducible refine wC_eqd q8 ?_
    walk_at "p"
    first | rfl | exact ⟨rfl, rfl⟩ | simp
end Lw

set_option maxHeartbeats 4000000
namespace Lw
open PySem Dn L2 PyProof.Rows
local macro_rules | `(tactic| walk_at "v") => `(tactic| ((with_reducible refine wO_ex ?_); (refine Exists.intro ?_ (And.intro ?_ ?_)); rotate_left; first | with_reducible exact c_eqI | with_reducible exact c_neI | with_reducible exact c_eqS | with_reducible exact c_neS | with_reducible assumption | with_reducible exact len_tup | with_reducible exact len_lst | with_reducible exact len_bor | with_reducible exact len_own | exact rfl | exact m_r (by decide) | exact m_l (by decide)))
local macro_rules | `(tactic| walk_at "1") => `(tactic| first
  | with_reducible refine wS_seq ?_ | with_reducible refine wS_if ?_ | with_reducible refine wS_set ?_ | with_reducible refine wS_ret ?_ | with_reducible refine wS_nil ?_
  | ((with_reducible refine wE_var ?_); refine ⟨_, rfl, _, rfl, ?_⟩)
  | with_reducible refine wE_cst ?_ | with_reducible refine wE_p2 ?_ | with_reducible refine wE_app ?_ | with_reducible refine wE_nil ?_ | with_reducible refine wE_cons ?_ | with_reducible refine wE_cmp ?_ | with_reducible refine wE_chain ?_
  | with_reducible refine wE_asB ?_ | with_reducible refine wE_tru ?_ | with_reducible refine wE_not ?_ | with_reducible refine wE_notW ?_ | with_reducible refine wE_neg ?_ | with_reducible refine wE_and1 ?_ | with_reducible refine wE_and ?_
  | with_reducible refine wE_or1 ?_ | with_reducible refine wE_or ?_ | with_reducible refine wE_if ?_ | with_reducible refine wE_andV1 ?_ | with_reducible refine wE_andV ?_ | with_reducible refine wE_orV1 ?_ | with_reducible refine wE_orV ?_
  | with_reducible refine wE_isa ?_ | with_reducible refine wE_dat ?_ | with_reducible refine wE_arg ?_ | with_reducible refine wE_shr ?_ | with_reducible refine wE_rv ?_ | with_reducible refine wE_part0 ?_ | with_reducible refine wE_part1 ?_
  | with_reducible refine wE_cnt ?_ | with_reducible refine wE_sset ?_ | with_reducible refine wE_sl ?_ | with_reducible refine wE_ms ?_ | with_reducible refine wE_call ?_ | with_reducible refine wE_try ?_ | with_reducible refine wE_word ?_ | with_reducible refine wE_iseq ?_ | with_reducible refine wE_iapp ?_ | with_reducible refine wE_lc ?_
  | with_reducible refine wS_cont ?_ | with_reducible refine wS_break ?_ | with_reducible refine wS_retN ?_ | ((with_reducible refine wS_retV ?_); refine ⟨_, rfl, rfl, ?_⟩) | with_reducible refine wS_drop ?_ | with_reducible refine wS_raise ?_ | ((with_reducible refine wS_frz ?_); refine ⟨_, rfl, ?_⟩) | ((with_reducible refine wS_frz' ?_); refine ⟨_, rfl, ?_⟩)
  | with_reducible refine wS_unp ?_ | ((with_reducible refine wS_aug ?_); refine ⟨_, rfl, ?_⟩) | ((with_reducible refine wS_own ?_); refine ⟨_, rfl, ?_⟩) | ((with_reducible refine wS_ownSet ?_); refine ⟨_, rfl, ?_⟩) | with_reducible refine wS_par2 ?_ | with_reducible refine wS_par3 ?_ | with_reducible refine wS_item ?_ | with_reducible refine wS_itemO ?_ | with_reducible refine wS_for ?_
  | with_reducible refine wI_t ?_ | with_reducible refine wI_f ?_
  | with_reducible refine wI_at (by assumption) ?_ | with_reducible refine wI_af (by assumption) ?_ | ((fail_if_success (with_reducible refine nopS ?_)); (fail_if_success (with_reducible refine nopE ?_)); (first | refine wI_at (by rfl) ?_ | refine wI_af (by rfl) ?_))
  | ((with_reducible refine And.intro ?_ ?_); exact rfl)
  | ((fail_if_success (with_reducible refine wO_ex ?_)); (fail_if_success (with_reducible refine nopS ?_)); (fail_if_success (with_reducible refine nopE ?_)); (fail_if_success (with_reducible refine nopL ?_)); (first | refine ⟨_, rfl, ?_⟩ | refine ⟨_, _, rfl, ?_⟩ | refine ⟨_, _, _, rfl, ?_⟩ | refine And.intro (by rfl) ?_)))
local macro_rules | `(tactic| walk_at "p") => `(tactic| repeat (first | walk_at "v" | walk_at "1"))

theorem law_exit {rho : Rho} {h : MH} {nx bk ct : Rho → MH → Prop} : wS nx (fun w _ => w = .d (.bl true)) bk ct NoEx (sSeq (sRet (dCall 0 phi__law_written dNil)) sNil rho h) := by
  with_reducible refine wS_seq ?_
  with_reducible refine wS_ret ?_
  with_reducible refine wE_call ?_
  with_reducible refine wE_nil ?_
  with_reducible refine And.intro ?_ ?_
  · rfl
  with_reducible refine wC_eqd p_written ?_
  with_reducible refine wO_ex ?_
  exact ⟨_, rfl, rfl⟩
theorem law_true (ns : List Int) (hl : ns.length ≤ 63) : ∃ h', phi_law [.d (.lst (ns.map .int))] [] = some (.ok (.d (.bl true)), h') := by
  have go : wE (fun w _ => w = .d (.bl true)) NoEx (phi_law [.d (.lst (ns.map .int))] []) := by
    refine w_law ?_
    walk_at "p"
    rw [List.length_map]
    refine wO_of (r_1 (by unfold L62; split <;> (try split) <;> omega)) ?_
    generalize hm : (if (if (ns.length : Int) < 12 then (ns.length : Int) else 12) > 5 then (if (ns.length : Int) < 12 then (ns.length : Int) else 12) else 5).toNat = m
    have hm2 : m ≤ 12 := by
      rw [← hm]
      split <;> (try split) <;> omega
    refine wS_loop (fun rho h => ∃ y1 y2 y3 y4 y5 y6 y7, rho = [some (.d (.lst (ns.map .int))), y1, y2, y3, y4, y5, y6, y7]) ⟨_, _, _, _, _, _, _, rfl⟩ ?_ ?_
    · rintro d hd _ h ⟨y1, y2, y3, y4, y5, y6, y7, rfl⟩
      obtain ⟨k, hk, rfl⟩ := List.mem_map.mp hd
      have hk := List.mem_range.mp hk
      rw [show (0 : Int) + (k : Int) = (k : Int) by omega]
      obtain ⟨a, b, ec, b0, b1⟩ := p_can (ns := ns) (k := k) (h := h) (by omega) (by omega)
      refine ⟨_, rfl, ?_⟩
      walk_at "p"
      refine wC_eq ec rfl ?_
      have cn : Can h.length (h ++ [.lst [.int a, .int b]]) := ⟨a, b, by simp, b0, b1⟩
      walk_at "p"
      generalize (h ++ [Ob.lst [.int a, .int b]]) = h1 at cn
      generalize h.length = n at cn
      refine wC_dr (p_any_weights cn) ?_
      rintro _ h2 ⟨ws, rfl, wl, wr⟩ c2 lh2
      have W : Wok ws := ⟨wl, wr⟩
      have wl2 : (ws.map D.int).length = 2 ∨ (ws.map D.int).length = 3 := by rw [List.length_map]; exact wl
      walk_at "p"
      refine wC_dr (p_any_chain c2 wl2 (by omega) (by omega)) ?_
      rintro _ h3 ⟨cs, rfl, cl, ch, cc⟩ c3 lh3
      rw [List.length_map] at cc
      have C : Cok ws cs := ⟨cl, by omega, cc⟩
      walk_at "p"
      refine wC_eq (p_chain_right W C) rfl ?_
      walk_at "p"
      refine wC_eq (p_law_heap W C) rfl ?_
      walk_at "p"
      refine wS_loop (fun rho h' => ∃ y5 y6 y7, rho = [some (.d (.lst (ns.map .int))), some (.d (.int k)), some (.ref n), some (.d (wD ws)), some (.d (.str (cS cs))), y5, y6, y7] ∧ Can n h') ⟨_, _, _, rfl, c3⟩ ?_ ?_
      · rintro d hd _ h4 ⟨y5, y6, y7, rfl, c4⟩
        have gd : gdX 31 30 2 d = true := by
          simp only [List.mem_cons, List.not_mem_nil, or_false] at hd
          rcases hd with rfl | rfl | rfl | rfl
          · exact gx_w W
          · exact gx_c C
          · exact gx_hp (heapL_gh W C)
          · exact gx_c C
        refine ⟨_, rfl, ?_⟩
        walk_at "p"
        refine wS_loopP (fun pre rho h' => ∃ v y7, rho = [some (.d (.lst (ns.map .int))), some (.d (.int k)), some (.ref n), some (.d (wD ws)), some (.d (.str (cS cs))), some (.d v), y6, y7] ∧ Can n h' ∧ gdX (31 + pre.length) (30 * 3 ^ pre.length) (2 + 8 * pre.length) v = true) [] ⟨d, _, rfl, c4, gd⟩ ?_ ?_
        · rintro pre e post ep _ h5 ⟨v, y7, rfl, c5, gv⟩
          obtain ⟨rfl, pl⟩ := rng_at ep
          rw [List.length_append, List.length_singleton]
          generalize pre.length = j at pl gv
          have j3 : 30 * 3 ^ j ≤ 810 ∧ 18 ≤ 30 * 3 ^ j := by
            have : j = 0 ∨ j = 1 ∨ j = 2 ∨ j = 3 := by omega
            rcases this with rfl | rfl | rfl | rfl <;> exact ⟨by decide, by decide⟩
          have g50 : gdD 50 v = true := gd_mono _ 50 (by omega) v (gx_gd (by omega) (by omega) _ v gv)
          refine ⟨_, rfl, ?_⟩
          walk_at "p"
          refine wC_eq (p_known W g50) rfl ?_
          walk_at "p"
          refine wC_eq (p_refused W g50) rfl ?_
          walk_at "p"
          refine wC_drW (p_bent (by omega) (by omega) (by omega) (by omega) (2 + 8 * j) 30 (by omega) (by omega) gv c5) ?_
          intro w' x h6 ew gx c6 lh6 k6
          refine wO_of ew ?_
          have gx2 : gdX (31 + (j + 1)) (30 * 3 ^ (j + 1)) (2 + 8 * (j + 1)) x = true := gx_mono (by omega) (by rw [Nat.pow_succ]; omega) _ _ (by omega) x gx
          walk_at "p"
          first | exact ⟨x, _, rfl, c6, gx2⟩ | exact ⟨c6, gx2⟩
        · rintro _ h5 ⟨v, y7, rfl, c5, _⟩
          walk_at "p"
          first | exact ⟨_, _, _, rfl, c5⟩ | exact c5
      · rintro _ h5 ⟨y5, y6, y7, rfl, c5⟩
        walk_at "p"
        refine wC_dr (p_anyX 3 12 (by omega) c5) ?_
        rintro x h6 gx c6 lh6
        have g50 : gdD 50 x = true := gd_mono _ 50 (by omega) x (gx_gd (by omega) (by omega) _ x gx)
        walk_at "p"
        refine wC_eq (p_known W g50) rfl ?_
        walk_at "p"
        refine wC_eq (p_refused W g50) rfl ?_
        walk_at "p"
        try exact ⟨_, _, _, _, _, _, _, rfl⟩
    · intro rho h _
      with_reducible exact law_exit
  obtain ⟨w, h', e, rfl⟩ := wE_get go
  exact ⟨h', e⟩
end Lw

set_option maxHeartbeats 0
namespace Hd
open PySem PySem.Spec PyProof.Rows L2 Dn Lw

def d_is_integer : He.DefD := ⟨("is_integer", none), "is_integer", "is_integer", defArgs (top 20), defBody (top 20), defScope (top 20), [], []⟩
def d_is_weights : He.DefD := ⟨("is_weights", none), "is_weights", "is_weights", defArgs (top 21), defBody (top 21), defScope (top 21), [], []⟩
def d_kinds_of : He.DefD := ⟨("kinds_of", none), "kinds_of", "kinds_of", defArgs (top 22), defBody (top 22), defScope (top 22), [], []⟩
def d_is_links : He.DefD := ⟨("is_links", none), "is_links", "is_links", defArgs (top 23), defBody (top 23), defScope (top 23), [], []⟩
def d_link_weight : He.DefD := ⟨("link_weight", none), "link_weight", "link_weight", defArgs (top 24), defBody (top 24), defScope (top 24), [], []⟩
def d_weight_by : He.DefD := ⟨("weight_by", none), "weight_by", "weight_by", defArgs (top 25), defBody (top 25), defScope (top 25), [], []⟩
def d_beginnings_of : He.DefD := ⟨("beginnings_of", none), "beginnings_of", "beginnings_of", defArgs (top 26), defBody (top 26), defScope (top 26), [], []⟩
def d_pieces_by : He.DefD := ⟨("pieces_by", none), "pieces_by", "pieces_by", defArgs (top 27), defBody (top 27), defScope (top 27), [], []⟩
def d_heap_by : He.DefD := ⟨("heap_by", none), "heap_by", "heap_by", defArgs (top 28), defBody (top 28), defScope (top 28), [], []⟩
def d_upright_by : He.DefD := ⟨("upright_by", none), "upright_by", "upright_by", defArgs (top 29), defBody (top 29), defScope (top 29), [], []⟩
def d_need_weights : He.DefD := ⟨("need_weights", none), "need_weights", "need_weights", defArgs (top 30), defBody (top 30), defScope (top 30), [], []⟩
def d_need_links : He.DefD := ⟨("need_links", none), "need_links", "need_links", defArgs (top 31), defBody (top 31), defScope (top 31), [], []⟩
def d_need_chain : He.DefD := ⟨("need_chain", none), "need_chain", "need_chain", defArgs (top 32), defBody (top 32), defScope (top 32), [], []⟩
def d_is_chain : He.DefD := ⟨("is_chain", none), "is_chain", "is_chain", defArgs (top 33), defBody (top 33), defScope (top 33), [], []⟩
def d_weight_of : He.DefD := ⟨("weight_of", none), "weight_of", "weight_of", defArgs (top 34), defBody (top 34), defScope (top 34), [], []⟩
def d_heap_of : He.DefD := ⟨("heap_of", none), "heap_of", "heap_of", defArgs (top 35), defBody (top 35), defScope (top 35), [], []⟩
def d_turned : He.DefD := ⟨("turned", none), "turned", "turned", defArgs (top 36), defBody (top 36), defScope (top 36), [], []⟩
def d_upright : He.DefD := ⟨("upright", none), "upright", "upright", defArgs (top 37), defBody (top 37), defScope (top 37), [], []⟩
def d_are_pieces : He.DefD := ⟨("are_pieces", none), "are_pieces", "are_pieces", defArgs (top 41), defBody (top 41), defScope (top 41), [], []⟩
def d_is_heap : He.DefD := ⟨("is_heap", none), "is_heap", "is_heap", defArgs (top 42), defBody (top 42), defScope (top 42), [], []⟩
def d__law_can : He.DefD := ⟨("_law_can", none), "_law_can", "_law_can", defArgs (top 44), defBody (top 44), defScope (top 44), [], []⟩
def d__law_pour : He.DefD := ⟨("_law_pour", none), "_law_pour", "_law_pour", defArgs (top 45), defBody (top 45), defScope (top 45), [], []⟩
def d__law_pick : He.DefD := ⟨("_law_pick", none), "_law_pick", "_law_pick", defArgs (top 46), defBody (top 46), defScope (top 46), [], []⟩
def d__law_weight : He.DefD := ⟨("_law_weight", none), "_law_weight", "_law_weight", defArgs (top 47), defBody (top 47), defScope (top 47), [], []⟩
def d__law_heap : He.DefD := ⟨("_law_heap", none), "_law_heap", "_law_heap", defArgs (top 48), defBody (top 48), defScope (top 48), [], []⟩
def d__law_any_weights : He.DefD := ⟨("_law_any_weights", none), "_law_any_weights", "_law_any_weights", defArgs (top 49), defBody (top 49), defScope (top 49), [], []⟩
def d__law_any_chain : He.DefD := ⟨("_law_any_chain", none), "_law_any_chain", "_law_any_chain", defArgs (top 50), defBody (top 50), defScope (top 50), [], []⟩
def d__law_int : He.DefD := ⟨("_law_int", none), "_law_int", "_law_int", defArgs (top 51), defBody (top 51), defScope (top 51), [], []⟩
def d__law_good_weights : He.DefD := ⟨("_law_good_weights", none), "_law_good_weights", "_law_good_weights", defArgs (top 52), defBody (top 52), defScope (top 52), [], []⟩
def d__law_good_chain : He.DefD := ⟨("_law_good_chain", none), "_law_good_chain", "_law_good_chain", defArgs (top 53), defBody (top 53), defScope (top 53), [], []⟩
def d__law_good_heap : He.DefD := ⟨("_law_good_heap", none), "_law_good_heap", "_law_good_heap", defArgs (top 54), defBody (top 54), defScope (top 54), [], []⟩
def d__law_any_value : He.DefD := ⟨("_law_any_value", none), "_law_any_value", "_law_any_value", defArgs (top 55), defBody (top 55), defScope (top 55), [], []⟩
def d__law_bent : He.DefD := ⟨("_law_bent", none), "_law_bent", "_law_bent", defArgs (top 56), defBody (top 56), defScope (top 56), [], []⟩
def d__law_known : He.DefD := ⟨("_law_known", none), "_law_known", "_law_known", defArgs (top 60), defBody (top 60), defScope (top 60), [], []⟩
def d__law_chain_right : He.DefD := ⟨("_law_chain_right", none), "_law_chain_right", "_law_chain_right", defArgs (top 61), defBody (top 61), defScope (top 61), [], []⟩
def d__law_refused : He.DefD := ⟨("_law_refused", none), "_law_refused", "_law_refused", defArgs (top 62), defBody (top 62), defScope (top 62), [], []⟩
def d__law_written : He.DefD := ⟨("_law_written", none), "_law_written", "_law_written", defArgs (top 63), defBody (top 63), defScope (top 63), [], []⟩
def d_law : He.DefD := ⟨("law", none), "law", "law", defArgs (top 64), defBody (top 64), defScope (top 64), [], []⟩
def d__law_names : He.DefD := ⟨("_law_names", none), "_law_names", "_law_names", defArgs (top 57), defBody (top 57), defScope (top 57), [], []⟩
def d__law_word : He.DefD := ⟨("_law_word", none), "_law_word", "_law_word", defArgs (top 58), defBody (top 58), defScope (top 58), [], []⟩
def d__law_tried : He.DefD := ⟨("_law_tried", none), "_law_tried", "_law_tried", defArgs (top 59), defBody (top 59), defScope (top 59), [], []⟩
def fn : List He.DefD := [d_is_integer, d_is_weights, d_kinds_of, d_is_links, d_link_weight, d_weight_by, d_beginnings_of, d_pieces_by, d_heap_by, d_upright_by, d_need_weights, d_need_links, d_need_chain, d_is_chain, d_weight_of, d_heap_of, d_turned, d_upright, d_are_pieces, d_is_heap, d__law_can, d__law_pour, d__law_pick, d__law_weight, d__law_heap, d__law_any_weights, d__law_any_chain, d__law_int, d__law_good_weights, d__law_good_chain, d__law_good_heap, d__law_any_value, d__law_bent, d__law_known, d__law_chain_right, d__law_refused, d__law_written, d_law, d__law_names, d__law_word, d__law_tried]
def fa0 : List He.Fa := [.free "ValueError", .free "abs", .free "all", .free "bool", .free "int", .free "isinstance", .free "len", .free "list", .free "max", .free "min", .free "range", .free "sorted", .free "str", .free "sum", .free "tuple", .free "zip", .str "LETTERS" "abc", .int "MOST_LINKS" 14, .int "MOST_PIECES" 30, .int "MOST_WEIGHT" 9, .int "MOST_WHOLE" 126, .glo "InvalidChain", .exc "InvalidChain", .glo "InvalidWeights", .exc "InvalidWeights"]
def fa1 : List He.Fa := [.glo "is_integer", .glo "is_weights", .glo "kinds_of", .glo "is_links", .glo "link_weight", .glo "weight_by", .glo "beginnings_of", .glo "pieces_by", .glo "heap_by", .glo "upright_by", .glo "need_weights", .glo "need_links", .glo "need_chain", .glo "is_chain", .glo "weight_of", .glo "heap_of", .glo "turned", .glo "upright", .glo "are_pieces", .glo "is_heap", .glo "_law_can", .glo "_law_pour", .glo "_law_pick", .glo "_law_weight", .glo "_law_heap"]
def fa2 : List He.Fa := [.glo "_law_any_weights", .glo "_law_any_chain", .glo "_law_int", .glo "_law_good_weights", .glo "_law_good_chain", .glo "_law_good_heap", .glo "_law_any_value", .glo "_law_bent", .glo "_law_known", .glo "_law_chain_right", .glo "_law_refused", .glo "_law_written", .glo "law", .glo "_law_names", .glo "_law_word", .glo "_law_tried"]
def fa : List He.Fa := fa0 ++ fa1 ++ fa2
def loose0 : List PySem.Str := ["ChainError", "InvalidWeights", "InvalidChain", "InvalidHeap", "InvalidNumber", "InvalidKind", "InvalidIndex", "InvalidWhole", "InvalidPiece", "InvalidText", "Unlike", "NoChain", "NothingToUndo", "TooMany", "Failed", "LETTERS", "MOST_LINKS", "MOST_WEIGHT", "is_integer", "is_weights", "kinds_of", "is_links", "link_weight", "weight_by", "beginnings_of"]
def loose1 : List PySem.Str := ["pieces_by", "heap_by", "upright_by", "need_weights", "need_links", "need_chain", "is_chain", "weight_of", "heap_of", "turned", "upright", "MOST_WHOLE", "MOST_PIECES", "are_pieces", "is_heap", "_law_can", "_law_pour", "_law_pick", "_law_weight", "_law_heap", "_law_any_weights", "_law_any_chain", "_law_int", "_law_good_weights", "_law_good_chain"]
def loose2 : List PySem.Str := ["_law_good_heap", "_law_any_value", "_law_bent", "_law_names", "_law_word", "_law_tried", "_law_known", "_law_chain_right", "_law_refused", "_law_written"]
def loose : List PySem.Str := loose0 ++ loose1 ++ loose2
abbrev xs : List PySem.Str := ["law", "_law_refused"]
def tf : List He.Defn := xs.map fun x => (x, none)
def exq (K : PySem.W.Frag) : Bool := tabN xs K && exB K
abbrev R : PySem.W.OpenRow := PySem.W.OpenLaw.row PySem.Challenge.rw_brokenchains_k01_weights_chains_and_thei
abbrev hk : PySem.W.Hook := He.hookX 4 fa fn [] tf exq
def ob (s : PySem.W.SharedT) : He.AlX := He.obsX 4 fa fn [] tf exq (HandSHeadRun.getT s)
theorem ob_eq (s : PySem.W.SharedT) : ob s = hk.obs s.abs := He.obsX_eq (HandSHeadRun.getT_eq s)
theorem run (w : World) : HandSHeadRun.RunEq R (PySem.W.view R.prog [64]) hk ob 6000 loose w := by
  intro os
  kernel_rfl
section
variable {K : PySem.W.Frag} {w : World} {h : Heap} {mg : Str → Option Value}
abbrev G0 (w : World) (K : PySem.W.Frag) (mg : Str → Option Value) (base : Heap) : Gx := ⟨R.prog, w, K, mg, base, tabsOf (tbls K xs)⟩
abbrev cX (K : PySem.W.Frag) (x : PySem.Str) : Addr := He.codeOf K (x, none)
theorem fx {h base : Heap} (X : K.In h) (N : h.Ns mainGlobals mg) (c : He.SaysX fa fn [] tf exq w h K) (TB : ∀ p ∈ tbls K xs, LamX.TabB base mg p.1 p.2.1) : Fx (G0 w K mg base) (cX K) where
  n_abs := He.free_ok X N (c.t.d.fact 1 (f := .free "abs") rfl)
  n_all := He.free_ok X N (c.t.d.fact 2 (f := .free "all") rfl)
  n_bool := He.free_ok X N (c.t.d.fact 3 (f := .free "bool") rfl)
  n_int := He.free_ok X N (c.t.d.fact 4 (f := .free "int") rfl)
  n_isinstance := He.free_ok X N (c.t.d.fact 5 (f := .free "isinstance") rfl)
  n_len := He.free_ok X N (c.t.d.fact 6 (f := .free "len") rfl)
  n_list := He.free_ok X N (c.t.d.fact 7 (f := .free "list") rfl)
  n_max := He.free_ok X N (c.t.d.fact 8 (f := .free "max") rfl)
  n_min := He.free_ok X N (c.t.d.fact 9 (f := .free "min") rfl)
  n_range := He.free_ok X N (c.t.d.fact 10 (f := .free "range") rfl)
  n_sorted := He.free_ok X N (c.t.d.fact 11 (f := .free "sorted") rfl)
  n_str := He.free_ok X N (c.t.d.fact 12 (f := .free "str") rfl)
  n_sum := He.free_ok X N (c.t.d.fact 13 (f := .free "sum") rfl)
  n_tuple := He.free_ok X N (c.t.d.fact 14 (f := .free "tuple") rfl)
  n_zip := He.free_ok X N (c.t.d.fact 15 (f := .free "zip") rfl)
  c_LETTERS := let ⟨t, e⟩ := He.str_ok X N (c.t.d.fact 16 (f := .str "LETTERS" "abc") rfl); ⟨_, e, t, rfl⟩
  c_MOST_LINKS := let ⟨t, e⟩ := He.int_ok X N (c.t.d.fact 17 (f := .int "MOST_LINKS" 14) rfl); ⟨_, e, t, rfl⟩
  c_MOST_PIECES := let ⟨t, e⟩ := He.int_ok X N (c.t.d.fact 18 (f := .int "MOST_PIECES" 30) rfl); ⟨_, e, t, rfl⟩
  c_MOST_WEIGHT := let ⟨t, e⟩ := He.int_ok X N (c.t.d.fact 19 (f := .int "MOST_WEIGHT" 9) rfl); ⟨_, e, t, rfl⟩
  c_MOST_WHOLE := let ⟨t, e⟩ := He.int_ok X N (c.t.d.fact 20 (f := .int "MOST_WHOLE" 126) rfl); ⟨_, e, t, rfl⟩
  x_InvalidChain := excK_of (G := G0 w K mg base) X N (c.t.d.fact 21 (f := .glo "InvalidChain") rfl) (c.t.d.fact 22 (f := .exc "InvalidChain") rfl)
  x_InvalidWeights := excK_of (G := G0 w K mg base) X N (c.t.d.fact 23 (f := .glo "InvalidWeights") rfl) (c.t.d.fact 24 (f := .exc "InvalidWeights") rfl)
  d_is_integer := funD_of (G := G0 w K mg base) X N (c.t.d.fact 25 (f := .glo "is_integer") rfl) (c.t.d.def_ 0 (d := d_is_integer) rfl)
  d_is_weights := funD_of (G := G0 w K mg base) X N (c.t.d.fact 26 (f := .glo "is_weights") rfl) (c.t.d.def_ 1 (d := d_is_weights) rfl)
  d_kinds_of := funD_of (G := G0 w K mg base) X N (c.t.d.fact 27 (f := .glo "kinds_of") rfl) (c.t.d.def_ 2 (d := d_kinds_of) rfl)
  d_is_links := funD_of (G := G0 w K mg base) X N (c.t.d.fact 28 (f := .glo "is_links") rfl) (c.t.d.def_ 3 (d := d_is_links) rfl)
  d_link_weight := funD_of (G := G0 w K mg base) X N (c.t.d.fact 29 (f := .glo "link_weight") rfl) (c.t.d.def_ 4 (d := d_link_weight) rfl)
  d_weight_by := funD_of (G := G0 w K mg base) X N (c.t.d.fact 30 (f := .glo "weight_by") rfl) (c.t.d.def_ 5 (d := d_weight_by) rfl)
  d_beginnings_of := funD_of (G := G0 w K mg base) X N (c.t.d.fact 31 (f := .glo "beginnings_of") rfl) (c.t.d.def_ 6 (d := d_beginnings_of) rfl)
  d_pieces_by := funD_of (G := G0 w K mg base) X N (c.t.d.fact 32 (f := .glo "pieces_by") rfl) (c.t.d.def_ 7 (d := d_pieces_by) rfl)
  d_heap_by := funD_of (G := G0 w K mg base) X N (c.t.d.fact 33 (f := .glo "heap_by") rfl) (c.t.d.def_ 8 (d := d_heap_by) rfl)
  d_upright_by := funD_of (G := G0 w K mg base) X N (c.t.d.fact 34 (f := .glo "upright_by") rfl) (c.t.d.def_ 9 (d := d_upright_by) rfl)
  d_need_weights := funD_of (G := G0 w K mg base) X N (c.t.d.fact 35 (f := .glo "need_weights") rfl) (c.t.d.def_ 10 (d := d_need_weights) rfl)
  d_need_links := funD_of (G := G0 w K mg base) X N (c.t.d.fact 36 (f := .glo "need_links") rfl) (c.t.d.def_ 11 (d := d_need_links) rfl)
  d_need_chain := funD_of (G := G0 w K mg base) X N (c.t.d.fact 37 (f := .glo "need_chain") rfl) (c.t.d.def_ 12 (d := d_need_chain) rfl)
  d_is_chain := funD_of (G := G0 w K mg base) X N (c.t.d.fact 38 (f := .glo "is_chain") rfl) (c.t.d.def_ 13 (d := d_is_chain) rfl)
  d_weight_of := funD_of (G := G0 w K mg base) X N (c.t.d.fact 39 (f := .glo "weight_of") rfl) (c.t.d.def_ 14 (d := d_weight_of) rfl)
  d_heap_of := funD_of (G := G0 w K mg base) X N (c.t.d.fact 40 (f := .glo "heap_of") rfl) (c.t.d.def_ 15 (d := d_heap_of) rfl)
  d_turned := funD_of (G := G0 w K mg base) X N (c.t.d.fact 41 (f := .glo "turned") rfl) (c.t.d.def_ 16 (d := d_turned) rfl)
  d_upright := funD_of (G := G0 w K mg base) X N (c.t.d.fact 42 (f := .glo "upright") rfl) (c.t.d.def_ 17 (d := d_upright) rfl)
  d_are_pieces := funD_of (G := G0 w K mg base) X N (c.t.d.fact 43 (f := .glo "are_pieces") rfl) (c.t.d.def_ 18 (d := d_are_pieces) rfl)
  d_is_heap := funD_of (G := G0 w K mg base) X N (c.t.d.fact 44 (f := .glo "is_heap") rfl) (c.t.d.def_ 19 (d := d_is_heap) rfl)
  d__law_can := funD_of (G := G0 w K mg base) X N (c.t.d.fact 45 (f := .glo "_law_can") rfl) (c.t.d.def_ 20 (d := d__law_can) rfl)
  d__law_pour := funD_of (G := G0 w K mg base) X N (c.t.d.fact 46 (f := .glo "_law_pour") rfl) (c.t.d.def_ 21 (d := d__law_pour) rfl)
  d__law_pick := funD_of (G := G0 w K mg base) X N (c.t.d.fact 47 (f := .glo "_law_pick") rfl) (c.t.d.def_ 22 (d := d__law_pick) rfl)
  d__law_weight := funD_of (G := G0 w K mg base) X N (c.t.d.fact 48 (f := .glo "_law_weight") rfl) (c.t.d.def_ 23 (d := d__law_weight) rfl)
  d__law_heap := funD_of (G := G0 w K mg base) X N (c.t.d.fact 49 (f := .glo "_law_heap") rfl) (c.t.d.def_ 24 (d := d__law_heap) rfl)
  d__law_any_weights := funD_of (G := G0 w K mg base) X N (c.t.d.fact 50 (f := .glo "_law_any_weights") rfl) (c.t.d.def_ 25 (d := d__law_any_weights) rfl)
  d__law_any_chain := funD_of (G := G0 w K mg base) X N (c.t.d.fact 51 (f := .glo "_law_any_chain") rfl) (c.t.d.def_ 26 (d := d__law_any_chain) rfl)
  d__law_int := funD_of (G := G0 w K mg base) X N (c.t.d.fact 52 (f := .glo "_law_int") rfl) (c.t.d.def_ 27 (d := d__law_int) rfl)
  d__law_good_weights := funD_of (G := G0 w K mg base) X N (c.t.d.fact 53 (f := .glo "_law_good_weights") rfl) (c.t.d.def_ 28 (d := d__law_good_weights) rfl)
  d__law_good_chain := funD_of (G := G0 w K mg base) X N (c.t.d.fact 54 (f := .glo "_law_good_chain") rfl) (c.t.d.def_ 29 (d := d__law_good_chain) rfl)
  d__law_good_heap := funD_of (G := G0 w K mg base) X N (c.t.d.fact 55 (f := .glo "_law_good_heap") rfl) (c.t.d.def_ 30 (d := d__law_good_heap) rfl)
  d__law_any_value := funD_of (G := G0 w K mg base) X N (c.t.d.fact 56 (f := .glo "_law_any_value") rfl) (c.t.d.def_ 31 (d := d__law_any_value) rfl)
  d__law_bent := funD_of (G := G0 w K mg base) X N (c.t.d.fact 57 (f := .glo "_law_bent") rfl) (c.t.d.def_ 32 (d := d__law_bent) rfl)
  d__law_known := funD_of (G := G0 w K mg base) X N (c.t.d.fact 58 (f := .glo "_law_known") rfl) (c.t.d.def_ 33 (d := d__law_known) rfl)
  d__law_chain_right := funD_of (G := G0 w K mg base) X N (c.t.d.fact 59 (f := .glo "_law_chain_right") rfl) (c.t.d.def_ 34 (d := d__law_chain_right) rfl)
  d__law_refused := funC_of (G := G0 w K mg base) X N (c.t.d.fact 60 (f := .glo "_law_refused") rfl) (c.t.d.def_ 35 (d := d__law_refused) rfl)
  d__law_written := funD_of (G := G0 w K mg base) X N (c.t.d.fact 61 (f := .glo "_law_written") rfl) (c.t.d.def_ 36 (d := d__law_written) rfl)
  l__law_word := let ⟨g, fd, F, hg⟩ := funD_of (G := G0 w K mg base) X N (c.t.d.fact 64 (f := .glo "_law_word") rfl) (c.t.d.def_ 39 (d := d__law_word) rfl); lamF_of (x := "_law_word") F hg (F.bindsN (fun _ _ _ _ _ _ us hl => match us, hl with | [_], _ => rfl)) ⟨rfl, rfl, rfl, by decide +kernel, rfl, by decide +kernel, by decide +kernel⟩ (by kernel_rfl) (by kernel_rfl) (by kernel_rfl) (by kernel_rfl) .word
  l__law_tried := let ⟨g, fd, F, hg⟩ := funD_of (G := G0 w K mg base) X N (c.t.d.fact 65 (f := .glo "_law_tried") rfl) (c.t.d.def_ 40 (d := d__law_tried) rfl); lamF_of (x := "_law_tried") F hg (F.bindsN (fun _ _ _ _ _ _ us hl => match us, hl with | [_], _ => rfl)) ⟨rfl, rfl, rfl, by decide +kernel, rfl, by decide +kernel, by decide +kernel⟩ (by kernel_rfl) (by kernel_rfl) (by kernel_rfl) (by kernel_rfl) .tried
  names := let ⟨g, fd, F, hg⟩ := funD_of (G := G0 w K mg base) X N (c.t.d.fact 63 (f := .glo "_law_names") rfl) (c.t.d.def_ 38 (d := d__law_names) rfl); namesH_of F hg ⟨rfl, rfl, rfl, by decide +kernel, rfl, by decide +kernel, by decide +kernel⟩ (F.bindsN (fun _ _ _ _ _ _ us hl => match us, hl with | [_], _ => rfl)) (by kernel_rfl) (.mk ⟨⟩ ⟨⟩ ⟨⟩ ⟨⟩ ⟨⟩ ⟨⟩ ⟨⟩ ⟨⟩ ⟨⟩ ⟨⟩ ⟨⟩ ⟨⟩ ⟨⟩ ⟨⟩ ⟨⟩ (by kernel_rfl) (by kernel_rfl)) (He.free_ok X N (c.t.d.fact 5 (f := .free "isinstance") rfl)) (He.free_ok X N (c.t.d.fact 15 (f := .free "zip") rfl)) (He.free_ok X N (c.t.d.fact 0 (f := .free "ValueError") rfl))
  cat := catF_of (G := G0 w K mg base) X N (He.ba (He.ba (He.ba c.more).2).2).1 (He.ba (He.ba (He.ba c.more).2).2).2
  tab__law_refused := tabF_ofL (He.ba c.more).1 (by decide) TB
theorem facts {f : Addr} (X : K.In h) (N : h.Ns mainGlobals mg) (hfa : mg ("law" : Str) = some (.ref f)) (c : He.SaysX fa fn [] tf exq w h K)
    (hphi : ∀ ns : List Int, ns.length ≤ 63 → ∃ h', phi_law [.d (.lst (ns.map .int))] [] = some (.ok (.d (.bl true)), h')) : LamX.LawAtS PySem.Challenge.rw_brokenchains_k01_weights_chains_and_thei w K (L2N.CX R.prog w) 61 63 "_law_script" mg f h := by
  obtain ⟨fd, F⟩ := c.t.d.def_ 37 (d := d_law) rfl
  have e := hfa.symm.trans (He.glo_ok X N (c.t.d.fact 62 (f := .glo "law") rfl))
  cases e
  have b := FunD.bindsA (ps := ["_law_script"]) F fun _ _ _ _ _ _ us hl => match us, hl with | [_], _ => rfl
  have m : ∀ p ∈ tbls K xs, ∃ y ∈ tf, p.1 = (He.cT K y).1 ∧ p.2.1 = (He.cT K y).2 := fun p hp => by
    obtain ⟨y, hy, e⟩ := List.mem_map.mp hp
    exact ⟨(y, none), List.mem_map.mpr ⟨y, hy, rfl⟩, by rw [← e], by rw [← e]⟩
  refine law_atL (L := tbls K xs) (He.ba (He.ba c.more).2).1 (by decide) (fun p hp => ?_) (fun p hp => ?_) (fun p hp => ?_) (fun s v => b s [v] rfl) hphi fun base KX hg TB => ?_
  · obtain ⟨y, hy, e1, e2⟩ := m p hp
    rw [e1, e2]
    exact PySem.W.codeHd_of_K X (c.hd _ hy)
  · obtain ⟨y, hy, e1, e2⟩ := m p hp
    rw [e2]
    exact c.out _ hy
  · obtain ⟨y, hy, e1, e2⟩ := m p hp
    rw [e2]
    exact c.empty _ hy
  exact f_law (fx X N c TB) F (code_at F)
end
end Hd
open PySem PySem.W PySem.Calls PyProof.Rows
theorem law_holds (hphi : ∀ ns : List Int, ns.length ≤ 63 → ∃ h', Lw.phi_law [.d (.lst (ns.map .int))] [] = some (.ok (.d (.bl true)), h')) : PySem.Challenge.rw_brokenchains_k01_weights_chains_and_thei.Holds := by
  w_on; o_law
  refine HandSHeadRun.head_any (r := OpenLaw.row PySem.Challenge.rw_brokenchains_k01_weights_chains_and_thei) (q := view (OpenLaw.row PySem.Challenge.rw_brokenchains_k01_weights_chains_and_thei).prog [64]) (H := Hd.hk) (ob := Hd.ob) (M := 6000) (loose := Hd.loose) (d := HandSHeadRun.topDef (OpenLaw.row PySem.Challenge.rw_brokenchains_k01_weights_chains_and_thei).prog 64) (kwd := []) Hd.ob_eq
    (by kernel_rfl) (fun s => by kernel_rfl) Hd.run (by kernel_rfl) (by kernel_rfl) (by kernel_rfl) (by rfl) (by first | assumption | decide +kernel) (by decide +kernel) ⟨rfl, rfl, rfl, rfl, rfl, by decide +kernel⟩ ?hw ?hc
  case hw => w_witness2
  case hc =>
    refine LamX.walk_ofTsE (l := PySem.Challenge.rw_brokenchains_k01_weights_chains_and_thei) (n := 63) (k := 61) (x := "_law_script") (CX := fun w => L2N.CX Hd.R.prog w) rfl (by decide) (by kernel_rfl) ⟨rfl, by decide, by decide⟩ ?F (fun _ _ _ _ _ z => by
      obtain ⟨_, _, _, _, _, _, _, _, _, _, _, _, z⟩ := z
      exact z)
    intro w mg fa h Y G hmg0
    obtain ⟨K, KX, c⟩ := Y
    have hmg : mg ("law" : PySem.Str) = some (.ref fa) := by
      have e : (HandSHeadRun.topDef (OpenLaw.row PySem.Challenge.rw_brokenchains_k01_weights_chains_and_thei).prog 64).name = ("law" : PySem.Str) := by kernel_rfl
      rw [← e]
      exact hmg0
    exact ⟨K, KX, Hd.facts KX G hmg c hphi⟩


theorem PySem.Challenge.cw_brokenchains_k01_weights_chains_and_thei_holds : PySem.Challenge.rw_brokenchains_k01_weights_chains_and_thei.Holds := by
  exact law_holds fun ns hl => Lw.law_true ns hl
