import PyProof.Rows.All
import Wide.All
import OpenK.AllK
import Wide.FinOn
import HandS.ForMost
import HandS.HotCalls
import HandS.ExcIs
import HandS.Lambda
import HandS.ExcValue
import PyProof.StrBlock2
import HandS.Comp
import KE.KDictKeyed
import HandS.TupAny
import HandS.TupMul
import HandS.Wide
import PyProof.StrOps2
import HandS.Deep
import HandS.Style
import HandS.NoneIn
import HandS.IsInst
import KE.KDictCopyH
import KE.KDictList
import PyProof.SeqIndex
import HandS.ExcCtx
import HandS.Exc
import HandS.Iter
import PyProof.StrCalls2
import HandS.Walk
import HandS.Zip
import KE.GoesEnum
import KE.KDictWalk
import HandS.DictComp
import KE.DataMinMax
import HandS.ExcOwn
import KE.KDictPairs
import HandS.Conv
import HandS.WordsExc
import HandS.Ends
import HandS.EndTab
import HandS.EndOwn
import KE.KNestM
import PySem.Challenge.RW_crossmail_k05_whole_standings
set_option Elab.async false
set_option linter.all false
set_option maxRecDepth 100000
set_option maxHeartbeats 4000000
/-! PcHot: lists walked while an exception is handled: a comprehension of ints of flags, their sum. -/
namespace PC
open PySem PySem.Spec PyProof.Rows L2 HotX L2H
section
variable {prog : Program} {w : World} {A : Around} {E : Value → Shared → Prop} {s : Shared}
/-- a list's iterator at its end, an exception being handled -/
theorem listEndH {it l x1 : Addr} {i : Nat} {its : Array Value} {Q : Option Value → Shared → Prop} (hot : HotAt A x1 s.heap) (nx : x1 ≠ it) (hi : s.heap.IsListIter it l i) (hl : s.heap.IsList l its) (hx : its[i]? = none)
    (hQ : ∀ h', (∀ b o, b ≠ it → s.heap.get? b = some o → h'.get? b = some o) → Q none { s with heap := h' }) : wpAny (model prog w) A (pyNext (.ref it)) Q E s := by
  obtain ⟨o, g1, g2, g3⟩ := id hi
  obtain ⟨oL, k1, _, nl, k2⟩ := hl
  obtain ⟨hh, o1, v1, h1, d1, c1⟩ := hot
  unfold pyNext
  refine wpAny_bind (wpAny_attempt (wpAny_callSpecial?_slot (name := Str.ofString "__next__") hi.typeIs slot_listiter_next (wpAny_call_entry slot_listiter_next hi.typeIs entry_listiter_next ?_ (args_listiter_next _))))
  show wpAny _ _ (field (.ref it) 0 >>= _) _ _ s; refine wpAny_bind (wpAny_field g1 g3 (x := .ref l) rfl ?_)
  show wpAny _ _ (if (Value.ref l == Value.none) = true then _ else _) _ _ s; rw [if_neg (show ¬ ((Value.ref l == Value.none) = true) from Bool.false_ne_true)]
  show wpAny _ _ (field (.ref it) 1 >>= _) _ _ s; refine wpAny_bind (wpAny_field g1 g3 (x := .int i 0) rfl ?_)
  show wpAny _ _ (seqItems? (.ref l) >>= _) _ _ s; refine wpAny_bind (wpAny_seqItems k1 k2 ?_)
  simp only [Int.toNat_natCast, hx]
  refine wpAny_bind (wpAny_rule (wpAny_bind (wpAny_setField g1 g3 (by simp) ?_)))
  show wpAny _ _ (newExc (.type "StopIteration") [] >>= _) _ _ _; refine wpAny_bind ?_
  simp only [newExc, newTuple]; refine wpAny_bind (wpAny_newObj_type ?_ (by size_fits))
  refine wpAny_bind (m := firstArgMember _ _) (wpAny_of_eq (a := Value.none) (by first | rfl | (simp only [firstArgMember]; rfl)) (wpAny_newObj_type ?_ (by size_fits)))
  have e1 : ∀ b u, b ≠ it → s.heap.get? b = some u → (s.heap.update it (Obj.mapFields (·.setIfInBounds 0 .none))).get? b = some u := fun b u n e => by rw [Heap.get?_update_other _ _ (Ne.symm n)]; exact e
  refine raiseNew_hot ⟨hh, o1, v1, Heap.get?_push_of_some _ (Heap.get?_push_of_some _ (e1 _ _ nx h1)), d1, c1⟩ (Nat.ne_of_lt (Heap.lt_size (Heap.get?_push_of_some _ (e1 _ _ nx h1)))) (Heap.get?_push_size _ rfl) rfl (by first | (simp; done) | (simp; omega) | (simp only [Array.size_append]; simp; omega)) ?_
  refine wpAny_bind (wpAny_isInstance (T := "StopIteration") (b := true) ⟨_, Heap.get?_update_self _ (Heap.get?_push_size _ rfl) rfl, rfl⟩ isSubtype_stop (wpAny_pure (hQ _ fun b u n e => ?_)))
  rw [Heap.get?_update_other _ _ (Nat.ne_of_gt (Heap.lt_size (Heap.get?_push_of_some _ (e1 _ _ n e))))]
  exact Heap.get?_push_of_some _ (Heap.get?_push_of_some _ (e1 _ _ n e))
/-- a list's walk then -/
theorem walksH {x1 : Addr} {o1 : Obj} {v1 : Array Value} (hh : A.handled = some (.ref x1)) (d1 : o1.data = .fields v1) (c1 : v1[2]? = some .none) (I l : Addr) (hne : l ≠ I) (nx : x1 ≠ I) (its : Array Value) :
    Walks prog w A I [I, l, x1] [I] its.size (fun i v => its[i]? = some v) (fun i h => h.IsListIter I l i ∧ h.IsList l its ∧ h.get? x1 = some o1) where
  sub := by simp
  frame := fun _ _ _ st k => ⟨st.1.at fun o e => k I (by simp) o e, st.2.1.at fun o e => k l (by simp) o e, k x1 (by simp) _ st.2.2⟩
  item := fun i s Q E hi st hQ => wpAny_pyNext_list_item st.1 st.2.1 (x := its[i]) (by simp [hi]) fun h' t sb => hQ _ h' s.toks (by simp [hi]) ⟨t, st.2.1.extBut sb.extBut hne, sb.extBut _ _ nx st.2.2⟩ fun b o hb e => sb.extBut b o (fun h => hb (by simp [h])) e
  done := fun s Q E st hQ => listEndH ⟨hh, o1, v1, st.2.2, d1, c1⟩ nx st.1 st.2.1 (by simp) fun h' k => hQ h' s.toks fun b o hb e => k b o (fun h => hb (by simp [h])) e
  self := fun _ _ _ _ st hQ => wpAny_pyIter_listiter st.1 hQ
end
section
variable {X : Cx}
theorem vals_bools {H : Hp} : ∀ {bs : List Bool} {us : List Value}, Vals (bs.map V.bl) us → us = bs.map Value.bool
  | [], _, .nil => rfl
  | b :: bs, _, .cons r rs => by rw [vals_bools (H := H) rs]; cases r; rfl
/-- the walk over a list that stands, made -/
theorem iterH {pins : List (Addr × Obj)} {σ : L2.St} {H : Hp} {s : Shared} {a : Addr} {xs : List V} {E : Value → Shared → Prop} {Q : Value → Shared → Prop} {A : Around} (hA : A.handled = X.A.handled) (hot : HotC X) (I : Inv X pins σ H s) (h : SqL X.K H a xs)
    (q : ∀ (its : List Value) (x1 : Addr) (st : Nat → Heap → Prop) (hh : Heap), Vals xs its → xs.length ≤ sizeLine → Walks X.prog X.w A s.heap.objs.size [s.heap.objs.size, a, x1] [s.heap.objs.size] its.toArray.size (fun i v => its.toArray[i]? = some v) st → st 0 hh → (∀ b ∈ [s.heap.objs.size, a, x1], b < hh.objs.size) →
      (∀ b o, s.heap.get? b = some o → b ∉ [s.heap.objs.size] ∧ hh.get? b = some o) → Q (.ref s.heap.objs.size) { s with heap := hh }) :
    wpAny (model X.prog X.w) A (pyIter (.ref a)) Q E s := by
  obtain ⟨its, rv, pl, hz⟩ := I.list h
  obtain ⟨x1, hh, o1, v1, h1, d1, c1⟩ := hot.at I
  have hl := pl.isList
  have la : a < s.heap.objs.size := by obtain ⟨_, e, _⟩ := hl; exact Heap.lt_size e
  refine wpAny_pyIter_list hl ?_
  refine q its x1 _ _ rv hz (walksH (by rw [hA]; exact hh) d1 c1 _ a (Nat.ne_of_lt la) (Nat.ne_of_lt (Heap.lt_size h1)) its.toArray) ⟨⟨_, Heap.get?_push_size _ rfl, rfl, rfl⟩, hl.push _, Heap.get?_push_of_some _ h1⟩ (fun b hb => ?_) fun b o e => ⟨fun z => ?_, Heap.get?_push_of_some _ e⟩
  · show b < (s.heap.push _).objs.size
    rw [Heap.size_push]
    simp only [List.mem_cons, List.mem_nil_iff, or_false] at hb
    rcases hb with rfl | rfl | rfl
    · exact Nat.lt_succ_self _
    · exact Nat.lt_succ_of_lt la
    · exact Nat.lt_succ_of_lt (Heap.lt_size h1)
  · have z : b = s.heap.objs.size := by simpa using z
    rw [z] at e
    exact Nat.lt_irrefl _ (Heap.lt_size e)
/-- [int(x) for x in y], y a list of truths -/
theorem pe_intsH {i : Nat} {x y : Str} {p1 p2 p3 p4 p5 pos : Pos} {scope : Scope} (hot : HotC X) (hN : X.N[i]? = some y) (hv : Vis X.env.scope y) (dy : (y == ("__debug__" : Str)) = false) (cy : (y == ("__classdict__" : Str)) = false) (dx : (x == ("__debug__" : Str)) = false)
    (hm : X.mg "int" = none) (hk : scope.kind = .function) (hx : scope.names.lookup x = some .local) (hi : scope.names.lookup ("int" : Str) = some .globalImplicit) (hn : ∀ z ∈ scope.names, z.2 ≠ .free ∧ z.2 ≠ .cell ∧ scope.names.lookup z.1 = some z.2) :
    PE X (.ListComp (.Call (.Name "int" p1) [.Name x p2] [] p3) [⟨.Name x p4, .Name y p5, [], 0⟩] scope pos) (fun σ H Q => ∃ (a : Addr) (bs : List Bool), σ[i]? = some (some (.ref a)) ∧ H a = some (.lst (bs.map V.bl)) ∧ ∀ p, H p = none → Q (.ref p) (upd H p (.lst ((bs.map fun b => if b = true then (1 : Int) else 0).map V.int)))) := by
  refine ⟨fun pins s σ H Q I h => ?_⟩
  obtain ⟨a, bs, e1, e2, q⟩ := h
  refine wpAny_ListComp_walk (fun _ => true) (fun v u => ∃ b t, v = Value.bool b ∧ u = .int (if b then 1 else 0) t) (fun z hz => (hn z hz).1) (fun z hz => (hn z hz).2.1) hk (fun z hz e => by rw [(hn z hz).2.2, e]) hx ?_
  refine thn ((pe_var (pos := p5) hN hv dy cy).run pins s σ H (fun v H1 => v = .ref a ∧ H1 = H) I ⟨.ref a, e1, rfl, rfl⟩) fun u s1 ⟨v, H1, I1, r1, q1⟩ => ?_
  obtain ⟨rfl, rfl⟩ := q1
  cases r1
  refine iterH (A := X.A) rfl hot I1 (.inl (.inl e2)) fun its x1 st hp rv hz W st0 hfp keep => ?_
  have ev := vals_bools (H := H1) rv
  subst ev
  have hsz : (bs.map Value.bool).toArray.size = bs.length := by simp
  refine ⟨_, _, _, _, _, _, rfl, W, by rw [hsz]; simpa using hz, st0, hfp, ⟨fun C j v s3 m3 E' hP hn3 hm3 hk3 htk => ?_, fun C j v s3 m3 E' hP _ hn3 hm3 hk3 htk => ?_⟩, fun D h' tk ys vs hD hl hpl hlen hP hF hk' => ?_⟩
  · simp only [List.forIn_nil]
    exact wpAny_pure ⟨rfl, s3.heap, s3.toks, rfl, fun _ _ e => e⟩
  · obtain ⟨b, rfl⟩ : ∃ b, v = Value.bool b := by
      have : (bs.map Value.bool)[j]? = some v := by simpa using hP
      rw [List.getElem?_map] at this
      cases e : bs[j]? with
      | none => rw [e] at this; cases this
      | some b => rw [e] at this; cases this; exact ⟨b, rfl⟩
    obtain ⟨mb, g1, g2⟩ := I1.mod.blt
    have ko : ∀ b o, X.base.get? b = some o → s3.heap.get? b = some o := fun b o e => hk3 b o (keep _ _ (I1.bk _ _ e)).1 (keep _ _ (I1.bk _ _ e)).2
    refine wpAny_Call_Name_kw (Calls.Name_function_global (by exact hk) (by exact hi) (Calls.loadGlobal_builtin (mg := X.mg) (mb := mb) (v := .type "int") (by show s3.heap.Ns X.env.globals X.mg; rw [I1.ok.glob]; exact I1.mod.glob.keeps ko) hm (by show s3.heap.Ns X.env.builtins mb; rw [I1.ok.blt]; exact g1.keeps ko) ((g2 "int" (by decide)).trans (by decide +kernel)) ?_) (by decide))
    refine PyProof.Rows.callWith_type1 (Calls.spliced_cons (wpAny_Name (wpAny_loadName_local hk hx hn3 hm3 (Calls.spliced_nil (call_int_bool ?_))) dx)) rfl rfl
    exact ⟨⟨b, _, rfl, rfl⟩, s3.heap, s3.toks + 1, rfl, fun _ _ e => e⟩
  · have hD1 : s1.heap.get? D = none := by
      cases e : s1.heap.get? D with
      | none => rfl
      | some o => have := (keep _ _ e).2; rw [hD] at this; cases this
    have nD : H1 D = none := I1.hok.gone hD1
    obtain ⟨n, hDl⟩ := hpl
    have fl : vs.filter (fun _ => true) = vs := List.filter_eq_self.mpr fun _ _ => rfl
    rw [fl] at hF
    have evs : vs = bs.map Value.bool := List.ext_getElem? fun j => by
      cases e : vs[j]? with
      | some v => have := hP j v e; rw [← this]; simp
      | none =>
        rw [List.getElem?_eq_none (by rw [List.length_map, ← hsz, ← hlen]; exact List.getElem?_eq_none_iff.mp e)]
    subst evs
    have vy : Vals ((bs.map fun b => if b = true then (1 : Int) else 0).map V.int) ys.toList := by
      generalize ys.toList = l at hF
      clear e2 q rv hP hlen hsz W hfp keep hk' hz fl
      induction bs generalizing l with
      | nil => cases hF; exact .nil
      | cons b bs ih =>
        cases hF with
        | cons h t =>
          obtain ⟨b', tk', e1, rfl⟩ := h
          cases e1
          exact .cons ⟨tk', rfl⟩ (ih _ t)
    have lz : ((bs.map fun b => if b = true then (1 : Int) else 0).map V.int).length ≤ sizeLine := by simpa using hz
    have new : ObjOk X.prog X.w (upd H1 D (.lst ((bs.map fun b => if b = true then (1 : Int) else 0).map V.int))) h' D (.lst ((bs.map fun b => if b = true then (1 : Int) else 0).map V.int)) := ⟨lz, ys.toList, n, vy, hDl⟩
    exact ⟨.ref D, _, I1.laidN (t' := tk) (fun b u e => hk' b u (keep _ _ e).1 (keep _ _ e).2) hD1 nD new, rfl, q D nD⟩
/-- sum(list of ints) -/
theorem call_sumH (hot : HotC X) : CallR X (.builtin "sum") (rSum X.K) := by
  intro pins s σ H vs us Q I r h
  obtain ⟨a, ns, rfl, hs, q⟩ := h
  rw [Vals.ref1 r]
  refine call_sum_walkG (iterH (A := X.A.in1) rfl hot I hs fun its x1 st hp rv hz W st0 hfp keep => ?_)
  have hi := rv.ints
  obtain ⟨xs, e⟩ := hi.allInts.items
  have hn : numsOf (intItems xs).toList = ns := by rw [← e]; exact hi.numsOf
  rw [nums_intItems] at hn
  rw [e] at W
  refine ⟨_, _, _, _, _, st, numAt xs, rfl, W, st0, hfp, fun _ _ => intItems_at, fun h' tk t' hk => ?_⟩
  have I2 : Inv X pins σ H { s with heap := h', toks := tk } := I.kept fun b o e => hk b o (keep _ _ e).1 (keep _ _ e).2
  refine ⟨.int ns.sum, H, I2, ⟨t', ?_⟩, q⟩
  rw [preSum_eq, ← hn]
  have : (intItems xs).size = xs.size := by simp [intItems]
  rw [this, List.take_of_length_le (by simp)]
end
theorem _root_.L2.PE.imp {X : Cx} {e : Expr} {t u : TE} (h : PE X e t) (k : ∀ σ H Q, u σ H Q → t σ H Q) : PE X e u := ⟨fun pins s σ H Q I q => h.run pins s σ H Q I (k σ H Q q)⟩
theorem _root_.L2.PT.imp {X : Cx} {e : Expr} {t u : TT} (h : PT X e t) (k : ∀ σ H Q, u σ H Q → t σ H Q) : PT X e u := ⟨fun pins s σ H Q I q => h.run pins s σ H Q I (k σ H Q q)⟩
theorem _root_.L2.PW.imp {X : Cx} {e : Expr} {t u : TT} (h : PW X e t) (k : ∀ σ H Q, u σ H Q → t σ H Q) : PW X e u := ⟨fun wh pins s σ H Q I q => h.run wh pins s σ H Q I (k σ H Q q)⟩
theorem _root_.L2.PA.imp {X : Cx} {e : List Expr} {t u : TA} (h : PA X e t) (k : ∀ σ H Q, u σ H Q → t σ H Q) : PA X e u := ⟨fun pos pins s σ H Q I q => h.run pos pins s σ H Q I (k σ H Q q)⟩
theorem _root_.L2.PO.imp {X : Cx} {e : Option Expr} {t u : TO} (h : PO X e t) (k : ∀ σ H Q, u σ H Q → t σ H Q) : PO X e u := ⟨fun pins s σ H Q I q => h.run pins s σ H Q I (k σ H Q q)⟩
end PC
/-! PcSyn: a small language of our own for the program's defs, values as trees, and what a piece of code needs so that a wish holds (wp). No heap of the model here. -/
namespace PC
open PySem

/-- values: tuples, and lists and dicts that nobody changes any more, are trees; ref: a tracked object -/
inductive T where
  | non | bl (b : Bool) | int (i : Int) | str (x : Str)
  | tup (xs : List T) | lst (xs : List T) | dct (ks vs : List T)
  | ref (i : Nat) | exc (c : Str)
inductive Ob where
  | lst (xs : List T) | dct (ks vs : List T) | ins (C : Str) (fs : List (Str × T)) | fix (xs : List T)
abbrev Mem := List Ob
abbrev Sl := List (Option T)

def line : Nat := 16777216

/-! ### values -/
mutual
def eqT : T → T → Bool
  | .non, .non => true
  | .bl a, .bl b => a == b
  | .bl a, .int j => (if a then 1 else 0) == j
  | .int i, .bl b => i == (if b then 1 else 0)
  | .int i, .int j => i == j
  | .str x, .str y => x == y
  | .lst xs, .lst ys => eqTs xs ys
  | .tup xs, .tup ys => eqTs xs ys
  | _, _ => false
def eqTs : List T → List T → Bool
  | [], [] => true
  | x :: xs, y :: ys => eqT x y && eqTs xs ys
  | _, _ => false
end
/-- plain data, no deeper than the fuel -/
def pln : Nat → T → Bool
  | _, .non => true
  | _, .bl _ => true
  | _, .int _ => true
  | _, .str x => PyData.strOk x
  | n + 1, .tup xs => xs.all (pln n)
  | n + 1, .lst xs => xs.all (pln n)
  | _, _ => false
/-- no refs -/
def rfr : Nat → T → Bool
  | _, .non => true
  | _, .bl _ => true
  | _, .int _ => true
  | _, .str _ => true
  | _, .exc _ => true
  | n + 1, .tup xs => xs.all (rfr n)
  | n + 1, .lst xs => xs.all (rfr n)
  | n + 1, .dct ks vs => ks.all (rfr n) && vs.all (rfr n)
  | _, _ => false
/-- what may be a dict's key, or within one -/
def hsh : Nat → T → Bool
  | _, .non => true
  | _, .bl _ => true
  | _, .int _ => true
  | _, .str _ => true
  | n + 1, .tup xs => xs.all (hsh n)
  | _, _ => false
def kt : T → Bool
  | .tup xs => xs.all (hsh 7)
  | _ => false
def rfrOb : Ob → Bool
  | .lst xs => xs.all (rfr 30)
  | .dct ks vs => ks.all (rfr 30) && vs.all (rfr 30)
  | .ins _ _ => false
  | .fix _ => false
/-- a ref is seen as what stands there -/
def vw (S : Mem) : T → T
  | .ref i => match S[i]? with
    | some (.lst xs) => .lst xs
    | some (.dct ks vs) => .dct ks vs
    | some (.fix xs) => .lst xs
    | _ => .ref i
  | t => t
def okO {α : Type} (o : Option α) (k : α → Prop) : Prop := match o with
  | some a => k a
  | none => False
def ob? (S : Mem) : T → Option (Nat × Ob)
  | .ref i => match S[i]? with
    | some o => some (i, o)
    | none => none
  | _ => none

/-- a tracked list -/
def lref (S : Mem) (x : T) : Bool := match ob? S x with
  | some (_, .lst _) => true
  | _ => false

/-! ### operators -/
def mulOk (i j : Int) : Bool := decide (i.natAbs < 2 ^ 64) || decide (j.natAbs < 2 ^ 64) || (decide (i.natAbs < 2 ^ 2000) && decide (j.natAbs < 2 ^ 2000))
def divOk (i j : Int) : Bool := decide (0 < j) && (decide (j < 1073741824) || (decide (i.natAbs < 2 ^ 4000) && decide (j < 2 ^ 2000)))
def repL {α : Type} (xs : List α) (k : Int) : List α := (List.replicate k.toNat xs).flatten
def binT : Operator → T → T → Option T
  | .Add, .int i, .int j => some (.int (i + j))
  | .Sub, .int i, .int j => some (.int (i - j))
  | .Mult, .int i, .int j => if mulOk i j then some (.int (i * j)) else none
  | .FloorDiv, .int i, .int j => if divOk i j then some (.int (i / j)) else none
  | .Mod, .int i, .int j => if 0 < j then some (.int (i % j)) else none
  | .Pow, .int i, .int j => if 0 ≤ j ∧ j ≤ 1000 ∧ i.natAbs < 2 ^ 64 then some (.int (i ^ j.toNat)) else none
  | .Add, .str x, .str y => if x.length + y.length ≤ line then some (.str (x ++ y)) else none
  | .Add, .lst xs, .lst ys => if xs.length + ys.length ≤ line then some (.lst (xs ++ ys)) else none
  | .Add, .tup xs, .tup ys => if xs.length + ys.length ≤ line then some (.tup (xs ++ ys)) else none
  | .Mult, .lst xs, .int k => if -(2 ^ 63) ≤ k ∧ k < 2 ^ 63 ∧ xs.length * k.toNat ≤ line then some (.lst (repL xs k)) else none
  | .Mult, .tup xs, .int k => if -(2 ^ 63) ≤ k ∧ k ≤ 1000 ∧ xs ≠ [] ∧ xs.length ≤ 1000 then some (.tup (repL xs k)) else none
  | .Mult, .str x, .int k => if 1 ≤ k ∧ k ≤ 1000 ∧ x.length ≤ 1000 then some (.str (Txt.mul x k)) else none
  | _, _, _ => none
def inT (x : T) (ys : List T) : Bool := ys.any fun y => eqT y x
def isN : T → Option Bool
  | .non => some true
  | .ref _ => none
  | _ => some false
/-- None, a bool, a number or a text -/
def flt : T → Bool
  | .non => true
  | .bl _ => true
  | .int _ => true
  | .str _ => true
  | _ => false
def cmpT : CmpOp → T → T → Option Bool
  | .Lt, .int i, .int j => some (decide (i < j))
  | .LtE, .int i, .int j => some (decide (i ≤ j))
  | .Gt, .int i, .int j => some (decide (j < i))
  | .GtE, .int i, .int j => some (decide (j ≤ i))
  | .Eq, x, y => if pln 60 x && pln 60 y then some (eqT x y) else none
  | .NotEq, x, y => if pln 60 x && pln 60 y then some (!eqT x y) else none
  | .In, x, .lst ys => if pln 59 x && ys.all (pln 59) then some (inT x ys) else none
  | .In, x, .tup ys => if flt x && ys.all flt then some (inT x ys) else none
  | .NotIn, x, .lst ys => if pln 59 x && ys.all (pln 59) then some (!inT x ys) else none
  | .NotIn, x, .tup ys => if flt x && ys.all flt then some (!inT x ys) else none
  | .In, x, .dct ks _ => if kt x && ks.all kt then some (inT x ks) else none
  | .NotIn, x, .dct ks _ => if kt x && ks.all kt then some (!inT x ks) else none
  | .In, .str x, .str y => if x.length = 1 then some (decide (x.cps.getD 0 0 ∈ y.cps.toList)) else none
  | .NotIn, .str x, .str y => if x.length = 1 then some (!decide (x.cps.getD 0 0 ∈ y.cps.toList)) else none
  | .Is, .bl a, .bl b => some (a == b)
  | .IsNot, .bl a, .bl b => some (!(a == b))
  | .Is, x, .non => isN x
  | .IsNot, x, .non => (isN x).map not
  | _, _, _ => none
/-- a dict's value -/
def dget : List T → List T → T → Option T
  | k :: ks, v :: vs, x => if eqT k x then some v else dget ks vs x
  | _, _, _ => none
/-- a dict's values behind d[x] = y; its keys: `if (dget ks vs x).isSome then ks else ks ++ [x]` -/
def dputV : List T → List T → T → T → List T
  | k :: ks, v :: vs, x, y => if eqT k x then y :: vs else v :: dputV ks vs x y
  | _, _, _, y => [y]
def dputK : List T → T → List T
  | k :: ks, x => if eqT k x then k :: ks else k :: dputK ks x
  | [], x => [x]
def idxT : T → T → Option T
  | .lst xs, .int i => L2.atI xs i
  | .tup xs, .int i => L2.atI xs i
  | .str z, .int i => if z.length ≤ line then (L2.atI z.cps.toList i).map fun c => .str ⟨#[c]⟩ else none
  | .dct ks vs, x => if kt x && ks.all kt then dget ks vs x else none
  | _, _ => none
def cut {α : Type} (xs : List α) (lo hi : Option Int) : List α := (xs.drop (HT.sIx xs.length 0 lo)).take (HT.sIx xs.length xs.length hi - HT.sIx xs.length 0 lo)
def slcT : T → Option Int → Option Int → Option T
  | .lst xs, lo, hi => some (.lst (cut xs lo hi))
  | .tup xs, lo, hi => some (.tup (cut xs lo hi))
  | .str z, lo, hi => if z.length ≤ line then some (.str ⟨(cut z.cps.toList lo hi).toArray⟩) else none
  | _, _, _ => none
def ints? : List T → Option (List Int)
  | [] => some []
  | .int i :: r => (ints? r).map (i :: ·)
  | _ => none
def bls? : List T → Option (List Bool)
  | [] => some []
  | .bl i :: r => (bls? r).map (i :: ·)
  | _ => none
def strs? : List T → Option (List Str)
  | [] => some []
  | .str i :: r => (strs? r).map (i :: ·)
  | _ => none
def pairs? : List T → Option (List (T × T))
  | [] => some []
  | .tup [a, b] :: r => (pairs? r).map ((a, b) :: ·)
  | _ => none
def maxL : List Int → Option Int
  | [] => none
  | x :: r => some (r.foldl max x)
def minL : List Int → Option Int
  | [] => none
  | x :: r => some (r.foldl min x)
inductive Bi where
  | len | max2 | min2 | maxL | minL | sum | all | any | tuple | list | int | str | sorted | dict | lrng1 | lrng2
  deriving DecidableEq
def rangeT (lo : Int) (n : Nat) : List T := (List.range n).map fun i : Nat => .int (lo + (i : Int))
def isDct : T → Bool
  | .dct _ _ => true
  | _ => false
/-- a dict of keys and values, one by one -/
def dofL : List T → List T × List T → List T × List T
  | .tup [y, z] :: r, d => dofL r (dputK d.1 y, dputV d.1 d.2 y z)
  | _ :: r, d => dofL r d
  | [], d => d
def dofPairs : List (T × T) → List T × List T → List T × List T
  | [], d => d
  | (k, v) :: r, (ks, vs) => dofPairs r (dputK ks k, dputV ks vs k v)
/-- {k: v}: the key is a tuple, or one that is none of ours -/
def disp1 (k v : T) : Option T := match k with
  | .tup xs => if xs.all (hsh 7) then some (.dct [.tup xs] [v]) else none
  | .str x => some (.dct [.str x] [v])
  | .non => some (.dct [.non] [v])
  | _ => none
def insI (x : Int) : List Int → List Int
  | [] => [x]
  | y :: r => if x ≤ y then x :: y :: r else y :: insI x r
def sortI : List Int → List Int
  | [] => []
  | x :: r => insI x (sortI r)
def biT : Bi → List T → Option T
  | .len, [.lst xs] => some (.int xs.length)
  | .len, [.tup xs] => some (.int xs.length)
  | .len, [.dct ks _] => some (.int ks.length)
  | .len, [.str z] => if z.length ≤ line then some (.int z.length) else none
  | .max2, [.int i, .int j] => some (.int (if j > i then j else i))
  | .min2, [.int i, .int j] => some (.int (if j < i then j else i))
  | .maxL, [.lst xs] => ((ints? xs).bind maxL).map .int
  | .minL, [.lst xs] => ((ints? xs).bind minL).map .int
  | .sum, [.lst xs] => (ints? xs).map fun l => .int l.sum
  | .all, [.lst xs] => (bls? xs).map fun l => .bl (l.all id)
  | .any, [.lst xs] => (bls? xs).map fun l => .bl (l.any id)
  | .tuple, [.lst xs] => some (.tup xs)
  | .tuple, [.tup xs] => some (.tup xs)
  | .list, [.lst xs] => some (.lst xs)
  | .list, [.tup xs] => some (.lst xs)
  | .list, [.dct ks _] => some (.lst ks)
  | .int, [.int i] => some (.int i)
  | .int, [.bl b] => some (.int (if b then 1 else 0))
  | .str, [.int i] => if i.natAbs < 2 ^ 64 then some (.str (toString i)) else none
  | .sorted, [.lst xs] => (ints? xs).bind fun l => if l.length < 64 then some (.lst ((sortI l).map .int)) else none
  | .dict, [.lst xs] => (pairs? xs).bind fun l => if l.all (fun p => kt p.1) then let d := dofPairs l ([], []); some (.dct d.1 d.2) else none
  | .lrng1, [.int n] => if -(line : Int) ≤ n ∧ n ≤ line then some (.lst (rangeT 0 n.toNat)) else none
  | .lrng2, [.int a, .int n] => if -(line : Int) ≤ n ∧ n ≤ line ∧ -(line : Int) ≤ a ∧ a ≤ line ∧ n - a ≤ line then some (.lst (rangeT a (n - a).toNat)) else none
  | _, _ => none
/-- max(.., default=d), min(.., default=d) -/
def seq? : T → Option (List T)
  | .lst xs => some xs
  | .tup xs => some xs
  | _ => none
def bidT (f : Bi) (x d : T) : Option T := match f, seq? x with
  | .maxL, some [] => some d
  | .minL, some [] => some d
  | .maxL, some (y :: ys) => ((ints? (y :: ys)).bind maxL).map .int
  | .minL, some (y :: ys) => ((ints? (y :: ys)).bind minL).map .int
  | _, _ => none
inductive Bm where
  | count | index | get1 | get2 | join | split | replace
  deriving DecidableEq
def placeT (xs : List T) (y : T) : Option T := (xs.findIdx? fun x => eqT x y).map fun i => .int i
def bmT : Bm → T → List T → Option T
  | .count, .lst xs, [y] => if flt y && xs.all flt then some (.int (xs.countP fun x => eqT x y)) else none
  | .count, .tup xs, [y] => if flt y && xs.all flt then some (.int (xs.countP fun x => eqT x y)) else none
  | .index, .lst xs, [y] => if flt y && xs.all flt then placeT xs y else none
  | .index, .tup xs, [y] => if flt y && xs.all flt then placeT xs y else none
  | .join, .str z, [.lst xs] => (strs? xs).bind fun l => if JoinOk z l then some (.str (Txt.join z l)) else none
  | .get1, .dct ks vs, [x] => if kt x && ks.all kt then some ((dget ks vs x).getD .non) else none
  | .get2, .dct ks vs, [x, y] => if kt x && ks.all kt then some ((dget ks vs x).getD y) else none
  | _, _, _ => none
def kindT : T → Nat
  | .lst _ => 1
  | .tup _ => 2
  | .dct _ _ => 3
  | .str _ => 4
  | _ => 0
def bmK : Bm → Nat → Bool
  | .count, 1 => true | .count, 2 => true
  | .index, 1 => true | .index, 2 => true
  | .get1, 3 => true | .get2, 3 => true
  | .join, 4 => true | .split, 4 => true | .replace, 4 => true
  | _, _ => false
/-- isinstance(x, a built-in class) -/
inductive Ty where
  | int | bool | str | tuple | list | dict
  deriving DecidableEq
def Ty.name : Ty → String
  | .int => "int" | .bool => "bool" | .str => "str" | .tuple => "tuple" | .list => "list" | .dict => "dict"
def isiT : T → Ty → Option Bool
  | .ref _, _ => none
  | .exc _, _ => none
  | .int _, .int => some true
  | .bl _, .int => some true
  | .bl _, .bool => some true
  | .str _, .str => some true
  | .tup _, .tuple => some true
  | .lst _, .list => some true
  | .dct _ _, .dict => some true
  | _, _ => some false
def putF (f : Str) (v : T) : List (Str × T) → List (Str × T)
  | [] => [(f, v)]
  | (g, u) :: r => if g = f then (g, v) :: r else (g, u) :: putF f v r

/-! ### code -/
inductive Tg where
  | one (i : Nat) | two (i j : Nat) | three (i j k : Nat)
mutual
inductive E where
  | var (i : Nat) | glob (x : Str)
  | int (i : Int) | bl (b : Bool) | non | str (x : Str)
  | bin (op : Operator) (a b : E)
  | neg (a : E)
  | cmp (op : CmpOp) (a b : E)
  | chain (o1 o2 : CmpOp) (a b c : E)
  | and (a b : E) | or (a b : E) | not (a : E)
  | ife (c a b : E)
  | tup (es : Es) | lst (es : Es) | dct0 | dct1 (k v : E)
  | idx (a b : E)
  | slc (a : E) (lo hi : Eo)
  | rev (a : E)
  | attr (a : E) (f : Str)
  | call (g : Str) (es : Es)
  | meth (a : E) (C m : Str) (es : Es)
  | mk (C : Str) (es : Es)
  | bi (f : Bi) (es : Es)
  | bid (f : Bi) (a d : E)
  | bm (a : E) (m : Bm) (es : Es)
  | isi (a : E) (t : Ty)
  | comp (e : E) (vs : List Nat) (tg : Tg) (it : I) (c : Eo)
  | comp2 (e : E) (vs : List Nat) (tg : Tg) (it : I) (c : Eo) (vs1 : List Nat) (tg1 : Tg) (it1 : I) (c1 : Eo)
  | dcomp (k v : E) (vs : List Nat) (tg : Tg) (it : I)
  | track (e : E)
  | told (e : E)
inductive Es where
  | nil | cons (e : E) (es : Es)
inductive Eo where
  | none | some (e : E)
inductive I where
  | val (e : E) | live (e : E) | rng1 (a : E) | rng2 (a b : E) | enum (a : E) | zip (a b : E)
end
mutual
inductive Sm where
  | asg (i : Nat) (e : E)
  | asgT (tg : Tg) (e : E)
  | par (tg : Tg) (es : Es)
  | setIdx (a b e : E)
  | setAttr (a : E) (f : Str) (e : E)
  | setAttr2 (a : E) (f : Str) (b : E) (g : Str) (e : E)
  | expr (e : E)
  | append (a e : E)
  | pop (a : E)
  | ret (e : E)
  | ifs (c : E) (A B : Ss)
  | fors (tg : Tg) (it : I) (body : Ss)
  | whiles (c : E) (body : Ss)
  | raise (C : Str)
  | tryw (body : Ss) (C : Str)
inductive Ss where
  | nil | cons (s : Sm) (r : Ss)
end

/-! ### what code needs -/
abbrev Wx := Str → Mem → Prop
abbrev Wv := T → Mem → Prop
/-- a call of a def (class, name), its arguments, the memory, what is wanted of the value and of what is raised -/
abbrev Cal := Str → Str → List T → Mem → Wv → Wx → Prop
def noX : Wx := fun _ _ => False
def gT : Mem → Prop := fun _ => True
def asgTg : Tg → T → Sl → (Sl → Prop) → Prop
  | .one i, x, σ, k => k (σ.set i (some x))
  | .two i j, .tup [x, y], σ, k => k ((σ.set i (some x)).set j (some y))
  | .three i j l, .tup [x, y, z], σ, k => k (((σ.set i (some x)).set j (some y)).set l (some z))
  | _, _, _, _ => False
def wipe (σ : Sl) : List Nat → Sl
  | [] => σ
  | v :: vs => (wipe σ vs).set v none
/-- a test: the value is a bool -/
def bt (Q : Bool → Mem → Prop) : Wv := fun v S => match v with
  | .bl b => Q b S
  | _ => False
/-- a comprehension's loop: each turn hands on the items that it adds -/
def wpL (g : Mem → Prop) (body : T → Mem → (List T → Mem → Prop) → Prop) : List T → List T → Mem → (List T → Mem → Prop) → Prop
  | [], acc, S, k => g S ∧ k acc S
  | x :: xs, acc, S, k => g S ∧ body x S fun ys S1 => wpL g body xs (acc ++ ys) S1 k
/-- a for's loop -/
def wpFor (g : Mem → Prop) (body : T → Sl → Mem → (Sl → Mem → Prop) → Prop) : List T → Sl → Mem → (Sl → Mem → Prop) → Prop
  | [], σ, S, k => g S ∧ k σ S
  | x :: xs, σ, S, k => g S ∧ body x σ S fun σ1 S1 => wpFor g body xs σ1 S1 k
def wpWh (c : Sl → Mem → (Bool → Mem → Prop) → Prop) (body : Sl → Mem → (Sl → Mem → Prop) → Prop) : Nat → Sl → Mem → (Sl → Mem → Prop) → Prop
  | 0, _, _, _ => False
  | n + 1, σ, S, k => c σ S fun b S1 => if b = true then body σ S1 (fun σ2 S2 => wpWh c body n σ2 S2 k) else k σ S1
def slot (σ : Sl) (i : Nat) : Option T := (σ[i]?).getD none
def enumT : Nat → List T → List T
  | _, [] => []
  | i, x :: r => .tup [.int i, x] :: enumT (i + 1) r
def zipT : List T → List T → List T
  | x :: xs, y :: ys => .tup [x, y] :: zipT xs ys
  | _, _ => []
def signs (z : Str) : List T := z.cps.toList.map fun c => .str ⟨#[c]⟩
def items? : T → Option (List T)
  | .lst xs => some xs
  | .tup xs => some xs
  | .str z => if z.length ≤ line then some (signs z) else none
  | _ => none
structure K where
  nx : Sl → Mem → Prop
  rt : Wv
section
variable (G : Str → Option T) (CW : Cal)
mutual
def wpE : E → Wx → Sl → Mem → Wv → Prop
  | .var i, X, σ, S, Q => okO (slot σ i) fun t => Q t S
  | .glob x, X, σ, S, Q => okO (G x) fun t => Q t S
  | .int i, X, σ, S, Q => Q (.int i) S
  | .bl b, X, σ, S, Q => Q (.bl b) S
  | .non, X, σ, S, Q => Q .non S
  | .str x, X, σ, S, Q => Q (.str x) S
  | .bin op a b, X, σ, S, Q => wpE a X σ S fun x S1 => wpE b X σ S1 fun y S2 => okO (binT op (vw S2 x) (vw S2 y)) fun z => Q z S2
  | .neg a, X, σ, S, Q => wpE a X σ S fun x S1 => match x with
    | .int i => Q (.int (-i)) S1
    | _ => False
  | .cmp op a b, X, σ, S, Q => wpE a X σ S fun x S1 => wpE b X σ S1 fun y S2 => okO (cmpT op (vw S2 x) (vw S2 y)) fun z => Q (.bl z) S2
  | .chain o1 o2 a b c, X, σ, S, Q => wpE a X σ S fun x S1 => wpE b X σ S1 fun y S2 => okO (cmpT o1 (vw S2 x) (vw S2 y)) fun z =>
      if z = true then wpE c X σ S2 fun u S3 => okO (cmpT o2 (vw S3 y) (vw S3 u)) fun z => Q (.bl z) S3 else Q (.bl false) S2
  | .and a b, X, σ, S, Q => wpE a X σ S (bt fun c S1 => if c = true then wpE b X σ S1 Q else Q (.bl false) S1)
  | .or a b, X, σ, S, Q => wpE a X σ S (bt fun c S1 => if c = true then Q (.bl true) S1 else wpE b X σ S1 Q)
  | .not a, X, σ, S, Q => wpE a X σ S (bt fun c S1 => Q (.bl (!c)) S1)
  | .ife c a b, X, σ, S, Q => wpE c X σ S (bt fun d S1 => if d = true then wpE a X σ S1 Q else wpE b X σ S1 Q)
  | .tup es, X, σ, S, Q => wpEs es X σ S fun xs S1 => Q (.tup xs) S1
  | .lst es, X, σ, S, Q => wpEs es X σ S fun xs S1 => Q (.lst xs) S1
  | .dct0, X, σ, S, Q => Q (.dct [] []) S
  | .dct1 k v, X, σ, S, Q => wpE k X σ S fun x S1 => wpE v X σ S1 fun y S2 => okO (disp1 x y) fun d => Q d S2
  | .idx a b, X, σ, S, Q => wpE a X σ S fun x S1 => wpE b X σ S1 fun y S2 => okO (idxT (vw S2 x) y) fun z => Q z S2
  | .slc a lo hi, X, σ, S, Q => wpE a X σ S fun x S1 => wpO lo X σ S1 fun l S2 => wpO hi X σ S2 fun h S3 => okO (slcT (vw S3 x) l h) fun z => Q z S3
  | .rev a, X, σ, S, Q => wpE a X σ S fun x S1 => match x with
    | .tup xs => Q (.tup xs.reverse) S1
    | _ => False
  | .attr a f, X, σ, S, Q => wpE a X σ S fun x S1 => match ob? S1 x with
    | some (_, .ins _ fs) => okO (fs.lookup f) fun v => Q v S1
    | _ => False
  | .call g es, X, σ, S, Q => wpEs es X σ S fun xs S1 => CW "" g xs S1 Q X
  | .meth a C m es, X, σ, S, Q => wpE a X σ S fun x S1 => match ob? S1 x with
    | some (_, .ins C' fs) => (C' = C ∧ fs.lookup m = none) ∧ wpEs es X σ S1 fun xs S2 => CW C m (x :: xs) S2 Q X
    | _ => False
  | .mk C es, X, σ, S, Q => wpEs es X σ S fun xs S1 => CW C "__init__" (.ref S1.length :: xs) (S1 ++ [.ins C []]) (fun v S2 => v = .non ∧ Q (.ref S1.length) S2) X
  | .bi f es, X, σ, S, Q => wpEs es X σ S fun xs S1 => okO (biT f (xs.map (vw S1))) fun z => Q z S1
  | .bid f a d, X, σ, S, Q => wpE a X σ S fun x S1 => wpE d X σ S1 fun y S2 => okO (bidT f (vw S2 x) y) fun z => Q z S2
  | .bm a m es, X, σ, S, Q => wpE a X σ S fun x S1 => bmK m (kindT (vw S1 x)) = true ∧ wpEs es X σ S1 fun xs S2 => kindT (vw S1 x) = kindT (vw S2 x) ∧ okO (bmT m (vw S2 x) xs) fun z => Q z S2
  | .isi a t, X, σ, S, Q => wpE a X σ S fun x S1 => okO (isiT (vw S1 x) t) fun z => Q (.bl z) S1
  | .comp e vs tg it c, X, σ, S, Q => wpI it X σ S fun g xs S1 =>
      wpL g (fun x S k => asgTg tg x (wipe σ vs) fun σ1 => wpT c noX σ1 S fun b S2 => if b = true then wpE e noX σ1 S2 fun y S3 => k [y] S3 else k [] S2) xs [] S1 fun ys S2 => Q (.lst ys) S2
  | .comp2 e vs tg it c vs1 tg1 it1 c1, X, σ, S, Q => wpI it X σ S fun g xs S1 => xs.length ≤ 1000 ∧
      wpL g (fun x S k => asgTg tg x (wipe σ vs) fun σ1 => wpT c noX σ1 S fun b S2 => if b = true then wpI it1 noX σ1 S2 fun g1 xs1 S3 => xs1.length ≤ 1000 ∧
        wpL g1 (fun x S k => asgTg tg1 x (wipe σ1 vs1) fun σ2 => wpT c1 noX σ2 S fun b S2 => if b = true then wpE e noX σ2 S2 fun y S3 => k [y] S3 else k [] S2) xs1 [] S3 k else k [] S2) xs [] S1 fun ys S2 => Q (.lst ys) S2
  | .dcomp ke ve vs tg it, X, σ, S, Q => wpI it X σ S fun g xs S1 =>
      wpL g (fun x S k => asgTg tg x (wipe σ vs) fun σ1 => wpE ke noX σ1 S fun y S2 => wpE ve noX σ1 S2 fun z S3 => kt y = true ∧ k [.tup [y, z]] S3) xs [] S1 fun ys S2 =>
        Q (.dct (dofL ys ([], [])).1 (dofL ys ([], [])).2) S2
  | .track e, X, σ, S, Q => wpE e X σ S fun x S1 => match x with
    | .lst xs => Q (.ref S1.length) (S1 ++ [.lst xs])
    | .dct ks vs => Q (.ref S1.length) (S1 ++ [.dct ks vs])
    | _ => False
  | .told e, X, σ, S, Q => wpE e (fun c S1 => Q (.tup [.str "refused", .str c]) S1) σ S Q
def wpEs : Es → Wx → Sl → Mem → (List T → Mem → Prop) → Prop
  | .nil, X, σ, S, Q => Q [] S
  | .cons e es, X, σ, S, Q => wpE e X σ S fun x S1 => wpEs es X σ S1 fun xs S2 => Q (x :: xs) S2
def wpO : Eo → Wx → Sl → Mem → (Option Int → Mem → Prop) → Prop
  | .none, X, σ, S, Q => Q none S
  | .some e, X, σ, S, Q => wpE e X σ S fun x S1 => match x with
    | .int i => Q (some i) S1
    | _ => False
def wpT : Eo → Wx → Sl → Mem → (Bool → Mem → Prop) → Prop
  | .none, X, σ, S, Q => Q true S
  | .some e, X, σ, S, Q => wpE e X σ S (bt Q)
def wpI : I → Wx → Sl → Mem → ((Mem → Prop) → List T → Mem → Prop) → Prop
  | .val e, X, σ, S, Q => wpE e X σ S fun x S1 => okO (items? x) fun xs => Q gT xs S1
  | .live e, X, σ, S, Q => wpE e X σ S fun x S1 => match vw S1 x with
    | .lst xs => Q (fun S2 => vw S2 x = .lst xs) xs S1
    | .tup xs => Q gT xs S1
    | .str z => z.length ≤ line ∧ Q gT (signs z) S1
    | .dct ks _ => (isDct x = true ∧ ks.all kt = true) ∧ Q gT ks S1
    | _ => False
  | .rng1 a, X, σ, S, Q => wpE a X σ S fun x S1 => match x with
    | .int n => (-(line : Int) ≤ n ∧ n ≤ line) ∧ Q gT (rangeT 0 n.toNat) S1
    | _ => False
  | .rng2 a b, X, σ, S, Q => wpE a X σ S fun x S1 => wpE b X σ S1 fun y S2 => match x, y with
    | .int m, .int n => (-(line : Int) ≤ n ∧ n ≤ line ∧ -(line : Int) ≤ m ∧ m ≤ line ∧ n - m ≤ line) ∧ Q gT (rangeT m (n - m).toNat) S2
    | _, _ => False
  | .enum a, X, σ, S, Q => wpE a X σ S fun x S1 => okO (seq? x) fun xs => Q gT (enumT 0 xs) S1
  | .zip a b, X, σ, S, Q => wpE a X σ S fun x S1 => wpE b X σ S1 fun y S2 => match x, y with
    | .lst xs, .lst ys => Q gT (zipT xs ys) S2
    | .tup xs, .tup ys => Q gT (zipT xs ys) S2
    | _, _ => False
end
mutual
def wpS : Sm → Wx → Sl → Mem → K → Prop
  | .asg i e, X, σ, S, D => wpE G CW e X σ S fun x S1 => D.nx (σ.set i (some x)) S1
  | .asgT tg e, X, σ, S, D => wpE G CW e X σ S fun x S1 => asgTg tg x σ fun σ1 => D.nx σ1 S1
  | .par tg es, X, σ, S, D => wpEs G CW es X σ S fun xs S1 => asgTg tg (.tup xs) σ fun σ1 => D.nx σ1 S1
  | .setIdx a b e, X, σ, S, D => wpE G CW e X σ S fun v S1 => wpE G CW a X σ S1 fun x S2 => wpE G CW b X σ S2 fun y S3 => match ob? S3 x, y with
    | some (i, .lst xs), .int k => okO (L2.ixN xs.length k) fun j => D.nx σ (S3.set i (.lst (xs.set j v)))
    | some (i, .dct ks vs), y => (kt y = true ∧ ks.all kt = true ∧ ks.length < line) ∧ D.nx σ (S3.set i (.dct (dputK ks y) (dputV ks vs y v)))
    | _, _ => False
  | .setAttr a f e, X, σ, S, D => wpE G CW e X σ S fun v S1 => wpE G CW a X σ S1 fun x S2 => match ob? S2 x with
    | some (i, .ins C fs) => fs.length < 100 ∧ D.nx σ (S2.set i (.ins C (putF f v fs)))
    | _ => False
  | .setAttr2 a f b g e, X, σ, S, D => wpE G CW e X σ S fun u S1 => match u with
    | .tup [v, w] => wpE G CW a X σ S1 fun x S2 => match ob? S2 x with
      | some (i, .ins C fs) => fs.length < 100 ∧ wpE G CW b X σ (S2.set i (.ins C (putF f v fs))) fun x S3 => match ob? S3 x with
        | some (i, .ins C fs) => fs.length < 100 ∧ D.nx σ (S3.set i (.ins C (putF g w fs)))
        | _ => False
      | _ => False
    | _ => False
  | .expr e, X, σ, S, D => wpE G CW e X σ S fun _ S1 => D.nx σ S1
  | .append a e, X, σ, S, D => wpE G CW a X σ S fun x S1 => lref S1 x = true ∧ wpE G CW e X σ S1 fun v S2 => match ob? S2 x with
    | some (i, .lst xs) => xs.length < line ∧ D.nx σ (S2.set i (.lst (xs ++ [v])))
    | _ => False
  | .pop a, X, σ, S, D => wpE G CW a X σ S fun x S1 => match ob? S1 x with
    | some (i, .lst xs) => xs ≠ [] ∧ D.nx σ (S1.set i (.lst xs.dropLast))
    | _ => False
  | .ret e, X, σ, S, D => wpE G CW e X σ S D.rt
  | .ifs c A B, X, σ, S, D => wpE G CW c X σ S (bt fun b S1 => if b = true then wpSs A X σ S1 D else wpSs B X σ S1 D)
  | .fors tg it body, X, σ, S, D => wpI G CW it X σ S fun g xs S1 => wpFor g (fun x σ S k => asgTg tg x σ fun σ1 => wpSs body X σ1 S ⟨k, D.rt⟩) xs σ S1 D.nx
  | .whiles c body, X, σ, S, D => ∃ n, wpWh (fun σ S k => wpE G CW c X σ S (bt k)) (fun σ S k => wpSs body X σ S ⟨k, D.rt⟩) n σ S D.nx
  | .raise C, X, σ, S, D => X C S
  | .tryw body C, X, σ, S, D => wpSs body (fun _ S1 => X C S1) σ S D
def wpSs : Ss → Wx → Sl → Mem → K → Prop
  | .nil, X, σ, S, D => D.nx σ S
  | .cons s r, X, σ, S, D => wpS s X σ S ⟨fun σ1 S1 => wpSs r X σ1 S1 D, D.rt⟩
end
end

/-! ### defs -/
/-- what a def leaves behind: all of its objects, or none of its own -/
def Cuts (S S' S1 : Mem) : Prop := ∃ M, S' = S1 ++ M ∧ S1.length = S.length ∧ ∀ (i : Nat) (o : Ob), S1[i]? = some o → S[i]? = some o ∨ rfrOb o = true
inductive Back (S : Mem) (Q : Wv) : T → Mem → Prop
  | keep {v : T} {S' : Mem} : Q v S' → Back S Q v S'
  | drop {v : T} {S' S1 : Mem} : Cuts S S' S1 → rfr 30 v = true → Q v S1 → Back S Q v S'
  | dropL {i : Nat} {xs : List T} {S' S1 : Mem} : Cuts S S' S1 → S.length ≤ i → S'[i]? = some (.lst xs) → xs.all (rfr 30) = true → Q (.lst xs) S1 → Back S Q (.ref i) S'
  | dropD {i : Nat} {ks vs : List T} {S' S1 : Mem} : Cuts S S' S1 → S.length ≤ i → S'[i]? = some (.dct ks vs) → ks.all (rfr 30) = true → vs.all (rfr 30) = true → Q (.dct ks vs) S1 → Back S Q (.ref i) S'
inductive BackX (S : Mem) (X : Wx) : Wx
  | keep {c : Str} {S' : Mem} : X c S' → BackX S X c S'
  | drop {c : Str} {S' S1 : Mem} : Cuts S S' S1 → X c S1 → BackX S X c S'
structure Def where
  N : List Str
  ar : Nat
  body : Ss
def startT (d : Def) (args : List T) : Sl := args.map some ++ List.replicate (d.N.length - d.ar) none
/-- the text's defs -/
structure Tab where
  fn : Str → Str → Option Def
  G : Str → Option T
def CallWP (D : Tab) : Nat → Cal
  | 0 => fun _ _ _ _ _ _ => False
  | k + 1 => fun C g args S Q X => okO (D.fn C g) fun d => args.length = d.ar ∧
      wpSs D.G (fun C g args S Q X => CallWP D k C g args S Q X) d.body (BackX S X) (startT d args) S ⟨fun _ S' => Back S Q .non S', Back S Q⟩
end PC
/-! PcChk: whether the text's own tree is the code that PcSyn tells (places and scopes looked at). -/
namespace PC
open PySem
/-- where code stands: the slots' names, the scope, the names that may be stored -/
structure SE where
  N : List Str
  sc : Scope
  ow : List Str
  fl : List Str
  fns : List (Str × Str)
  xs : List Str
  lam : Bool
def isLoc : Option NameKind → Bool
  | some .local => true
  | some .cell => true
  | _ => false
def isVis : Option NameKind → Bool
  | some .local => true
  | some .cell => true
  | some .free => true
  | _ => false
def isGlb : Option NameKind → Bool
  | some .globalImplicit => true
  | _ => false
def okName (x : Str) : Bool := !(x == ("__debug__" : Str)) && !(x == ("__classdict__" : Str)) && !decide (x = ("__name__" : Str))
def notStar : Expr → Bool
  | .Starred _ _ => false
  | _ => true
def notSet : Expr → Bool
  | .Set _ _ _ => false
  | _ => true
/-- an index that is no slice and no constant that is folded away -/
def plainIx : Expr → Bool
  | .Slice _ _ _ _ => false
  | .Tuple _ _ _ => true
  | _ => true
def nmChk (s : SE) (i : Nat) (x : Str) : Bool := decide (s.N[i]? = some x) && isVis (s.sc.names.lookup x) && okName x
def stChk (s : SE) (i : Nat) (x : Str) : Bool := decide (s.N[i]? = some x) && s.ow.contains x && okName x
def glChk (s : SE) (x : Str) : Bool := isGlb (s.sc.names.lookup x) && okName x
theorem okName_dbg {x : Str} (h : okName x = true) : (x == ("__debug__" : Str)) = false ∧ (x == ("__classdict__" : Str)) = false ∧ x ≠ "__name__" := by
  unfold okName at h
  simp only [Bool.and_eq_true, Bool.not_eq_true', decide_eq_false_iff_not] at h
  exact ⟨h.1.1, h.1.2, h.2⟩
theorem vis_of {o : Option NameKind} (h : isVis o = true) : o = some .local ∨ o = some .cell ∨ o = some .free := by
  cases o with
  | none => cases h
  | some k => cases k <;> first | exact .inl rfl | exact .inr (.inl rfl) | exact .inr (.inr rfl) | cases h
theorem glb_of {o : Option NameKind} (h : isGlb o = true) : o = some .globalImplicit := by
  cases o with
  | none => cases h
  | some k => cases k <;> first | rfl | cases h
def biName : Bi → Str
  | .len => "len" | .max2 => "max" | .min2 => "min" | .maxL => "max" | .minL => "min" | .sum => "sum" | .all => "all" | .any => "any" | .tuple => "tuple" | .list => "list"
  | .int => "int" | .str => "str" | .sorted => "sorted" | .dict => "dict" | .lrng1 => "list" | .lrng2 => "list"
def bmName : Bm → Str
  | .count => "count" | .index => "index" | .get1 => "get" | .get2 => "get" | .join => "join" | .split => "split" | .replace => "replace"
def bmOk : Bm → Bool
  | .count => true
  | .index => true
  | .get1 => true
  | .get2 => true
  | .join => true
  | _ => false
theorem bmOk_of {m : Bm} (h : bmOk m = true) : m = .count ∨ m = .index ∨ m = .get1 ∨ m = .get2 ∨ m = .join := by cases m <;> simp_all [bmOk]
def tyName : Ty → Str
  | .int => "int" | .bool => "bool" | .str => "str" | .tuple => "tuple" | .list => "list" | .dict => "dict"
def biArity : Bi → Nat
  | .max2 => 2 | .min2 => 2 | _ => 1
def esLen : Es → Nat
  | .nil => 0
  | .cons _ r => esLen r + 1
def bmArity : Bm → Nat
  | .get2 => 2 | .replace => 2 | _ => 1
/-- targets -/
def nmSt (s : SE) (i : Nat) : Expr → Bool
  | .Name x _ => stChk s i x
  | _ => false
def chkTg (s : SE) (tg : Tg) (p : Expr) : Bool := match tg with
  | .one i => nmSt s i p
  | .two i j => (match p with
    | .Tuple es _ _ => (match es with
      | [a, b] => nmSt s i a && nmSt s j b
      | _ => false)
    | _ => false)
  | .three i j l => (match p with
    | .Tuple es _ _ => (match es with
      | [a, b, c] => nmSt s i a && nmSt s j b && nmSt s l c
      | _ => false)
    | _ => false)
def tgPair : Tg → Bool
  | .two _ _ => true
  | _ => false
def tgSlots : Tg → List Nat
  | .one i => [i]
  | .two i j => [i, j]
  | .three i j l => [i, j, l]
/-- the scope that a comprehension's block has -/
def relScope (scope sc : Scope) : Scope :=
  { scope with names := scope.names.map fun (n, k) => if (k == .free && sc.kind == .function && sc.names.lookup n == some .cell) then (n, .cell) else (n, k) }
def blkOwn (s : SE) (vs : List Nat) : List (Str × Nat) := vs.filterMap fun i => (s.N[i]?).map fun x => (x, i)
def blkSE (s : SE) (scope : Scope) : SE := ⟨s.N, relScope scope s.sc, (scope.names.filter fun y => isLoc (some y.2)).map (·.1), s.fl, s.fns, s.xs, s.lam⟩
def blkChk (s : SE) (vs : List Nat) (scope : Scope) : Bool := L2.blkC s.N s.sc scope (blkOwn s vs) && decide ((blkOwn s vs).map (·.2) = vs)
def subAll (a b : List Nat) : Bool := a.all fun i => b.contains i
/-- a lambda without parameters: the names that it sees -/
def lamSE (s : SE) (scope : Scope) : SE := ⟨s.N, scope, [], s.fl, s.fns, s.xs, false⟩
def noArgs (a : Arguments) : Bool := a.posonlyargs.isEmpty && a.args.isEmpty && a.vararg.isNone && a.kwonlyargs.isEmpty && a.kw_defaults.isEmpty && a.kwarg.isNone && a.defaults.isEmpty
/-- list(range(..)): the range's arguments -/
def rngArgs (f : Bi) (es : List Expr) : List Expr := match f, es with
  | .lrng1, [.Call _ es' _ _] => es'
  | .lrng2, [.Call _ es' _ _] => es'
  | _, es => es
def rngOk (s : SE) (f : Bi) (es : Es) (ps : List Expr) : Bool := match f, ps with
  | .lrng1, [.Call (.Name x _) [a] [] _] => decide (x = ("range" : Str)) && glChk s x && notStar a && decide (esLen es = 1)
  | .lrng2, [.Call (.Name x _) [a, b] [] _] => decide (x = ("range" : Str)) && glChk s x && notStar a && notStar b && decide (esLen es = 2)
  | .lrng1, _ => false
  | .lrng2, _ => false
  | _, _ => true
/-- values that stand at a new place -/
def freshE : E → Bool
  | .bin _ _ _ => true
  | .lst _ => true
  | .comp _ _ _ _ _ => true
  | .comp2 _ _ _ _ _ _ _ _ _ => true
  | .slc _ _ _ => true
  | .bi f _ => decide (f = .list) || decide (f = .sorted) || decide (f = .dict) || decide (f = .lrng1) || decide (f = .lrng2)
  | .dct0 => true
  | .dct1 _ _ => true
  | .dcomp _ _ _ _ _ => true
  | _ => false
/-- its truth is asked of the value -/
def plainP : Expr → Bool
  | .BinOp _ _ _ _ => true
  | .List _ _ => true
  | .ListComp _ _ _ _ => true
  | .Subscript _ _ _ => true
  | .Call _ _ _ _ => true
  | .Dict _ _ _ => true
  | .DictComp _ _ _ _ _ => true
  | _ => false
/-- attributeBase is the thing itself -/
def plainBase : Expr → Bool
  | .Call _ [] _ _ => false
  | _ => true
mutual
def chkE (s : SE) : E → Expr → Bool
  | .var i, .Name x _ => nmChk s i x
  | .glob x, .Name y _ => decide (x = y) && glChk s y
  | .int i, .Constant (.int j) _ _ => decide (i = j)
  | .bl b, .Constant (.bool c) _ _ => decide (b = c)
  | .non, .Constant .none _ _ => true
  | .str x, .Constant (.str y) _ _ => decide (x = y)
  | .bin op a b, .BinOp a' op' b' _ => decide (op = op') && chkE s a a' && chkE s b b'
  | .neg a, .UnaryOp .USub a' _ => chkE s a a'
  | .cmp op a b, .Compare a' [op'] [b'] _ => decide (op = op') && chkE s a a' && chkE s b b' && notSet b'
  | .chain o1 o2 a b c, .Compare a' [o1', o2'] [b', c'] _ => decide (o1 = o1') && decide (o2 = o2') && chkE s a a' && chkE s b b' && chkE s c c' && notSet c'
  | .and a b, .BoolOp .And (x :: y :: r) pos => chkE s a x && (match r with
    | [] => chkE s b y
    | z :: r => chkE s b (.BoolOp .And (y :: z :: r) pos))
  | .or a b, .BoolOp .Or (x :: y :: r) pos => chkE s a x && (match r with
    | [] => chkE s b y
    | z :: r => chkE s b (.BoolOp .Or (y :: z :: r) pos))
  | .not a, .UnaryOp .Not a' _ => chkE s a a'
  | .ife c a b, .IfExp c' a' b' _ => chkE s c c' && chkE s a a' && chkE s b b'
  | .tup es, .Tuple es' _ _ => decide (esLen es ≤ 1000) && chkEs s es es'
  | .lst es, .List es' _ => decide (esLen es ≤ 1000) && chkEs s es es'
  | .dct0, .Dict [] [] _ => true
  | .idx a b, .Subscript a' b' _ => chkE s a a' && chkE s b b' && plainIx b'
  | .slc a lo hi, .Subscript a' (.Slice lo' hi' none _) _ => chkE s a a' && chkO s lo lo' && chkO s hi hi'
  | .attr a f, .Attribute a' f' _ => decide (f = f') && s.fl.contains f && chkE s a a' && plainBase a'
  | .call g es, .Call (.Name x _) es' [] _ => decide (g = x) && s.fns.contains ("", g) && glChk s x && chkEs s es es'
  | .meth a C m es, .Call (.Attribute a' m' apos) es' [] pos => decide (m = m') && decide (C ≠ "") && s.fns.contains (C, m) && chkE s a a' && chkEs s es es' && methChk a' apos pos && decide (esLen es < 20)
  | .mk C es, .Call (.Name x _) es' [] _ => decide (C = x) && decide (C ≠ "") && s.fns.contains (C, "__init__") && glChk s x && chkEs s es es'
  | .bi f es, .Call (.Name x _) es' [] _ => decide (biName f = x) && glChk s x && decide (0 < esLen es) && rngOk s f es es' && chkEs s es (rngArgs f es')
  | .bid f a d, .Call (.Name x _) [a'] [⟨some y, d', _⟩] _ => decide (biName f = x) && decide (f = .maxL ∨ f = .minL) && glChk s x && decide (y = Str.ofString "default") && chkE s a a' && chkE s d d' && notStar a'
  | .bm a m es, .Call (.Attribute a' m' apos) es' [] pos => decide (bmName m = m') && bmOk m && chkE s a a' && chkEs s es es' && methChk a' apos pos && decide (0 < esLen es) && decide (esLen es < 5)
  | .isi a t, .Call (.Name x _) [a', .Name y _] [] _ => decide (x = ("isinstance" : Str)) && glChk s x && decide (y = tyName t) && glChk s y && chkE s a a' && notStar a'
  | .comp e vs tg it c, .ListComp e' [⟨tg', it', cs', 0⟩] scope _ => blkChk s vs scope && subAll (tgSlots tg) vs && chkI s (tgPair tg) it it' && chkTg (blkSE s scope) tg tg' && chkC (blkSE s scope) c cs' && chkE (blkSE s scope) e e'
  | .comp2 e vs tg it .none vs1 tg1 (.rng1 a) .none, .ListComp e' [⟨tg', it', [], 0⟩, ⟨tg1', .Call (.Name x _) [a'] [] _, [], 0⟩] scope _ => blkChk s vs scope && subAll (tgSlots tg) vs && subAll (tgSlots tg1) vs1 && subAll vs1 vs && !tgPair tg1 && chkI s (tgPair tg) it it' && chkTg (blkSE s scope) tg tg' &&
      chkTg (blkSE s scope) tg1 tg1' && decide (x = ("range" : Str)) && glChk (blkSE s scope) x && chkE (blkSE s scope) a a' && notStar a' && chkE (blkSE s scope) e e'
  | .dcomp ke ve vs tg it, .DictComp k' v' [⟨tg', it', [], 0⟩] scope _ => blkChk s vs scope && subAll (tgSlots tg) vs && chkI s (tgPair tg) it it' && chkTg (blkSE s scope) tg tg' && chkE (blkSE s scope) ke k' && chkE (blkSE s scope) ve v'
  | .track e, p => freshE e && plainP p && chkE s e p
  | .told e, .Call (.Name x _) [.Lambda params body scope _] [] _ => decide (x = ("_law_told" : Str)) && s.lam && glChk s x && noArgs params && LamX.lamSB s.sc scope && chkE (lamSE s scope) e body
  | _, _ => false
def chkEs (s : SE) : Es → List Expr → Bool
  | .nil, [] => true
  | .cons e es, e' :: es' => notStar e' && chkE s e e' && chkEs s es es'
  | _, _ => false
def chkO (s : SE) : Eo → Option Expr → Bool
  | .none, none => true
  | .some e, some e' => chkE s e e'
  | _, _ => false
def chkC (s : SE) : Eo → List Expr → Bool
  | .none, [] => true
  | .some e, [e'] => chkE s e e'
  | _, _ => false
def chkI (s : SE) (pr : Bool) : I → Expr → Bool
  | .val e, p => chkE s e p && notSet p
  | .live e, p => chkE s e p && notSet p
  | .rng1 a, .Call (.Name x _) [a'] [] _ => decide (x = ("range" : Str)) && glChk s x && chkE s a a' && notStar a'
  | .rng2 a b, .Call (.Name x _) [a', b'] [] _ => decide (x = ("range" : Str)) && glChk s x && chkE s a a' && chkE s b b' && notStar a' && notStar b'
  | .enum a, .Call (.Name x _) [a'] [] _ => pr && decide (x = ("enumerate" : Str)) && glChk s x && chkE s a a' && notStar a'
  | .zip a b, .Call (.Name x _) [a', b'] [] _ => pr && decide (x = ("zip" : Str)) && glChk s x && chkE s a a' && chkE s b b' && notStar a' && notStar b'
  | _, _ => false
def methChk (a : Expr) (apos pos : Pos) : Bool := plainBase a && (apos.endLine == pos.line)
end
/-! statements -/
def notComp : Expr → Bool
  | .ListComp _ _ _ _ => false
  | .SetComp _ _ _ _ => false
  | .DictComp _ _ _ _ _ => false
  | _ => true
/-- a comprehension stored at once -/
def swL (s : SE) (x : Str) (px : Pos) : Expr → Bool
  | .ListComp _ _ sc pos => (s.sc.names.lookup x == some .local) && (px.line == pos.line) && !(sc.names.any fun (n, k) => n == x && (k == .local || k == .cell))
  | .DictComp _ _ _ sc pos => (s.sc.names.lookup x == some .local) && (px.line == pos.line) && !(sc.names.any fun (n, k) => n == x && (k == .local || k == .cell))
  | _ => false
def notTup : Expr → Bool
  | .Tuple _ _ _ => false
  | _ => true
def nmLoc (s : SE) (ts : List Expr) : List Str :=
  let line := (ts.head?.map (·.pos.line)).getD 0
  ts.filterMap fun
    | .Name id pos => if s.sc.names.lookup id == some .local && pos.line == line then some id else none
    | _ => none
/-- a, b = .. through a tuple -/
def nswChk (s : SE) (t v : Expr) : Bool := match v with
  | .Tuple vs _ _ => (match t with
    | .Tuple ts _ _ => vs.all (foldedForSure 8) || ((nmLoc s ts).length != ts.length)
    | _ => false)
  | _ => true
def parChk (s : SE) (x y : Str) (px py : Pos) (a b : Expr) : Bool := (s.sc.names.lookup x == some .local) && (s.sc.names.lookup y == some .local) && (px.line == py.line) && !(x == y) && notStar a && notStar b &&
  !(foldedForSure 8 a && foldedForSure 8 b) && !(constantsAlone 8 a && constantsAlone 8 b)
def par3Chk (s : SE) (x y z : Str) (px py pz : Pos) (a b c : Expr) : Bool := (s.sc.names.lookup x == some .local) && (s.sc.names.lookup y == some .local) && (s.sc.names.lookup z == some .local) && (px.line == py.line) && (px.line == pz.line) && !(x == y) && !(x == z) && !(y == z) &&
  notStar a && notStar b && notStar c && !(foldedForSure 8 a && foldedForSure 8 b && foldedForSure 8 c) && !(constantsAlone 8 a && constantsAlone 8 b && constantsAlone 8 c)
def notSlice : Expr → Bool
  | .Slice _ _ _ _ => false
  | _ => true
def asgC (s : SE) (i : Nat) (e : E) : Stmt → Bool
  | .Assign [.Name x px] v _ => stChk s i x && (notComp v || (match v with
    | .ListComp _ [_] _ _ => true
    | .DictComp _ _ _ _ _ => true
    | _ => false)) && chkE s e v
  | _ => false
def asgTC (s : SE) (tg : Tg) (e : E) : Stmt → Bool
  | .Assign [t] v _ => !notTup t && chkTg s tg t && nswChk s t v && chkE s e v
  | _ => false
def par2C (s : SE) (i j : Nat) (es : Es) : Stmt → Bool
  | .Assign [.Tuple [.Name x px, .Name y py] _ _] (.Tuple [a, b] _ _) _ => stChk s i x && stChk s j y && parChk s x y px py a b && !(i == j) && chkEs s es [a, b]
  | _ => false
def par3C (s : SE) (i j l : Nat) (es : Es) : Stmt → Bool
  | .Assign [.Tuple [.Name x px, .Name y py, .Name z pz] _ _] (.Tuple [a, b, c] _ _) _ => stChk s i x && stChk s j y && stChk s l z && par3Chk s x y z px py pz a b c && !(i == j) && !(i == l) && !(j == l) && chkEs s es [a, b, c]
  | _ => false
def parC (s : SE) (es : Es) (p : Stmt) : Tg → Bool
  | .two i j => par2C s i j es p
  | .three i j l => par3C s i j l es p
  | _ => false
def setIdxC (s : SE) (a b e : E) : Stmt → Bool
  | .Assign [.Subscript a' b' _] v _ => notSlice b' && chkE s e v && chkE s a a' && chkE s b b'
  | _ => false
def setAttrC (s : SE) (a : E) (f : Str) (e : E) : Stmt → Bool
  | .Assign [.Attribute a' f' _] v _ => decide (f = f') && s.fl.contains f && chkE s e v && chkE s a a'
  | _ => false
def exprC (s : SE) (e : E) : Stmt → Bool
  | .Expr p _ => notComp p && chkE s e p
  | _ => false
def appC (s : SE) (a e : E) : Stmt → Bool
  | .Expr (.Call (.Attribute a' m apos) [e'] [] pos) _ => decide (m = ("append" : Str)) && chkE s a a' && chkE s e e' && methChk a' apos pos && notStar e'
  | _ => false
def popC (s : SE) (a : E) : Stmt → Bool
  | .Expr (.Call (.Attribute a' m apos) [] [] pos) _ => decide (m = ("pop" : Str)) && chkE s a a' && methChk a' apos pos
  | _ => false
def retC (s : SE) (e : E) : Stmt → Bool
  | .Return (some p) _ => chkE s e p
  | _ => false
def raiseC (s : SE) (C : Str) : Stmt → Bool
  | .Raise (some (.Call (.Name x _) [.Constant (.str _) _ _] [] _)) none _ => decide (C = x) && glChk s x && s.xs.contains x
  | _ => false
def leafC (s : SE) (p : Stmt) : Sm → Bool
  | .asg i e => asgC s i e p
  | .asgT tg e => asgTC s tg e p
  | .par tg es => parC s es p tg
  | .setIdx a b e => setIdxC s a b e p
  | .setAttr a f e => setAttrC s a f e p
  | .expr e => exprC s e p
  | .append a e => appC s a e p
  | .pop a => popC s a p
  | .ret e => retC s e p
  | .raise C => raiseC s C p
  | _ => false
mutual
def chkS (s : SE) : Sm → Stmt → Bool
  | .ifs c A B, .If c' A' B' _ => chkE s c c' && chkSs s A A' && chkSs s B B'
  | .fors tg it body, .For tg' it' body' [] _ => chkI s (tgPair tg) it it' && chkTg s tg tg' && chkSs s body body'
  | .whiles c body, .While c' body' [] _ => chkE s c c' && chkSs s body body'
  | st, p => leafC s p st
def chkSs (s : SE) : Ss → List Stmt → Bool
  | .nil, [] => true
  | .cons a r, p :: ps => chkS s a p && chkSs s r ps
  | _, _ => false
end
end PC
/-! PcRep: how the trees of PcSyn stand in the abstract heap of HandS. -/
namespace PC
open PySem L2

/-! ### keys of dicts -/
mutual
def keyT : T → NestedKey
  | .non => .none
  | .bl b => .num (if b = true then 1 else 0)
  | .int i => .num i
  | .str x => .text x
  | .tup xs => .tup (keyTs xs)
  | _ => .none
def keyTs : List T → List NestedKey
  | [] => []
  | x :: xs => keyT x :: keyTs xs
end
/-- the dict o: its keys as trees and as values, its values -/
inductive DictObj (P : Program) (w : World) (o : Obj) : List T → List V → List V → Prop
  | keyed {es : Array DictEntry} {ep : Nat} {xs : List (NestedKey × Addr × Value)} {ks : List T} {vvs : List V} : o.ExactDict → o.data = .dict es ep → es.toList = xs.map (entryOfKey (nestedKind P w)) → (xs.map (·.1)).Nodup →
      Paired (fun (t : T) (x : NestedKey × Addr × Value) => kt t = true ∧ keyT t = x.1) ks xs → Vals vvs (xs.map (·.2.2)) → DictObj P w o ks (xs.map fun x => V.ref x.2.1) vvs
  | raw {es : Array DictEntry} {ep : Nat} {k : T} {kv v : V} {ku u : Value} : o.ExactDict → o.data = .dict es ep → kt k = false → es.size = 1 → (∀ (i : Nat) (e : DictEntry), es[i]? = some e → e.key = ku ∧ e.val = u) → RelV kv ku → RelV v u → DictObj P w o [k] [kv] [v]
def dictHO (a : Addr) (o : Obj) : HO := .ext fun h => h.get? a = some o
def DAt (P : Program) (w : World) (H : Hp) (a : Addr) (ks : List T) (kvs vvs : List V) : Prop := (a == sysModules) = false ∧ vvs.length ≤ sizeLine ∧ ∃ o, H a = some (dictHO a o) ∧ DictObj P w o ks kvs vvs

/-! ### values -/
/-- a tuple stands, its object known (so that its methods may be called) -/
def TupAt (H : Hp) (a : Addr) (vs : List V) : Prop := ∃ o, H a = some (.frz o (.tup vs)) ∧ o.cls = .type "tuple" ∧ o.dict = none
/-- the text's classes: by their names, where they stand -/
structure Mo where
  P : Program
  w : World
  K : PySem.W.Frag
  mg : Str → Option Value
  base : Heap
  cls : Str → Option Addr
  exc : Str → Option Addr
  flds : List Str
  tabs : List (Addr × Str)
variable {M : Mo}
mutual
inductive Rep (M : Mo) (φ : List Addr) (H : Hp) : T → V → Prop
  | non : Rep M φ H .non .non
  | bl (b : Bool) : Rep M φ H (.bl b) (.bl b)
  | int (i : Int) : Rep M φ H (.int i) (.int i)
  | str (x : Str) : Rep M φ H (.str x) (.str x)
  | tup {xs : List T} {a : Addr} {vs : List V} : TupAt H a vs → Reps M φ H xs vs → Rep M φ H (.tup xs) (.ref a)
  | lst {xs : List T} {a : Addr} {vs : List V} : a ∉ φ → H a = some (.lst vs) → Reps M φ H xs vs → Rep M φ H (.lst xs) (.ref a)
  | dct {ks ts : List T} {a : Addr} {kvs vvs : List V} : a ∉ φ → DAt M.P M.w H a ks kvs vvs → Reps M φ H ks kvs → Reps M φ H ts vvs → Rep M φ H (.dct ks ts) (.ref a)
  | ref {i : Nat} {a : Addr} : φ[i]? = some a → Rep M φ H (.ref i) (.ref a)
inductive Reps (M : Mo) (φ : List Addr) (H : Hp) : List T → List V → Prop
  | nil : Reps M φ H [] []
  | cons {x : T} {v : V} {xs : List T} {vs : List V} : Rep M φ H x v → Reps M φ H xs vs → Reps M φ H (x :: xs) (v :: vs)
end
/-- an instance's fields -/
def RepF (M : Mo) (φ : List Addr) (H : Hp) : List (Str × T) → List (Str × V) → Prop := Paired fun p q => p.1 = q.1 ∧ Rep M φ H p.2 q.2
/-- what is tracked -/
inductive ObAt (M : Mo) (φ : List Addr) (H : Hp) (a : Addr) : Ob → Prop
  | lst {xs : List T} {vs : List V} : H a = some (.lst vs) → Reps M φ H xs vs → ObAt M φ H a (.lst xs)
  | dct {ks ts : List T} {kvs vvs : List V} : DAt M.P M.w H a ks kvs vvs → Reps M φ H ks kvs → Reps M φ H ts vvs → ObAt M φ H a (.dct ks ts)
  | fix {xs : List T} {vs : List V} : Rd H a (.lst vs) → Reps M φ H xs vs → ObAt M φ H a (.fix xs)
  | ins {C : Str} {fs : List (Str × T)} {Ca dx : Addr} {gs : List (Str × V)} : M.cls C = some Ca → H a = some (.ins Ca dx gs) → RepF M φ H fs gs → ObAt M φ H a (.ins C fs)
/-- the tables of code objects: each code that they tell bears the name told -/
def TabF (T : List (Addr × Str)) (φ : List Addr) (H : Hp) : Prop := ∀ p ∈ T, p.1 ∉ φ ∧ ∃ ps : Array Value, H p.1 = some (.tbl ps) ∧ TriplesOk ps.toList ∧ ∀ (pos : Pos) (cv : Value), codeAmong pos ps.toList = some cv → ∃ c, cv = .ref c ∧ c ∉ φ ∧ H c = some (LamX.CodeO c p.2)
structure Wd (M : Mo) (φ : List Addr) (S : Mem) (H : Hp) : Prop where
  len : φ.length = S.length
  nd : φ.Nodup
  at_ : ∀ (i : Nat) (o : Ob) (a : Addr), S[i]? = some o → φ[i]? = some a → ObAt M φ H a o
  tb : TabF M.tabs φ H
def RepO (M : Mo) (φ : List Addr) (H : Hp) : Option T → Option V → Prop
  | some t, some v => Rep M φ H t v
  | none, _ => True
  | _, _ => False
abbrev Slots (M : Mo) (φ : List Addr) (H : Hp) : Sl → St → Prop := Paired (RepO M φ H)
def isTbl : HO → Bool
  | .tbl _ => true
  | _ => false
/-- what goes on -/
structure Ext (φ : List Addr) (H : Hp) (φ' : List Addr) (H' : Hp) : Prop where
  pre : ∃ ψ, φ' = φ ++ ψ ∧ ∀ a ∈ ψ, H a = none
  keep : ∀ a o, H a = some o → a ∉ φ → isTbl o = false → H' a = some o
  there : ∀ a, H a ≠ none → H' a ≠ none
  nt : ∀ a ps, H' a = some (.tbl ps) → a ∉ φ' → ∃ qs, H a = some (.tbl qs)
section
variable {φ φ' φ1 φ2 : List Addr} {H H' H1 H2 : Hp}
theorem Ext.refl (φ : List Addr) (H : Hp) : Ext φ H φ H := ⟨⟨[], by simp, by simp⟩, fun _ _ h _ _ => h, fun _ h => h, fun _ _ h _ => ⟨_, h⟩⟩
theorem Ext.nmem (e : Ext φ H φ' H') {a : Addr} {o : HO} (h : H a = some o) (n : a ∉ φ) : a ∉ φ' := by
  obtain ⟨ψ, rfl, hn⟩ := e.pre
  intro hm
  rcases List.mem_append.mp hm with m | m
  · exact n m
  · rw [hn a m] at h; cases h
theorem Ext.trans (e : Ext φ H φ1 H1) (f : Ext φ1 H1 φ2 H2) : Ext φ H φ2 H2 := by
  refine ⟨?_, fun a o h n t => f.keep a o (e.keep a o h n t) (e.nmem h n) t, fun a h => f.there a (e.there a h), fun a ps h n => ?_⟩
  rotate_left
  · obtain ⟨qs, h1⟩ := f.nt a ps h n
    refine e.nt a qs h1 fun m => n ?_
    obtain ⟨ψ', rfl, _⟩ := f.pre
    exact List.mem_append_left _ m
  obtain ⟨ψ, rfl, hn⟩ := e.pre
  obtain ⟨ψ', rfl, hn'⟩ := f.pre
  refine ⟨ψ ++ ψ', by simp, fun a m => ?_⟩
  rcases List.mem_append.mp m with m | m
  · exact hn a m
  · cases q : H a with
    | none => rfl
    | some o => exact absurd (hn' a m) (e.there a (by rw [q]; simp))
theorem Ext.get (e : Ext φ H φ' H') {i : Nat} {a : Addr} (h : φ[i]? = some a) : φ'[i]? = some a := by
  obtain ⟨ψ, rfl, _⟩ := e.pre
  obtain ⟨hl, e⟩ := List.getElem?_eq_some_iff.mp h
  rw [List.getElem?_append_left hl]; exact h
theorem Ext.rd (e : Ext φ H φ' H') {a : Addr} {xs : List V} (h : Rd H a (.lst xs)) (n : a ∉ φ) : Rd H' a (.lst xs) := by
  rcases h with h | ⟨o, h⟩
  · exact .inl (e.keep _ _ h n rfl)
  · exact .inr ⟨o, e.keep _ _ h n rfl⟩
theorem Rd.there {a : Addr} {u : HO} (h : Rd H a u) : H a ≠ none := by
  rcases h with h | ⟨o, h⟩ <;> rw [h] <;> simp
theorem Ext.nmemRd (e : Ext φ H φ' H') {a : Addr} {u : HO} (h : Rd H a u) (n : a ∉ φ) : a ∉ φ' := by
  rcases h with h | ⟨o, h⟩
  · exact e.nmem h n
  · exact e.nmem h n
theorem Ext.dat (e : Ext φ H φ' H') {P : Program} {w : World} {a : Addr} {ks : List T} {kvs vvs : List V} (h : DAt P w H a ks kvs vvs) (n : a ∉ φ) : DAt P w H' a ks kvs vvs := by
  obtain ⟨h1, h2, o, h3, h4⟩ := h
  exact ⟨h1, h2, o, e.keep _ _ h3 n rfl, h4⟩
/-- tuples are not tracked -/
def NoTup (φ : List Addr) (H : Hp) : Prop := ∀ a vs, TupAt H a vs → a ∉ φ
theorem Wd.noTup {S : Mem} (w : Wd M φ S H) : NoTup φ H := by
  intro a vs ⟨ot, h, _⟩ hm
  obtain ⟨i, hi, e⟩ := List.mem_iff_getElem.mp hm
  have hS : i < S.length := by rw [← w.len]; exact hi
  have q := w.at_ i S[i] a (by simp [hS]) (by simp [hi, e])
  generalize S[i] = ob at q
  cases q with
  | lst h' _ => rw [h] at h'; cases h'
  | dct h' _ _ => obtain ⟨_, _, o, h', _⟩ := h'; rw [h] at h'; cases h'
  | ins _ h' _ => rw [h] at h'; cases h'
  | fix h' _ => rcases h' with h' | ⟨o, h'⟩ <;> (rw [h] at h'; cases h')
mutual
theorem Rep.ext (e : Ext φ H φ' H') (n : NoTup φ H) : ∀ {t : T} {v : V}, Rep M φ H t v → Rep M φ' H' t v
  | _, _, .non => .non
  | _, _, .bl b => .bl b
  | _, _, .int i => .int i
  | _, _, .str x => .str x
  | _, _, .tup h r => .tup (by obtain ⟨o, h1, h2⟩ := id h; exact ⟨o, e.keep _ _ h1 (n _ _ h) rfl, h2⟩) (Reps.ext e n r)
  | _, _, .lst m h r => .lst (e.nmem h m) (e.keep _ _ h m rfl) (Reps.ext e n r)
  | _, _, .dct m h r s => .dct (by obtain ⟨_, _, o, h3, _⟩ := h; exact e.nmem h3 m) (e.dat h m) (Reps.ext e n r) (Reps.ext e n s)
  | _, _, .ref h => .ref (e.get h)
theorem Reps.ext (e : Ext φ H φ' H') (n : NoTup φ H) : ∀ {ts : List T} {vs : List V}, Reps M φ H ts vs → Reps M φ' H' ts vs
  | _, _, .nil => .nil
  | _, _, .cons r s => .cons (Rep.ext e n r) (Reps.ext e n s)
end
theorem Reps.length : ∀ {ts : List T} {vs : List V}, Reps M φ H ts vs → ts.length = vs.length
  | _, _, .nil => rfl
  | _, _, .cons _ s => congrArg (· + 1) (Reps.length s)
theorem Reps.append : ∀ {ts us : List T} {vs ws : List V}, Reps M φ H ts vs → Reps M φ H us ws → Reps M φ H (ts ++ us) (vs ++ ws)
  | _, _, _, _, .nil, s => s
  | _, _, _, _, .cons r t, s => .cons r (Reps.append t s)
theorem Reps.get : ∀ {ts : List T} {vs : List V} {i : Nat} {t : T}, Reps M φ H ts vs → ts[i]? = some t → ∃ v, vs[i]? = some v ∧ Rep M φ H t v
  | _, _, _, _, .nil, e => by simp at e
  | _, _, 0, _, .cons r _, e => by simp at e; subst e; exact ⟨_, rfl, r⟩
  | _, _, i + 1, t, .cons _ s, e => by
    obtain ⟨v, h1, h2⟩ := Reps.get (i := i) (t := t) s (by simpa using e)
    exact ⟨v, by simpa using h1, h2⟩
theorem Reps.set {t : T} {v : V} (r : Rep M φ H t v) : ∀ {ts : List T} {vs : List V} (i : Nat), Reps M φ H ts vs → Reps M φ H (ts.set i t) (vs.set i v)
  | _, _, _, .nil => .nil
  | _, _, 0, .cons _ s => .cons r s
  | _, _, i + 1, .cons q s => .cons q (Reps.set r i s)
theorem Reps.take : ∀ {ts : List T} {vs : List V} (n : Nat), Reps M φ H ts vs → Reps M φ H (ts.take n) (vs.take n)
  | _, _, 0, _ => .nil
  | _, _, _ + 1, .nil => .nil
  | _, _, n + 1, .cons r t => .cons r (Reps.take n t)
theorem Reps.drop : ∀ {ts : List T} {vs : List V} (n : Nat), Reps M φ H ts vs → Reps M φ H (ts.drop n) (vs.drop n)
  | _, _, 0, r => r
  | _, _, _ + 1, .nil => .nil
  | _, _, n + 1, .cons _ t => Reps.drop n t
theorem RepF.ext (e : Ext φ H φ' H') (n : NoTup φ H) {fs : List (Str × T)} {gs : List (Str × V)} (r : RepF M φ H fs gs) : RepF M φ' H' fs gs :=
  Paired.mapP r fun _ _ q => ⟨q.1, Rep.ext e n q.2⟩
theorem Slots.ext (e : Ext φ H φ' H') (n : NoTup φ H) {σT : Sl} {σ : St} (r : Slots M φ H σT σ) : Slots M φ' H' σT σ :=
  Paired.mapP r fun a b q => by
    cases a with
    | none => trivial
    | some t => cases b with
      | none => exact q
      | some v => exact Rep.ext e n (show Rep M φ H t v from q)
theorem Slots.get : ∀ {σT : Sl} {σ : St} {i : Nat} {t : T}, Slots M φ H σT σ → slot σT i = some t → ∃ v, σ[i]? = some (some v) ∧ Rep M φ H t v
  | _, _, _, _, .nil, e => by simp [slot] at e
  | _, _, 0, t, .cons (a := a) (b := b) r _, e => by
    have e : a = some t := e
    subst e
    cases b with
    | none => exact r.elim
    | some v => exact ⟨v, rfl, r⟩
  | _, _, i + 1, t, .cons _ s, e => by
    obtain ⟨v, h1, h2⟩ := Slots.get (i := i) (t := t) s (by simpa [slot] using e)
    exact ⟨v, by simpa using h1, h2⟩
theorem Slots.set {t : T} {v : V} (r : Rep M φ H t v) : ∀ {σT : Sl} {σ : St} (i : Nat), Slots M φ H σT σ → Slots M φ H (σT.set i (some t)) (σ.set i (some v))
  | _, _, _, .nil => .nil
  | _, _, 0, .cons _ s => .cons r s
  | _, _, i + 1, .cons q s => .cons q (Slots.set r i s)
theorem Slots.set0 : ∀ {σT : Sl} {σ : St} (i : Nat), Slots M φ H σT σ → Slots M φ H (σT.set i none) (σ.set i none)
  | _, _, _, .nil => .nil
  | _, _, 0, .cons _ s => .cons trivial s
  | _, _, i + 1, .cons q s => .cons q (Slots.set0 i s)
theorem Slots.wipe {σT : Sl} {σ : St} (r : Slots M φ H σT σ) : ∀ vs : List Nat, Slots M φ H (PC.wipe σT vs) (L2.wipe σ vs)
  | [] => r
  | v :: vs => Slots.set0 v (Slots.wipe r vs)

/-! ### the memory behind a step -/
theorem TupAt.sq {K : PySem.W.Frag} {a : Addr} {vs : List V} (h : TupAt H a vs) : SqT K H a vs := let ⟨o, h, _⟩ := h; .inl (.inr ⟨o, h⟩)
theorem TupAt.new {p : Addr} {o : Obj} {vs : List V} (h1 : o.cls = .type "tuple") (h2 : o.dict = none) : TupAt (upd H p (.frz o (.tup vs))) p vs := ⟨o, upd_same, h1, h2⟩
theorem ObAt.live {a : Addr} {o : Ob} (h : ObAt M φ H a o) : H a ≠ none := by
  cases h with
  | lst h _ => rw [h]; simp
  | dct h _ _ => obtain ⟨_, _, o, h, _⟩ := h; rw [h]; simp
  | ins _ h _ => rw [h]; simp
  | fix h _ => rcases h with h | ⟨_, h⟩ <;> (rw [h]; simp)
theorem Wd.live {S : Mem} (w : Wd M φ S H) {a : Addr} (h : a ∈ φ) : H a ≠ none := by
  obtain ⟨i, hi, e⟩ := List.mem_iff_getElem.mp h
  have hS : i < S.length := by rw [← w.len]; exact hi
  exact (w.at_ i S[i] a (by simp [hS]) (by simp [hi, e])).live
theorem Wd.new {S : Mem} (w : Wd M φ S H) {a : Addr} (h : H a = none) : a ∉ φ := fun m => w.live m h
theorem ObAt.ext (e : Ext φ H φ' H') (n : NoTup φ H) {a : Addr} {o : Ob} (h : ObAt M φ H a o) (k : H' a = H a) : ObAt M φ' H' a o := by
  cases h with
  | lst h r => exact .lst (k.trans h) (r.ext e n)
  | dct h r s =>
    refine .dct ?_ (r.ext e n) (s.ext e n)
    obtain ⟨h1, h2, o, h3, h4⟩ := h
    exact ⟨h1, h2, o, k.trans h3, h4⟩
  | ins c h r => exact .ins c (k.trans h) (r.ext e n)
  | fix h r => exact .fix (h.imp k.trans fun ⟨o, h⟩ => ⟨o, k.trans h⟩) (r.ext e n)
/-- the tables stand where all but tracked things stay -/
theorem TabF.go {T : List (Addr × Str)} {ψ : List Addr} (t : TabF T φ H) (k : ∀ a o, H a = some o → a ∉ φ → H' a = some o) (hn : ∀ a ∈ ψ, H a = none) : TabF T (φ ++ ψ) H' := fun p hp => by
  obtain ⟨n, ps, h1, h2, h3⟩ := t p hp
  have nm : ∀ {a : Addr} {o : HO}, a ∉ φ → H a = some o → a ∉ φ ++ ψ := fun {a o} n e m => by
    rcases List.mem_append.mp m with m | m
    · exact n m
    · rw [hn a m] at e; cases e
  refine ⟨nm n h1, ps, k _ _ h1 n, h2, fun pos cv hc => ?_⟩
  obtain ⟨c, e, nc, hco⟩ := h3 pos cv hc
  exact ⟨c, e, nm nc hco, k _ _ hco nc⟩
theorem TabF.go0 {T : List (Addr × Str)} (t : TabF T φ H) (k : ∀ a o, H a = some o → a ∉ φ → H' a = some o) : TabF T φ H' := by
  have := t.go (ψ := []) k (by simp)
  simpa using this
theorem ObAt.noTbl {a : Addr} {o : Ob} {ps : Array Value} (h : ObAt M φ H a o) : H a ≠ some (.tbl ps) := fun z => by
  cases h with
  | lst h _ => rw [h] at z; cases z
  | dct h _ _ => obtain ⟨_, _, o, h, _⟩ := h; rw [h] at z; cases z
  | ins _ h _ => rw [h] at z; cases z
  | fix h _ => rcases h with h | ⟨_, h⟩ <;> (rw [h] at z; cases z)
theorem Wd.noTbl {S : Mem} (w : Wd M φ S H) {a : Addr} (h : a ∈ φ) {ps : Array Value} : H a ≠ some (.tbl ps) := by
  obtain ⟨i, hi, e⟩ := List.mem_iff_getElem.mp h
  have hS : i < S.length := by rw [← w.len]; exact hi
  exact (w.at_ i S[i] a (by simp [hS]) (by simp [hi, e])).noTbl
/-- nothing tracked was touched -/
theorem Wd.keep {S : Mem} (w : Wd M φ S H) (e : Ext φ H φ H') (k : ∀ a ∈ φ, H' a = H a) (t : TabF M.tabs φ H') : Wd M φ S H' :=
  ⟨w.len, w.nd, fun i o a h1 h2 => (w.at_ i o a h1 h2).ext e w.noTup (k a (List.mem_of_getElem? h2)), t⟩
theorem upd_keep {p : Addr} {o : HO} (h : H p = none) : ∀ a u, H a = some u → upd H p o a = some u := fun a u q => by rw [upd_ne (ne_of_none q h)]; exact q
theorem Ext.laid {p : Addr} {o : HO} (h : H p = none) (ho : isTbl o = false := by rfl) : Ext φ H φ (upd H p o) := by
  refine ⟨⟨[], by simp, by simp⟩, fun a u q _ _ => upd_keep h a u q, fun a q => ?_, fun a ps q n => ?_⟩
  · have : a ≠ p := fun e => q (by rw [e]; exact h)
    rw [upd_ne this]; exact q
  · by_cases e : a = p
    · subst e
      rw [upd_same] at q
      cases q
      cases ho
    · rw [upd_ne e] at q
      exact ⟨_, q⟩
theorem Wd.laid {S : Mem} {p : Addr} {o : HO} (w : Wd M φ S H) (h : H p = none) (ho : isTbl o = false := by rfl) : Wd M φ S (upd H p o) :=
  w.keep (Ext.laid h ho) (fun a m => upd_ne fun e => w.live m (by rw [e]; exact h)) (w.tb.go0 fun a u q _ => upd_keep h a u q)
/-- one more tracked object -/
theorem Ext.add {p : Addr} {o : HO} (h : H p = none) : Ext φ H (φ ++ [p]) (upd H p o) := by
  refine ⟨⟨[p], rfl, fun a m => by simp at m; rw [m]; exact h⟩, fun a u q _ _ => upd_keep h a u q, fun a q => ?_, fun a ps q n => ?_⟩
  · have : a ≠ p := fun e => q (by rw [e]; exact h)
    rw [upd_ne this]; exact q
  · rw [upd_ne fun e => n (by rw [e]; simp)] at q
    exact ⟨_, q⟩
theorem Wd.add {S : Mem} {p : Addr} {o : HO} {ob : Ob} (w : Wd M φ S H) (h : H p = none) (n : ObAt M (φ ++ [p]) (upd H p o) p ob) : Wd M (φ ++ [p]) (S ++ [ob]) (upd H p o) := by
  have e : Ext φ H (φ ++ [p]) (upd H p o) := Ext.add h
  refine ⟨by simp [w.len], ?_, fun i ob' a h1 h2 => ?_, w.tb.go (fun a u q _ => upd_keep h a u q) (fun a m => by simp at m; rw [m]; exact h)⟩
  · rw [List.nodup_append]
    refine ⟨w.nd, by simp, fun a ha b hb z => ?_⟩
    simp at hb
    subst hb
    exact w.new h (z ▸ ha)
  · by_cases hi : i < S.length
    · rw [List.getElem?_append_left hi] at h1
      rw [List.getElem?_append_left (by rw [w.len]; exact hi)] at h2
      have hm := List.mem_of_getElem? h2
      exact (w.at_ i ob' a h1 h2).ext e w.noTup (upd_ne fun z => w.live hm (by rw [z]; exact h))
    · have hi2 : i = S.length := by
        have := (List.getElem?_eq_some_iff.mp h1).1
        simp at this; omega
      subst hi2
      have e1 : ob' = ob := by simpa using h1.symm
      have e2 : a = p := by
        rw [← w.len] at h2
        simpa using h2.symm
      subst e1; subst e2
      exact n
/-- a tracked object was written -/
theorem Ext.write {p : Addr} {o : HO} (m : p ∈ φ) : Ext φ H φ (upd H p o) := by
  refine ⟨⟨[], by simp, by simp⟩, fun a u q n _ => by rw [upd_ne (show a ≠ p from fun e => n (by rw [e]; exact m))]; exact q, fun a q => ?_, fun a ps q n => ?_⟩
  · by_cases e : a = p
    · subst e; rw [upd_same]; simp
    · rw [upd_ne e]; exact q
  · rw [upd_ne (show a ≠ p from fun e => n (by rw [e]; exact m))] at q
    exact ⟨_, q⟩
theorem nodup_get {l : List Addr} (n : l.Nodup) {i j : Nat} {a : Addr} (h : l[i]? = some a) (h' : l[j]? = some a) : i = j := by
  obtain ⟨h1, e1⟩ := List.getElem?_eq_some_iff.mp h
  obtain ⟨h2, e2⟩ := List.getElem?_eq_some_iff.mp h'
  exact (List.getElem_inj n).mp (e1.trans e2.symm)
theorem Wd.write {S : Mem} {p : Addr} {o : HO} {ob : Ob} {i : Nat} (w : Wd M φ S H) (hi : φ[i]? = some p) (n : ObAt M φ (upd H p o) p ob) : Wd M φ (S.set i ob) (upd H p o) := by
  have hm := List.mem_of_getElem? hi
  have e : Ext φ H φ (upd H p o) := Ext.write hm
  refine ⟨by simp [w.len], w.nd, fun j ob' a h1 h2 => ?_, w.tb.go0 (fun a u q n => by rw [upd_ne (show a ≠ p from fun e => n (by rw [e]; exact hm))]; exact q)⟩
  by_cases hj : i = j
  · subst hj
    rw [hi] at h2
    obtain rfl : p = a := Option.some.inj h2
    rw [List.getElem?_set_self' ] at h1
    cases q : S[i]? with
    | none => rw [q] at h1; simp at h1
    | some x =>
      rw [q] at h1
      simp at h1
      subst h1
      exact n
  · rw [List.getElem?_set_ne hj] at h1
    exact (w.at_ j ob' a h1 h2).ext e w.noTup (upd_ne fun z => hj (nodup_get w.nd hi (z ▸ h2)))
/-- a tracked ref -/
theorem Rep.refAt {S : Mem} (w : Wd M φ S H) {i : Nat} {o : Ob} {v : V} (r : Rep M φ H (.ref i) v) (h : S[i]? = some o) : ∃ a, v = .ref a ∧ φ[i]? = some a ∧ ObAt M φ H a o := by
  cases r with
  | ref e => exact ⟨_, rfl, e, w.at_ _ _ _ h e⟩
/-- seen through the memory: it may be read as the tree -/
inductive View (M : Mo) (φ : List Addr) (H : Hp) : T → V → Prop
  | non : View M φ H .non .non
  | bl (b : Bool) : View M φ H (.bl b) (.bl b)
  | int (i : Int) : View M φ H (.int i) (.int i)
  | str (x : Str) : View M φ H (.str x) (.str x)
  | tup {xs : List T} {a : Addr} {vs : List V} : TupAt H a vs → Reps M φ H xs vs → View M φ H (.tup xs) (.ref a)
  | lst {xs : List T} {a : Addr} {vs : List V} : Rd H a (.lst vs) → Reps M φ H xs vs → View M φ H (.lst xs) (.ref a)
  | dct {ks ts : List T} {a : Addr} {kvs vvs : List V} : DAt M.P M.w H a ks kvs vvs → Reps M φ H ks kvs → Reps M φ H ts vvs → View M φ H (.dct ks ts) (.ref a)
  | ref {i : Nat} {a : Addr} : View M φ H (.ref i) (.ref a)
theorem Rep.view {S : Mem} (w : Wd M φ S H) {t : T} {v : V} (r : Rep M φ H t v) : View M φ H (vw S t) v := by
  cases r with
  | non => exact .non
  | bl b => exact .bl b
  | int i => exact .int i
  | str x => exact .str x
  | tup h r => exact .tup h r
  | lst m h r => exact .lst (.inl h) r
  | dct m h r s => exact .dct h r s
  | @ref i a e =>
    show View M φ H (match S[i]? with | some (.lst xs) => .lst xs | some (.dct ks vs) => .dct ks vs | some (.fix xs) => .lst xs | _ => .ref i) _
    cases q : S[i]? with
    | none => exact .ref
    | some o =>
      have z := w.at_ i o a q e
      cases z with
      | lst h r => exact .lst (.inl h) r
      | dct h r s => exact .dct h r s
      | ins _ _ _ => exact .ref
      | fix h r => exact .lst h r
end
end PC
/-! PcOps: what the operators do to trees. -/
namespace PC
open PySem L2
variable {M : Mo}
/-- the context is over the same module -/
structure XM (M : Mo) (X : Cx) : Prop where
  P : X.prog = M.P
  w : X.w = M.w
  K : X.K = M.K
  mg : X.mg = M.mg
  base : X.base = M.base
/-- what is wanted of an operator's value: a new list or dict stands at a new place -/
def FrL (M : Mo) (φ : List Addr) (S : Mem) (H : Hp) (z : T) (Q : VK) : Prop := match z with
  | .lst xs => ∀ (p : Addr) (vs : List V), H p = none → Reps M φ H xs vs → Q (.ref p) (upd H p (.lst vs))
  | .dct ks ts => ∀ (p : Addr) (o : Obj) (kvs vvs : List V), H p = none → (p == sysModules) = false → vvs.length ≤ sizeLine → DictObj M.P M.w o ks kvs vvs → Reps M φ H ks kvs → Reps M φ H ts vvs → Q (.ref p) (upd H p (dictHO p o))
  | z => ∀ (v : V) (H' : Hp), Ext φ H φ H' → Wd M φ S H' → Rep M φ H' z v → Q v H'
section
variable {φ : List Addr} {S : Mem} {H : Hp} {Q : VK}
theorem Rep.lstNew {p : Addr} {xs : List T} {vs : List V} (w : Wd M φ S H) (h : H p = none) (r : Reps M φ H xs vs) : Rep M φ (upd H p (.lst vs)) (.lst xs) (.ref p) :=
  .lst (w.new h) upd_same (r.ext (Ext.laid h) w.noTup)
theorem Rep.tupNew {p : Addr} {o : Obj} {xs : List T} {vs : List V} (w : Wd M φ S H) (h : H p = none) (h1 : o.cls = .type "tuple") (h2 : o.dict = none) (r : Reps M φ H xs vs) : Rep M φ (upd H p (.frz o (.tup vs))) (.tup xs) (.ref p) :=
  .tup (.new h1 h2) (r.ext (Ext.laid h) w.noTup)
theorem Rep.dctNew {p : Addr} {o : Obj} {ks ts : List T} {kvs vvs : List V} (w : Wd M φ S H) (h : H p = none) (hp : (p == sysModules) = false) (hz : vvs.length ≤ sizeLine) (d : DictObj M.P M.w o ks kvs vvs) (r : Reps M φ H ks kvs) (r' : Reps M φ H ts vvs) :
    Rep M φ (upd H p (dictHO p o)) (.dct ks ts) (.ref p) :=
  .dct (w.new h) ⟨hp, hz, o, upd_same, d⟩ (r.ext (Ext.laid h) w.noTup) (r'.ext (Ext.laid h) w.noTup)
/-- any value will do -/
theorem FrL.of {z : T} (w : Wd M φ S H) (h : ∀ (v : V) (H' : Hp), Ext φ H φ H' → Wd M φ S H' → Rep M φ H' z v → Q v H') : FrL M φ S H z Q := by
  cases z with
  | lst xs => exact fun p vs hp r => h _ _ (Ext.laid hp) (w.laid hp) (Rep.lstNew w hp r)
  | dct ks ts => exact fun p o kvs vvs hp hs hz d r r' => h _ _ (Ext.laid hp) (w.laid hp) (Rep.dctNew w hp hs hz d r r')
  | _ => exact h
end

section
variable {X : Cx} {φ : List Addr} {S : Mem} {pins : List (Addr × Obj)} {σ : St} {H : Hp} {s : Shared}
theorem line_eq : (line : Nat) = sizeLine := rfl
theorem lstR {l : Addr} {xs : List V} (I : Inv X pins σ H s) (hH : Rd H l (.lst xs)) :
    xs.length ≤ sizeLine ∧ ∃ (its : List Value) (n : Nat), Vals xs its ∧ xs.length = its.length ∧ s.heap.get? l = some { cls := .type "list", data := .seq its.toArray n } := by
  obtain ⟨z, its, n, r, e⟩ := Rd.ok hH I.hok
  exact ⟨z, its, n, r, r.length, e⟩
theorem catR {l b : Addr} {xs zs : List V} {Q : VK} (I : Inv X pins σ H s) (h1 : Rd H l (.lst xs)) (h2 : Rd H b (.lst zs)) (hz : xs.length + zs.length ≤ sizeLine) (q : ∀ p, H p = none → Q (.ref p) (upd H p (.lst (xs ++ zs)))) :
    wpAny (model X.prog X.w) X.A (binaryOp .Add (.ref l) (.ref b)) (EP X pins σ Q) X.xe s := by
  obtain ⟨_, is, n, r, hl, e⟩ := lstR I h1
  obtain ⟨_, is', n', r', hl', e'⟩ := lstR I h2
  refine PySem.P.add_list e e' ?_ (by rw [List.size_toArray, List.size_toArray]; omega)
  rw [show is.toArray ++ is'.toArray = (is ++ is').toArray by simp]
  exact ⟨.ref _, _, I.lnew (t' := s.toks) (r.append r') (by rw [List.length_append]; omega), rfl, q _ I.fresh⟩
/-- a new tuple -/
theorem tupNew {its : List Value} {xs : List V} {t' : Nat} (I : Inv X pins σ H s) (r : Vals xs its) (hz : xs.length ≤ sizeLine) :
    Inv X pins σ (upd H s.heap.objs.size (.frz { cls := .type "tuple", data := .seq its.toArray } (.tup xs))) { s with heap := s.heap.push { cls := .type "tuple", data := .seq its.toArray }, toks := t' } :=
  I.laid (t' := t') (fun b o e => Heap.get?_push_of_some _ e) (Nat.le_refl _) ⟨Heap.get?_push_size _ rfl, hz, its, r, PyProof.Rows.IsTup.new _ _⟩
def NewT (H : Hp) (xs : List V) (Q : VK) : Prop := ∀ (p : Addr) (o : Obj), H p = none → o.cls = .type "tuple" → o.dict = none → Q (.ref p) (upd H p (.frz o (.tup xs)))
theorem catT {l b : Addr} {xs zs : List V} {Q : VK} (I : Inv X pins σ H s) (h1 : TupAt H l xs) (h2 : TupAt H b zs) (hz : xs.length + zs.length ≤ sizeLine)
    (q1 : xs = [] → Q (.ref b) H) (q2 : xs ≠ [] → zs = [] → Q (.ref l) H) (q3 : NewT H (xs ++ zs) Q) : wpAny (model X.prog X.w) X.A (binaryOp .Add (.ref l) (.ref b)) (EP X pins σ Q) X.xe s := by
  obtain ⟨is, r, t1, _⟩ := I.tuple h1.sq
  obtain ⟨is', r', t2, _⟩ := I.tuple h2.sq
  by_cases hx : xs = []
  · subst hx
    exact op_catA pins s σ H (.ref l) (.ref b) _ _ Q I rfl rfl ⟨l, b, [], zs, rfl, rfl, h1.sq, h2.sq, hz, fun _ => q1 rfl, fun n => absurd rfl n, fun n => absurd rfl n⟩
  · refine HT.cat_tup t1 t2 (fun e => hx (by subst e; cases r; rfl)) (fun e => ?_) (fun e => ?_) (by rw [← r.length, ← r'.length]; exact hz)
    · subst e
      cases r'
      exact ⟨.ref l, H, I, rfl, q2 hx rfl⟩
    · exact ⟨.ref _, _, tupNew (t' := s.toks) I (r.append r') (by rw [List.length_append]; exact hz), rfl, q3 _ _ I.fresh rfl rfl⟩
/-- the readings of a sequence -/
theorem View.lst_inv {xs : List T} {v : V} (h : View M φ H (.lst xs) v) : ∃ a vs, v = .ref a ∧ Rd H a (.lst vs) ∧ Reps M φ H xs vs := by
  cases h with
  | lst h r => exact ⟨_, _, rfl, h, r⟩
theorem View.tup_inv {xs : List T} {v : V} (h : View M φ H (.tup xs) v) : ∃ a vs, v = .ref a ∧ TupAt H a vs ∧ Reps M φ H xs vs := by
  cases h with
  | tup h r => exact ⟨_, _, rfl, h, r⟩
theorem View.int_inv {i : Int} {v : V} (h : View M φ H (.int i) v) : v = .int i := by cases h; rfl
theorem View.bl_inv {i : Bool} {v : V} (h : View M φ H (.bl i) v) : v = .bl i := by cases h; rfl
theorem View.str_inv {i : Str} {v : V} (h : View M φ H (.str i) v) : v = .str i := by cases h; rfl
theorem View.non_inv {v : V} (h : View M φ H .non v) : v = .non := by cases h; rfl
theorem View.dct_inv {ks ts : List T} {v : V} (h : View M φ H (.dct ks ts) v) : ∃ a kvs vvs, v = .ref a ∧ DAt M.P M.w H a ks kvs vvs ∧ Reps M φ H ks kvs ∧ Reps M φ H ts vvs := by
  cases h with
  | dct h r r' => exact ⟨_, _, _, rfl, h, r, r'⟩
theorem Reps.rep {xs : List T} {vs : List V} (r : Reps M φ H xs vs) : ∀ n : Nat, Reps M φ H (List.replicate n xs).flatten (List.replicate n vs).flatten
  | 0 => .nil
  | n + 1 => by
    rw [List.replicate_succ, List.replicate_succ, List.flatten_cons, List.flatten_cons]
    exact r.append (Reps.rep r n)
theorem mulOk_wide {i j : Int} (h : mulOk i j = true) : CMul i j ∨ CMulW i j := by
  unfold mulOk at h
  simp only [Bool.or_eq_true, Bool.and_eq_true, decide_eq_true_eq] at h
  rcases h with (h | h) | ⟨h, h'⟩
  · left; left; omega
  · left; right; omega
  · right; exact wide_mul h h' (by decide) (by decide) (by decide)
theorem divOk_wide {i j : Int} (h : divOk i j = true) : CDiv i j ∨ CDivW i j := by
  unfold divOk at h
  simp only [Bool.or_eq_true, Bool.and_eq_true, decide_eq_true_eq] at h
  obtain ⟨h0, h | ⟨_, h⟩⟩ := h
  · left; exact ⟨h0, h⟩
  · right
    refine wide_div (b := 2000) h0 ?_ (by decide) (by decide)
    omega
theorem repR {l : Addr} {k : Int} {t : Tok} {xs : List V} {Q : VK} (I : Inv X pins σ H s) (h : Rd H l (.lst xs)) (h1 : -(2 ^ 63) ≤ k) (h2 : k < 2 ^ 63) (hz : xs.length * k.toNat ≤ sizeLine)
    (q : ∀ p, H p = none → Q (.ref p) (upd H p (.lst (List.replicate k.toNat xs).flatten))) : wpAny (model X.prog X.w) X.A (binaryOp .Mult (.ref l) (.int k t)) (EP X pins σ Q) X.xe s := by
  obtain ⟨_, is, n, r, hl, e⟩ := lstR I h
  have c1 : is.toArray.size * k.toNat ≤ sizeLine := by rw [List.size_toArray, ← hl]; exact hz
  have c2 : ¬ is.toArray.size * k.toNat > (2 ^ 63 - 1) / 8 := by
    have : (sizeLine : Nat) ≤ (2 ^ 63 - 1) / 8 := by decide
    omega
  have c3 : ¬ (!Builtin.List.listFitsIndex k) = true := by rw [fitsIndex_both h1 h2]; exact Bool.false_ne_true
  have c4 : ¬ Builtin.List.listTooLong (is.toArray.size * k.toNat) = true := by rw [notLongL c1]; exact Bool.false_ne_true
  have f0 : ∀ m : Nat, List.foldl (fun x1 x2 => x1 ++ x2) #[] (List.replicate m is.toArray) = (List.replicate m is).flatten.toArray := fun m => by
    have z := foldl_rep is m []
    rw [List.nil_append] at z
    exact z
  have c5 : List.foldl (fun x1 x2 => x1 ++ x2) #[] (List.replicate (if is.toArray.isEmpty = true then 0 else k.toNat) is.toArray) = (List.replicate k.toNat is).flatten.toArray := by
    rw [f0]
    cases is with
    | nil => simp
    | cons a r' => rw [if_neg (by simp)]
  refine wpAny_binaryOp_repeat_ref (T := "list") (U := "int") (by decide) ⟨_, e, rfl⟩ (fun s' => typeIs_int s' k t) noFill_list_mul F.fills_int_mul F.slot_int_rmul repeat_list F.slot_int_index.lookup
    (call_meets F.slot_int_rmul (typeIs_int s k t) F.entry_int_rmul (F.args_int_rmul_2 _ _) (int___rmul___int_list k t l is.toArray n)
      ⟨e, rfl, ⟨_, e, rfl⟩, call_meets F.slot_list_mul ⟨_, e, rfl⟩ F.entry_list_mul (F.args_list_mul_2 _ _) (AutoListH.list___mul___list_int_3 l is.toArray n k t c3 c2 c4) ⟨e, ?_⟩⟩)
  rw [c5]
  exact ⟨.ref _, _, I.lnew (t' := s.toks) (r.rep k.toNat) (by rw [PyProof.Rows.lm_len_rep_flat, Nat.mul_comm]; exact hz), rfl, q _ I.fresh⟩
theorem tuple_mul1 (l : Addr) (items : Array Value) (n : Nat) (dd : Option Addr) (sl : Array (Option Value)) (u : Tok) :
    Meets (Builtin.«tuple.__mul__» ⟨[.ref l, .int 1 u], []⟩) (fun _ R s => s.heap.get? l = some { cls := .type "tuple", dict := dd, data := .seq items n, slots := sl } ∧ R (.ok (.ret (Value.ref l))) s) :=
  .of_wp fun prog w A R s h => by
    obtain ⟨hp, g, d, tk, os⟩ := s
    obtain ⟨hl, h⟩ := h
    have f1 := AutoSeq1.idx_int
    have c1 : (items.isEmpty || (1 : Int) == 1) = true := by simp
    wp_walk using wpAny_loadPart' hl
    exact ⟨_, rfl, h⟩
theorem tuple_mul0 (l : Addr) (items : Array Value) (n : Nat) (dd : Option Addr) (sl : Array (Option Value)) (x : Int) (u : Tok) (h0 : x ≤ 0) (h1 : -(2 ^ 63) ≤ x) (hne : items.isEmpty = false) :
    Meets (Builtin.«tuple.__mul__» ⟨[.ref l, .int x u], []⟩) (fun _ R s => s.heap.get? l = some { cls := .type "tuple", dict := dd, data := .seq items n, slots := sl } ∧
      R (.ok (.ret (Value.ref s.heap.objs.size))) { s with heap := s.heap.push { cls := Value.type "tuple", data := Data.seq #[] }, toks := s.toks }) :=
  .of_wp fun prog w A R s h => by
    obtain ⟨hp, g, d, tk, os⟩ := s
    obtain ⟨hl, h⟩ := h
    have f1 := AutoSeq1.idx_int
    have c0 : (decide (x < -(2 ^ 63)) || decide (x ≥ 2 ^ 63)) = false := by rw [decide_eq_false (by omega), decide_eq_false (by omega)]; rfl
    have c1 : (items.isEmpty || x == 1) = false := by rw [hne, Bool.false_or]; exact beq_eq_false_iff_ne.mpr (by omega)
    have c2 : (decide (x ≤ 0) || items.isEmpty) = true := by rw [decide_eq_true h0]; rfl
    wp_walk using wpAny_loadPart' hl
    repeat (first
      | (refine wpAny_ite_false (decide_eq_false (by rw [c0]; exact Bool.false_ne_true)) ?_; wp_walk using wpAny_loadPart' hl)
      | (refine wpAny_ite_false (decide_eq_false (by rw [c1]; exact Bool.false_ne_true)) ?_; wp_walk using wpAny_loadPart' hl)
      | (refine wpAny_ite_true (decide_eq_true (by rw [c2])) ?_; wp_walk using wpAny_loadPart' hl))
    exact ⟨_, rfl, h⟩
theorem repT1 {l : Addr} {t : Tok} {xs : List V} {Q : VK} (I : Inv X pins σ H s) (h : TupAt H l xs) (q : Q (.ref l) H) :
    wpAny (model X.prog X.w) X.A (binaryOp .Mult (.ref l) (.int 1 t)) (EP X pins σ Q) X.xe s := by
  obtain ⟨its, r, ⟨⟨cls, dd, data, sl⟩, ho, hc, n, hd⟩, _⟩ := I.tuple h.sq
  simp only at hc hd
  subst hc hd
  refine wpAny_binaryOp_repeat_ref (T := "tuple") (U := "int") (by decide) ⟨_, ho, rfl⟩ (fun s' => typeIs_int s' 1 t) noFill_tuple_mul F.fills_int_mul F.slot_int_rmul repeat_tuple F.slot_int_index.lookup
    (call_meets F.slot_int_rmul (typeIs_int s 1 t) F.entry_int_rmul (F.args_int_rmul_2 _ _) (int_rmul_tuple 1 t l its.toArray n dd sl)
      ⟨ho, rfl, ⟨_, ho, rfl⟩, call_meets F.slot_tuple_mul ⟨_, ho, rfl⟩ F.entry_tuple_mul (F.args_tuple_mul_2 _ _) (tuple_mul1 l its.toArray n dd sl t) ⟨ho, ?_⟩⟩)
  exact ⟨.ref l, H, I, rfl, q⟩
theorem repT0 {l : Addr} {k : Int} {t : Tok} {xs : List V} {Q : VK} (I : Inv X pins σ H s) (h : TupAt H l xs) (hn : xs ≠ []) (h1 : k ≤ 0) (h2 : -(2 ^ 63) ≤ k) (q : NewT H [] Q) :
    wpAny (model X.prog X.w) X.A (binaryOp .Mult (.ref l) (.int k t)) (EP X pins σ Q) X.xe s := by
  obtain ⟨its, r, ⟨⟨cls, dd, data, sl⟩, ho, hc, n, hd⟩, _⟩ := I.tuple h.sq
  simp only at hc hd
  subst hc hd
  have e1 : its.toArray.isEmpty = false := by
    cases its with
    | nil => cases r; exact absurd rfl hn
    | cons a b => rfl
  refine wpAny_binaryOp_repeat_ref (T := "tuple") (U := "int") (by decide) ⟨_, ho, rfl⟩ (fun s' => typeIs_int s' k t) noFill_tuple_mul F.fills_int_mul F.slot_int_rmul repeat_tuple F.slot_int_index.lookup
    (call_meets F.slot_int_rmul (typeIs_int s k t) F.entry_int_rmul (F.args_int_rmul_2 _ _) (int_rmul_tuple k t l its.toArray n dd sl)
      ⟨ho, rfl, ⟨_, ho, rfl⟩, call_meets F.slot_tuple_mul ⟨_, ho, rfl⟩ F.entry_tuple_mul (F.args_tuple_mul_2 _ _) (tuple_mul0 l its.toArray n dd sl k t h1 h2 e1) ⟨ho, ?_⟩⟩)
  exact ⟨.ref _, _, tupNew (t' := s.toks) I .nil (by simp), rfl, q _ _ I.fresh rfl rfl⟩
theorem repT {l : Addr} {k : Int} {t : Tok} {xs : List V} {Q : VK} (I : Inv X pins σ H s) (h : TupAt H l xs) (hn : xs ≠ []) (h1 : 2 ≤ k) (h2 : k ≤ 1000) (hz : xs.length ≤ 1000) (q : NewT H (List.replicate k.toNat xs).flatten Q) :
    wpAny (model X.prog X.w) X.A (binaryOp .Mult (.ref l) (.int k t)) (EP X pins σ Q) X.xe s := by
  obtain ⟨its, r, ⟨⟨cls, dd, data, sl⟩, ho, hc, n, hd⟩, _⟩ := I.tuple h.sq
  simp only at hc hd
  subst hc hd
  have e0 : its.length = xs.length := r.length.symm
  have e1 : its.toArray.isEmpty = false := by
    cases its with
    | nil => cases r; exact absurd rfl hn
    | cons a b => rfl
  have e2 : its.toArray.size = xs.length := by rw [List.size_toArray, e0]
  have e3 : ((its.toArray.size : Nat) : Int) * k ≤ 1000 * 1000 := by rw [e2]; exact Int.mul_le_mul (by omega) h2 (by omega) (by omega)
  have e4 : (List.replicate k.toNat its).flatten.length ≤ sizeLine := by
    rw [PyProof.Rows.lm_len_rep_flat, e0, sizeLine_eq]
    have a1 : k.toNat * xs.length ≤ 1000 * 1000 := Nat.mul_le_mul (by omega) hz
    omega
  have c0 : (decide (k < -(2 ^ 63)) || decide (k ≥ 2 ^ 63)) = false := by rw [decide_eq_false (by omega), decide_eq_false (by omega)]; rfl
  have c1 : (its.toArray.isEmpty || k == 1) = false := by rw [e1, Bool.false_or]; exact beq_eq_false_iff_ne.mpr (by omega)
  have c2 : (decide (k ≤ 0) || its.toArray.isEmpty) = false := by rw [e1, Bool.or_false]; exact decide_eq_false (by omega)
  have c3 : Builtin.Tuple.tupleTooMany (((its.toArray.size : Nat) : Int) * k) = false := by
    unfold Builtin.Tuple.tupleTooMany
    rw [sizeLine_eq]
    exact decide_eq_false (by omega)
  refine wpAny_binaryOp_repeat_ref (T := "tuple") (U := "int") (by decide) ⟨_, ho, rfl⟩ (fun s' => typeIs_int s' k t) noFill_tuple_mul F.fills_int_mul F.slot_int_rmul repeat_tuple F.slot_int_index.lookup
    (call_meets F.slot_int_rmul (typeIs_int s k t) F.entry_int_rmul (F.args_int_rmul_2 _ _) (int_rmul_tuple k t l its.toArray n dd sl)
      ⟨ho, rfl, ⟨_, ho, rfl⟩, call_meets F.slot_tuple_mul ⟨_, ho, rfl⟩ F.entry_tuple_mul (F.args_tuple_mul_2 _ _) (tuple_mulW l its.toArray n dd sl k t c0 c1 c2 (by omega) c3 (by rw [size_rep, List.size_toArray]; exact e4)) ⟨ho, ?_⟩⟩)
  rw [size_rep]
  exact ⟨.ref _, _, tupNew (t' := s.toks) I (r.rep k.toNat) (by rw [PyProof.Rows.lm_len_rep_flat, ← e0, ← PyProof.Rows.lm_len_rep_flat]; exact e4), rfl, q _ _ I.fresh rfl rfl⟩
def rBin (M : Mo) (op : Operator) : R2 := fun x y H Q => ∃ φ S a b z, Wd M φ S H ∧ View M φ H a x ∧ View M φ H b y ∧ binT op a b = some z ∧ FrL M φ S H z Q
theorem op_bin (hM : XM M X) (op : Operator) : OpR X (binaryOp op) (rBin M op) := by
  intro pins s σ H x y v u Q I rx ry h
  obtain ⟨φ, S, a, b, z, w, va, vb, e, f⟩ := h
  unfold binT at e
  split at e
  · obtain rfl := Option.some.inj e
    cases va.int_inv; cases vb.int_inv
    exact op_add pins s σ H _ _ _ _ Q I rx ry ⟨_, _, rfl, rfl, f _ _ (Ext.refl _ _) w (.int _)⟩
  · obtain rfl := Option.some.inj e
    cases va.int_inv; cases vb.int_inv
    exact op_sub pins s σ H _ _ _ _ Q I rx ry ⟨_, _, rfl, rfl, f _ _ (Ext.refl _ _) w (.int _)⟩
  · split at e
    · rename_i hm
      obtain rfl := Option.some.inj e
      cases va.int_inv; cases vb.int_inv
      rcases mulOk_wide hm with c | c
      · exact op_mul pins s σ H _ _ _ _ Q I rx ry ⟨_, _, rfl, rfl, c, f _ _ (Ext.refl _ _) w (.int _)⟩
      · exact op_mulW pins s σ H _ _ _ _ Q I rx ry ⟨_, _, rfl, rfl, c, f _ _ (Ext.refl _ _) w (.int _)⟩
    · cases e
  · split at e
    · rename_i hm
      obtain rfl := Option.some.inj e
      cases va.int_inv; cases vb.int_inv
      rcases divOk_wide hm with c | c
      · exact op_fdiv pins s σ H _ _ _ _ Q I rx ry ⟨_, _, rfl, rfl, c, f _ _ (Ext.refl _ _) w (.int _)⟩
      · exact op_fdivW pins s σ H _ _ _ _ Q I rx ry ⟨_, _, rfl, rfl, c, f _ _ (Ext.refl _ _) w (.int _)⟩
    · cases e
  · split at e
    · rename_i hm
      obtain rfl := Option.some.inj e
      cases va.int_inv; cases vb.int_inv
      exact op_mod pins s σ H _ _ _ _ Q I rx ry ⟨_, _, rfl, rfl, hm, f _ _ (Ext.refl _ _) w (.int _)⟩
    · cases e
  · split at e
    · rename_i hm
      obtain rfl := Option.some.inj e
      cases va.int_inv; cases vb.int_inv
      exact op_pow pins s σ H _ _ _ _ Q I rx ry ⟨_, _, rfl, rfl, ⟨hm.1, by omega, hm.2.2⟩, f _ _ (Ext.refl _ _) w (.int _)⟩
    · cases e
  · split at e
    · rename_i hm
      obtain rfl := Option.some.inj e
      cases va.str_inv; cases vb.str_inv
      exact op_add_str pins s σ H _ _ _ _ Q I rx ry ⟨_, _, rfl, rfl, hm, f _ _ (Ext.refl _ _) w (.str _)⟩
    · cases e
  · split at e
    · rename_i hm
      obtain rfl := Option.some.inj e
      obtain ⟨l, vs, rfl, h1, r1⟩ := va.lst_inv
      obtain ⟨l', vs', rfl, h2, r2⟩ := vb.lst_inv
      cases rx; cases ry
      exact catR I h1 h2 (by rw [← r1.length, ← r2.length]; exact hm) fun p hp => f p _ hp (r1.append r2)
    · cases e
  · split at e
    · rename_i hm
      obtain rfl := Option.some.inj e
      obtain ⟨l, vs, rfl, h1, r1⟩ := va.tup_inv
      obtain ⟨l', vs', rfl, h2, r2⟩ := vb.tup_inv
      cases rx; cases ry
      refine catT I h1 h2 (by rw [← r1.length, ← r2.length]; exact hm) (fun e => ?_) (fun n e => ?_) fun p o hp e1 e2 => f _ _ (Ext.laid hp) (w.laid hp) (Rep.tupNew w hp e1 e2 (r1.append r2))
      · subst e
        cases r1
        exact f _ _ (Ext.refl _ _) w (.tup h2 r2)
      · subst e
        cases r2
        rw [List.append_nil] at f
        exact f _ _ (Ext.refl _ _) w (.tup h1 r1)
    · cases e
  · split at e
    · rename_i hm
      obtain rfl := Option.some.inj e
      obtain ⟨l, vs, rfl, h1, r1⟩ := va.lst_inv
      cases vb.int_inv
      cases rx
      obtain ⟨t, rfl⟩ := ry
      exact repR I h1 hm.1 hm.2.1 (by rw [← r1.length]; exact hm.2.2) fun p hp => f p _ hp (r1.rep _)
    · cases e
  · split at e
    · rename_i k hm
      obtain rfl := Option.some.inj e
      obtain ⟨l, vs, rfl, h1, r1⟩ := va.tup_inv
      cases vb.int_inv
      cases rx
      obtain ⟨t, rfl⟩ := ry
      have hne : vs ≠ [] := by
        intro e
        subst e
        cases r1
        exact hm.2.2.1 rfl
      by_cases k2 : 2 ≤ k
      · exact repT I h1 hne k2 hm.2.1 (by rw [← r1.length]; exact hm.2.2.2) fun p o hp e1 e2 => f _ _ (Ext.laid hp) (w.laid hp) (Rep.tupNew w hp e1 e2 (r1.rep _))
      · by_cases k1 : k = 1
        · subst k1
          refine repT1 I h1 ?_
          have e1 : ∀ l : List T, repL l 1 = l := fun l => by unfold repL; simp
          rw [e1] at f
          exact f _ _ (Ext.refl _ _) w (.tup h1 r1)
        · refine repT0 I h1 hne (by omega) hm.1 fun p o hp e1 e2 => ?_
          have e0 : ∀ l : List T, repL l k = [] := fun l => by unfold repL; rw [show k.toNat = 0 by omega]; rfl
          rw [e0] at f
          exact f _ _ (Ext.laid hp) (w.laid hp) (Rep.tupNew w hp e1 e2 .nil)
    · cases e
  · split at e
    · rename_i hm
      obtain rfl := Option.some.inj e
      cases va.str_inv; cases vb.int_inv
      obtain ⟨t, rfl⟩ := rx
      obtain ⟨t', rfl⟩ := ry
      rename_i x_ k_
      obtain ⟨h1, h2, h3⟩ := hm
      obtain ⟨x_len, hx⟩ : ∃ n, n = x_.length := ⟨_, rfl⟩
      rw [← hx] at h3
      refine PySem.SB.mul ⟨?_, fun _ _ => ?_, fun _ _ => ?_⟩ fun t' k => ?_
      · rw [decide_eq_false (by omega), decide_eq_false (by omega)]; rfl
      · rw [← hx]
        have a1 : ((x_len : Nat) : Int) * k_ ≤ 1000 * 1000 := Int.mul_le_mul (by omega) h2 (by omega) (by omega)
        have a2 : ((2 : Int) ^ 63 - 1) / k_ ≥ 1000 := Int.le_ediv_of_mul_le (by omega) (by omega)
        omega
      · exact decide_eq_false (by
          have a1 : x_len * k_.toNat ≤ 1000 * 1000 := Nat.mul_le_mul h3 (by omega)
          rw [← hx, PySem.sizeLine_eq]
          omega)
      · exact ⟨.str _, _, I.tok _, ⟨_, rfl⟩, f _ _ (Ext.refl _ _) w (.str _)⟩
    · cases e
  · cases e
end
end PC
/-! PcOps2: comparisons. -/
namespace PC
open PySem L2
variable {M : Mo}
mutual
def toD : T → PyData
  | .bl b => .bool b
  | .int i => .int i
  | .str x => .str x
  | .tup xs => .tuple (toDs xs)
  | .lst xs => .list (toDs xs)
  | _ => .none
def toDs : List T → List PyData
  | [] => []
  | x :: xs => toD x :: toDs xs
end
theorem toDs_any {x : PyData} : ∀ ys : List T, ((toDs ys).any fun z => PyData.eqv z x) = ys.any fun y => PyData.eqv (toD y) x
  | [] => rfl
  | y :: ys => by simp only [toDs, List.any_cons, toDs_any ys]
mutual
theorem eqv_toD : ∀ (n : Nat) (a b : T), pln n a = true → pln n b = true → PyData.eqv (toD a) (toD b) = eqT a b
  | 0, a, b, ha, hb => by cases a <;> cases b <;> first | rfl | (simp only [pln] at ha hb; contradiction) | simp [toD, PyData.eqv, eqT] | simp_all [pln]
  | n + 1, a, b, ha, hb => by
    cases a <;> cases b <;> first | rfl | (simp [toD, PyData.eqv, eqT]; done) | (simp [pln] at ha hb; done) | (simp only [pln, List.all_eq_true] at ha hb; simp only [toD, PyData.eqv, eqT]; exact eqv_toDs n _ _ ha hb)
theorem eqv_toDs : ∀ (n : Nat) (xs ys : List T), (∀ x ∈ xs, pln n x = true) → (∀ x ∈ ys, pln n x = true) → PyData.eqvAll (toDs xs) (toDs ys) = eqTs xs ys
  | n, [], [], _, _ => by simp [toDs, PyData.eqvAll, eqTs]
  | n, [], y :: ys, _, _ => by simp [toDs, PyData.eqvAll, eqTs]
  | n, x :: xs, [], _, _ => by simp [toDs, PyData.eqvAll, eqTs]
  | n, x :: xs, y :: ys, ha, hb => by
    simp only [toDs, PyData.eqvAll, eqTs]
    rw [eqv_toD n x y (ha x List.mem_cons_self) (hb y List.mem_cons_self), eqv_toDs n xs ys (fun z h => ha z (List.mem_cons_of_mem _ h)) fun z h => hb z (List.mem_cons_of_mem _ h)]
end
mutual
theorem toD_lay : ∀ (n : Nat) (a : T), pln n a = true → (toD a).canLay0 = true ∧ (toD a).depth ≤ n
  | 0, a, h => by cases a <;> first | (simp [pln] at h; done) | simp_all [toD, PyData.canLay0, PyData.depth, pln]
  | n + 1, a, h => by
    cases a <;> first | (simp [pln] at h; done) | (simp_all [toD, PyData.canLay0, PyData.depth, pln]; done) | (simp only [pln, List.all_eq_true] at h; obtain ⟨h1, h2⟩ := toDs_lay n _ h; simp only [toD, PyData.canLay0, PyData.depth]; exact ⟨h1, by omega⟩)
theorem toDs_lay : ∀ (n : Nat) (xs : List T), (∀ x ∈ xs, pln n x = true) → PyData.canLayAll0 (toDs xs) = true ∧ PyData.depthAll (toDs xs) ≤ n
  | n, [], _ => by simp [toDs, PyData.canLayAll0, PyData.depthAll]
  | n, x :: xs, h => by
    obtain ⟨h1, h2⟩ := toD_lay n x (h x List.mem_cons_self)
    obtain ⟨h3, h4⟩ := toDs_lay n xs fun z q => h z (List.mem_cons_of_mem _ q)
    simp only [toDs, PyData.canLayAll0, PyData.depthAll, h1, h3, Bool.and_self, true_and]
    omega
end
theorem shaped_of {n : Nat} {a : T} (h : pln n a = true) (hn : n ≤ 64) : SeqAt.shaped (toD a) = true := by
  obtain ⟨h1, h2⟩ := toD_lay n a h
  unfold SeqAt.shaped
  rw [h1, decide_eq_true (by omega)]
  rfl
section
variable {φ : List Addr} {S : Mem} {H : Hp} {K : PySem.W.Frag}
mutual
theorem Rep.dp : ∀ (n : Nat) {t : T} {v : V}, pln n t = true → Rep M φ H t v → Dp K H v (toD t)
  | _, _, _, _, .non => .non
  | _, _, _, _, .bl b => .bl b
  | _, _, _, _, .int i => .int i
  | _, _, _, _, .str x => .str x
  | 0, _, _, h, .tup _ _ => by simp [pln] at h
  | 0, _, _, h, .lst _ _ _ => by simp [pln] at h
  | n + 1, _, _, h, .tup e r => by
    simp only [pln, List.all_eq_true] at h
    exact .tup (e.sq) (Reps.dp n h r)
  | n + 1, _, _, h, .lst _ e r => by
    simp only [pln, List.all_eq_true] at h
    exact .lst (.inl (.inl e)) (Reps.dp n h r)
  | _, _, _, h, .dct _ _ _ _ => by simp [pln] at h
  | _, _, _, h, .ref _ => by simp [pln] at h
theorem Reps.dp : ∀ (n : Nat) {ts : List T} {vs : List V}, (∀ x ∈ ts, pln n x = true) → Reps M φ H ts vs → DpAll K H vs (toDs ts)
  | _, _, _, _, .nil => .nil
  | n, _, _, h, .cons r s => .cons (Rep.dp n (h _ List.mem_cons_self) r) (Reps.dp n (fun z q => h z (List.mem_cons_of_mem _ q)) s)
end
theorem View.dp {n : Nat} {t : T} {v : V} (h : pln n t = true) (r : View M φ H t v) : Dp K H v (toD t) := by
  cases r with
  | non => exact .non
  | bl b => exact .bl b
  | int i => exact .int i
  | str x => exact .str x
  | tup e r =>
    cases n with
    | zero => simp [pln] at h
    | succ n =>
      simp only [pln, List.all_eq_true] at h
      exact .tup (e.sq) (r.dp n h)
  | lst e r =>
    cases n with
    | zero => simp [pln] at h
    | succ n =>
      simp only [pln, List.all_eq_true] at h
      exact .lst (.inl e) (r.dp n h)
  | dct _ _ _ => simp [pln] at h
  | ref => simp [pln] at h
/-- flat things -/
theorem flt_rep {t : T} {v : V} (h : flt t = true) (r : Rep M φ H t v) : flatV v = true := by
  cases r <;> first | rfl | (simp [flt] at h; done)
theorem flt_reps : ∀ {ts : List T} {vs : List V}, ts.all flt = true → Reps M φ H ts vs → vs.all flatV = true
  | _, _, _, .nil => rfl
  | _, _, h, .cons r s => by
    rw [List.all_cons, Bool.and_eq_true] at h
    rw [List.all_cons, flt_rep h.1 r, flt_reps h.2 s]
    rfl
theorem flt_eq {a b : T} {x y : V} (ha : flt a = true) (hb : flt b = true) (r : Rep M φ H a x) (r' : Rep M φ H b y) : eqV x y = eqT a b := by
  cases r <;> first | (simp [flt] at ha; done) | (cases r' <;> first | (simp [flt] at hb; done) | simp [eqV, eqT])
theorem flt_in {a : T} {x : V} (ha : flt a = true) (r : Rep M φ H a x) : ∀ {ts : List T} {vs : List V}, ts.all flt = true → Reps M φ H ts vs → inV x vs = inT a ts
  | _, _, _, .nil => rfl
  | _, _, h, .cons q s => by
    rw [List.all_cons, Bool.and_eq_true] at h
    have z := flt_in ha r h.2 s
    unfold inV inT at z ⊢
    rw [List.any_cons, List.any_cons, z, flt_eq h.1 ha q r]
theorem View.flt {t : T} {v : V} (h : flt t = true) (r : View M φ H t v) : Rep M φ H t v := by
  cases r with
  | non => exact .non
  | bl b => exact .bl b
  | int i => exact .int i
  | str x => exact .str x
  | tup e r => exact .tup e r
  | lst e r => simp [PC.flt] at h
  | dct _ _ _ => simp [PC.flt] at h
  | ref => simp [PC.flt] at h
theorem isN_dec {t : T} {v : V} {b : Bool} (h : isN t = some b) (r : View M φ H t v) : decide (v = .non) = b := by
  cases r <;> simp_all [isN]
end
section
variable {X : Cx}
def rCmp (M : Mo) (op : CmpOp) : R2 := fun x y H Q => ∃ φ S a b z, Wd M φ S H ∧ View M φ H a x ∧ View M φ H b y ∧ cmpT op a b = some z ∧ Q (.bl z) H
theorem any_eqv {n : Nat} {x : T} (hx : pln n x = true) : ∀ {ys : List T}, ys.all (pln n) = true → ((toDs ys).any fun z => PyData.eqv z (toD x)) = inT x ys := by
  intro ys hy
  rw [toDs_any]
  unfold inT
  induction ys with
  | nil => rfl
  | cons y ys ih =>
    rw [List.all_cons, Bool.and_eq_true] at hy
    rw [List.any_cons, List.any_cons, ih hy.2, eqv_toD n y x hy.1 hx]
theorem op_cmp (hM : XM M X) (hu : X.A.units + 65 < cLine) (op : CmpOp) (hd : op ≠ .In ∧ op ≠ .NotIn) : OpR X (compareOp op) (rCmp M op) := by
  intro pins s σ H x y v u Q I rx ry h
  obtain ⟨φ, S, a, b, z, w, va, vb, e, q⟩ := h
  unfold cmpT at e
  split at e
  · obtain rfl := Option.some.inj e
    cases va.int_inv; cases vb.int_inv
    exact op_lt pins s σ H _ _ _ _ Q I rx ry ⟨_, _, rfl, rfl, q⟩
  · obtain rfl := Option.some.inj e
    cases va.int_inv; cases vb.int_inv
    exact op_le pins s σ H _ _ _ _ Q I rx ry ⟨_, _, rfl, rfl, q⟩
  · obtain rfl := Option.some.inj e
    cases va.int_inv; cases vb.int_inv
    exact op_gt pins s σ H _ _ _ _ Q I rx ry ⟨_, _, rfl, rfl, q⟩
  · obtain rfl := Option.some.inj e
    cases va.int_inv; cases vb.int_inv
    exact op_ge pins s σ H _ _ _ _ Q I rx ry ⟨_, _, rfl, rfl, q⟩
  · split at e
    · rename_i hm
      obtain rfl := Option.some.inj e
      rw [Bool.and_eq_true] at hm
      refine op_eqD (by omega) pins s σ H _ _ _ _ Q I rx ry ⟨_, _, va.dp hm.1, vb.dp hm.2, shaped_of hm.1 (by decide), shaped_of hm.2 (by decide), ?_⟩
      rw [eqv_toD 60 _ _ hm.1 hm.2]
      exact q
    · cases e
  · split at e
    · rename_i hm
      obtain rfl := Option.some.inj e
      rw [Bool.and_eq_true] at hm
      refine op_neD (by omega) pins s σ H _ _ _ _ Q I rx ry ⟨_, _, va.dp hm.1, vb.dp hm.2, shaped_of hm.1 (by decide), shaped_of hm.2 (by decide), ?_⟩
      rw [eqv_toD 60 _ _ hm.1 hm.2]
      exact q
    · cases e
  all_goals first | exact absurd rfl hd.1 | exact absurd rfl hd.2 | skip
  · obtain rfl := Option.some.inj e
    cases va.bl_inv; cases vb.bl_inv
    exact op_isBl pins s σ H _ _ _ _ Q I rx ry ⟨_, _, rfl, rfl, by rw [Bool.beq_eq_decide_eq] at q; exact q⟩
  · obtain rfl := Option.some.inj e
    cases va.bl_inv; cases vb.bl_inv
    exact op_notBl pins s σ H _ _ _ _ Q I rx ry ⟨_, _, rfl, rfl, by rw [Bool.beq_eq_decide_eq] at q; exact q⟩
  · cases vb.non_inv
    exact op_isN pins s σ H _ _ _ _ Q I rx ry ⟨rfl, by rw [isN_dec e va]; exact q⟩
  · obtain ⟨c, e1, rfl⟩ := Option.map_eq_some_iff.mp e
    cases vb.non_inv
    exact op_notN pins s σ H _ _ _ _ Q I rx ry ⟨rfl, by rw [isN_dec e1 va]; exact q⟩
  · cases e
/-- in, not in: a list, a tuple, a sign in a text -/
theorem op_cmpIn (hM : XM M X) (hu : X.A.units + 65 < cLine) (op : CmpOp) (hd : op = .In ∨ op = .NotIn) (a b : T) (hb : ∀ ks vs, b ≠ .dct ks vs) {pins : List (Addr × Obj)} {s : Shared} {σ : L2.St} {H : Hp} {x y : V} {v u : Value} {Q : VK} {φ : List Addr} {S : Mem} {z : Bool}
    (I : L2.Inv X pins σ H s) (rx : RelV x v) (ry : RelV y u) (w : Wd M φ S H) (va : View M φ H a x) (vb : View M φ H b y) (e : cmpT op a b = some z) (q : Q (.bl z) H) : wpAny (model X.prog X.w) X.A (compareOp op v u) (EP X pins σ Q) X.xe s := by
  unfold cmpT at e
  split at e
  all_goals first | (rcases hd with hd | hd <;> cases hd; done) | skip
  · split at e
    · rename_i hm
      obtain rfl := Option.some.inj e
      rw [Bool.and_eq_true] at hm
      refine op_inD hu pins s σ H _ _ _ _ Q I rx ry ⟨_, _, va.dp hm.1, vb.dp (show pln (59 + 1) (.lst _) = true from hm.2), shaped_of hm.1 (by decide), shaped_of (show pln (59 + 1) (.lst _) = true from hm.2) (by decide), ?_⟩
      rw [any_eqv hm.1 hm.2]
      exact q
    · cases e
  · split at e
    · rename_i hm
      obtain rfl := Option.some.inj e
      rw [Bool.and_eq_true] at hm
      obtain ⟨l, vs, rfl, h1, r1⟩ := vb.tup_inv
      have rv := va.flt hm.1
      exact op_in_seq pins s σ H _ _ _ _ Q I rx ry ⟨l, vs, rfl, .inr (h1.sq), flt_rep hm.1 rv, flt_reps hm.2 r1, by rw [flt_in hm.1 rv hm.2 r1]; exact q⟩
    · cases e
  · split at e
    · rename_i hm
      obtain rfl := Option.some.inj e
      rw [Bool.and_eq_true] at hm
      refine op_notInD hu pins s σ H _ _ _ _ Q I rx ry ⟨_, _, va.dp hm.1, vb.dp (show pln (59 + 1) (.lst _) = true from hm.2), shaped_of hm.1 (by decide), shaped_of (show pln (59 + 1) (.lst _) = true from hm.2) (by decide), ?_⟩
      rw [any_eqv hm.1 hm.2]
      exact q
    · cases e
  · split at e
    · rename_i hm
      obtain rfl := Option.some.inj e
      rw [Bool.and_eq_true] at hm
      obtain ⟨l, vs, rfl, h1, r1⟩ := vb.tup_inv
      have rv := va.flt hm.1
      exact op_notIn_seq pins s σ H _ _ _ _ Q I rx ry ⟨l, vs, rfl, .inr (h1.sq), flt_rep hm.1 rv, flt_reps hm.2 r1, by rw [flt_in hm.1 rv hm.2 r1]; exact q⟩
    · cases e
  · exact absurd rfl (hb _ _)
  · exact absurd rfl (hb _ _)
  · split at e
    · rename_i x' y' hm
      obtain rfl := Option.some.inj e
      cases va.str_inv; cases vb.str_inv
      obtain ⟨c, hc⟩ : ∃ c, x' = ⟨#[c]⟩ := by
        obtain ⟨cps⟩ := x'
        obtain ⟨c, hc⟩ := Array.size_eq_one_iff.mp (show cps.size = 1 from hm)
        exact ⟨c, by rw [hc]⟩
      subst hc
      exact op_in_sign pins s σ H _ _ _ _ Q I rx ry ⟨c, y', rfl, rfl, q⟩
    · cases e
  · split at e
    · rename_i x' y' hm
      obtain rfl := Option.some.inj e
      cases va.str_inv; cases vb.str_inv
      obtain ⟨c, hc⟩ : ∃ c, x' = ⟨#[c]⟩ := by
        obtain ⟨cps⟩ := x'
        obtain ⟨c, hc⟩ := Array.size_eq_one_iff.mp (show cps.size = 1 from hm)
        exact ⟨c, by rw [hc]⟩
      subst hc
      exact op_notIn_sign pins s σ H _ _ _ _ Q I rx ry ⟨c, y', rfl, rfl, q⟩
    · cases e
  · cases e
end
end PC
/-! PcDict: dicts whose keys are tuples. -/
namespace PC
open PySem L2
variable {M : Mo}
abbrev Kx := NestedKey × Addr × Value
abbrev KeyIs (t : T) (x : Kx) : Prop := kt t = true ∧ keyT t = x.1
mutual
theorem eqT_key : ∀ (n : Nat) (a b : T), hsh n a = true → hsh n b = true → eqT a b = decide (keyT a = keyT b)
  | 0, a, b, ha, hb => by cases a <;> cases b <;> first | (simp [hsh] at ha hb; done) | (simp [eqT, keyT]; done) | (rename_i x y; cases x <;> simp [eqT, keyT] <;> grind) | (rename_i x y; cases y <;> simp [eqT, keyT] <;> grind) | (rename_i x y; cases x <;> cases y <;> simp [eqT, keyT])
  | n + 1, a, b, ha, hb => by
    cases a <;> cases b <;> first | (simp [hsh] at ha hb; done) | (simp [eqT, keyT]; done) | (simp only [hsh, List.all_eq_true] at ha hb; simp only [eqT, keyT]; rw [eqTs_key n _ _ ha hb]; simp; done) | (rename_i x y; cases x <;> simp [eqT, keyT] <;> grind) | (rename_i x y; cases y <;> simp [eqT, keyT] <;> grind) | (rename_i x y; cases x <;> cases y <;> simp [eqT, keyT])
theorem eqTs_key : ∀ (n : Nat) (xs ys : List T), (∀ x ∈ xs, hsh n x = true) → (∀ x ∈ ys, hsh n x = true) → eqTs xs ys = decide (keyTs xs = keyTs ys)
  | n, [], [], _, _ => by simp [eqTs]
  | n, [], y :: ys, _, _ => by simp [eqTs, keyTs]
  | n, x :: xs, [], _, _ => by simp [eqTs, keyTs]
  | n, x :: xs, y :: ys, ha, hb => by
    simp only [eqTs, keyTs]
    rw [eqT_key n x y (ha x List.mem_cons_self) (hb y List.mem_cons_self), eqTs_key n xs ys (fun z h => ha z (List.mem_cons_of_mem _ h)) fun z h => hb z (List.mem_cons_of_mem _ h)]
    simp
end
theorem eqT_kt {a b : T} (ha : kt a = true) (hb : kt b = true) : eqT a b = decide (keyT a = keyT b) := by
  cases a <;> first | (simp [kt] at ha; done) | skip
  cases b <;> first | (simp [kt] at hb; done) | skip
  simp only [kt, List.all_eq_true] at ha hb
  simp only [eqT, keyT]
  rw [eqTs_key 7 _ _ ha hb]
  simp
section
variable {X : Cx} {φ : List Addr} {S : Mem} {pins : List (Addr × Obj)} {σ : St} {H : Hp} {s : Shared}
mutual
theorem Rep.nested (I : L2.Inv X pins σ H s) : ∀ (n : Nat) {t : T} {v : V} {u : Value}, hsh n t = true → Rep M φ H t v → RelV v u → NestedIs s.heap (keyT t) u ∧ (keyT t).depth ≤ n
  | _, _, _, _, _, .non, r => by cases r; exact ⟨.none, by simp [keyT, NestedKey.depth]⟩
  | _, _, _, _, _, .bl b, r => by cases r; exact ⟨.bool rfl, by simp [keyT, NestedKey.depth]⟩
  | _, _, _, _, _, .int i, r => by obtain ⟨t, rfl⟩ := r; exact ⟨.int i t, by simp [keyT, NestedKey.depth]⟩
  | _, _, _, _, _, .str x, r => by obtain ⟨t, rfl⟩ := r; exact ⟨.text x t, by simp [keyT, NestedKey.depth]⟩
  | 0, _, _, _, h, .tup _ _, _ => by simp [hsh] at h
  | n + 1, _, _, _, h, .tup e q, r => by
    cases r
    simp only [hsh, List.all_eq_true] at h
    obtain ⟨oo, e, _⟩ := e
    obtain ⟨_, z, its, rv, o, ho, hc, k, hd⟩ := I.hok _ _ e
    obtain ⟨h1, h2⟩ := Reps.nested I n h q rv
    exact ⟨.tup ho hc hd (by simpa using h1), by simp only [keyT, NestedKey.depth]; omega⟩
  | _, _, _, _, h, .lst _ _ _, _ => by simp [hsh] at h
  | _, _, _, _, h, .dct _ _ _ _, _ => by simp [hsh] at h
  | _, _, _, _, h, .ref _, _ => by simp [hsh] at h
theorem Reps.nested (I : L2.Inv X pins σ H s) : ∀ (n : Nat) {ts : List T} {vs : List V} {us : List Value}, (∀ x ∈ ts, hsh n x = true) → Reps M φ H ts vs → Vals vs us → NestedAll s.heap (keyTs ts) us ∧ NestedKey.depthAll (keyTs ts) ≤ n
  | _, _, _, _, _, .nil, .nil => ⟨.nil, by simp [keyTs, NestedKey.depthAll]⟩
  | n, _, _, _, h, .cons q qs, .cons r rs => by
    obtain ⟨h1, h2⟩ := Rep.nested I n (h _ List.mem_cons_self) q r
    obtain ⟨h3, h4⟩ := Reps.nested I n (fun z m => h z (List.mem_cons_of_mem _ m)) qs rs
    exact ⟨.cons h1 h3, by simp only [keyTs, NestedKey.depthAll]; omega⟩
end
/-- a key stands -/
theorem Rep.key (I : L2.Inv X pins σ H s) {t : T} {v : V} (h : kt t = true) (r : Rep M φ H t v) : ∃ a, v = .ref a ∧ (nestedKind M.P M.w).is s.heap (keyT t) a := by
  cases r <;> first | (simp [kt] at h; done) | skip
  rename_i xs a vs e q
  obtain ⟨h1, h2⟩ := Rep.nested I (7 + 1) (t := .tup xs) (v := .ref a) (u := .ref a) h (.tup e q) rfl
  exact ⟨a, rfl, h1, h2⟩
theorem Reps.keys (I : L2.Inv X pins σ H s) : ∀ {ts : List T} {vs : List V} {xs : List Kx}, Paired KeyIs ts xs → vs = xs.map (fun x => V.ref x.2.1) → Reps M φ H ts vs → ∀ x ∈ xs, (nestedKind M.P M.w).is s.heap x.1 x.2.1
  | _, _, _, .nil, _, _ => fun x h => by cases h
  | _, _, _, .cons p ps, e, r => by
    cases r with
    | cons q qs =>
      simp only [List.map_cons, List.cons.injEq] at e
      obtain ⟨rfl, e⟩ := e
      obtain ⟨a, ea, hk⟩ := q.key I p.1
      intro x hx
      rcases List.mem_cons.mp hx with rfl | hx
      · cases ea
        rw [← p.2]; exact hk
      · exact Reps.keys I ps e qs x hx
/-- what a dict is in the heap -/
theorem DAt.of (I : L2.Inv X pins σ H s) {d : Addr} {ks : List T} {kvs vvs : List V} (h : DAt M.P M.w H d ks kvs vvs) (hk : ks.all kt = true) (r : Reps M φ H ks kvs) :
    (d == sysModules) = false ∧ vvs.length ≤ sizeLine ∧ ∃ xs : List Kx, s.heap.DictOfH (nestedKind M.P M.w) d xs ∧ Paired KeyIs ks xs ∧ kvs = xs.map (fun x => V.ref x.2.1) ∧ Vals vvs (xs.map (·.2.2)) := by
  obtain ⟨h1, h2, o, h3, h4⟩ := h
  refine ⟨h1, h2, ?_⟩
  have ho : s.heap.get? d = some o := (I.hok d _ h3).1
  cases h4 with
  | @keyed es ep xs ks vvs e1 e2 e3 e4 e5 e6 => exact ⟨xs, ⟨o, es, ep, ho, e1, e2, e3, Reps.keys I e5 rfl r, e4⟩, e5, rfl, e6⟩
  | raw _ _ hn => simp [hn] at hk
theorem Paired.len {α β : Type} {F : α → β → Prop} {xs : List α} {ys : List β} (h : Paired F xs ys) : xs.length = ys.length := Paired.length h
theorem atKey_cons (x : Kx) (xs : List Kx) (k : NestedKey) : atKey (x :: xs) k = if x.1 = k then some x.2 else atKey xs k := by
  unfold atKey
  rw [List.find?_cons]
  by_cases h : x.1 = k
  · simp [h]
  · simp [h]
theorem dget_some {y : T} (hy : kt y = true) : ∀ {ks ts : List T} {xs : List Kx} {vvs : List V}, Paired KeyIs ks xs → Vals vvs (xs.map (·.2.2)) → Reps M φ H ts vvs → ∀ {t : T}, dget ks ts y = some t →
    ∃ p v, atKey xs (keyT y) = some p ∧ RelV v p.2 ∧ Rep M φ H t v
  | _, _, _, _, .nil, _, _, _, e => by simp [dget] at e
  | _, _, _, _, .cons (a := k0) p ps, rv, r, t, e => by
    cases rv with
    | cons rv rvs =>
      cases r with
      | cons r rs =>
        rw [dget, eqT_kt p.1 hy] at e
        rw [atKey_cons]
        by_cases h : keyT k0 = keyT y
        · rw [if_pos (by simpa using h)] at e
          cases e
          rw [if_pos (p.2.symm.trans h)]
          exact ⟨_, _, rfl, rv, r⟩
        · rw [if_neg (by simpa using h)] at e
          rw [if_neg fun z => h (p.2.trans z)]
          exact dget_some hy ps rvs rs e
theorem dget_isSome {y : T} (hy : kt y = true) : ∀ {ks ts : List T} {xs : List Kx}, Paired KeyIs ks xs → ks.length = ts.length → (atKey xs (keyT y)).isSome = (dget ks ts y).isSome
  | _, _, _, .nil, _ => by simp [dget, atKey]
  | _, [], _, .cons p ps, hl => by simp at hl
  | _, t :: ts, _, .cons (a := k0) p ps, hl => by
    rw [dget, eqT_kt p.1 hy, atKey_cons]
    by_cases h : keyT k0 = keyT y
    · rw [if_pos (p.2.symm.trans h), if_pos (by simpa using h)]; rfl
    · rw [if_neg fun z => h (p.2.trans z), if_neg (by simpa using h)]
      exact dget_isSome hy ps (by simpa using hl)
theorem inT_key {y : T} (hy : kt y = true) : ∀ {ks : List T} {xs : List Kx}, Paired KeyIs ks xs → (atKey xs (keyT y)).isSome = inT y ks
  | _, _, .nil => by simp [inT, atKey]
  | _, _, .cons (a := k0) p ps => by
    have ih := inT_key hy ps
    unfold inT at ih ⊢
    rw [List.any_cons, eqT_kt p.1 hy, atKey_cons]
    by_cases h : keyT k0 = keyT y
    · rw [if_pos (p.2.symm.trans h)]; simp [h]
    · rw [if_neg fun z => h (p.2.trans z), ih]; simp [h]
/-- storedH, item by item -/
def stR (k : NestedKey) (a : Addr) (v : Value) : List Kx → List Kx
  | [] => [(k, a, v)]
  | x :: xs => if x.1 = k then (x.1, x.2.1, v) :: xs else x :: stR k a v xs
theorem map_put_out {k : NestedKey} {v : Value} : ∀ {xs : List Kx}, k ∉ xs.map (·.1) → xs.map (putAt k v) = xs
  | [], _ => rfl
  | x :: xs, h => by
    simp only [List.map_cons, List.mem_cons, not_or] at h
    rw [List.map_cons, map_put_out h.2]
    unfold putAt
    rw [if_neg (fun e => h.1 e.symm)]
theorem atKey_none {k : NestedKey} : ∀ {xs : List Kx}, atKey xs k = none → k ∉ xs.map (·.1)
  | [], _ => by simp
  | x :: xs, h => by
    rw [atKey_cons] at h
    by_cases e : x.1 = k
    · rw [if_pos e] at h; cases h
    · rw [if_neg e] at h
      simp only [List.map_cons, List.mem_cons, not_or]
      exact ⟨fun z => e z.symm, atKey_none h⟩
theorem storedH_eq {k : NestedKey} {a : Addr} {v : Value} : ∀ {xs : List Kx}, (xs.map (·.1)).Nodup → storedH xs k a v = stR k a v xs
  | [], _ => by simp [storedH, atKey, stR]
  | x :: xs, h => by
    simp only [List.map_cons, List.nodup_cons] at h
    have ih := storedH_eq (k := k) (a := a) (v := v) h.2
    unfold storedH at ih ⊢
    rw [atKey_cons]
    unfold stR
    by_cases e : x.1 = k
    · rw [if_pos e, if_pos e]
      show List.map (putAt k v) (x :: xs) = _
      rw [List.map_cons, map_put_out (by rw [← e]; exact h.1)]
      unfold putAt
      rw [if_pos e]
    · rw [if_neg e, if_neg e]
      by_cases e2 : (atKey xs k).isSome = true
      · rw [if_pos e2] at ih ⊢
        rw [List.map_cons, ih]
        unfold putAt
        rw [if_neg e]
      · rw [if_neg e2] at ih ⊢
        rw [List.cons_append, ih]
theorem stR_rel {y t : T} {a : Addr} {u : V} {v : Value} (hy : kt y = true) (rt : Rep M φ H t u) (ru : RelV u v) (ry : Rep M φ H y (.ref a)) : ∀ {ks ts : List T} {xs : List Kx} {kvs vvs : List V}, Paired KeyIs ks xs → Vals vvs (xs.map (·.2.2)) → Reps M φ H ts vvs → Reps M φ H ks kvs → kvs = xs.map (fun x => V.ref x.2.1) →
    Paired KeyIs (dputK ks y) (stR (keyT y) a v xs) ∧ Reps M φ H (dputK ks y) ((stR (keyT y) a v xs).map fun x => V.ref x.2.1) ∧ ∃ vvs', Vals vvs' ((stR (keyT y) a v xs).map (·.2.2)) ∧ Reps M φ H (dputV ks ts y t) vvs' ∧ vvs'.length ≤ vvs.length + 1
  | _, _, _, _, _, .nil, rv, r, rk, e => by
    cases rv; cases r
    exact ⟨.cons ⟨hy, rfl⟩ .nil, .cons ry .nil, [u], .cons ru .nil, .cons rt .nil, by simp⟩
  | _, _, _, _, _, .cons (a := k0) (b := x0) p ps, rv, r, rk, e => by
    cases rv with
    | cons rv rvs =>
      cases r with
      | cons r rs =>
        cases rk with
        | cons rk rks =>
          simp only [List.map_cons, List.cons.injEq] at e
          obtain ⟨rfl, rfl⟩ := e
          rw [dputK, dputV, eqT_kt p.1 hy]
          unfold stR
          by_cases h : keyT k0 = keyT y
          · have hd : decide (keyT k0 = keyT y) = true := decide_eq_true h
            rw [if_pos hd, if_pos hd, if_pos (p.2.symm.trans h)]
            exact ⟨.cons p ps, .cons rk rks, _, .cons ru rvs, .cons rt rs, by simp⟩
          · have hd : ¬ decide (keyT k0 = keyT y) = true := by simpa using h
            rw [if_neg hd, if_neg hd, if_neg fun z => h (p.2.trans z)]
            obtain ⟨h1, h2, vvs', h3, h4, h5⟩ := stR_rel hy rt ru ry ps rvs rs rks rfl
            exact ⟨.cons p h1, .cons rk h2, _, .cons rv h3, .cons r h4, by simpa using h5⟩
theorem dputK_len : ∀ (ks : List T) (y : T), (dputK ks y).length ≤ ks.length + 1
  | [], y => by simp [dputK]
  | k :: ks, y => by
    have ih := dputK_len ks y
    rw [dputK]
    split
    · omega
    · simpa using ih
/-- the description of a dict that is just read -/
theorem dictHO_ok {P : Program} {w : World} {H : Hp} {h : Heap} {a : Addr} {o : Obj} (e : h.get? a = some o) : ObjOk P w H h a (dictHO a o) := ⟨e, ⟨o, e⟩, fun h1 h2 p k => k _ p⟩
theorem mut_dict (a : Addr) (o : Obj) : Mut (some (dictHO a o)) := trivial
variable (hM : XM M X)
include hM
/-- d[y] = t -/
theorem dict_put (I : L2.Inv X pins σ H s) (hr : X.A.units + 9 < cLine) {d : Addr} {ks ts : List T} {kvs vvs : List V} {y t : T} {yv u : V} {yu v : Value} {Q : Unit → Shared → Prop} (h : DAt M.P M.w H d ks kvs vvs) (hk : ks.all kt = true) (hz : ks.length < line) (hy : kt y = true) (r : Reps M φ H ks kvs) (rs : Reps M φ H ts vvs)
    (ry : Rep M φ H y yv) (ryv : RelV yv yu) (rt : Rep M φ H t u) (ru : RelV u v)
    (q : ∀ (o : Obj) (kvs' vvs' : List V) (s' : Shared), L2.Inv X pins σ (upd H d (dictHO d o)) s' → (d == sysModules) = false → vvs'.length ≤ sizeLine → DictObj M.P M.w o (dputK ks y) kvs' vvs' → Reps M φ H (dputK ks y) kvs' → Reps M φ H (dputV ks ts y t) vvs' → Q () s') :
    wpAny (model X.prog X.w) X.A (setItem (.ref d) yu v) Q X.xe s := by
  obtain ⟨_, _, o0, h3, _⟩ := id h
  obtain ⟨hd, hv, xs, hx, pk, ek, ev⟩ := DAt.of I h hk r
  obtain ⟨a, rfl, ka⟩ := ry.key I hy
  cases ryv
  have hlen : xs.length ≤ sizeLine := by rw [← Paired.len pk, ← line_eq]; omega
  rw [hM.P, hM.w]
  refine wpAny_setItem_heap (knd := nestedKind M.P M.w) (by show X.A.in1.units + 8 < cLine; simp only [Around.in1_units]; omega) ka hx (fun h' hx' hs => ?_) hlen
  obtain ⟨h1, h2, vvs', h3', h4, h5⟩ := stR_rel (v := v) hy rt ru ry pk ev rs r ek
  obtain ⟨o, es, ep, e1, e2, e3, e4, e5, e6⟩ := hx'
  rw [storedH_eq hx.nodup] at e4 e6
  have hvl : vvs'.length ≤ sizeLine := by
    have a1 := h3'.length
    have a2 := dputK_len ks y
    have a3 := Paired.len h1
    rw [List.length_map] at a1
    rw [← line_eq]
    omega
  refine q o _ vvs' { s with heap := h', toks := _ } ?_ hd hvl (.keyed e2 e3 e4 e6 h1 h3') h2 h4
  exact I.write (by rw [h3]; exact mut_dict _ _) (.inl rfl) (fun b u hb e => (hs.2 b hb).trans e) ⟨o, e1⟩ (dictHO_ok e1)
/-- d[y] -/
theorem dict_get (I : L2.Inv X pins σ H s) (hr : X.A.units + 9 < cLine) {d : Addr} {ks ts : List T} {kvs vvs : List V} {y t : T} {yv : V} {yu : Value} {Q : VK} (h : DAt M.P M.w H d ks kvs vvs) (hk : ks.all kt = true) (hy : kt y = true) (r : Reps M φ H ks kvs) (rs : Reps M φ H ts vvs)
    (ry : Rep M φ H y yv) (ryv : RelV yv yu) (e : dget ks ts y = some t) (q : ∀ v, Rep M φ H t v → Q v H) : s.TypeIs (.ref d) "dict" ∧ wpAny (model X.prog X.w) X.A (getItem (.ref d) yu) (EP X pins σ Q) X.xe s := by
  obtain ⟨hd, hv, xs, hx, pk, ek, ev⟩ := DAt.of I h hk r
  obtain ⟨a, rfl, ka⟩ := ry.key I hy
  cases ryv
  obtain ⟨p, v, e1, rv, rt⟩ := dget_some hy pk ev rs e
  refine ⟨hx.typeIs, ?_⟩
  rw [hM.P, hM.w]
  exact wpAny_getItem_heap (knd := nestedKind M.P M.w) (by show X.A.in1.units + 8 < cLine; simp only [Around.in1_units]; omega) ka hx e1 ⟨v, H, I.tok _, rv, q v rt⟩
theorem dict_in (I : L2.Inv X pins σ H s) (hr : X.A.units + 9 < cLine) {d : Addr} {ks : List T} {kvs vvs : List V} {y : T} {yv : V} {yu : Value} {Q : VK} (h : DAt M.P M.w H d ks kvs vvs) (hk : ks.all kt = true) (hy : kt y = true) (r : Reps M φ H ks kvs)
    (ry : Rep M φ H y yv) (ryv : RelV yv yu) (q : Q (.bl (inT y ks)) H) : wpAny (model X.prog X.w) X.A (compareOp .In yu (.ref d)) (EP X pins σ Q) X.xe s := by
  obtain ⟨hd, hv, xs, hx, pk, ek, ev⟩ := DAt.of I h hk r
  obtain ⟨a, rfl, ka⟩ := ry.key I hy
  cases ryv
  rw [hM.P, hM.w]
  refine wpAny_in_heap (knd := nestedKind M.P M.w) (by show X.A.in1.units + 8 < cLine; simp only [Around.in1_units]; omega) ka hd hx ⟨.bl _, H, I.tok _, rfl, ?_⟩
  rw [inT_key hy pk]; exact q
theorem dict_notIn (I : L2.Inv X pins σ H s) (hr : X.A.units + 9 < cLine) {d : Addr} {ks : List T} {kvs vvs : List V} {y : T} {yv : V} {yu : Value} {Q : VK} (h : DAt M.P M.w H d ks kvs vvs) (hk : ks.all kt = true) (hy : kt y = true) (r : Reps M φ H ks kvs)
    (ry : Rep M φ H y yv) (ryv : RelV yv yu) (q : Q (.bl (!inT y ks)) H) : wpAny (model X.prog X.w) X.A (compareOp .NotIn yu (.ref d)) (EP X pins σ Q) X.xe s := by
  obtain ⟨hd, hv, xs, hx, pk, ek, ev⟩ := DAt.of I h hk r
  obtain ⟨a, rfl, ka⟩ := ry.key I hy
  cases ryv
  rw [hM.P, hM.w]
  refine notIn_keyed (knd := nestedKind M.P M.w) (by show X.A.in1.units + 8 < cLine; simp only [Around.in1_units]; omega) ka hd ⟨xs, hx, rfl⟩ ⟨.bl _, H, I.tok _, rfl, ?_⟩
  rw [valueAt_pairsH, Option.isSome_map, inT_key hy pk]; exact q
/-- d.get(y, z) -/
theorem dict_getOr (I : L2.Inv X pins σ H s) (hr : X.A.units + 9 < cLine) {d : Addr} {ks ts : List T} {kvs vvs : List V} {y : T} {yv : V} {yu w : Value} {Q : VK} (h : DAt M.P M.w H d ks kvs vvs) (hk : ks.all kt = true) (hy : kt y = true) (r : Reps M φ H ks kvs) (rs : Reps M φ H ts vvs)
    (ry : Rep M φ H y yv) (ryv : RelV yv yu) {z : T} {zv : V} (rz : Rep M φ H z zv) (rzv : RelV zv w) (q : ∀ v, Rep M φ H ((dget ks ts y).getD z) v → Q v H) : wpAny (model X.prog X.w) X.A (call (.builtin "dict.get") [.ref d, yu, w]) (EP X pins σ Q) X.xe s := by
  obtain ⟨hd, hv, xs, hx, pk, ek, ev⟩ := DAt.of I h hk r
  obtain ⟨a, rfl, ka⟩ := ry.key I hy
  cases ryv
  rw [hM.P, hM.w]
  refine getOr_keyed (knd := nestedKind M.P M.w) (by show X.A.in1.units + 8 < cLine; simp only [Around.in1_units]; omega) ka hd ⟨xs, hx, rfl⟩ ?_
  have hl : ks.length = ts.length := by rw [Paired.len pk, rs.length, ev.length, List.length_map]
  have hs := dget_isSome hy pk hl
  rw [valueAt_pairsH]
  cases e : dget ks ts y with
  | none =>
    rw [e] at hs q
    have e0 : atKey xs (keyT y) = none := by
      cases z : atKey xs (keyT y) with
      | none => rfl
      | some p => rw [z] at hs; cases hs
    rw [e0]
    exact ⟨zv, H, I.tok _, rzv, q _ rz⟩
  | some t =>
    obtain ⟨p, v, e1, rv, rt⟩ := dget_some hy pk ev rs e
    rw [e] at q
    rw [e1]
    exact ⟨v, H, I.tok _, rv, q _ rt⟩
theorem dict_get0 (I : L2.Inv X pins σ H s) (hr : X.A.units + 9 < cLine) {d : Addr} {ks ts : List T} {kvs vvs : List V} {y : T} {yv : V} {yu : Value} {Q : VK} (h : DAt M.P M.w H d ks kvs vvs) (hk : ks.all kt = true) (hy : kt y = true) (r : Reps M φ H ks kvs) (rs : Reps M φ H ts vvs)
    (ry : Rep M φ H y yv) (ryv : RelV yv yu) (q : ∀ v, Rep M φ H ((dget ks ts y).getD .non) v → Q v H) : wpAny (model X.prog X.w) X.A (call (.builtin "dict.get") [.ref d, yu]) (EP X pins σ Q) X.xe s := by
  obtain ⟨hd, hv, xs, hx, pk, ek, ev⟩ := DAt.of I h hk r
  obtain ⟨a, rfl, ka⟩ := ry.key I hy
  cases ryv
  rw [hM.P, hM.w]
  refine get_keyed (knd := nestedKind M.P M.w) (by show X.A.in1.units + 8 < cLine; simp only [Around.in1_units]; omega) ka hd ⟨xs, hx, rfl⟩ ?_
  have hl : ks.length = ts.length := by rw [Paired.len pk, rs.length, ev.length, List.length_map]
  have hs := dget_isSome hy pk hl
  rw [valueAt_pairsH]
  cases e : dget ks ts y with
  | none =>
    rw [e] at hs q
    have e0 : atKey xs (keyT y) = none := by
      cases z : atKey xs (keyT y) with
      | none => rfl
      | some p => rw [z] at hs; cases hs
    rw [e0]
    exact ⟨.non, H, I.tok _, rfl, q _ .non⟩
  | some t =>
    obtain ⟨p, v, e1, rv, rt⟩ := dget_some hy pk ev rs e
    rw [e] at q
    rw [e1]
    exact ⟨v, H, I.tok _, rv, q _ rt⟩
end
end PC
/-! PcOps3: calls of built-ins, items, slices. -/
namespace PC
open PySem L2
variable {M : Mo}
inductive Views (M : Mo) (φ : List Addr) (H : Hp) : List T → List V → Prop
  | nil : Views M φ H [] []
  | cons {x : T} {v : V} {xs : List T} {vs : List V} : View M φ H x v → Views M φ H xs vs → Views M φ H (x :: xs) (v :: vs)
section
variable {X : Cx} {φ : List Addr} {S : Mem} {pins : List (Addr × Obj)} {σ : St} {H : Hp} {s : Shared}
theorem Reps.views (w : Wd M φ S H) : ∀ {ts : List T} {vs : List V}, Reps M φ H ts vs → Views M φ H (ts.map (vw S)) vs
  | _, _, .nil => .nil
  | _, _, .cons r s => .cons (r.view w) (Reps.views w s)
theorem ints_of : ∀ {ts : List T} {vs : List V} {ns : List Int}, ints? ts = some ns → Reps M φ H ts vs → ts = ns.map .int ∧ vs = ns.map V.int
  | [], _, _, e, .nil => by cases e; exact ⟨rfl, rfl⟩
  | .int i :: ts, _, _, e, .cons r rs => by
    obtain ⟨ns, e1, rfl⟩ := Option.map_eq_some_iff.mp e
    obtain ⟨rfl, rfl⟩ := ints_of e1 rs
    cases r
    exact ⟨rfl, rfl⟩
  | .non :: _, _, _, e, _ => by simp [ints?] at e
  | .bl _ :: _, _, _, e, _ => by simp [ints?] at e
  | .str _ :: _, _, _, e, _ => by simp [ints?] at e
  | .tup _ :: _, _, _, e, _ => by simp [ints?] at e
  | .lst _ :: _, _, _, e, _ => by simp [ints?] at e
  | .dct _ _ :: _, _, _, e, _ => by simp [ints?] at e
  | .ref _ :: _, _, _, e, _ => by simp [ints?] at e
  | .exc _ :: _, _, _, e, _ => by simp [ints?] at e
theorem bls_of : ∀ {ts : List T} {vs : List V} {ns : List Bool}, bls? ts = some ns → Reps M φ H ts vs → vs = ns.map V.bl
  | [], _, _, e, .nil => by cases e; rfl
  | .bl i :: ts, _, _, e, .cons r rs => by
    obtain ⟨ns, e1, rfl⟩ := Option.map_eq_some_iff.mp e
    obtain rfl := bls_of e1 rs
    cases r
    rfl
  | .non :: _, _, _, e, _ => by simp [bls?] at e
  | .int _ :: _, _, _, e, _ => by simp [bls?] at e
  | .str _ :: _, _, _, e, _ => by simp [bls?] at e
  | .tup _ :: _, _, _, e, _ => by simp [bls?] at e
  | .lst _ :: _, _, _, e, _ => by simp [bls?] at e
  | .dct _ _ :: _, _, _, e, _ => by simp [bls?] at e
  | .ref _ :: _, _, _, e, _ => by simp [bls?] at e
  | .exc _ :: _, _, _, e, _ => by simp [bls?] at e
theorem foldl_max : ∀ (xs : List Int) (m : Int), (xs.foldl max m = m ∨ xs.foldl max m ∈ xs) ∧ m ≤ xs.foldl max m ∧ ∀ y ∈ xs, y ≤ xs.foldl max m
  | [], m => ⟨.inl rfl, Int.le_refl _, by simp⟩
  | x :: xs, m => by
    obtain ⟨h1, h2, h3⟩ := foldl_max xs (max m x)
    rw [List.foldl_cons]
    refine ⟨?_, by omega, fun y hy => ?_⟩
    · rcases h1 with h | h
      · rw [h]
        by_cases hm : m ≤ x
        · right; rw [Int.max_eq_right hm]; exact List.mem_cons_self
        · left; exact Int.max_eq_left (by omega)
      · right; exact List.mem_cons_of_mem _ h
    · rcases List.mem_cons.mp hy with rfl | hy
      · omega
      · exact h3 y hy
theorem foldl_min : ∀ (xs : List Int) (m : Int), (xs.foldl min m = m ∨ xs.foldl min m ∈ xs) ∧ xs.foldl min m ≤ m ∧ ∀ y ∈ xs, xs.foldl min m ≤ y
  | [], m => ⟨.inl rfl, Int.le_refl _, by simp⟩
  | x :: xs, m => by
    obtain ⟨h1, h2, h3⟩ := foldl_min xs (min m x)
    rw [List.foldl_cons]
    refine ⟨?_, by omega, fun y hy => ?_⟩
    · rcases h1 with h | h
      · rw [h]
        by_cases hm : x ≤ m
        · right; rw [Int.min_eq_right hm]; exact List.mem_cons_self
        · left; exact Int.min_eq_left (by omega)
      · right; exact List.mem_cons_of_mem _ h
    · rcases List.mem_cons.mp hy with rfl | hy
      · omega
      · exact h3 y hy
theorem maxL_is {xs : List Int} {m : Int} (h : maxL xs = some m) : m ∈ xs ∧ ∀ y ∈ xs, y ≤ m := by
  cases xs with
  | nil => cases h
  | cons x xs =>
    cases h
    obtain ⟨h1, h2, h3⟩ := foldl_max xs x
    refine ⟨?_, fun y hy => ?_⟩
    · rcases h1 with h | h
      · rw [h]; exact List.mem_cons_self
      · exact List.mem_cons_of_mem _ h
    · rcases List.mem_cons.mp hy with rfl | hy
      · exact h2
      · exact h3 y hy
theorem minL_is {xs : List Int} {m : Int} (h : minL xs = some m) : m ∈ xs ∧ ∀ y ∈ xs, m ≤ y := by
  cases xs with
  | nil => cases h
  | cons x xs =>
    cases h
    obtain ⟨h1, h2, h3⟩ := foldl_min xs x
    refine ⟨?_, fun y hy => ?_⟩
    · rcases h1 with h | h
      · rw [h]; exact List.mem_cons_self
      · exact List.mem_cons_of_mem _ h
    · rcases List.mem_cons.mp hy with rfl | hy
      · exact h2
      · exact h3 y hy
theorem insI_perm (x : Int) : ∀ xs : List Int, (insI x xs).Perm (x :: xs)
  | [] => List.Perm.refl _
  | y :: r => by
    unfold insI
    split
    · exact List.Perm.refl _
    · exact ((insI_perm x r).cons y).trans (List.Perm.swap x y r)
theorem sortI_perm : ∀ xs : List Int, (sortI xs).Perm xs
  | [] => List.Perm.refl _
  | x :: r => (insI_perm x _).trans ((sortI_perm r).cons x)
theorem insI_le (x : Int) : ∀ xs : List Int, xs.Pairwise (· ≤ ·) → (insI x xs).Pairwise (· ≤ ·)
  | [], _ => by simp [insI]
  | y :: r, h => by
    unfold insI
    split
    · rename_i hxy
      refine List.pairwise_cons.mpr ⟨fun z hz => ?_, h⟩
      rcases List.mem_cons.mp hz with rfl | hz
      · exact hxy
      · exact Int.le_trans hxy ((List.pairwise_cons.mp h).1 z hz)
    · rename_i hxy
      refine List.pairwise_cons.mpr ⟨fun z hz => ?_, insI_le x r (List.pairwise_cons.mp h).2⟩
      rcases List.mem_cons.mp ((insI_perm x r).mem_iff.mp hz) with rfl | hz
      · omega
      · exact (List.pairwise_cons.mp h).1 z hz
theorem sortI_le : ∀ xs : List Int, (sortI xs).Pairwise (· ≤ ·)
  | [] => .nil
  | x :: r => insI_le x _ (sortI_le r)
theorem sorted_one : ∀ {xs ys : List Int}, xs.Perm ys → xs.Pairwise (· ≤ ·) → ys.Pairwise (· ≤ ·) → xs = ys := fun h h1 h2 =>
  List.Perm.eq_of_pairwise (fun a b _ _ h h' => Int.le_antisymm h h') h1 h2 h
def biVal : Bi → Value
  | .len => .builtin "len" | .max2 => .builtin "max" | .min2 => .builtin "min" | .maxL => .builtin "max" | .minL => .builtin "min" | .sum => .builtin "sum"
  | .all => .builtin "all" | .any => .builtin "any" | .tuple => .type "tuple" | .list => .type "list" | .int => .type "int" | .str => .type "str" | .sorted => .builtin "sorted"
  | .dict => .type "dict" | .lrng1 => .type "list" | .lrng2 => .type "list"
def rBi (M : Mo) (f : Bi) : List V → Hp → VK → Prop := fun vs H Q => ∃ φ S xs z, Wd M φ S H ∧ Views M φ H xs vs ∧ biT f xs = some z ∧ FrL M φ S H z Q
theorem Views.one {x : T} {vs : List V} (h : Views M φ H [x] vs) : ∃ v, vs = [v] ∧ View M φ H x v := by
  cases h with
  | cons a b => cases b; exact ⟨_, rfl, a⟩
theorem Views.two {x y : T} {vs : List V} (h : Views M φ H [x, y] vs) : ∃ v u, vs = [v, u] ∧ View M φ H x v ∧ View M φ H y u := by
  cases h with
  | cons a b =>
    cases b with
    | cons c d => cases d; exact ⟨_, _, rfl, a, c⟩
theorem DictObj.entries {P : Program} {w : World} {o : Obj} {ks : List T} {kvs vvs : List V} (h : DictObj P w o ks kvs vvs) :
    ∃ es ep, o.ExactDict ∧ o.data = .dict es ep ∧ Vals kvs (es.toList.map (·.key)) ∧ Vals vvs (es.toList.map (·.val)) ∧ ks.length = es.size ∧ kvs.length = es.size ∧ vvs.length = es.size := by
  cases h with
  | @keyed es ep xs ks vvs e1 e2 e3 e4 e5 e6 =>
    have hl : es.size = xs.length := by rw [← Array.length_toList, e3, List.length_map]
    refine ⟨es, ep, e1, e2, ?_, ?_, ?_, ?_, ?_⟩
    · rw [e3, List.map_map]
      clear e3 e4 e5 e6 hl e2
      induction xs with
      | nil => exact .nil
      | cons x xs ih => exact .cons rfl ih
    · rw [e3, List.map_map]
      exact e6
    · rw [hl]; exact Paired.len e5
    · rw [hl, List.length_map]
    · rw [hl, e6.length, List.length_map]
  | @raw es ep k kv v ku u e1 e2 e3 e4 e5 e6 e7 =>
    obtain ⟨e, he⟩ := Array.size_eq_one_iff.mp e4
    have h0 := e5 0 e (by rw [he]; rfl)
    refine ⟨es, ep, e1, e2, ?_, ?_, by simp [e4], by simp [e4], by simp [e4]⟩
    · rw [he]; exact .cons (show RelV kv e.key by rw [h0.1]; exact e6) .nil
    · rw [he]; exact .cons (show RelV v e.val by rw [h0.2]; exact e7) .nil
theorem vals_of_items {kvs : List V} {us : List Value} {acc : Array Value} (r : Vals kvs us) (h : acc.toList = us) : Vals kvs acc.toList := by rw [h]; exact r
theorem DAt.raw (I : L2.Inv X pins σ H s) {d : Addr} {ks : List T} {kvs vvs : List V} (h : DAt M.P M.w H d ks kvs vvs) :
    (d == sysModules) = false ∧ vvs.length ≤ sizeLine ∧ ∃ es ep, s.heap.DictRaw d es ep ∧ Vals kvs (es.toList.map (·.key)) ∧ Vals vvs (es.toList.map (·.val)) ∧ ks.length = es.size ∧ kvs.length = es.size ∧ vvs.length = es.size := by
  obtain ⟨h1, h2, o, h3, h4⟩ := h
  have ho : s.heap.get? d = some o := (I.hok d _ h3).1
  obtain ⟨es, ep, e1, e2, r⟩ := h4.entries
  exact ⟨h1, h2, es, ep, ⟨o, ho, e1, e2⟩, r⟩
/-- list(d) -/
theorem dict_list (hc : X.calm = true) (I : L2.Inv X pins σ H s) {d : Addr} {ks : List T} {kvs vvs : List V} {Q : VK} (h : DAt M.P M.w H d ks kvs vvs) (q : ∀ p, H p = none → Q (.ref p) (upd H p (.lst kvs))) :
    wpAny (model X.prog X.w) X.A (call (.type "list") [.ref d]) (EP X pins σ Q) X.xe s := by
  obtain ⟨h1, h2, es, ep, hr, rk, rv, l1, l2, l3⟩ := DAt.raw I h
  refine PySem.W.kdl_call (KdlSrc.rawDict h1) (I.ok.hd hc) hr (by omega) fun h' tk acc c' hk hD hi => ?_
  have e : acc.toList = es.toList.map (·.key) := by
    refine List.ext_getElem? fun i => ?_
    rw [List.getElem?_map, Array.getElem?_toList, Array.getElem?_toList]
    by_cases hlt : i < es.size
    · have e0 : acc[i]? = some (acc[i]'(by rw [hi.1]; exact hlt)) := by simp [hi.1, hlt]
      obtain ⟨_, e2⟩ := hi.2 i _ e0
      rw [e0, e2]
      simp [hlt]
    · rw [Array.getElem?_eq_none (by rw [hi.1]; omega), Array.getElem?_eq_none (by omega)]
      rfl
  refine ⟨.ref s.heap.objs.size, _, I.laid (t' := tk) hk (Nat.le_refl _) (show ObjOk X.prog X.w _ h' _ (.lst kvs) from ⟨by omega, acc.toList, c', by rw [e]; exact rk, by simpa using hD⟩), rfl, q _ (I.hok.fresh (Nat.le_refl _))⟩
theorem dict_len (I : L2.Inv X pins σ H s) {d : Addr} {ks : List T} {kvs vvs : List V} {Q : VK} (h : DAt M.P M.w H d ks kvs vvs) (q : Q (.int ks.length) H) :
    wpAny (model X.prog X.w) X.A (call (.builtin "len") [.ref d]) (EP X pins σ Q) X.xe s := by
  obtain ⟨h1, h2, es, ep, hr, rk, rv, l1, l2, l3⟩ := DAt.raw I h
  have hz : sizeLine < 2 ^ 63 := by decide
  refine PyProof.Rows.call_len_slot (n := es.size) hr.typeIs PySem.F.slot_dict_len (fun Q' hq => call_len_raw h1 hr hq) (by omega) (by omega) ⟨.int ks.length, H, I.tok _, ⟨_, by rw [l1]⟩, q⟩
/-- tuple(list) -/
theorem tupleL (I : L2.Inv X pins σ H s) {a : Addr} {ys : List V} {Q : VK} (h : Rd H a (.lst ys)) (q : NewT H ys Q) : wpAny (model X.prog X.w) X.A (call (.type "tuple") [.ref a]) (EP X pins σ Q) X.xe s := by
  obtain ⟨its, r, pl, hz⟩ := I.list (.inl h)
  have hlen := r.length
  refine call_tuple_list pl.isList (fun h' kp => ?_) (by simp only [List.size_toArray] <;> omega)
  have I1 : L2.Inv X pins σ H { s with heap := h' } := I.kept (t' := s.toks) kp
  exact ⟨.ref _, _, tupNew (t' := s.toks) I1 r hz, rfl, q _ _ I1.fresh rfl rfl⟩
theorem call_bi (hM : XM M X) (hc : X.calm = true) (f : Bi) (hf : f ≠ .dict ∧ f ≠ .lrng1 ∧ f ≠ .lrng2) : CallR X (biVal f) (rBi M f) := by
  intro pins s σ H vs us Q I rs h
  obtain ⟨φ, S, xs, z, w, vas, e, k⟩ := h
  unfold biT at e
  split at e
  all_goals first | exact absurd rfl hf.1 | exact absurd rfl hf.2.1 | exact absurd rfl hf.2.2 | skip
  · obtain rfl := Option.some.inj e
    obtain ⟨v, rfl, va⟩ := vas.one
    obtain ⟨a, ws, rfl, h1, r1⟩ := va.lst_inv
    exact call_len_seq pins s σ H _ us Q I rs ⟨a, ws, rfl, .inl (.inl h1), by rw [← r1.length]; exact k _ _ (Ext.refl _ _) w (.int _)⟩
  · obtain rfl := Option.some.inj e
    obtain ⟨v, rfl, va⟩ := vas.one
    obtain ⟨a, ws, rfl, h1, r1⟩ := va.tup_inv
    exact call_len_seq pins s σ H _ us Q I rs ⟨a, ws, rfl, .inr h1.sq, by rw [← r1.length]; exact k _ _ (Ext.refl _ _) w (.int _)⟩
  · obtain rfl := Option.some.inj e
    obtain ⟨v, rfl, va⟩ := vas.one
    obtain ⟨a, ks, ts, rfl, h1, r1, r2⟩ := va.dct_inv
    obtain ⟨u, rfl, ru⟩ := vals1 rs
    cases ru
    exact dict_len I h1 (k _ _ (Ext.refl _ _) w (.int _))
  · split at e
    · rename_i hm
      obtain rfl := Option.some.inj e
      obtain ⟨v, rfl, va⟩ := vas.one
      cases va.str_inv
      exact call_len_str pins s σ H _ us Q I rs ⟨_, rfl, hm, k _ _ (Ext.refl _ _) w (.int _)⟩
    · cases e
  · obtain rfl := Option.some.inj e
    obtain ⟨v, u, rfl, va, vb⟩ := vas.two
    cases va.int_inv; cases vb.int_inv
    exact call_max2 hc pins s σ H _ us Q I rs ⟨_, _, rfl, k _ _ (Ext.refl _ _) w (.int _)⟩
  · obtain rfl := Option.some.inj e
    obtain ⟨v, u, rfl, va, vb⟩ := vas.two
    cases va.int_inv; cases vb.int_inv
    exact call_min2 hc pins s σ H _ us Q I rs ⟨_, _, rfl, k _ _ (Ext.refl _ _) w (.int _)⟩
  · obtain ⟨m, e1, rfl⟩ := Option.map_eq_some_iff.mp e
    obtain ⟨ns, e2, e3⟩ := Option.bind_eq_some_iff.mp e1
    obtain ⟨v, rfl, va⟩ := vas.one
    obtain ⟨a, ws, rfl, h1, r1⟩ := va.lst_inv
    obtain ⟨rfl, rfl⟩ := ints_of e2 r1
    obtain ⟨hm, hle⟩ := maxL_is e3
    refine cr_max hc pins s σ H _ us Q I rs ⟨a, ns, rfl, .inl h1, List.length_pos_of_mem hm, fun m' hm' hle' => ?_⟩
    rw [Int.le_antisymm (hle _ hm') (hle' _ hm)]
    exact k _ _ (Ext.refl _ _) w (.int _)
  · obtain ⟨m, e1, rfl⟩ := Option.map_eq_some_iff.mp e
    obtain ⟨ns, e2, e3⟩ := Option.bind_eq_some_iff.mp e1
    obtain ⟨v, rfl, va⟩ := vas.one
    obtain ⟨a, ws, rfl, h1, r1⟩ := va.lst_inv
    obtain ⟨rfl, rfl⟩ := ints_of e2 r1
    obtain ⟨hm, hle⟩ := minL_is e3
    refine cr_min hc pins s σ H _ us Q I rs ⟨a, ns, rfl, .inl h1, List.length_pos_of_mem hm, fun m' hm' hle' => ?_⟩
    rw [Int.le_antisymm (hle' _ hm) (hle _ hm')]
    exact k _ _ (Ext.refl _ _) w (.int _)
  · obtain ⟨ns, e2, rfl⟩ := Option.map_eq_some_iff.mp e
    obtain ⟨v, rfl, va⟩ := vas.one
    obtain ⟨a, ws, rfl, h1, r1⟩ := va.lst_inv
    obtain ⟨rfl, rfl⟩ := ints_of e2 r1
    exact cr_sum hc pins s σ H _ us Q I rs ⟨a, ns, rfl, .inl h1, k _ _ (Ext.refl _ _) w (.int _)⟩
  · obtain ⟨ns, e2, rfl⟩ := Option.map_eq_some_iff.mp e
    obtain ⟨v, rfl, va⟩ := vas.one
    obtain ⟨a, ws, rfl, h1, r1⟩ := va.lst_inv
    obtain rfl := bls_of e2 r1
    exact cr_all hc pins s σ H _ us Q I rs ⟨a, ns, rfl, .inl h1, k _ _ (Ext.refl _ _) w (.bl _)⟩
  · obtain ⟨ns, e2, rfl⟩ := Option.map_eq_some_iff.mp e
    obtain ⟨v, rfl, va⟩ := vas.one
    obtain ⟨a, ws, rfl, h1, r1⟩ := va.lst_inv
    obtain rfl := bls_of e2 r1
    exact cr_any hc pins s σ H _ us Q I rs ⟨a, ns, rfl, .inl h1, k _ _ (Ext.refl _ _) w (.bl _)⟩
  · obtain rfl := Option.some.inj e
    obtain ⟨v, rfl, va⟩ := vas.one
    obtain ⟨a, ws, rfl, h1, r1⟩ := va.lst_inv
    obtain ⟨u, rfl, ru⟩ := vals1 rs
    cases ru
    exact tupleL I h1 fun l o hl e1 e2 => k _ _ (Ext.laid hl) (w.laid hl) (Rep.tupNew w hl e1 e2 r1)
  · obtain rfl := Option.some.inj e
    obtain ⟨v, rfl, va⟩ := vas.one
    obtain ⟨a, ws, rfl, h1, r1⟩ := va.tup_inv
    exact call_tuple_of pins s σ H _ us Q I rs ⟨a, ws, rfl, .inr ⟨h1.sq, k _ _ (Ext.refl _ _) w (.tup h1 r1)⟩⟩
  · obtain rfl := Option.some.inj e
    obtain ⟨v, rfl, va⟩ := vas.one
    obtain ⟨a, ws, rfl, h1, r1⟩ := va.lst_inv
    exact call_list_of pins s σ H _ us Q I rs ⟨a, ws, rfl, .inl (.inl h1), fun l hl => k _ _ hl r1⟩
  · obtain rfl := Option.some.inj e
    obtain ⟨v, rfl, va⟩ := vas.one
    obtain ⟨a, ws, rfl, h1, r1⟩ := va.tup_inv
    exact call_list_of pins s σ H _ us Q I rs ⟨a, ws, rfl, .inr h1.sq, fun l hl => k _ _ hl r1⟩
  · obtain rfl := Option.some.inj e
    obtain ⟨v, rfl, va⟩ := vas.one
    obtain ⟨a, ks, ts, rfl, h1, r1, r2⟩ := va.dct_inv
    obtain ⟨u, rfl, ru⟩ := vals1 rs
    cases ru
    exact dict_list hc I h1 fun l hl => k _ _ hl r1
  · obtain rfl := Option.some.inj e
    obtain ⟨v, rfl, va⟩ := vas.one
    cases va.int_inv
    exact call_int1 pins s σ H _ us Q I rs (.inl ⟨_, rfl, k _ _ (Ext.refl _ _) w (.int _)⟩)
  · obtain rfl := Option.some.inj e
    obtain ⟨v, rfl, va⟩ := vas.one
    cases va.bl_inv
    exact call_int1 pins s σ H _ us Q I rs (.inr ⟨_, rfl, k _ _ (Ext.refl _ _) w (.int _)⟩)
  · split at e
    · rename_i i hm
      obtain rfl := Option.some.inj e
      obtain ⟨v, rfl, va⟩ := vas.one
      cases va.int_inv
      refine call_str_int pins s σ H _ us Q I rs ⟨_, rfl, ?_, k _ _ (Ext.refl _ _) w (.str _)⟩
      have h2 : i.natAbs.log2 < 64 := by
        by_cases h0 : i.natAbs = 0
        · rw [h0]; decide
        · exact (Nat.log2_lt h0).mpr hm
      omega
    · cases e
  · obtain ⟨ns, e2, e3⟩ := Option.bind_eq_some_iff.mp e
    split at e3
    · rename_i hm
      obtain rfl := Option.some.inj e3
      obtain ⟨v, rfl, va⟩ := vas.one
      obtain ⟨a, ws, rfl, h1, r1⟩ := va.lst_inv
      obtain ⟨rfl, rfl⟩ := ints_of e2 r1
      refine cr_sorted pins s σ H _ us Q I rs ⟨a, ns, rfl, .inl h1, hm, fun ns' p hp ho hl => ?_⟩
      rw [sorted_one (hp.trans (sortI_perm ns).symm) ho (sortI_le ns)]
      refine k _ _ hl ?_
      generalize sortI ns = l
      induction l with
      | nil => exact .nil
      | cons x l ih => exact .cons (.int x) ih
    · cases e3
  · cases e
end
end PC
/-! PcOps4: items, slices, isinstance, methods of built-in types, stores. -/
namespace PC
open PySem L2
variable {M : Mo}
section
variable {X : Cx} {φ : List Addr} {S : Mem} {pins : List (Addr × Obj)} {σ : St} {H : Hp} {s : Shared}
/-! ### isinstance -/
def rIsiT (M : Mo) (t : Ty) : List V → Hp → VK → Prop := fun vs H Q => ∃ φ a v b, vs = [v, .ty t.name] ∧ View M φ H a v ∧ isiT a t = some b ∧ Q (.bl b) H
theorem isi_go (I : L2.Inv X pins σ H s) {u : Value} {a : String} {t : Ty} {b : Bool} {Hq : Heap → Prop} {Q : VK} (k : PySem.W.KitX X.K u (.type a) Hq) (hq : Hq s.heap) (e : kitB a t.name = some b) (n : u ≠ .builtin "__main__.__loader__#opaque") (q : Q (.bl b) H) :
    wpAny (model X.prog X.w) X.A (call (.builtin "isinstance") [u, .type t.name]) (EP X pins σ Q) X.xe s :=
  PySem.W.kia_one k I.kIn hq (kit_ty e) n fun tk => ⟨.bl b, H, I.tok tk, rfl, q⟩
def isiB (a : String) (t : Ty) : Bool := decide (a = t.name) || (decide (a = "bool") && decide (t = .int))
theorem kit_all (t : Ty) : ∀ a ∈ ["NoneType", "bool", "int", "str", "tuple", "list", "dict"], kitB a t.name = some (isiB a t) := by
  cases t <;> decide +kernel
theorem call_isiT (t : Ty) : CallR X (.builtin "isinstance") (rIsiT M t) := by
  intro pins s σ H vs us Q I rs h
  obtain ⟨φ, a, v, b, rfl, va, e, q⟩ := h
  obtain ⟨u, w, rfl, ru, rw'⟩ := vals2 rs
  cases rw'
  cases va with
  | non =>
    cases ru
    refine isi_go I PySem.W.kitx_none True.intro (kit_all t "NoneType" (by decide)) (fun z => nomatch z) ?_
    cases t <;> (cases e; exact q)
  | bl y =>
    cases ru
    refine isi_go I PySem.W.kitx_bool True.intro (kit_all t "bool" (by decide)) (fun z => nomatch z) ?_
    cases t <;> (cases e; exact q)
  | int y =>
    obtain ⟨tk, rfl⟩ := ru
    refine isi_go I PySem.W.kitx_int True.intro (kit_all t "int" (by decide)) (fun z => nomatch z) ?_
    cases t <;> (cases e; exact q)
  | str y =>
    obtain ⟨tk, rfl⟩ := ru
    refine isi_go I PySem.W.kitx_str True.intro (kit_all t "str" (by decide)) (fun z => nomatch z) ?_
    cases t <;> (cases e; exact q)
  | @tup xs a ws h1 r =>
    cases ru
    obtain ⟨its, _, ⟨o, ho, hc, _⟩, _⟩ := I.tuple (h1.sq (K := X.K))
    refine isi_go I PySem.W.kitx_tuple ⟨o, ho, hc⟩ (kit_all t "tuple" (by decide)) (fun z => nomatch z) ?_
    cases t <;> (cases e; exact q)
  | @lst xs a ws h1 r =>
    cases ru
    obtain ⟨_, its, n, _, _, ho⟩ := lstR I h1
    refine isi_go I PySem.W.kitx_list ⟨_, ho, rfl⟩ (kit_all t "list" (by decide)) (fun z => nomatch z) ?_
    cases t <;> (cases e; exact q)
  | dct h1 r r' =>
    cases ru
    obtain ⟨_, _, es, ep, ⟨o, ho, hx, _⟩, _⟩ := DAt.raw I h1
    refine isi_go I PySem.W.kitx_dict ⟨o, ho, hx.1⟩ (kit_all t "dict" (by decide)) (fun z => nomatch z) ?_
    cases t <;> (cases e; exact q)
  | ref => cases e
/-! ### items -/
theorem atI_rep {xs : List T} {vs : List V} {i : Int} {z : T} (r : Reps M φ H xs vs) (e : atI xs i = some z) : ∃ v, atI vs i = some v ∧ Rep M φ H z v := by
  unfold atI at e ⊢
  rw [r.length] at e
  obtain ⟨j, e1, e2⟩ := Option.bind_eq_some_iff.mp e
  obtain ⟨v, e3, rv⟩ := r.get e2
  exact ⟨v, by rw [e1]; exact e3, rv⟩
def rIdx (M : Mo) : R2 := fun x y H Q => ∃ φ S a b z, Wd M φ S H ∧ View M φ H a x ∧ Rep M φ H b y ∧ idxT a b = some z ∧ ∀ v, Rep M φ H z v → Q v H
theorem ix_any (hM : XM M X) (hr : X.A.units + 9 < cLine) : IxR X (rIdx M) := by
  intro value slice pins s σ H x y v u Q I rx ry h hs
  obtain ⟨φ, S, a, b, z, w, va, rb, e, q⟩ := h
  unfold idxT at e
  split at e
  · obtain ⟨l, vs, rfl, h1, r1⟩ := va.lst_inv
    obtain ⟨c, e1, rc⟩ := atI_rep r1 e
    cases rb
    exact ix_list value slice pins s σ H _ _ v u Q I rx ry ⟨l, vs, _, c, rfl, rfl, .inl h1, e1, q c rc⟩ hs
  · obtain ⟨l, vs, rfl, h1, r1⟩ := va.tup_inv
    obtain ⟨c, e1, rc⟩ := atI_rep r1 e
    cases rb
    exact ix_tup value slice pins s σ H _ _ v u Q I rx ry ⟨l, vs, _, c, rfl, rfl, h1.sq, e1, q c rc⟩ hs
  · split at e
    · rename_i hz
      obtain ⟨c, e1, rfl⟩ := Option.map_eq_some_iff.mp e
      cases va.str_inv
      cases rb
      exact ix_str value slice pins s σ H _ _ v u Q I rx ry ⟨_, _, c, rfl, rfl, hz, e1, q _ (.str _)⟩ hs
    · cases e
  · split at e
    · rename_i hk
      rw [Bool.and_eq_true] at hk
      obtain ⟨d, kvs, vvs, rfl, h1, r1, r2⟩ := va.dct_inv
      cases rx
      obtain ⟨hty, g⟩ := dict_get hM I hr h1 hk.2 hk.1 r1 r2 rb ry e fun c rc => q c rc
      exact PyProof.Rows.tail_any hty PySem.F.slot_dict_getitem.lookup g hs
    · cases e
  · cases e
/-! ### slices -/
theorem cut_whole {α : Type} {xs : List α} {lo hi : Option Int} (h : HT.sIx xs.length 0 lo = 0 ∧ HT.sIx xs.length xs.length hi = xs.length) : cut xs lo hi = xs := by
  unfold cut
  rw [h.1, h.2, Nat.sub_zero, List.drop_zero, List.take_length]
theorem Reps.cut {xs : List T} {vs : List V} (r : Reps M φ H xs vs) (lo hi : Option Int) : Reps M φ H (PC.cut xs lo hi) (cutV vs lo hi) := by
  unfold PC.cut cutV
  rw [r.length]
  exact (r.drop _).take _
def rSlc (M : Mo) : V → Option Int → Option Int → Hp → VK → Prop := fun x lo hi H Q => ∃ φ S a z, Wd M φ S H ∧ View M φ H a x ∧ slcT a lo hi = some z ∧ FrL M φ S H z Q
theorem sl_any : SlR X (rSlc M) := by
  intro pins s σ H x v vl vu lo hi sl Q I rx hs pl pu h
  obtain ⟨φ, S, a, z, w, va, e, k⟩ := h
  unfold slcT at e
  split at e
  · obtain rfl := Option.some.inj e
    obtain ⟨l, vs, rfl, h1, r1⟩ := va.lst_inv
    exact sl_list pins s σ H _ v vl vu lo hi sl Q I rx hs pl pu ⟨l, vs, rfl, .inl h1, fun p hp => k _ _ hp (r1.cut lo hi)⟩
  · obtain rfl := Option.some.inj e
    obtain ⟨l, vs, rfl, h1, r1⟩ := va.tup_inv
    cases rx
    obtain ⟨its, r, ht, hz⟩ := I.tuple (h1.sq (K := X.K))
    have hlen : its.toArray.size = vs.length := by rw [List.size_toArray]; exact r.length.symm
    refine ⟨"tuple", _, PyProof.Rows.slot_tuple_getitem.lookup, ht.typeIs, ?_⟩
    by_cases hw : HT.sIx its.toArray.size 0 lo = 0 ∧ HT.sIx its.toArray.size its.toArray.size hi = its.toArray.size
    · rw [cut_whole (by rw [r1.length, ← hlen]; exact hw)] at k
      exact getItem_tuple_whole ht hs pl pu hw ⟨.ref l, H, I, rfl, k _ _ (Ext.refl _ _) w (.tup h1 r1)⟩
    · refine HT.getItem_tuple_cut ht hs pl pu hw ⟨.ref s.heap.objs.size, _, tupNew (xs := cutV vs lo hi) (t' := s.toks) I ?_ ?_, rfl, k _ _ (Ext.laid I.fresh) (w.laid I.fresh) (Rep.tupNew w I.fresh rfl rfl (r1.cut lo hi))⟩ (by rw [hlen]; exact hz)
      · rw [hlen]
        exact (r.drop _).take _
      · exact Nat.le_trans (cutV_length _ _ _) hz
  · split at e
    · rename_i hz
      obtain rfl := Option.some.inj e
      cases va.str_inv
      exact sl_str pins s σ H _ v vl vu lo hi sl Q I rx hs pl pu ⟨_, rfl, hz, k _ _ (Ext.refl _ _) w (.str _)⟩
    · cases e
  · cases e
/-! ### methods of built-in types -/
/-- what has the methods -/
inductive MTy (M : Mo) (H : Hp) : String → V → Prop
  | lst {a : Addr} {vs : List V} : Rd H a (.lst vs) → MTy M H "list" (.ref a)
  | tup {a : Addr} {vs : List V} : TupAt H a vs → MTy M H "tuple" (.ref a)
  | dct {a : Addr} {ks : List T} {kvs vvs : List V} : DAt M.P M.w H a ks kvs vvs → MTy M H "dict" (.ref a)
  | str (z : Str) : MTy M H "str" (.str z)
theorem MTy.is (I : L2.Inv X pins σ H s) {T : String} {x : V} {v : Value} (h : MTy M H T x) (r : RelV x v) : s.TypeIs v T ∧ ∀ a, v = .ref a → ∃ ob, s.heap.get? a = some ob ∧ ob.dict = none := by
  cases h with
  | lst h =>
    cases r
    obtain ⟨_, its, n, _, _, e⟩ := lstR I h
    exact ⟨⟨_, e, rfl⟩, fun a e' => by cases e'; exact ⟨_, e, rfl⟩⟩
  | tup h =>
    cases r
    obtain ⟨o, h1, h2, h3⟩ := h
    have e := (I.hok _ _ h1).1
    exact ⟨⟨o, e, h2⟩, fun a e' => by cases e'; exact ⟨o, e, h3⟩⟩
  | dct h =>
    cases r
    obtain ⟨_, _, es, ep, ⟨o, e, hx, _⟩, _⟩ := DAt.raw I h
    exact ⟨⟨o, e, hx.1⟩, fun a e' => by cases e'; exact ⟨o, e, hx.2.1⟩⟩
  | str z =>
    obtain ⟨t, rfl⟩ := r
    exact ⟨typeIs_str s z t, fun _ e => nomatch e⟩
structure MFact (name : Str) (T id : String) : Prop where
  pa : PlainAttrs T
  slot : Slot T name id
  ty : typeOf (.builtin id) = pure (.type "method_descriptor")
def tBMV (X : Cx) (M : Mo) (name : Str) (to : TE) (t : TA) : TE := fun σ H Q => to σ H fun x H1 => ∃ T id r, MFact name T id ∧ MtR X id r ∧ MTy M H1 T x ∧ t σ H1 fun xs H2 => r x xs H2 Q
theorem pe_bmV {o e : Expr} {es : List Expr} {to : TE} {t : TA} {name : Str} {apos cpos : Pos} (ho : PE X o to) (ha : PA X (e :: es) t)
    (hbase : attributeBase o name X.env (eval o X.env) = eval o X.env)
    (hfew : ((backTo cpos (starEach (e :: es) X.env)).all (fun x => !x.1) && (backToKw cpos (keywordEach [] X.env)).all (fun x => x.1.isSome)
      && decide ((e :: es).length + ([] : List Keyword).length + (if ([] : List Keyword).isEmpty then 0 else 1) < 30)) = true)
    (hline : (apos.endLine == cpos.line) = true) (hs : starEach (e :: es) X.env = (false, eval e X.env) :: starEach es X.env) (hplain : (backTo cpos (starEach es X.env)).any (·.1) = false) :
    PE X (.Call (.Attribute o name apos) (e :: es) [] cpos) (tBMV X M name to t) := by
  refine ⟨fun pins s σ H Q I h => ?_⟩
  refine wpAny_Call_method_late hbase hfew hline rfl (thn (ho.run pins s σ H _ I h) fun v s1 ⟨x, H1, I1, r1, T, id, r, mf, hm, ty, q1⟩ => ?_)
  obtain ⟨h1, h2⟩ := ty.is I1 r1
  refine ⟨T, id, mf.pa, mf.slot, mf.ty, h1, h2, ?_⟩
  have hA := ha.run cpos pins s1 σ H1 _ I1 q1
  rw [hs] at hA ⊢
  refine Calls.callWith_builtin (by show (false || (backTo cpos (starEach es X.env)).any (·.1)) = false; rw [hplain]; rfl) (Calls.evalArgs_plain ?_)
  exact thn hA fun us s2 ⟨vs, H2, I2, r2, q2⟩ => hm pins s2 σ H2 x vs v us Q I2 r1 r2 q2
/-! count, index -/
theorem countP_rel {x : V} : ∀ {vs : List V} {us : List Value}, Vals vs us → vs.all flatV = true → us.countP (eqU x) = vs.countP fun y => eqV y x
  | _, _, .nil, _ => rfl
  | _, _, .cons r rs, h => by
    rw [List.all_cons, Bool.and_eq_true] at h
    rw [List.countP_cons, List.countP_cons, countP_rel rs h.2, eqU_of r h.1]
theorem flt_count {a : T} {x : V} (ha : flt a = true) (r : Rep M φ H a x) : ∀ {ts : List T} {vs : List V}, ts.all flt = true → Reps M φ H ts vs → (vs.countP fun y => eqV y x) = ts.countP fun y => eqT y a
  | _, _, _, .nil => rfl
  | _, _, h, .cons q s => by
    rw [List.all_cons, Bool.and_eq_true] at h
    rw [List.countP_cons, List.countP_cons, flt_count ha r h.2 s, flt_eq h.1 ha q r]
def rCntF (M : Mo) (T : String) : V → List V → Hp → VK → Prop := fun x xs H Q => ∃ φ a ts vs y v, x = .ref a ∧ xs = [v] ∧ ((T = "list" ∧ Rd H a (.lst vs)) ∨ (T = "tuple" ∧ TupAt H a vs)) ∧ Reps M φ H ts vs ∧ Rep M φ H y v ∧ flt y = true ∧ ts.all flt = true ∧
  Q (.int (ts.countP fun z => eqT z y)) H
theorem mt_cntL : MtR X "list.count" (rCntF M "list") := by
  intro pins s σ H x xs v us Q I rx rxs h
  obtain ⟨φ, a, ts, vs, y, w, rfl, rfl, hs, r1, ry, fy, ft, q⟩ := h
  rcases hs with ⟨_, hs⟩ | ⟨e, _⟩
  · cases rx
    obtain ⟨u, rfl, ru⟩ := rxs.one
    obtain ⟨_, its, n, rv, hl, ho⟩ := lstR I hs
    have ff := flt_reps ft r1
    refine call_meets PySem.F.slot_list_count ⟨_, ho, rfl⟩ PySem.F.entry_list_count (PySem.F.args_list_count_2 _ _)
      (SeqAt.list_countAt a its.toArray n _ _ u (eqU w)) ⟨ho, fun y hy => mem_eqAt ru (flt_rep fy ry) rv ff y (by simpa using hy), ?_⟩
    refine ⟨.int _, H, I.tok _, ⟨s.toks, rfl⟩, ?_⟩
    rw [countP_rel rv ff, flt_count fy ry ft r1]
    exact q
  · exact absurd e (by decide)
theorem mt_cntT : MtR X "tuple.count" (rCntF M "tuple") := by
  intro pins s σ H x xs v us Q I rx rxs h
  obtain ⟨φ, a, ts, vs, y, w, rfl, rfl, hs, r1, ry, fy, ft, q⟩ := h
  rcases hs with ⟨e, _⟩ | ⟨_, hs⟩
  · exact absurd e (by decide)
  · cases rx
    obtain ⟨u, rfl, ru⟩ := rxs.one
    obtain ⟨its, rv, ⟨⟨cls, dd, data, sl⟩, ho, hc, n, hd⟩, _⟩ := I.tuple (hs.sq (K := X.K))
    simp only at hc hd
    subst hc hd
    have ff := flt_reps ft r1
    refine call_meets PySem.F.slot_tuple_count ⟨_, ho, rfl⟩ PySem.F.entry_tuple_count (PySem.F.args_tuple_count_2 _ _)
      (SeqAt.tuple_countAt a its.toArray n _ _ u (eqU w)) ⟨ho, fun y hy => mem_eqAt ru (flt_rep fy ry) rv ff y (by simpa using hy), ?_⟩
    refine ⟨.int _, H, I.tok _, ⟨s.toks, rfl⟩, ?_⟩
    rw [countP_rel rv ff, flt_count fy ry ft r1]
    exact q
/-- each place's == -/
theorem place_eq {a : T} {x : V} (fa : flt a = true) (ra : Rep M φ H a x) {ts : List T} {vs : List V} {us : List Value} (ft : ts.all flt = true) (r : Reps M φ H ts vs) (rv : Vals vs us) {j : Nat} {u : Value} (h : us[j]? = some u) : ∃ t, ts[j]? = some t ∧ eqU x u = eqT t a := by
  have hj : j < ts.length := by rw [r.length, rv.length]; exact (List.getElem?_eq_some_iff.mp h).1
  obtain ⟨w, h1, r1⟩ := r.get (i := j) (t := ts[j]) (by simp [hj])
  obtain ⟨u', h2, r2⟩ := rv.get h1
  rw [h] at h2; cases h2
  have hm : flt ts[j] = true := List.all_eq_true.mp ft _ (List.getElem_mem hj)
  exact ⟨ts[j], by simp [hj], by rw [eqU_of r2 (flt_rep hm r1), flt_eq hm fa r1 ra]⟩
def rIxF (M : Mo) (T : String) : V → List V → Hp → VK → Prop := fun x xs H Q => ∃ φ a ts vs y v j, x = .ref a ∧ xs = [v] ∧ ((T = "list" ∧ Rd H a (.lst vs)) ∨ (T = "tuple" ∧ TupAt H a vs)) ∧ Reps M φ H ts vs ∧ Rep M φ H y v ∧ flt y = true ∧ ts.all flt = true ∧
  ts.findIdx? (fun z => eqT z y) = some j ∧ Q (.int (j : Nat)) H
theorem mt_ixL : MtR X "list.index" (rIxF M "list") := by
  intro pins s σ H x xs v us Q I rx rxs h
  obtain ⟨φ, a, ts, vs, y, w, j, rfl, rfl, hs, r1, ry, fy, ft, hj, q⟩ := h
  rcases hs with ⟨_, hs⟩ | ⟨e, _⟩
  · cases rx
    obtain ⟨u, rfl, ru⟩ := rxs.one
    obtain ⟨hz, its, n, rv, hl, ho⟩ := lstR I hs
    have ff := flt_reps ft r1
    obtain ⟨hjl, hj1, hj2⟩ := List.findIdx?_eq_some_iff_getElem.mp hj
    have hlen : its.length = ts.length := by rw [← hl, r1.length]
    have line := line63
    refine call_meets PySem.F.slot_list_index ⟨_, ho, rfl⟩ PySem.F.entry_list_index (PySem.F.args_list_index_2 _ _)
      (SeqAt.list_index2_found a its.toArray n _ _ u (fun i => ((its[i]?).map (eqU w)).getD false) j (by simpa [hlen] using hjl) (Nat.zero_le _) (by omega) ?_ ?_) ⟨ho, fun i hi => ?_, ?_⟩
    · have h1 : its[j]? = some its[j] := by simp
      obtain ⟨t, e1, e2⟩ := place_eq fy ry ft r1 rv h1
      rw [h1]
      show eqU w its[j] = true
      rw [e2]
      rw [List.getElem?_eq_getElem hjl] at e1
      cases e1
      exact hj1
    · intro m hm _ hmj
      have h0 : m < its.length := by simpa using hm
      have h1 : its[m]? = some its[m] := by simp
      obtain ⟨t, e1, e2⟩ := place_eq fy ry ft r1 rv h1
      show ((its[m]?).map (eqU w)).getD false = false
      rw [h1]
      show eqU w its[m] = false
      rw [e2]
      rw [List.getElem?_eq_getElem (by omega)] at e1
      cases e1
      have := hj2 m hmj
      simpa using this
    · have h0 : i < its.length := by simpa using hi
      have h1 : its[i]? = some its[i] := by simp
      show SeqAt.EqAt _ _ _ _ (((its[i]?).map (eqU w)).getD false)
      rw [h1]
      exact mem_eqAt ru (flt_rep fy ry) rv ff _ (List.getElem_mem h0)
    · exact ⟨.int _, H, I.tok _, ⟨s.toks, rfl⟩, q⟩
  · exact absurd e (by decide)
theorem mt_ixT : MtR X "tuple.index" (rIxF M "tuple") := by
  intro pins s σ H x xs v us Q I rx rxs h
  obtain ⟨φ, a, ts, vs, y, w, j, rfl, rfl, hs, r1, ry, fy, ft, hj, q⟩ := h
  rcases hs with ⟨e, _⟩ | ⟨_, hs⟩
  · exact absurd e (by decide)
  · cases rx
    obtain ⟨u, rfl, ru⟩ := rxs.one
    obtain ⟨its, rv, ⟨⟨cls, dd, data, sl⟩, ho, hc, n, hd⟩, hz⟩ := I.tuple (hs.sq (K := X.K))
    simp only at hc hd
    subst hc hd
    have ff := flt_reps ft r1
    obtain ⟨hjl, hj1, hj2⟩ := List.findIdx?_eq_some_iff_getElem.mp hj
    have hlen : its.length = ts.length := by rw [← rv.length, r1.length]
    refine call_meets PySem.F.slot_tuple_index ⟨_, ho, rfl⟩ PySem.F.entry_tuple_index (PySem.F.args_tuple_index_2 _ _)
      (SeqAt.tuple_index2_found a its.toArray n _ _ u (fun i => ((its[i]?).map (eqU w)).getD false) j (by simpa [hlen] using hjl) (Nat.zero_le _) (by simpa [hlen] using hjl) ?_ ?_) ⟨ho, fun i hi => ?_, ?_⟩
    · have h1 : its[j]? = some its[j] := by simp
      obtain ⟨t, e1, e2⟩ := place_eq fy ry ft r1 rv h1
      rw [h1]
      show eqU w its[j] = true
      rw [e2]
      rw [List.getElem?_eq_getElem hjl] at e1
      cases e1
      exact hj1
    · intro m hm _ hmj
      have h0 : m < its.length := by simpa using hm
      have h1 : its[m]? = some its[m] := by simp
      obtain ⟨t, e1, e2⟩ := place_eq fy ry ft r1 rv h1
      show ((its[m]?).map (eqU w)).getD false = false
      rw [h1]
      show eqU w its[m] = false
      rw [e2]
      rw [List.getElem?_eq_getElem (by omega)] at e1
      cases e1
      have := hj2 m hmj
      simpa using this
    · have h0 : i < its.length := by simpa using hi
      have h1 : its[i]? = some its[i] := by simp
      show SeqAt.EqAt _ _ _ _ (((its[i]?).map (eqU w)).getD false)
      rw [h1]
      exact mem_eqAt ru (flt_rep fy ry) rv ff _ (List.getElem_mem h0)
    · exact ⟨.int _, H, I.tok _, ⟨s.toks, rfl⟩, q⟩
/-! d.get -/
def rGet (M : Mo) : V → List V → Hp → VK → Prop := fun x xs H Q => ∃ φ S a y ys z, Wd M φ S H ∧ View M φ H a x ∧ Reps M φ H (y :: ys) xs ∧ (∀ ks vs, a = .dct ks vs → kt y = true ∧ ks.all kt = true) ∧ (∃ ks vs, a = .dct ks vs) ∧ (bmT .get1 a (y :: ys) = some z ∨ bmT .get2 a (y :: ys) = some z) ∧ ∀ v, Rep M φ H z v → Q v H
theorem mt_get (hM : XM M X) (hr : X.A.units + 9 < cLine) : MtR X "dict.get" (rGet M) := by
  intro pins s σ H x xs v us Q I rx rxs h
  obtain ⟨φ, S, a, y, ys, z, w, va, r, hk, ⟨ks, ts, rfl⟩, e, q⟩ := h
  obtain ⟨hy, hks⟩ := hk ks ts rfl
  obtain ⟨d, kvs, vvs, rfl, h1, r1, r2⟩ := va.dct_inv
  cases rx
  have hg : (kt y && ks.all kt) = true := by rw [hy, hks]; rfl
  rcases e with e | e
  · unfold bmT at e
    split at e <;> first | (rename_i hm; cases hm; done) | skip
    all_goals first | (rename_i hm1 hm2 hm3; cases hm1; done) | skip
    · rename_i h2 h3
      cases h2; cases h3
      rw [if_pos hg] at e
      cases e
      cases r with
      | cons ry rn =>
        cases rn
        obtain ⟨u, rfl, ru⟩ := rxs.one
        exact dict_get0 hM I hr h1 hks hy r1 r2 ry ru q
    · cases e
  · unfold bmT at e
    split at e <;> first | (rename_i hm; cases hm; done) | skip
    all_goals first | (rename_i hm1 hm2 hm3; cases hm1; done) | skip
    · rename_i h2 h3
      cases h2; cases h3
      rw [if_pos hg] at e
      cases e
      cases r with
      | cons ry rn =>
        cases rn with
        | cons rz rn =>
          cases rn
          obtain ⟨u, w', rfl, ru, rw'⟩ := rxs.two
          exact dict_getOr hM I hr h1 hks hy r1 r2 ry ru rz rw' q
    · cases e
end
end PC
/-! PcTerm: _law_term, called with the exception that is handled. -/
namespace PC
open PySem L2 L2H
def excN : List Str := ["BadMail", "BadLetter", "BadNumber", "BadOrder", "BadPart", "BadRough", "BadDates", "Nothing", "Full", "BadText", "BadFound"]
/-- what is known of a class that is raised -/
structure ExcF (M : Mo) (D : Addr) (c0 : Str) : Prop where
  ec : ExcC M.K D
  mem : c0 ∈ excN
  is : ∀ c ∈ excN, ∃ a, M.mg c = some (.ref a) ∧ PySem.W.kitOne M.K (.ref D) (.ref a) = some (decide (c = c0))
  ve : M.mg "ValueError" = none ∧ PySem.W.kitOne M.K (.ref D) (.type "ValueError") = some true
/-- isinstance of the exception that a pin tells -/
theorem call_isP {X : Cx} {a D : Addr} {oe : Obj} (C : ExcC X.K D) (hp : (a, oe) ∈ X.pn) (hz : Zc (.ref D) none oe) (hf : ∃ vs, oe.data = .fields vs) : CallR X (.builtin "isinstance") (rIsE X.K D a) := by
  intro pins s σ H xs us Q I r h
  obtain ⟨c, cv, b, rfl, hcv, e, q⟩ := h
  rcases r with _ | ⟨rx, rr⟩
  rcases rr with _ | ⟨rt, rr⟩
  cases rr
  cases rx
  have ec := hcv _ rt
  subst ec
  obtain ⟨hget, _⟩ := I.pin (a, oe) (List.mem_append_left _ hp)
  obtain ⟨vs, hv⟩ := hf
  have J : PySem.W.InstAt s.heap a oe D none := by
    obtain ⟨k1, k2, k3, k4⟩ := oe
    obtain ⟨h1, h2⟩ := hz
    dsimp only at h1 h2 hv; subst h1 h2 hv; exact ⟨hget, rfl, rfl, trivial⟩
  exact PySem.W.kia_one (PySem.W.handS_kitx_exc C.hg C.hk C.hs C.hd C.ha C.hn C.ht C.hm) I.kIn J e (fun z => nomatch z) fun tk => ⟨.bl b, H, I.kept (t' := tk) fun _ _ z => z, rfl, q⟩
def isCChk (sc : Scope) (x c : Str) : Expr → Bool
  | .Call (.Name f _) [.Name y _, .Name d _] [] _ => decide (f = ("isinstance" : Str)) && decide (y = x) && decide (d = c) && isGlb (sc.names.lookup f) && isGlb (sc.names.lookup d) && okName d
  | _ => false
def isCsChk (sc : Scope) (x : Str) : List Str → List Expr → Bool
  | [], [] => true
  | c :: cs, e :: es => isCChk sc x c e && isCsChk sc x cs es
  | _, _ => false
def strsChk : List Str → List Expr → Bool
  | [], [] => true
  | c :: cs, .Constant (.str d) _ _ :: es => decide (c = d) && strsChk cs es
  | _, _ => false
section
variable {X : Cx} {M : Mo}
/-- where the term's body stands -/
structure TermX (M : Mo) (D : Addr) (c0 : Str) (a : Addr) (oe : Obj) (X : Cx) : Prop where
  mK : X.K = M.K
  mg : X.mg = M.mg
  f : ExcF M D c0
  hp : (a, oe) ∈ X.pn
  hz : Zc (.ref D) none oe
  hf : ∃ vs, oe.data = .fields vs
  hot : HotC X
  bi : X.mg "isinstance" = none
  bs : X.mg "sum" = none
  bn : X.mg "int" = none
theorem pe_isC {D a : Addr} {c0 c x : Str} {oe : Obj} {e : Expr} (T : TermX M D c0 a oe X) (h : isCChk X.env.scope x c e = true) (hc : c ∈ excN) (hN : X.N[0]? = some x) (hv : Vis X.env.scope x) (dx : (x == ("__debug__" : Str)) = false) (cx : (x == ("__classdict__" : Str)) = false) :
    PE X e (fun σ H Q => σ[0]? = some (some (.ref a)) ∧ Q (.bl (decide (c = c0))) H) ∧ starEach [e] X.env = [(false, eval e X.env)] := by
  unfold isCChk at h
  split at h
  · simp only [Bool.and_eq_true, decide_eq_true_eq] at h
    obtain ⟨⟨⟨⟨⟨rfl, rfl⟩, rfl⟩, g1⟩, g2⟩, g3⟩ := h
    rename_i p0 y p1 d p2 pos
    obtain ⟨ca, e1, e2⟩ := T.f.is d hc
    obtain ⟨n1, n2, n3⟩ := okName_dbg g3
    refine ⟨(pe_callB (call_isP (by rw [T.mK]; exact T.f.ec) T.hp T.hz T.hf) (glb_of g1) T.bi (by decide +kernel) (pa_cons (pe_var (i := 0) hN hv dx cx) (pa_cons (pe_glob (v := .ref ca) (glb_of g2) (by rw [T.mg]; exact e1) rfl n1) pa_nil))).imp fun σ H Q q => ?_, rfl⟩
    exact ⟨_, q.1, _, _, _, rfl, fun u hu => hu, by rw [T.mK]; exact e2, q.2⟩
  · cases h
theorem pa_isCs {D a : Addr} {c0 x : Str} {oe : Obj} (T : TermX M D c0 a oe X) (hN : X.N[0]? = some x) (hv : Vis X.env.scope x) (dx : (x == ("__debug__" : Str)) = false) (cx : (x == ("__classdict__" : Str)) = false) : ∀ {cs : List Str} {es : List Expr}, isCsChk X.env.scope x cs es = true → (∀ c ∈ cs, c ∈ excN) →
    PA X es (fun σ H Q => σ[0]? = some (some (.ref a)) ∧ Q (cs.map fun c => V.bl (decide (c = c0))) H)
  | [], [], _, _ => pa_nil.imp fun σ H Q q => q.2
  | c :: cs, e :: es, h, hm => by
    rw [isCsChk, Bool.and_eq_true] at h
    obtain ⟨h1, h2⟩ := pe_isC T h.1 (hm c List.mem_cons_self) hN hv dx cx
    have hs : starEach (e :: es) X.env = (false, eval e X.env) :: starEach es X.env := by
      cases e <;> first | rfl | (simp [isCChk] at h; done)
    exact (pa_cons h1 (pa_isCs T hN hv dx cx h.2 fun c hc => hm c (List.mem_cons_of_mem _ hc)) hs).imp fun σ H Q q => ⟨q.1, q.1, q.2⟩
  | [], _ :: _, h, _ => by cases h
  | _ :: _, [], h, _ => by cases h
theorem pa_strs : ∀ {cs : List Str} {es : List Expr}, strsChk cs es = true → PA X es (fun _ H Q => Q (cs.map V.str) H)
  | [], [], _ => pa_nil.imp fun σ H Q q => q
  | c :: cs, e :: es, h => by
    cases e <;> first | (simp [strsChk] at h; done) | skip
    rename_i k j p
    cases k <;> first | (simp [strsChk] at h; done) | skip
    rw [strsChk, Bool.and_eq_true, decide_eq_true_eq] at h
    obtain ⟨rfl, h⟩ := h
    exact (pa_cons pe_str (pa_strs h)).imp fun σ H Q q => q
  | [], _ :: _, h => by cases h
  | _ :: _, [], h => by cases h
/-- ("..", e) -/
theorem pe_pairS {z : Str} {j n : Nat} {p pos : Pos} {e : Expr} {t : TE} (he : PE X e t) (hs : starEach [e] X.env = [(false, eval e X.env)]) :
    PE X (.Tuple [.Constant (.str z) j p, e] n pos) (fun σ H Q => t σ H fun v H1 => [V.str z, v].length ≤ sizeLine ∧ ∀ (a : Addr) (ob : Obj), H1 a = none → ob.cls = .type "tuple" → ob.dict = none → Q (.ref a) (upd H1 a (.frz ob (.tup [.str z, v])))) := by
  refine ⟨fun pins st σ H Q I q => ?_⟩
  have ha : PA X [.Constant (.str z) j p, e] (tCons (tC (.str z)) (tCons t tNil)) := pa_cons pe_str (pa_cons he pa_nil hs) (by show _ = (false, _) :: starEach [e] X.env; rw [hs]; exact congrArg _ hs)
  refine wpAny_Tuple_spliced (thn (ha.run pos pins st σ H (fun vs H1 => vs.length ≤ sizeLine ∧ ∀ (a : Addr) (ob : Obj), H1 a = none → ob.cls = .type "tuple" → ob.dict = none → Q (.ref a) (upd H1 a (.frz ob (.tup vs)))) I q) fun us s1 ⟨vs, H1, I1, r1, hz, q1⟩ => ?_)
  exact ⟨by rw [← r1.length]; exact hz, .ref s1.heap.objs.size, _, tupNew (t' := s1.toks) I1 r1 hz, rfl, q1 _ _ I1.fresh rfl rfl⟩
def gB (sc : Scope) (x : Str) : Bool := isGlb (sc.names.lookup x)
def lB (sc : Scope) (x : Str) : Bool := (sc.names.lookup x == some .local)
def compB (sc : Scope) (v : Str) (scope : Scope) : Bool := (match scope.kind with | .function => true | _ => false) && (scope.names.lookup v == some .local) && (scope.names.lookup ("int" : Str) == some .globalImplicit) && scope.names.all fun z => !(z.2 == .free) && !(z.2 == .cell) && (scope.names.lookup z.1 == some z.2)
/-- the text of _law_term -/
def termChk (sc : Scope) : List Stmt → Bool
  | [.Assign [.Name f1 _] (.List l1 _) _, .Assign [.Name f2 _] (.BinOp (.Name f3 _) .Add (.List l2 _) _) _, .Assign [.Name f4 _] (.BinOp (.Name f5 _) .Add (.List l3 _) _) _, .Expr (.Call (.Attribute (.Name f6 _) ap q4) [l4] [] q5) _,
     .Assign [.Name k1 _] (.List s1 _) _, .Assign [.Name k2 _] (.BinOp (.Name k3 _) .Add (.List s2 _) _) _,
     .If (.BoolOp .Or [.Compare (.Call (.Name sm _) [.ListComp (.Call (.Name i1 _) [.Name v1 _] [] _) [⟨.Name v2 _, .Name f7 _, [], 0⟩] scope _] [] _) [.NotEq] [.Constant (.int one) _ _] _, .UnaryOp .Not ve _] _) [.Return (some (.Tuple [.Constant (.str _) _ _, .Constant (.str _) _ _] _ _)) _] [] _,
     .Return (some (.Tuple [.Constant (.str r2) _ _, .Subscript (.Name k4 _) (.Call (.Attribute (.Name f8 _) ix q6) [.Constant (.bool tr) _ _] [] q7) _] _ _)) _] =>
    isCsChk sc "_law_e" (excN.take 4) l1 && isCsChk sc "_law_e" ((excN.drop 4).take 3) l2 && isCsChk sc "_law_e" ((excN.drop 7).take 3) l3 && isCChk sc "_law_e" "BadFound" l4 && strsChk (excN.take 7) s1 && strsChk (excN.drop 7) s2 && isCChk sc "_law_e" "ValueError" ve &&
    [f1, f2, f3, f4, f5, f6, f7, f8].all (fun f => decide (f = "_law_flags")) && [k1, k2, k3, k4].all (fun f => decide (f = "_law_kinds")) && decide (ap = "append") && decide (ix = "index") && decide (sm = "sum") && decide (i1 = "int") && decide (v1 = "_law_flag") && decide (v2 = "_law_flag") && decide (one = 1) && decide (r2 = "refused") && tr &&
    (q4.endLine == q5.line) && (q6.endLine == q7.line) && gB sc "sum" && lB sc "_law_e" && lB sc "_law_flags" && lB sc "_law_kinds" && compB sc "_law_flag" scope
  | _ => false
def termN : List Str := ["_law_e", "_law_flags", "_law_kinds"]
theorem pe_isV {D a : Addr} {c0 x : Str} {oe : Obj} {e : Expr} (T : TermX M D c0 a oe X) (h : isCChk X.env.scope x "ValueError" e = true) (hN : X.N[0]? = some x) (hv : Vis X.env.scope x) (dx : (x == ("__debug__" : Str)) = false) (cx : (x == ("__classdict__" : Str)) = false) :
    PT X e (fun σ H Q => σ[0]? = some (some (.ref a)) ∧ Q true H) := by
  unfold isCChk at h
  split at h
  · simp only [Bool.and_eq_true, decide_eq_true_eq] at h
    obtain ⟨⟨⟨⟨⟨rfl, rfl⟩, rfl⟩, g1⟩, g2⟩, g3⟩ := h
    refine (pt_val (pe_callB (call_isP (by rw [T.mK]; exact T.f.ec) T.hp T.hz T.hf) (glb_of g1) T.bi (by decide +kernel) (pa_cons (pe_var (i := 0) hN hv dx cx) (pa_cons (pe_bltn (v := .ty "ValueError") (glb_of g2) (by rw [T.mg]; exact T.f.ve.1) (by decide +kernel) rfl) pa_nil))) (fun _ => rfl)).imp fun σ H Q q => ?_
    exact ⟨_, q.1, _, _, _, rfl, fun u hu => hu, by rw [T.mK]; exact T.f.ve.2, _, rfl, q.2⟩
  · cases h
def flagsOf (c0 : Str) : List Bool := excN.map fun c => decide (c = c0)
theorem flags_facts {c0 : Str} (h : c0 ∈ excN) : ((flagsOf c0).map fun b => if b = true then (1 : Int) else 0).sum = 1 ∧ ∃ j : Nat, (flagsOf c0)[j]? = some true ∧ (∀ m, m < j → (flagsOf c0)[m]? = some false) ∧ excN[j]? = some c0 := by
  simp only [excN, List.mem_cons, List.mem_nil_iff, or_false] at h
  have key : ∀ c ∈ excN, ((flagsOf c).map fun b => if b = true then (1 : Int) else 0).sum = 1 ∧ (flagsOf c)[(excN.findIdx fun x => decide (x = c))]? = some true ∧ ((List.range (excN.findIdx fun x => decide (x = c))).all fun m => decide ((flagsOf c)[m]? = some false)) = true ∧ excN[(excN.findIdx fun x => decide (x = c))]? = some c := by
    decide +kernel
  have hm : c0 ∈ excN := by simp only [excN, List.mem_cons, List.mem_nil_iff, or_false]; exact h
  obtain ⟨h1, h2, h3, h4⟩ := key c0 hm
  exact ⟨h1, _, h2, fun m hm => of_decide_eq_true (List.all_eq_true.mp h3 m (List.mem_range.mpr hm)), h4⟩
/-- what stood stands; no new tables -/
structure OldH (H0 H : Hp) : Prop where
  k : ∀ b o, H0 b = some o → H b = some o
  t : ∀ b ps, H b = some (.tbl ps) → H0 b = some (.tbl ps)
theorem OldH.upd {H0 H : Hp} {p : Addr} {o : HO} (x : OldH H0 H) (h : H0 p = none) (ho : isTbl o = false) : OldH H0 (upd H p o) := ⟨fun b u e => by rw [upd_ne (ne_of_none e h)]; exact x.k b u e, fun b ps e => by
  by_cases z : b = p
  · subst z; rw [upd_same] at e; cases e; cases ho
  · rw [upd_ne z] at e; exact x.t b ps e⟩
theorem OldH.new {H0 H : Hp} {p : Addr} (x : OldH H0 H) (h : H p = none) : H0 p = none := by
  cases e : H0 p with
  | none => rfl
  | some o => rw [x.k p o e] at h; cases h
theorem vis_l {sc : Scope} {x : Str} (h : lB sc x = true) : Vis sc x := .inl (eq_of_beq h)
theorem loc_l {sc : Scope} {x : Str} (h : lB sc x = true) : Loc sc x := .inl (eq_of_beq h)
theorem term_pss {D a : Addr} {c0 : Str} {oe : Obj} (T : TermX M D c0 a oe X) (hN : X.N = termN) (hfn : ∀ x, X.fn x = true) {body : List Stmt} (h : termChk X.env.scope body = true) :
    ∃ t, PSs X body t ∧ ∀ (D : Ends) (H : Hp), (∀ (H' : Hp) (p : Addr) (ob : Obj), (∀ b o, H b = some o → H' b = some o) → (∀ b ps, H' b = some (.tbl ps) → H b = some (.tbl ps)) → H p = none → H' p = some (.frz ob (.tup [.str "refused", .str c0])) → ob.cls = .type "tuple" → ob.dict = none → D.rt (.ref p) H') → t D (L2.start termN [.ref a]) H := by
  unfold termChk at h
  split at h
  · simp only [Bool.and_eq_true, decide_eq_true_eq] at h
    obtain ⟨⟨⟨⟨⟨⟨⟨⟨⟨⟨⟨⟨⟨⟨⟨⟨⟨⟨⟨⟨⟨⟨⟨⟨h1, h2⟩, h3⟩, h4⟩, h5⟩, h6⟩, h7⟩, hF⟩, hK⟩, rfl⟩, rfl⟩, rfl⟩, rfl⟩, rfl⟩, rfl⟩, rfl⟩, rfl⟩, rfl⟩, e1⟩, e2⟩, g1⟩, g2⟩, g3⟩, g4⟩, g5⟩ := h
    simp only [List.all_cons, List.all_nil, Bool.and_true, Bool.and_eq_true, decide_eq_true_eq] at hF hK
    obtain ⟨rfl, rfl, rfl, rfl, rfl, rfl, rfl, rfl⟩ := hF
    obtain ⟨rfl, rfl, rfl, rfl⟩ := hK
    have v0 : Vis X.env.scope "_law_e" := vis_l g2
    have v1 : Vis X.env.scope "_law_flags" := vis_l g3
    have v2 : Vis X.env.scope "_law_kinds" := vis_l g4
    have n0 : X.N[0]? = some ("_law_e" : Str) := by rw [hN]; rfl
    have n1 : X.N[1]? = some ("_law_flags" : Str) := by rw [hN]; rfl
    have n2 : X.N[2]? = some ("_law_kinds" : Str) := by rw [hN]; rfl
    have nd : X.N.Nodup := by rw [hN]; decide +kernel
    unfold compB at g5
    simp only [Bool.and_eq_true, List.all_eq_true, Bool.not_eq_true', beq_eq_false_iff_ne] at g5
    obtain ⟨⟨⟨c1, c2⟩, c3⟩, c4⟩ := g5
    have ck : ∀ sc : Scope, (match sc.kind with | .function => true | _ => false) = true → sc.kind = .function := fun sc h => by
      cases e : sc.kind <;> rw [e] at h <;> first | rfl | cases h
    have dec1 : (("_law_e" : Str) == ("__debug__" : Str)) = false := by decide +kernel
    have dec2 : (("_law_e" : Str) == ("__classdict__" : Str)) = false := by decide +kernel
    have dec3 : (("_law_flags" : Str) == ("__debug__" : Str)) = false := by decide +kernel
    have dec4 : (("_law_flags" : Str) == ("__classdict__" : Str)) = false := by decide +kernel
    have dec5 : (("_law_kinds" : Str) == ("__debug__" : Str)) = false := by decide +kernel
    have dec6 : (("_law_kinds" : Str) == ("__classdict__" : Str)) = false := by decide +kernel
    refine ⟨_, pss_cons (ps_set (i := 1) nd n1 (loc_l g3) (pe_lst (pa_isCs T n0 v0 dec1 dec2 h1 fun c hc => List.mem_of_mem_take hc)) rfl (.inl (hfn _)))
      (pss_cons (ps_set (i := 1) nd n1 (loc_l g3) (pe_op op_cat (pe_var (i := 1) n1 v1 dec3 dec4) (pe_lst (pa_isCs T n0 v0 dec1 dec2 h2 fun c hc => List.mem_of_mem_drop (List.mem_of_mem_take hc)))) rfl (.inl (hfn _)))
      (pss_cons (ps_set (i := 1) nd n1 (loc_l g3) (pe_op op_cat (pe_var (i := 1) n1 v1 dec3 dec4) (pe_lst (pa_isCs T n0 v0 dec1 dec2 h3 fun c hc => List.mem_of_mem_drop (List.mem_of_mem_take hc)))) rfl (.inl (hfn _)))
      (pss_cons (ps_expr (pe_bm PySem.F.plainAttrs_list PySem.F.slot_list_append PySem.F.type_list_append mt_append (pe_var (i := 1) n1 v1 dec3 dec4) (pa_isCs (cs := ["BadFound"]) T n0 v0 dec1 dec2 (by rw [isCsChk, h4]; rfl) (by decide +kernel)) rfl (by rw [(pe_isC T h4 (by decide +kernel) n0 v0 dec1 dec2).2]; rfl) e1 (pe_isC T h4 (by decide +kernel) n0 v0 dec1 dec2).2 rfl) rfl)
      (pss_cons (ps_set (i := 2) nd n2 (loc_l g4) (pe_lst (pa_strs h5)) rfl (.inl (hfn _)))
      (pss_cons (ps_set (i := 2) nd n2 (loc_l g4) (pe_op op_cat (pe_var (i := 2) n2 v2 dec5 dec6) (pe_lst (pa_strs h6))) rfl (.inl (hfn _)))
      (pss_cons (ps_if (pw_or (pt_cmpR op_ne (pe_callB (call_sumH T.hot) (glb_of g1) T.bs PyProof.Rows.boot_sum (pa_cons (pe_intsH (i := 1) T.hot n1 v1 dec3 dec4 (by decide +kernel) T.bn (ck _ c1) (eq_of_beq c2) (eq_of_beq c3) fun z hz => ⟨(c4 z hz).1.1, (c4 z hz).1.2, eq_of_beq (c4 z hz).2⟩) pa_nil)) pe_int (nomark _)) (pw_or1 (pt_not (pe_isV T h7 n0 v0 dec1 dec2)))).pt
          (pss_one (ps_ret (pe_tup (pa_cons pe_str (pa_cons pe_str pa_nil))))) pss_nil)
      (pss_one (ps_ret (pe_pairS (pe_ix ix_list (pe_var (i := 2) n2 v2 dec5 dec6) (pe_bm PySem.F.plainAttrs_list PySem.F.slot_list_index PySem.F.type_list_index mt_index (pe_var (i := 1) n1 v1 dec3 dec4) (pa_cons pe_bl pa_nil) rfl rfl e2 rfl rfl) (fun _ _ => rfl)) rfl))))))))), fun D H hq => ?_⟩
    have lz : ∀ n : Nat, n ≤ 20 → n ≤ sizeLine := fun n h => by rw [sizeLine_eq]; omega
    refine ⟨rfl, lz _ (by simp [excN]), fun l1 hl1 => ?_⟩
    have o1 : OldH H _ := (OldH.mk (H0 := H) (H := H) (fun _ _ e => e) fun _ _ e => e).upd (o := .lst ((excN.take 4).map fun c => V.bl (decide (c = c0)))) hl1 rfl
    have f1 : upd H l1 (.lst ((excN.take 4).map fun c => V.bl (decide (c = c0)))) l1 = some (.lst ((excN.take 4).map fun c => V.bl (decide (c = c0)))) := upd_same
    generalize upd H l1 (.lst ((excN.take 4).map fun c => V.bl (decide (c = c0)))) = H1 at o1 f1
    refine ⟨.ref l1, rfl, rfl, lz _ (by simp [excN]), fun l2 hl2 => ⟨l1, l2, _, _, rfl, rfl, (upd_ne (ne_of_none f1 hl2)).trans f1, upd_same, lz _ (by simp [excN]), fun l3 hl3 => ?_⟩⟩
    have o2 := (o1.upd (o := .lst (((excN.drop 4).take 3).map fun c => V.bl (decide (c = c0)))) (o1.new hl2) rfl)
    have o3 := o2.upd (o := .lst (((excN.take 4).map fun c => V.bl (decide (c = c0))) ++ (((excN.drop 4).take 3).map fun c => V.bl (decide (c = c0))))) (o2.new hl3) rfl
    generalize hH3 : upd (upd H1 l2 _) l3 _ = H3 at o3 ⊢
    have f3 : H3 l3 = some (.lst (((excN.take 4).map fun c => V.bl (decide (c = c0))) ++ (((excN.drop 4).take 3).map fun c => V.bl (decide (c = c0))))) := by rw [← hH3]; exact upd_same
    clear hH3 hl3 o2 hl2 o1 f1
    refine ⟨.ref l3, rfl, rfl, lz _ (by simp [excN]), fun l4 hl4 => ⟨l3, l4, _, _, rfl, rfl, (upd_ne (ne_of_none f3 hl4)).trans f3, upd_same, lz _ (by simp [excN]), fun l5 hl5 => ?_⟩⟩
    have o4 := (o3.upd (o := .lst (((excN.drop 7).take 3).map fun c => V.bl (decide (c = c0)))) (o3.new hl4) rfl)
    have n5 := o4.new hl5
    have o5 := o4.upd (o := .lst ((((excN.take 4).map fun c => V.bl (decide (c = c0))) ++ (((excN.drop 4).take 3).map fun c => V.bl (decide (c = c0)))) ++ (((excN.drop 7).take 3).map fun c => V.bl (decide (c = c0))))) n5 rfl
    generalize hH5 : upd (upd H3 l4 _) l5 _ = H5 at o5 ⊢
    have f5 : H5 l5 = some (.lst ((((excN.take 4).map fun c => V.bl (decide (c = c0))) ++ (((excN.drop 4).take 3).map fun c => V.bl (decide (c = c0)))) ++ (((excN.drop 7).take 3).map fun c => V.bl (decide (c = c0))))) := by rw [← hH5]; exact upd_same
    clear hH5 hl5 o4 hl4 o3 f3
    refine ⟨.ref l5, rfl, .inl ⟨rfl, _, .inl (.inl f5)⟩, rfl, l5, _, _, rfl, rfl, f5, by rw [sizeLine_eq]; simp [excN], ?_⟩
    have eF : ((((excN.take 4).map fun c => V.bl (decide (c = c0))) ++ (((excN.drop 4).take 3).map fun c => V.bl (decide (c = c0)))) ++ (((excN.drop 7).take 3).map fun c => V.bl (decide (c = c0)))) ++ [V.bl (decide ("BadFound" = c0))] = (flagsOf c0).map V.bl := rfl
    rw [eF]
    have o6 := o5.upd (o := .lst ((flagsOf c0).map V.bl)) n5 rfl
    have f6 : upd H5 l5 (.lst ((flagsOf c0).map V.bl)) l5 = some (.lst ((flagsOf c0).map V.bl)) := upd_same
    generalize upd H5 l5 (.lst ((flagsOf c0).map V.bl)) = H6 at o6 f6 ⊢
    clear eF o5 f5
    refine ⟨lz _ (by simp [excN]), fun k1 hk1 => ?_⟩
    have o7 := o6.upd (o := .lst ((excN.take 7).map V.str)) (o6.new hk1) rfl
    have f7 := (upd_ne (o := .lst ((excN.take 7).map V.str)) (ne_of_none f6 hk1)).trans f6
    have g7 : upd H6 k1 (.lst ((excN.take 7).map V.str)) k1 = some (.lst ((excN.take 7).map V.str)) := upd_same
    generalize upd H6 k1 (.lst ((excN.take 7).map V.str)) = H7 at o7 f7 g7 ⊢
    clear f6 o6 hk1
    refine ⟨.ref k1, rfl, lz _ (by simp [excN]), fun k2 hk2 => ⟨k1, k2, _, _, rfl, rfl, (upd_ne (ne_of_none g7 hk2)).trans g7, upd_same, lz _ (by simp [excN]), fun k3 hk3 => ?_⟩⟩
    have o8 := o7.upd (o := .lst ((excN.drop 7).map V.str)) (o7.new hk2) rfl
    have f8 := (upd_ne (o := .lst ((excN.drop 7).map V.str)) (ne_of_none f7 hk2)).trans f7
    have eK : (excN.take 7).map V.str ++ (excN.drop 7).map V.str = excN.map V.str := rfl
    rw [eK]
    have o9 := o8.upd (o := .lst (excN.map V.str)) (o8.new hk3) rfl
    have f9 := (upd_ne (o := .lst (excN.map V.str)) (ne_of_none f8 hk3)).trans f8
    generalize hH9 : upd (upd H7 k2 _) k3 _ = H9 at o9 f9 ⊢
    have g9 : H9 k3 = some (.lst (excN.map V.str)) := by rw [← hH9]; exact upd_same
    clear hH9 hk3 f8 o8 hk2 g7 f7 o7 eK
    obtain ⟨s1, j, t1, t2, t3⟩ := flags_facts T.f.mem
    refine ⟨l5, _, rfl, f9, fun p hp => ⟨p, _, rfl, .inl (.inl upd_same), rfl, _, rfl, ?_⟩⟩
    rw [s1]
    show (if (!decide (V.int 1 = V.int 1)) = true then _ else _)
    rw [if_neg (by simp)]
    refine ⟨rfl, ?_⟩
    show (if (!true) = true then _ else _)
    rw [if_neg (by simp)]
    have o10 := o9.upd (o := .lst (((flagsOf c0).map fun b => if b = true then (1 : Int) else 0).map V.int)) (o9.new hp) rfl
    have f10 := (upd_ne (o := .lst (((flagsOf c0).map fun b => if b = true then (1 : Int) else 0).map V.int)) (ne_of_none f9 hp)).trans f9
    have g10 := (upd_ne (o := .lst (((flagsOf c0).map fun b => if b = true then (1 : Int) else 0).map V.int)) (ne_of_none g9 hp)).trans g9
    generalize upd H9 p (.lst (((flagsOf c0).map fun b => if b = true then (1 : Int) else 0).map V.int)) = H10 at o10 f10 g10 ⊢
    clear f9 g9 o9 hp
    refine ⟨.ref k3, rfl, .ref l5, rfl, .inl ⟨rfl, _, .inl (.inl f10)⟩, l5, _, .bl true, j, .bl true, rfl, rfl, .inl (.inl f10), rfl, ?_, by rw [List.getElem?_map, t1]; rfl, rfl, fun m z' hm hz => ?_, ?_⟩
    · rw [List.all_map]; exact List.all_eq_true.mpr fun _ _ => rfl
    · rw [List.getElem?_map, t2 m hm] at hz
      cases hz
      rfl
    · refine ⟨k3, _, (j : Nat), .str c0, rfl, rfl, .inl (.inl g10), ?_, lz _ (by simp), fun q ob hq1 hq2 hq3 => ?_⟩
      · rw [show L2.atI (excN.map V.str) ((j : Nat) : Int) = (excN.map V.str)[j]? from ?_, List.getElem?_map, t3]
        · rfl
        · unfold L2.atI L2.ixN
          by_cases hj : j < (excN.map V.str).length
          · rw [if_pos (by omega), if_pos (by omega)]; simp
          · rw [if_pos (by omega), if_neg (by omega), List.getElem?_eq_none (by omega)]; rfl
      · have o11 := o10.upd (o := .frz ob (.tup [.str "refused", .str c0])) (o10.new hq1) rfl
        exact hq _ q ob o11.k o11.t (o10.new hq1) upd_same hq2 hq3
  · cases h
end
end PC
/-! PcTold: _law_told(lambda: e): the value of e, or what _law_term makes of the refusal. -/
namespace PC
open PySem PySem.Spec PyProof.Rows L2 L2H LamX
/-! ### _law_term's call in the suite -/
/-- what is known of a def of the text -/
structure TermD (M : Mo) (x : Str) (N ps : List Str) (st : Stmt) (g : Addr) (fd : FuncData) : Prop where
  F : Fun M.K x x st g fd
  S : FnScope N ps (defScope st)
  mg : M.mg x = some (.ref g)
  B : Binds M.K fd ps []
/-- _law_term called while p is handled -/
theorem term_run {M : Mo} {g D : Addr} {fd : FuncData} {st : Stmt} {c0 : Str} {N : List Str} {P : Program} {w : World} {base : Heap} (T : TermD M "_law_term" termN ["_law_e"] st g fd) (hc : termChk (defScope st) (defBody st) = true) (f : ExcF M D c0) {A : Around} {outer : List Env} {s : Shared} {H : Hp} {args : Args} {us : List Value} {p : Addr × Obj} {Q : VK} {E : XK}
    (hb1 : M.mg "isinstance" = none ∧ M.mg "sum" = none ∧ M.mg "int" = none) (hr : RoomH 1 A) (hot : Hot1 A p) (hz : Zc (.ref D) none p.2) (hpin : PinOk outer H s p) (e0 : Env0 P w M.K M.mg base A outer s H) (hb : BindsTo s fd args ((["_law_e"] : List Str).zip us)) (r : Vals [.ref p.1] us)
    (hq : ∀ (H' : Hp) (q : Addr) (ob : Obj), OldH H H' → H q = none → H' q = some (.frz ob (.tup [.str "refused", .str c0])) → ob.cls = .type "tuple" → ob.dict = none → Q (.ref q) H') :
    codeAny (model P w) A (.call (.ref g) args) (CR C8.CX0 outer P w H s Q E) s := by
  obtain ⟨oc, od, kV, doc, pm, an, cdv, ct, osl, rfl, lk, hcd⟩ := T.F.ex
  have KX : M.K.In s.heap := e0.mod.kin.keeps fun b o e => (e0.bs b o e).1
  have li : s.heap.NoLimit := e0.mod.nolimit.keeps fun b o e => (e0.bs b o e).1
  have hl : ([V.ref p.1] : List V).length = (["_law_e"] : List Str).length := rfl
  have hk : ∀ y ∈ (["_law_e"] : List Str).zip us, (defScope st).names.lookup y.1 = some .local ∨ ((defScope st).names.lookup y.1 = some .cell ∧ ((cellsFrom (s.heap.objs.size + 1) (defScope st).names []).lookup y.1).isSome = true) := fun y hy => by
    rcases T.S.par y.1 (List.of_mem_zip (a := y.1) (b := y.2) hy).1 with z | z
    · exact .inl z
    · exact .inr ⟨z, PySem.W.cellsFrom_some _ _ _ (.inl z)⟩
  refine codeAny_call_function hr.depth (KX _ _ lk) rfl T.S.co T.S.gen rfl (PySem.W.codeRec_of KX hcd) (hb _ _ _ _ (wpAny_newFunctionEnv_cells T.S.kind hk fun env he s1 x => ?_))
  subst he
  refine ⟨li.keeps x.toInCall.keep, codeAny_func ?_⟩
  obtain ⟨vs, hvs, hv2⟩ := hot.2
  have TX : TermX M D c0 p.1 p.2 (cxH C8.CX0 P w M.K M.mg base termN "_law_term" (defScope st) g cdv A outer s H E p) := ⟨rfl, rfl, f, List.mem_singleton_self _, hz, ⟨vs, hvs⟩, ⟨p, ⟨hot.1, hot.2⟩, List.mem_singleton_self _⟩, hb1.1, hb1.2.1, hb1.2.2⟩
  obtain ⟨t, ht, hq'⟩ := term_pss TX rfl (fun _ => rfl) (body := defBody st) hc
  have I : Inv (cxH C8.CX0 P w M.K M.mg base termN "_law_term" (defScope st) g cdv A outer s H E p) [] (L2.start termN [.ref p.1]) H s1 := inv_startH T.S hpin e0 hl r x
  refine wpAny_mono (ht.run [] s1 (L2.start termN [.ref p.1]) H { nx := fun _ _ => False, rt := Q } I (hq' _ H fun H' q ob k1 k2 nq e1 e2 e3 => hq H' q ob ⟨k1, k2⟩ nq e1 e2 e3)) (fun fl s' hs => ?_) fun e s' hs => hs
  cases fl with
  | ret u =>
    obtain ⟨v, σ', H', J, rv, q⟩ := hs
    exact ⟨v, H', J.os, J.bare, J.base, J.hok, rv, q⟩
  | next => obtain ⟨_, _, _, q⟩ := hs; exact q.elim
  | brk => obtain ⟨_, _, _, q⟩ := hs; exact q.elim
  | cont => obtain ⟨_, _, _, q⟩ := hs; exact q.elim
/-- the suite: return _law_term(e) -/
theorem pe_term {M : Mo} {g : Addr} {fd : FuncData} {st : Stmt} {X : Cx} {a : Addr} {oe : Obj} {p1 p2 pos : Pos} {i : Nat} (T : TermD M "_law_term" termN ["_law_e"] st g fd) (hc : termChk (defScope st) (defBody st) = true) (hb1 : M.mg "isinstance" = none ∧ M.mg "sum" = none ∧ M.mg "int" = none)
    (mK : X.K = M.K) (mm : X.mg = M.mg) (hg : Gl X "_law_term") (hN : X.N[i]? = some ("_law_e" : Str)) (hv : Vis X.env.scope "_law_e") (hr : RoomH 1 X.A) (hh : X.A.handled = some (.ref a)) (hp : (a, oe) ∈ X.pn) {cls : Value} {d : Option Addr} (hz : L2N.Zn cls d oe) (hf : ∃ vs, oe.data = .fields vs) :
    PE X (.Call (.Name "_law_term" p1) [.Name "_law_e" p2] [] pos) (fun σ H Q => ∃ (D : Addr) (c0 : Str), cls = .ref D ∧ d = none ∧ ExcF M D c0 ∧ (σ.length = X.N.length → σ[i]? = some (some (.ref a))) ∧ ∀ (H' : Hp) (q : Addr) (ob : Obj), OldH H H' → H q = none → H' q = some (.frz ob (.tup [.str "refused", .str c0])) → ob.cls = .type "tuple" → ob.dict = none → Q (.ref q) H') := by
  refine ⟨fun pins s σ H Q I h => ?_⟩
  obtain ⟨D, c0, rfl, rfl, f, hs, hq⟩ := h
  refine wpAny_Call_Name_kw (ld_glob I hg (by rw [mm]; exact T.mg) ?_ (by decide +kernel))
  refine PySem.W.callWith_K (h₀ := X.base) I.ok.mod.kin (by rw [mK]; exact T.F.kp) (thn ((pa_cons (pe_var (pos := p2) hN hv (by decide +kernel) (by decide +kernel)) pa_nil).run pos pins s σ H (fun vs H1 => vs = [.ref a] ∧ H1 = H) I ⟨.ref a, hs I.len, rfl, rfl⟩) fun us s1 ⟨vs, H1, I1, r, q⟩ => ⟨I1.kIn, ?_⟩) rfl rfl
  obtain ⟨rfl, rfl⟩ := q
  obtain ⟨vd, hvd⟩ := hf
  have hot : Hot1 X.A (a, oe) := ⟨hh, vd, hvd, hz.2.2 vd hvd⟩
  have P1 := I1.pin (a, oe) (List.mem_append_left _ hp)
  have hpin : PinOk X.stack H1 s1 (a, oe) := ⟨P1.1, P1.2.1, fun hm => (List.mem_cons.mp (I1.stkSub a hm)).elim P1.2.2.1 P1.2.2.2.1, P1.2.2.2.2⟩
  have e0 := I1.env0
  rw [mK, mm] at e0
  have hlen : us.length = (["_law_e"] : List Str).length := by rw [← r.length]; rfl
  have kin := I1.kIn
  rw [mK] at kin
  have b := T.B s1 us kin (by rw [List.append_nil]; exact hlen)
  rw [List.append_nil] at b
  refine wpAny_call (codeAny_mono (term_run (E := fun _ _ _ => False) (args := ⟨us, []⟩) (N := termN) T hc f hb1 hr hot hz.zc hpin e0 b r hq) fun rr s' hqq => ?_)
  cases rr with
  | error e => exact (show False from hqq).elim
  | ok fl =>
    cases fl with
    | ret u => exact I1.after hqq
    | next => exact False.elim hqq
    | brk => exact False.elim hqq
    | cont => exact False.elim hqq
/-! ### the lambda -/
/-- the lambda's body, its exceptions with no context -/
abbrev lamN (X : Cx) (A : Around) (outer : List Env) (s : Shared) (H : Hp) (E : XK) (scope : Scope) (f c' : Addr) : Cx :=
  (lamCx X A outer s H E scope f c').tr [] (fun e s' => wpAny (model X.prog X.w) (A.deeper (lamEnv X scope s.heap.objs.size f c')) (leaving (lamEnv X scope s.heap.objs.size f c') e) (fun _ s2 => L2N.CX X.prog X.w outer H s E e s2) (fun e2 s2 => L2N.CX X.prog X.w outer H s E e2 s2) s')
theorem lamN_takes {X : Cx} {A : Around} {outer : List Env} {s : Shared} {H : Hp} {E : XK} {scope : Scope} {f c' : Addr} : L2N.Takes (lamN X A outer s H E scope f c') (fun cls d _ H => E cls d H) := L2N.takes_of rfl rfl rfl rfl
section
variable {X : Cx} {pins : List (Addr × Obj)} {σ : L2.St} {H : Hp} {s : Shared}
/-- the def that got the lambda calls it -/
theorem pe_actN {CXg : CXT} {Eg : XK} {Ng : List Str} {qg : Str} {sg : Scope} {g f c' : Addr} {cdg pm ctv : Value} {params : Arguments} {body : Expr} {scope : Scope} {k i : Nat} {a : Str} {pn : List (Addr × Obj)} {xe : Value → Shared → Prop} {W : WX} {E : XK} {tb : TE} {p1 p2 : Pos}
    (I : Inv X pins σ H s) (L : LamS X.env.scope scope) (hf : s.heap.get? f = some (PySem.W.kla_obj "<lambda>" (X.env.qual ++ "<lambda>") params body scope (cloFrom X.env.cells scope.names []) pm c' ctv)) (hfn : H f = none) (hfr : f ∉ frs X.stack)
    (bd : bindArgs (PySem.W.kla_fn "<lambda>" (X.env.qual ++ "<lambda>") params body scope (cloFrom X.env.cells scope.names []) pm (.ref c') ctv) ⟨[], []⟩ = pure [])
    (tk : L2N.Takes ((cxOf CXg X.prog X.w X.K X.mg X.base Ng qg sg g cdg X.A X.stack s H Eg).tr pn xe) W) (hW : ∀ cls d σ' H', E cls d H' → W cls d σ' H') (hr : Room (k + 1) (X.A.deeper (envOfC qg sg s.heap.objs.size g cdg)))
    (hbody : ∀ (A : Around) (outer : List Env) (s : Shared) (H : Hp), Room k (A.deeper (lamEnv X scope s.heap.objs.size f c')) → PE (lamN X A outer s H E scope f c') body tb)
    (hN : Ng[i]? = some a) (hv : Vis sg a) (hd : (a == ("__debug__" : Str)) = false) (hcd : (a == ("__classdict__" : Str)) = false) :
    PE ((cxOf CXg X.prog X.w X.K X.mg X.base Ng qg sg g cdg X.A X.stack s H Eg).tr pn xe) (.Call (.Name a p1) [] [] p2)
      (fun σZ HZ Q => σZ[i]? = some (some (.ref f)) ∧ HZ c' = some (CodeO c' (X.env.qual ++ "<lambda>")) ∧ tb σ HZ Q) := by
  refine ⟨fun pinsZ sZ σZ HZ Q IZ h => ?_⟩
  obtain ⟨hs, hc, ht⟩ := h
  refine wpAny_Call_Name_kw (thn ((pe_var (pos := p1) (i := i) hN hv hd hcd).run pinsZ sZ σZ HZ (fun v H1 => v = .ref f ∧ H1 = HZ) IZ ⟨.ref f, hs, rfl, rfl⟩) fun u t1 ⟨v, H1, I1, r1, q1⟩ => ?_)
  obtain ⟨rfl, rfl⟩ := q1
  obtain rfl : u = Value.ref f := r1
  have of1 : t1.heap.get? f = some (PySem.W.kla_obj "<lambda>" (X.env.qual ++ "<lambda>") params body scope (cloFrom X.env.cells scope.names []) pm c' ctv) := I1.base.keep f _ hf hfn hfr fun z => nomatch (show f ∈ ([] : List Addr) from z)
  obtain ⟨⟨oc, vs, t, hoc, hdc, hvc⟩, _, _⟩ := I1.hok c' _ hc
  have kp0 : Un (frs X.stack) [] H H1 s.heap t1.heap := I1.base
  refine PySem.W.callWith_F0 ⟨_, _, _, _, of1⟩ ?_
  have rc : codeAny (model X.prog X.w) (X.A.deeper (envOfC qg sg s.heap.objs.size g cdg)) (.call (.ref f) ⟨[], []⟩) (CR (L2N.CX X.prog X.w) (envOfC qg sg s.heap.objs.size g cdg :: X.stack) X.prog X.w H1 t1 Q E) t1 := by
    refine PySem.W.kla_callFunE hr.depth of1 rfl L.co L.gen rfl ⟨c', oc, vs, t, rfl, hoc, hdc, hvc⟩ ?_
    rw [bd]
    refine wpAny_pure (wpAny_newFunctionEnv (fun y hy => (L.own y hy).2) (fun y hy => absurd hy (by simp)) (fun h1 hns hsb => ⟨I1.nolimit.fresh _ hsb, ?_⟩) L.kind)
    have kp : ∀ b o, t1.heap.get? b = some o → h1.get? b = some o := fun b o e => hsb.extBut b o (Nat.ne_of_lt (Heap.lt_size e)) (Heap.get?_push_of_some _ e)
    have J := lam_start2 (E := E) (f := f) (c' := c') (tk := t1.toks + ([] : List (Str × Value)).length) I L I1.env0 hr.hd kp0 hns kp
    have J2 := J.toTry (fun e s' => wpAny (model X.prog X.w) ((X.A.deeper (envOfC qg sg s.heap.objs.size g cdg)).deeper (lamEnv X scope t1.heap.objs.size f c')) (leaving (lamEnv X scope t1.heap.objs.size f c') e) (fun _ s2 => L2N.CX X.prog X.w (envOfC qg sg s.heap.objs.size g cdg :: X.stack) H1 t1 E e s2) (fun e2 s2 => L2N.CX X.prog X.w (envOfC qg sg s.heap.objs.size g cdg :: X.stack) H1 t1 E e2 s2) s')
    refine PySem.W.kla_codeExpr (wpAny_mono ((hbody _ (envOfC qg sg s.heap.objs.size g cdg :: X.stack) t1 H1 (hr.deeper _)).run [] _ _ H1 Q J2 ht) (fun v s' hq => ?_) fun e s' hq => hq)
    obtain ⟨w', H', J', rv, q⟩ := hq
    exact ⟨w', H', J'.os, J'.bare, J'.base, J'.hok, rv, q⟩
  have hx : Passes (L2N.CX X.prog X.w) ((cxOf CXg X.prog X.w X.K X.mg X.base Ng qg sg g cdg X.A X.stack s H Eg).tr pn xe) E := L2N.passes_call tk hW
  refine wpAny_call (codeAny_mono rc fun r s' hq => ?_)
  cases r with
  | error e => exact hx pinsZ σZ H1 t1 e s' I1 hq
  | ok fl =>
    cases fl with
    | ret u => exact I1.after hq
    | next => exact False.elim hq
    | brk => exact False.elim hq
    | cont => exact False.elim hq
end
/-! ### _law_told -/
def toldN : List Str := ["_law_deed", "_law_e"]
def toldChk (sc : Scope) : List Stmt → Bool
  | [.Try [.Return (some (.Call (.Name a _) [] [] _)) _] [.ExceptHandler (some (.Name m _)) (some n) [.Return (some (.Call (.Name t _) [.Name n2 _] [] _)) _] _] [] [] _] =>
    decide (a = "_law_deed") && decide (m = "MailError") && decide (n = "_law_e") && decide (t = "_law_term") && decide (n2 = "_law_e") && gB sc "MailError" && gB sc "_law_term" && lB sc "_law_deed" && lB sc "_law_e"
  | _ => false
/-- the text's three things -/
structure ToldT (M : Mo) : Prop where
  ex : ∃ (g gt CS : Addr) (fd fdt : FuncData) (st stt : Stmt), TermD M "_law_told" toldN ["_law_deed"] st g fd ∧ TermD M "_law_term" termN ["_law_e"] stt gt fdt ∧ toldChk (defScope st) (defBody st) = true ∧ termChk (defScope stt) (defBody stt) = true ∧ M.mg "MailError" = some (.ref CS) ∧
    ∀ c D, M.exc c = some D → ExcF M D c ∧ PySem.W.exmOne M.K (.ref D) (.ref CS) = some true
  b : M.mg "isinstance" = none ∧ M.mg "sum" = none ∧ M.mg "int" = none
/-- what the wish of a refusal is: its class is one of the text's, the told pair comes -/
def toldE (M : Mo) (Q : VK) : XK := fun cls d H => ∃ (D : Addr) (c0 : Str), cls = .ref D ∧ d = none ∧ M.exc c0 = some D ∧ ∀ (H' : Hp) (q : Addr) (ob : Obj), OldH H H' → H q = none → H' q = some (.frz ob (.tup [.str "refused", .str c0])) → ob.cls = .type "tuple" → ob.dict = none → Q (.ref q) H'
theorem told_pss {M : Mo} {X : Cx} {f c' : Addr} {tl : XK → Hp → VK → Prop} {q : Str} {gt CS : Addr} {fdt : FuncData} {stt : Stmt} {body : List Stmt} (Tt : TermD M "_law_term" termN ["_law_e"] stt gt fdt) (hct : termChk (defScope stt) (defBody stt) = true) (hCS : M.mg "MailError" = some (.ref CS))
    (hx : ∀ c D, M.exc c = some D → ExcF M D c ∧ PySem.W.exmOne M.K (.ref D) (.ref CS) = some true) (hb1 : M.mg "isinstance" = none ∧ M.mg "sum" = none ∧ M.mg "int" = none) (h : toldChk X.env.scope body = true) (mK : X.K = M.K) (mm : X.mg = M.mg) (hN : X.N = toldN) (hs : X.stack = X.env :: X.outer) (hfr : X.env.frame = some X.env.locals) (hr : RoomH 1 X.A)
    (act : ∀ (W : WX) (pn : List (Addr × Obj)) (xe : Value → Shared → Prop) (E : XK) (p1 p2 : Pos), L2N.Takes (X.tr pn xe) W → (∀ cls d σ' H', E cls d H' → W cls d σ' H') → PE (X.tr pn xe) (.Call (.Name "_law_deed" p1) [] [] p2) (fun σZ HZ Q => σZ[0]? = some (some (.ref f)) ∧ HZ c' = some (CodeO c' q) ∧ tl E HZ Q)) :
    ∃ t, PSs X body t ∧ ∀ (D : Ends) (H : Hp), H c' = some (CodeO c' q) → tl (toldE M D.rt) H D.rt → t D (L2.start toldN [.ref f]) H := by
  unfold toldChk at h
  split at h
  · simp only [Bool.and_eq_true, decide_eq_true_eq] at h
    obtain ⟨⟨⟨⟨⟨⟨⟨⟨rfl, rfl⟩, rfl⟩, rfl⟩, rfl⟩, g1⟩, g2⟩, g3⟩, g4⟩ := h
    have n1 : X.N[1]? = some ("_law_e" : Str) := by rw [hN]; rfl
    have nd : X.N.Nodup := by rw [hN]; decide +kernel
    have tk0 : L2N.Takes X (fun _ _ _ _ => False) := fun _ _ x => by
      obtain ⟨_, _, _, _, _, _, _, _, _, _, _, _, _, _, _, _, z⟩ := x
      exact z.elim
    refine ⟨_, pss_one (L2N.ps_try_as (i := 1) (c := .ref CS) (Wout := fun _ _ _ _ => False)
      (tb := fun W D σ H => ∃ E : XK, (∀ cls d σ' H', E cls d H' → W cls d σ' H') ∧ σ[0]? = some (some (.ref f)) ∧ H c' = some (CodeO c' q) ∧ tl E H D.rt)
      (ts := fun a cls d D σ H => ∃ (Da : Addr) (c0 : Str), cls = .ref Da ∧ d = none ∧ ExcF M Da c0 ∧ (σ.length = X.N.length → σ[1]? = some (some (.ref a))) ∧ ∀ (H' : Hp) (q : Addr) (ob : Obj), OldH H H' → H q = none → H' q = some (.frz ob (.tup [.str "refused", .str c0])) → ob.cls = .type "tuple" → ob.dict = none → D.rt (.ref q) H')
      hs hfr nd n1 (eq_of_beq g4) ⟨glb_of g1, by decide +kernel, .inl (by rw [mm]; exact hCS)⟩ tk0 (fun W pn xe tk hp => ?_) (fun a oe cls d pn hz hf => ?_)), fun D H hc ht => ?_⟩
    · refine ⟨fun pins s σ H D I hh => ?_⟩
      obtain ⟨E, hW, h1, h2, h3⟩ := hh
      exact (pss_one (ps_ret (act W pn xe E _ _ tk hW))).run pins s σ H D I ⟨h1, h2, h3⟩
    · exact ⟨fun pins s σ H D I q => (pss_one (ps_ret (pe_term (X := X.suite a ((a, oe) :: pn)) (i := 1) Tt hct hb1 mK mm (glb_of g2) n1 (vis_l g4) ⟨hr.dp, hr.un⟩ rfl List.mem_cons_self hz hf))).run pins s σ H D I q⟩
    · refine ⟨_, fun cls d σ' H' hE => ?_, rfl, hc, ht⟩
      obtain ⟨Da, c0, rfl, rfl, e1, e2⟩ := hE
      obtain ⟨k1, k2⟩ := hx c0 Da e1
      refine ⟨true, by rw [mK]; exact k2, fun _ a ha => ⟨Da, c0, rfl, rfl, k1, fun hl => ?_, e2⟩, fun z => by cases z⟩
      rw [List.length_set, hN] at hl
      rw [List.getElem?_set_self (by rw [hl]; decide)]
  · cases h
/-! ### the lambda made, and handed to _law_told -/
/-- H1 is H, or H with one more code object in the table at P -/
def LamStep (H H1 : Hp) (P c' : Addr) (q : Str) : Prop := H1 = H ∨ ∃ (ps more : Array Value), H c' = none ∧ H P = some (.tbl ps) ∧ H1 = upd (upd H P (.tbl (ps ++ more))) c' (CodeO c' q) ∧ TriplesOk (ps ++ more).toList ∧ ∀ (pos : Pos) (cv : Value), codeAmong pos (ps ++ more).toList = some cv → codeAmong pos ps.toList = some cv ∨ cv = .ref c'
section
variable {X : Cx} {pins : List (Addr × Obj)} {σ : L2.St} {H : Hp} {s : Shared}
theorem lam_new {q : Str} {c P : Addr} {ps : Array Value} {params : Arguments} {body : Expr} {scope : Scope} {pos : Pos} {E Q : Value → Shared → Prop} (I : Inv X pins σ H s) (TB : TabB X.base X.mg c P) (hcode : X.env.code = .ref c) (hq : q = X.env.qual ++ "<lambda>") (hP : H P = some (.tbl ps)) (ht : TriplesOk ps.toList)
    (ha : ∀ (pos : Pos) (cv : Value), codeAmong pos ps.toList = some cv → ∃ c', cv = .ref c' ∧ H c' = some (CodeO c' q)) (hdef : defaultsOf params X.env = ([], [])) (hfree : ∀ y ∈ scope.names, y.2 = .free → ∃ c, X.env.cells.lookup y.1 = some c)
    (h : ∀ (f c' : Addr) (pm ctv : Value) (H1 : Hp) (s' : Shared), Inv X pins σ H1 s' → LamStep H H1 P c' q → s'.heap.get? f = some (PySem.W.kla_obj "<lambda>" q params body scope (cloFrom X.env.cells scope.names []) pm c' ctv) → H1 f = none → f ∉ frs X.stack → H1 c' = some (CodeO c' q) → Q (.ref f) s') :
    wpAny (model X.prog X.w) X.A (eval (.Lambda params body scope pos) X.env) Q E s := by
  subst hq
  have bB : s.heap.BuiltinsAt X.mg P := TB.bm.keeps I.bk
  have gP : s.heap.get? P = some { cls := .none, data := .fields ps } := I.hok P _ hP
  have nf : ∀ f, s.heap.objs.size ≤ f → f ∉ frs X.stack := fun f hf z => (List.mem_cons.mp (I.stkSub _ z)).elim (fun e => absurd (Nat.lt_of_lt_of_le (show f < _ from e ▸ I.lt) hf) (Nat.lt_irrefl _)) fun e => I.nofs hf e
  refine PySem.W.kla_eval hdef ?_
  cases hc : codeAmong pos ps.toList with
  | some cv =>
    obtain ⟨c', rfl, hco⟩ := ha pos cv hc
    refine PySem.W.kla_makeFunctionHit (mg := X.mg) (c := c) (P := P) (ps := ps) (closure_ok hfree) I.ok.glob (I.mod.glob.keeps I.bk) hcode (TB.code.keeps I.bk) gP ht hc bB fun ctv h2 tk hx hsz => ?_
    exact h h2.objs.size c' ((X.mg "__name__").getD .none) ctv H _ (I.kept (t' := tk) fun b o e => Heap.get?_push_of_some _ (hx b o e)) (.inl rfl) (Heap.get?_push_size _ rfl) (I.hok.fresh hsz) (nf _ hsz) hco
  | none =>
    refine PySem.W.kla_makeFunction (mg := X.mg) (c := c) (P := P) (ps := ps) (closure_ok hfree) I.ok.glob (I.mod.glob.keeps I.bk) hcode (TB.code.keeps I.bk) gP ht hc TB.gP bB fun c' ctv h2 tk hx hge hlt hrec htb => ?_
    obtain ⟨cc, oc, vs, t, ee, hoc, hd, hv⟩ := hrec
    cases ee
    have sz : s.heap.objs.size ≤ h2.objs.size := Nat.le_trans hge (Nat.le_of_lt hlt)
    have nC : H c' = none := I.hok.fresh hge
    have J := inv_table (t' := tk) (more := #[rawInt pos.line, rawInt pos.col, .ref c']) (h' := h2.push (PySem.W.kla_obj "<lambda>" (X.env.qual ++ "<lambda>") params body scope (cloFrom X.env.cells scope.names []) ((X.mg "__name__").getD .none) c' ctv)) I hP
      (fun b o hb e => Heap.get?_push_of_some _ (hx b o hb e)) (Heap.get?_push_of_some _ htb) hge ⟨oc, vs, t, Heap.get?_push_of_some _ hoc, hd, hv⟩
    have eL : (ps ++ #[rawInt pos.line, rawInt pos.col, .ref c']).toList = ps.toList ++ [rawInt pos.line, rawInt pos.col, .ref c'] := by simp
    refine h h2.objs.size c' ((X.mg "__name__").getD .none) ctv _ _ J (.inr ⟨ps, _, nC, hP, rfl, by rw [eL]; exact PySem.TriplesOk_snoc _ _ _ _ ht, fun p cv hcv => among_app (pos := pos) _ ht (by rw [← eL]; exact hcv)⟩) (Heap.get?_push_size _ rfl) ?_ (nf _ sz) upd_same
    have m1 : h2.objs.size ≠ c' := Nat.ne_of_gt hlt
    have m2 : h2.objs.size ≠ P := Nat.ne_of_gt (Nat.lt_of_lt_of_le (Heap.lt_size gP) sz)
    rw [upd_ne m1, upd_ne m2]; exact I.hok.fresh sz
theorem told_vis {sc : Scope} {b : List Stmt} (h : toldChk sc b = true) : Vis sc "_law_deed" := by
  unfold toldChk at h
  split at h
  · simp only [Bool.and_eq_true] at h
    exact vis_l h.1.2
  · cases h
/-- what the told call asks -/
def tTold (M : Mo) (P : Addr) (q : Str) (t : XK → TE) : TE := fun σ H Q => (∃ ps : Array Value, H P = some (.tbl ps) ∧ TriplesOk ps.toList ∧ ∀ (pos : Pos) (cv : Value), codeAmong pos ps.toList = some cv → ∃ c', cv = .ref c' ∧ H c' = some (CodeO c' q)) ∧ ∀ (H1 : Hp) (c' : Addr), LamStep H H1 P c' q → t (toldE M Q) σ H1 Q
/-- _law_told(lambda: body) -/
theorem pe_told {M : Mo} {k : Nat} {c P : Addr} {params : Arguments} {body : Expr} {scope : Scope} {t : XK → TE} {p lpos pos : Pos} (TT : ToldT M) (mK : X.K = M.K) (mm : X.mg = M.mg) (hg : Gl X "_law_told") (TB : TabB X.base X.mg c P) (hcode : X.env.code = .ref c) (hr : Room (k + 3) X.A) (L : LamS X.env.scope scope) (hdef : defaultsOf params X.env = ([], []))
    (hbind : ∀ (q : Str) (cl : List (Str × Addr)) (pm cv ctv : Value), bindArgs (PySem.W.kla_fn "<lambda>" q params body scope cl pm cv ctv) ⟨[], []⟩ = pure [])
    (hbody : ∀ (A : Around) (outer : List Env) (s : Shared) (H : Hp) (E : XK) (f c' : Addr), Room (k + 1) (A.deeper (lamEnv X scope s.heap.objs.size f c')) → PE (lamN X A outer s H E scope f c') body (t E)) :
    PE X (.Call (.Name "_law_told" p) [.Lambda params body scope lpos] [] pos) (tTold M P (X.env.qual ++ "<lambda>") t) := by
  refine ⟨fun pins s σ H Q I h => ?_⟩
  obtain ⟨⟨ps, h1, h2, h3⟩, h⟩ := h
  obtain ⟨g, gt, CS, fd, fdt, st, stt, Tg, Tt, hc, hct, hCS, hx⟩ := TT.ex
  obtain ⟨oc, od, kV, doc, pm, an, cdv, ct, osl, rfl, lk, hcd⟩ := Tg.F.ex
  refine wpAny_Call_Name_kw (ld_glob I hg (by rw [mm]; exact Tg.mg) ?_ (by decide +kernel))
  refine PySem.W.callWith_K (h₀ := X.base) I.ok.mod.kin (by rw [mK]; exact Tg.F.kp) ?_ (by rfl) (by rfl)
  show wpAny _ _ (spliced ((false, eval (.Lambda params body scope lpos) X.env) :: backTo pos (starEach [] X.env))) _ _ s
  refine Calls.spliced_cons (lam_new I TB hcode rfl h1 h2 h3 hdef (L.has I.ok) fun f c' pm' ctv H1 s' I1 ls hf hfn hfr hco => ?_)
  refine Calls.spliced_nil ⟨I1.kIn, ?_⟩
  have rc : codeAny (model X.prog X.w) X.A (.call (.ref g) ⟨[.ref f], []⟩) (CR C8.CX0 X.stack X.prog X.w H1 s' Q C8.E0) s' := by
    refine run_ofS (N := toldN) (ps := ["_law_deed"]) (us := [.ref f]) (vs := [.ref f]) (k := k + 2) (by rw [mK]; exact lk) (by rw [mK]; exact hcd) Tg.S hr I1.env0 (by have b := Tg.B s' [.ref f] (by have := I1.kIn; rw [mK] at this; exact this) rfl; exact b) (.cons rfl .nil) rfl fun hr' => ?_
    obtain ⟨t', ht', hq'⟩ := told_pss (M := M) (X := (cxOf C8.CX0 X.prog X.w X.K X.mg X.base toldN "_law_told" (defScope st) g cdv X.A X.stack s' H1 C8.E0).nox) (f := f) (c' := c') (q := X.env.qual ++ "<lambda>") (tl := fun E H' Q' => t E σ H' Q') (body := defBody st) Tt hct hCS hx TT.b hc mK mm rfl rfl rfl ((roomH_of hr').mono (j := 1) (by omega))
      fun W pn xe E p1 p2 tk hW => pe_actN (CXg := C8.CX0) (Eg := C8.E0) (Ng := toldN) (i := 0) (k := k + 1) I1 L hf hfn hfr (hbind _ _ _ _ _) tk hW hr' (fun A outer s H hr2 => hbody A outer s H E f c' hr2) rfl (told_vis hc) (by decide +kernel) (by decide +kernel)
    exact ⟨t', ht'.nox, hq' _ _ hco (h H1 c' ls)⟩
  refine wpAny_call (codeAny_mono rc fun r s2 hq => ?_)
  cases r with
  | error e => exact (show False from hq).elim
  | ok fl =>
    cases fl with
    | ret u => exact I1.after hq
    | next => exact False.elim hq
    | brk => exact False.elim hq
    | cont => exact False.elim hq
end
end PC
/-! PcSound: what the code of PcSyn needs, the text's own tree needs. -/
namespace PC
open PySem L2
variable {M : Mo}
def Fin (M : Mo) (φ : List Addr) (H : Hp) (QT : Wv) (Q : VK) : Prop := ∀ (t : T) (S : Mem) (φ' : List Addr) (v : V) (H' : Hp), Ext φ H φ' H' → Wd M φ' S H' → Rep M φ' H' t v → QT t S → Q v H'
def FinF (M : Mo) (φ : List Addr) (H : Hp) (QT : Wv) (Q : VK) : Prop := ∀ (t : T) (S : Mem) (φ' : List Addr) (H' : Hp), Ext φ H φ' H' → Wd M φ' S H' → QT t S → FrL M φ' S H' t Q
def FinA (M : Mo) (n : Nat) (φ : List Addr) (H : Hp) (QT : List T → Mem → Prop) (Q : List V → Hp → Prop) : Prop := ∀ (ts : List T) (S : Mem) (φ' : List Addr) (vs : List V) (H' : Hp), Ext φ H φ' H' → Wd M φ' S H' → Reps M φ' H' ts vs → ts.length = n → QT ts S → Q vs H'
def FinB (M : Mo) (φ : List Addr) (H : Hp) (QT : Bool → Mem → Prop) (Q : Bool → Hp → Prop) : Prop := ∀ (b : Bool) (S : Mem) (φ' : List Addr) (H' : Hp), Ext φ H φ' H' → Wd M φ' S H' → QT b S → Q b H'
def FinO (M : Mo) (φ : List Addr) (H : Hp) (QT : Option Int → Mem → Prop) (Q : Option Int → Hp → Prop) : Prop := ∀ (b : Option Int) (S : Mem) (φ' : List Addr) (H' : Hp), Ext φ H φ' H' → Wd M φ' S H' → QT b S → Q b H'
def FinX (M : Mo) (φ : List Addr) (H : Hp) (X : Wx) (E : XK) : Prop := ∀ (c : Str) (Ca : Addr) (S : Mem) (φ' : List Addr) (H' : Hp), M.exc c = some Ca → Ext φ H φ' H' → Wd M φ' S H' → X c S → E (.ref Ca) none H'
theorem Fin.ext {φ φ' : List Addr} {H H' : Hp} {QT : Wv} {Q : VK} (f : Fin M φ H QT Q) (e : Ext φ H φ' H') : Fin M φ' H' QT Q := fun t S φ2 v H2 e2 w r q => f t S φ2 v H2 (e.trans e2) w r q
theorem Fin.frl {φ : List Addr} {H : Hp} {QT : Wv} {Q : VK} (f : Fin M φ H QT Q) : FinF M φ H QT Q := fun t S φ' H' e w q => FrL.of w fun v H2 e2 w2 r => f t S φ' v H2 (e.trans e2) w2 r q
theorem FinX.ext {φ φ' : List Addr} {H H' : Hp} {X : Wx} {E : XK} (f : FinX M φ H X E) (e : Ext φ H φ' H') : FinX M φ' H' X E := fun c Ca S φ2 H2 hc e2 w q => f c Ca S φ2 H2 hc (e.trans e2) w q
/-- where a piece of code stands -/
structure At (M : Mo) (φ : List Addr) (H : Hp) (S : Mem) (σT : Sl) (σ : St) : Prop where
  wd : Wd M φ S H
  sl : Slots M φ H σT σ
theorem At.go {φ φ' : List Addr} {H H' : Hp} {S S' : Mem} {σT : Sl} {σ : St} (a : At M φ H S σT σ) (e : Ext φ H φ' H') (w : Wd M φ' S' H') : At M φ' H' S' σT σ := ⟨w, a.sl.ext e a.wd.noTup⟩
section
variable (M) (X : Wx) (EX : XK)
/-- an expression's reading, by what the code needs -/
def tE (w : Sl → Mem → Wv → Prop) : TE := fun σ H Q => ∃ φ σT S QT, At M φ H S σT σ ∧ FinX M φ H X EX ∧ w σT S QT ∧ Fin M φ H QT Q
def tF (w : Sl → Mem → Wv → Prop) : TE := fun σ H Q => ∃ φ σT S QT, At M φ H S σT σ ∧ FinX M φ H X EX ∧ w σT S QT ∧ FinF M φ H QT Q
def tA (n : Nat) (w : Sl → Mem → (List T → Mem → Prop) → Prop) : TA := fun σ H Q => ∃ φ σT S QT, At M φ H S σT σ ∧ FinX M φ H X EX ∧ w σT S QT ∧ FinA M n φ H QT Q
def tT (w : Sl → Mem → (Bool → Mem → Prop) → Prop) : TT := fun σ H Q => ∃ φ σT S QT, At M φ H S σT σ ∧ FinX M φ H X EX ∧ w σT S QT ∧ FinB M φ H QT Q
def tO (w : Sl → Mem → (Option Int → Mem → Prop) → Prop) : TO := fun σ H Q => ∃ φ σT S QT, At M φ H S σT σ ∧ FinX M φ H X EX ∧ w σT S QT ∧ FinO M φ H QT Q
end
/-- a def keeps what CallWP says -/
def spOf (M : Mo) (D : Tab) (k : Nat) (C g : Str) : Sp := fun vs H Q E => ∃ φ S args QT XT, Wd M φ S H ∧ Reps M φ H args vs ∧ CallWP D k C g args S QT XT ∧ Fin M φ H QT Q ∧ FinX M φ H XT E
def bltNames : List Str := ["len", "max", "min", "sum", "all", "any", "tuple", "list", "int", "str", "sorted", "dict", "range", "enumerate", "zip", "isinstance", "bool"]
/-- the module's things, as known at the level k -/
structure Lib (M : Mo) (D : Tab) (k : Nat) : Prop where
  glob : ∀ x t, D.G x = some t → ∃ u v, M.mg x = some u ∧ RelV v u ∧ ∀ φ H, Rep M φ H t v
  blt : ∀ x ∈ bltNames, M.mg x = none
  fn : ∀ g d, D.fn "" g = some d → ∃ f fd ps, M.mg g = some (.ref f) ∧ PySem.W.keepIn M.K (.ref f) = true ∧ Binds M.K fd ps [] ∧ FnOk M.P M.w M.K M.mg M.base (L2N.CX M.P M.w) (5 * k) f fd ps (spOf M D k "" g)
  meth : ∀ C m d, D.fn C m = some d → C ≠ "" → ∃ Ca f fd ps, M.cls C = some Ca ∧ Meth M.K Ca m f ∧ Binds M.K fd ps [] ∧ FnOk M.P M.w M.K M.mg M.base (L2N.CX M.P M.w) (5 * k) f fd ps (spOf M D k C m)
  make : ∀ C d, D.fn C "__init__" = some d → C ≠ "" → ∃ Ca f fd ps, M.cls C = some Ca ∧ M.mg C = some (.ref Ca) ∧ Mk M.K Ca f ∧ Binds M.K fd ps [] ∧ FnOk M.P M.w M.K M.mg M.base (L2N.CX M.P M.w) (5 * k) f fd ps (spOf M D k C "__init__")
  cls : ∀ C Ca, M.cls C = some Ca → Cls M.K Ca ∧ ∀ f ∈ M.flds, NoAttr M.K Ca f
  exc : ∀ C Ca, M.exc C = some Ca → M.mg C = some (.ref Ca) ∧ PySem.W.keepIn M.K (.ref Ca) = true ∧ PySem.W.excIn M.K Ca [.type "ValueError", .type "Exception", .type "BaseException", .type "object"] "ValueError.__new__" = true ∧ PySem.W.subIn M.K (.ref Ca) (.type "BaseException") = some true ∧ PySem.W.typeIn M.K (.ref Ca) = some (.type "type")
  inj : ∀ C C' Ca, M.cls C = some Ca → M.cls C' = some Ca → C = C'
/-- the context: a def's body, or a block within -/
structure XOk (M : Mo) (D : Tab) (k : Nat) (s : SE) (EX : XK) (X : Cx) : Prop where
  m : XM M X
  lib : Lib M D k
  N : X.N = s.N
  sc : X.env.scope = s.sc
  fl : s.fl = M.flds
  fns : ∀ p, s.fns.contains p = true → ∃ d, D.fn p.1 p.2 = some d
  xs : ∀ C, s.xs.contains C = true → ∃ Ca, M.exc C = some Ca
  nd : s.N.Nodup
  calm : X.calm = true
  room : Room (5 * k + 2) X.A
  px : Passes (L2N.CX M.P M.w) X EX
  lam : s.lam = true → Room (5 * k + 4) X.A ∧ ToldT M ∧ ∃ c P, X.env.code = .ref c ∧ LamX.TabB X.base X.mg c P ∧ (P, X.env.qual ++ "<lambda>") ∈ M.tabs ∧ ∀ p ∈ M.tabs, p.1 = P → p.2 = X.env.qual ++ "<lambda>"
  ow : ∀ x, s.ow.contains x = true → Loc s.sc x ∧ (X.fn x = true ∨ s.sc.names.lookup x = some .local)
end PC
/-! PcSound2: expressions, construct by construct. -/
namespace PC
open PySem L2
variable {M : Mo} {D : Tab} {k : Nat}
abbrev cw (D : Tab) (k : Nat) : Cal := fun C g args S Q X => CallWP D k C g args S Q X
/-- e stands for p -/
structure Snd (M : Mo) (D : Tab) (k : Nat) (s : SE) (e : E) (p : Expr) : Prop where
  pe : ∀ (X : Cx) (EX : XK) (XT : Wx), XOk M D k s EX X → PE X p (tE M XT EX (wpE D.G (cw D k) e XT))
  pt : ∀ (X : Cx) (EX : XK) (XT : Wx), XOk M D k s EX X → PT X p (tT M XT EX (fun σ S Q => wpE D.G (cw D k) e XT σ S (bt Q)))
  pw : ∀ op l pos, p = .BoolOp op l pos → ∀ (X : Cx) (EX : XK) (XT : Wx), XOk M D k s EX X → PW X p (tT M XT EX (fun σ S Q => wpE D.G (cw D k) e XT σ S (bt Q)))
  pf : freshE e = true → ∀ (X : Cx) (EX : XK) (XT : Wx), XOk M D k s EX X → PE X p (tF M XT EX (wpE D.G (cw D k) e XT))
section
variable {XT : Wx} {EX : XK} {w : Sl → Mem → Wv → Prop} {σ : St} {H : Hp}
theorem tT_tE {Q : Bool → Hp → Prop} (h : tT M XT EX (fun σ S Q => w σ S (bt Q)) σ H Q) : tE M XT EX w σ H (fun x H1 => ∃ c, x = .bl c ∧ Q c H1) := by
  obtain ⟨φ, σT, S, QT, a, fx, hw, f⟩ := h
  refine ⟨φ, σT, S, bt QT, a, fx, hw, fun t S' φ' v H' e w' r q => ?_⟩
  cases t <;> first | exact q.elim | skip
  cases r
  exact ⟨_, rfl, f _ S' φ' H' e w' q⟩
theorem tE_tF {Q : VK} (h : tE M XT EX w σ H Q) : tF M XT EX w σ H Q := by
  obtain ⟨φ, σT, S, QT, a, fx, hw, f⟩ := h
  exact ⟨φ, σT, S, QT, a, fx, hw, f.frl⟩
end
theorem notBool_pw {s : SE} {e : E} {p : Expr} (hp : ∀ op l pos, p ≠ .BoolOp op l pos) : ∀ op l pos, p = .BoolOp op l pos → ∀ (X : Cx) (EX : XK) (XT : Wx), XOk M D k s EX X → PW X p (tT M XT EX (fun σ S Q => wpE D.G (cw D k) e XT σ S (bt Q))) :=
  fun op l pos h => absurd h (hp op l pos)
/-- a plain value -/
theorem Snd.plain {s : SE} {e : E} {p : Expr} (h : ∀ (X : Cx) (EX : XK) (XT : Wx), XOk M D k s EX X → PE X p (tE M XT EX (wpE D.G (cw D k) e XT)))
    (hp : ∀ op l pos, p ≠ .BoolOp op l pos) (ht : ∀ (env : Env) (whole : Sem Value), isTrue p env whole = (do let v ← whole; standAt p.pos; holding [v] (truthy v))) (hf : freshE e = false) : Snd M D k s e p where
  pe := h
  pt := fun X EX XT o => (pt_val (h X EX XT o) (ht X.env)).imp fun σ H Q q => tT_tE q
  pw := notBool_pw hp
  pf := fun z => by rw [hf] at z; cases z
/-- a value at a new place -/
theorem Snd.fresh {s : SE} {e : E} {p : Expr} (h : ∀ (X : Cx) (EX : XK) (XT : Wx), XOk M D k s EX X → PE X p (tF M XT EX (wpE D.G (cw D k) e XT)))
    (hp : ∀ op l pos, p ≠ .BoolOp op l pos) (ht : ∀ (env : Env) (whole : Sem Value), isTrue p env whole = (do let v ← whole; standAt p.pos; holding [v] (truthy v))) : Snd M D k s e p where
  pe := fun X EX XT o => (h X EX XT o).imp fun σ H Q q => tE_tF q
  pt := fun X EX XT o => (pt_val ((h X EX XT o).imp fun σ H Q q => tE_tF q) (ht X.env)).imp fun σ H Q q => tT_tE q
  pw := notBool_pw hp
  pf := fun _ => h
section
variable {s : SE} {EX : XK} {X : Cx} {XT : Wx}
theorem XOk.gl (o : XOk M D k s EX X) {x : Str} (h : glChk s x = true) : Gl X x ∧ (x == ("__debug__" : Str)) = false ∧ x ≠ "__name__" := by
  unfold glChk at h
  rw [Bool.and_eq_true] at h
  obtain ⟨h1, h2, h3⟩ := okName_dbg h.2
  refine ⟨?_, h1, h3⟩
  show X.env.scope.names.lookup x = _
  rw [o.sc]
  exact glb_of h.1
theorem XOk.units (o : XOk M D k s EX X) : X.A.units + 65 < cLine := by have := o.room.un; omega
/-! names, constants -/
theorem snd_var {i : Nat} {x : Str} {pos : Pos} (h : nmChk s i x = true) : Snd M D k s (.var i) (.Name x pos) := by
  refine .plain (fun X EX XT o => ?_) (by intros; simp) (fun _ _ => rfl) rfl
  unfold nmChk at h
  simp only [Bool.and_eq_true, decide_eq_true_eq] at h
  obtain ⟨h1, h2, h3⟩ := okName_dbg h.2
  refine (pe_var (i := i) (by rw [o.N]; exact h.1.1) (by unfold Vis; rw [o.sc]; exact vis_of h.1.2) h1 h2).imp fun σ H Q q => ?_
  obtain ⟨φ, σT, S, QT, a, fx, hw, f⟩ := q
  have hw : okO (slot σT i) fun t => QT t S := hw
  cases e : slot σT i with
  | none => rw [e] at hw; exact hw.elim
  | some t =>
    rw [e] at hw
    obtain ⟨v, e1, r⟩ := a.sl.get e
    exact ⟨v, e1, f t S φ v H (Ext.refl _ _) a.wd r hw⟩
theorem tC_of {v : V} {t : T} {e : E} (hr : ∀ φ H, Rep M φ H t v) (hw : ∀ σ S Q, wpE D.G (cw D k) e XT σ S Q → Q t S) {σ : St} {H : Hp} {Q : VK} (q : tE M XT EX (wpE D.G (cw D k) e XT) σ H Q) : tC v σ H Q := by
  obtain ⟨φ, σT, S, QT, a, fx, h, f⟩ := q
  exact f t S φ v H (Ext.refl _ _) a.wd (hr φ H) (hw _ _ _ h)
theorem snd_int {i : Int} {j : Nat} {pos : Pos} : Snd M D k s (.int i) (.Constant (.int i) j pos) :=
  .plain (fun X EX XT o => pe_int.imp fun σ H Q q => tC_of (t := .int i) (e := .int i) (fun _ _ => .int i) (fun _ _ _ h => h) q) (by intros; simp) (fun _ _ => rfl) rfl
theorem snd_bl {b : Bool} {j : Nat} {pos : Pos} : Snd M D k s (.bl b) (.Constant (.bool b) j pos) :=
  .plain (fun X EX XT o => pe_bl.imp fun σ H Q q => tC_of (t := .bl b) (e := .bl b) (fun _ _ => .bl b) (fun _ _ _ h => h) q) (by intros; simp) (fun _ _ => rfl) rfl
theorem snd_non {j : Nat} {pos : Pos} : Snd M D k s .non (.Constant .none j pos) :=
  .plain (fun X EX XT o => pe_non.imp fun σ H Q q => tC_of (t := .non) (e := .non) (fun _ _ => .non) (fun _ _ _ h => h) q) (by intros; simp) (fun _ _ => rfl) rfl
theorem snd_str {x : Str} {j : Nat} {pos : Pos} : Snd M D k s (.str x) (.Constant (.str x) j pos) :=
  .plain (fun X EX XT o => pe_str.imp fun σ H Q q => tC_of (t := .str x) (e := .str x) (fun _ _ => .str x) (fun _ _ _ h => h) q) (by intros; simp) (fun _ _ => rfl) rfl
theorem snd_glob {x : Str} {pos : Pos} (h : glChk s x = true) : Snd M D k s (.glob x) (.Name x pos) := by
  refine .plain (fun X EX XT o => ⟨fun pins st σ H Q I q => ?_⟩) (by intros; simp) (fun _ _ => rfl) rfl
  obtain ⟨h1, h2, h3⟩ := o.gl h
  obtain ⟨φ, σT, S, QT, a, fx, hw, f⟩ := q
  have hw : okO (D.G x) fun t => QT t S := hw
  cases e : D.G x with
  | none => rw [e] at hw; exact hw.elim
  | some t =>
    rw [e] at hw
    obtain ⟨u, v, m, r, rr⟩ := o.lib.glob x t e
    exact (pe_glob h1 (by rw [o.m.mg]; exact m) r h2).run pins st σ H Q I (f t S φ v H (Ext.refl _ _) a.wd (rr φ H) hw)
/-! operators -/
/-- two values in a row -/
theorem two_read {a b : E} {op : T → T → Mem → Wv → Prop} {r : R2} {F : (List Addr → Hp → Wv → VK → Prop)}
    (hF : ∀ {φ φ' : List Addr} {H H' : Hp} {QT : Wv} {Q : VK}, F φ H QT Q → Ext φ H φ' H' → F φ' H' QT Q)
    (hr : ∀ (φ : List Addr) (S : Mem) (H : Hp) (x y : T) (u v : V) (QT : Wv) (Q : VK), Wd M φ S H → Rep M φ H x u → Rep M φ H y v → op x y S QT → F φ H QT Q → r u v H Q)
    {σ : St} {H : Hp} {Q : VK} {φ : List Addr} {σT : Sl} {S : Mem} {QT : Wv} (at_ : At M φ H S σT σ) (fx : FinX M φ H XT EX)
    (hw : wpE D.G (cw D k) a XT σT S fun x S1 => wpE D.G (cw D k) b XT σT S1 fun y S2 => op x y S2 QT) (f : F φ H QT Q) :
    tOp r (tE M XT EX (wpE D.G (cw D k) a XT)) (tE M XT EX (wpE D.G (cw D k) b XT)) σ H Q := by
  refine ⟨φ, σT, S, _, at_, fx, hw, fun x S1 φ1 u H1 e1 w1 r1 q1 => ?_⟩
  refine ⟨φ1, σT, S1, _, at_.go e1 w1, fx.ext e1, q1, fun y S2 φ2 v H2 e2 w2 r2 q2 => ?_⟩
  exact hr φ2 S2 H2 x y u v QT Q w2 (r1.ext e2 w1.noTup) r2 q2 (hF f (e1.trans e2))
theorem FinF.ext {φ φ' : List Addr} {H H' : Hp} {QT : Wv} {Q : VK} (f : FinF M φ H QT Q) (e : Ext φ H φ' H') : FinF M φ' H' QT Q := fun t S φ2 H2 e2 w q => f t S φ2 H2 (e.trans e2) w q
theorem snd_bin {op : Operator} {a b : E} {a' b' : Expr} {pos : Pos} (ha : Snd M D k s a a') (hb : Snd M D k s b b') : Snd M D k s (.bin op a b) (.BinOp a' op b' pos) := by
  refine .fresh (fun X EX XT o => (pe_op (op_bin o.m op) (ha.pe X EX XT o) (hb.pe X EX XT o)).imp fun σ H Q q => ?_) (by intros; simp) (fun _ _ => rfl)
  obtain ⟨φ, σT, S, QT, at_, fx, hw, f⟩ := q
  refine two_read (op := fun x y S2 QT => okO (binT op (vw S2 x) (vw S2 y)) fun z => QT z S2) (F := FinF M) FinF.ext (fun φ S H x y u v QT Q w r1 r2 q f => ?_) at_ fx hw f
  cases e : binT op (vw S x) (vw S y) with
  | none => rw [e] at q; exact q.elim
  | some z =>
    rw [e] at q
    exact ⟨φ, S, _, _, z, w, r1.view w, r2.view w, e, f z S φ H (Ext.refl _ _) w q⟩
theorem snd_neg {a : E} {a' : Expr} {pos : Pos} (ha : Snd M D k s a a') : Snd M D k s (.neg a) (.UnaryOp .USub a' pos) := by
  refine .plain (fun X EX XT o => (pe_un un_neg (ha.pe X EX XT o)).imp fun σ H Q q => ?_) (by intros; simp) (fun _ _ => rfl) rfl
  obtain ⟨φ, σT, S, QT, at_, fx, hw, f⟩ := q
  refine ⟨φ, σT, S, _, at_, fx, hw, fun x S1 φ1 u H1 e1 w1 r1 q1 => ?_⟩
  cases x <;> first | exact q1.elim | skip
  cases r1
  exact ⟨_, rfl, f _ S1 φ1 _ H1 e1 w1 (.int _) q1⟩
theorem View.key {φ : List Addr} {H : Hp} {t : T} {v : V} (h : kt t = true) (r : View M φ H t v) : Rep M φ H t v := by
  cases r <;> first | (simp [kt] at h; done) | skip
  rename_i e r
  exact .tup e r
theorem op_cmpAll (o : XOk M D k s EX X) (op : CmpOp) : OpR X (compareOp op) (rCmp M op) := by
  by_cases hd : op ≠ .In ∧ op ≠ .NotIn
  · exact op_cmp o.m o.units op hd
  · have hd : op = .In ∨ op = .NotIn := by
      by_cases h : op = .In
      · exact .inl h
      · exact .inr (Classical.byContradiction fun h' => hd ⟨h, h'⟩)
    intro pins s σ H x y v u Q I rx ry h
    obtain ⟨φ, S, a, b, z, w, va, vb, e, q⟩ := h
    by_cases hb : ∃ ks vs, b = .dct ks vs
    · obtain ⟨ks, ts, rfl⟩ := hb
      obtain ⟨d, kvs, vvs, rfl, h1, r1, r2⟩ := vb.dct_inv
      cases ry
      have hr : X.A.units + 9 < cLine := by have := o.units; omega
      rcases hd with rfl | rfl
      · obtain ⟨hk, rfl⟩ : (kt a && ks.all kt) = true ∧ z = inT a ks := by
          have e : (if kt a && ks.all kt then some (inT a ks) else none) = some z := by cases a <;> exact e
          split at e
          · rename_i hk; exact ⟨hk, (Option.some.inj e).symm⟩
          · cases e
        rw [Bool.and_eq_true] at hk
        exact dict_in o.m I hr h1 hk.2 hk.1 r1 (va.key hk.1) rx q
      · obtain ⟨hk, rfl⟩ : (kt a && ks.all kt) = true ∧ z = !inT a ks := by
          have e : (if kt a && ks.all kt then some (!inT a ks) else none) = some z := by cases a <;> exact e
          split at e
          · rename_i hk; exact ⟨hk, (Option.some.inj e).symm⟩
          · cases e
        rw [Bool.and_eq_true] at hk
        exact dict_notIn o.m I hr h1 hk.2 hk.1 r1 (va.key hk.1) rx q
    · exact op_cmpIn o.m o.units op hd a b (fun ks vs e => hb ⟨ks, vs, e⟩) I rx ry w va vb e q
theorem mark_of {b : Expr} (h : notSet b = true) (op : CmpOp) : behindInMarks op b = false := by
  cases b <;> first | rfl | cases h
theorem cmp_read (o : XOk M D k s EX X) {op : CmpOp} {a b : E} {σ : St} {H : Hp} {Q : VK} (q : tE M XT EX (wpE D.G (cw D k) (.cmp op a b) XT) σ H Q) :
    tOp (rCmp M op) (tE M XT EX (wpE D.G (cw D k) a XT)) (tE M XT EX (wpE D.G (cw D k) b XT)) σ H Q := by
  obtain ⟨φ, σT, S, QT, at_, fx, hw, f⟩ := q
  refine two_read (op := fun x y S2 QT => okO (cmpT op (vw S2 x) (vw S2 y)) fun z => QT (.bl z) S2) (F := Fin M) Fin.ext (fun φ S H x y u v QT Q w r1 r2 q f => ?_) at_ fx hw f
  cases e : cmpT op (vw S x) (vw S y) with
  | none => rw [e] at q; exact q.elim
  | some z =>
    rw [e] at q
    exact ⟨φ, S, _, _, z, w, r1.view w, r2.view w, e, f _ S φ _ H (Ext.refl _ _) w (.bl z) q⟩
theorem snd_cmp {op : CmpOp} {a b : E} {a' b' : Expr} {pos : Pos} (ha : Snd M D k s a a') (hb : Snd M D k s b b') (hs : notSet b' = true) : Snd M D k s (.cmp op a b) (.Compare a' [op] [b'] pos) where
  pe := fun X EX XT o => (pe_cmpR (op_cmpAll o op) (ha.pe X EX XT o) (hb.pe X EX XT o) (mark_of hs op)).imp fun σ H Q q => cmp_read o q
  pt := fun X EX XT o => (pt_cmpR (op_cmpAll o op) (ha.pe X EX XT o) (hb.pe X EX XT o) (mark_of hs op)).imp fun σ H Q q => cmp_read o (tT_tE q)
  pw := notBool_pw (by intros; simp)
  pf := fun z => by cases z
theorem chain_read (o : XOk M D k s EX X) {o1 o2 : CmpOp} {a b c : E} {σ : St} {H : Hp} {Q : VK} (q : tE M XT EX (wpE D.G (cw D k) (.chain o1 o2 a b c) XT) σ H Q) :
    tChain (rCmp M o1) (rCmp M o2) (tE M XT EX (wpE D.G (cw D k) a XT)) (tE M XT EX (wpE D.G (cw D k) b XT)) (tE M XT EX (wpE D.G (cw D k) c XT)) σ H Q := by
  obtain ⟨φ, σT, S, QT, at_, fx, hw, f⟩ := q
  refine ⟨φ, σT, S, _, at_, fx, hw, fun x S1 φ1 u H1 e1 w1 r1 q1 => ?_⟩
  refine ⟨φ1, σT, S1, _, at_.go e1 w1, fx.ext e1, q1, fun y S2 φ2 v H2 e2 w2 r2 q2 => ?_⟩
  have r1' := r1.ext e2 w1.noTup
  cases e : cmpT o1 (vw S2 x) (vw S2 y) with
  | none => rw [e] at q2; exact q2.elim
  | some z =>
    rw [e] at q2
    refine ⟨φ2, S2, _, _, z, w2, r1'.view w2, r2.view w2, e, z, rfl, ?_⟩
    have q2 : if z = true then wpE D.G (cw D k) c XT σT S2 fun u S3 => okO (cmpT o2 (vw S3 y) (vw S3 u)) fun z => QT (.bl z) S3 else QT (.bl false) S2 := q2
    cases z with
    | false => exact f _ S2 φ2 _ H2 (e1.trans e2) w2 (.bl false) q2
    | true =>
      refine ⟨φ2, σT, S2, _, (at_.go e1 w1).go e2 w2, (fx.ext e1).ext e2, q2, fun t S3 φ3 v3 H3 e3 w3 r3 q3 => ?_⟩
      have r2' := r2.ext e3 w2.noTup
      cases e' : cmpT o2 (vw S3 y) (vw S3 t) with
      | none => rw [e'] at q3; exact q3.elim
      | some z =>
        rw [e'] at q3
        exact ⟨φ3, S3, _, _, z, w3, r2'.view w3, r3.view w3, e', f _ S3 φ3 _ H3 ((e1.trans e2).trans e3) w3 (.bl z) q3⟩
theorem snd_chain {o1 o2 : CmpOp} {a b c : E} {a' b' c' : Expr} {pos : Pos} (ha : Snd M D k s a a') (hb : Snd M D k s b b') (hc : Snd M D k s c c') (hs : notSet c' = true) : Snd M D k s (.chain o1 o2 a b c) (.Compare a' [o1, o2] [b', c'] pos) where
  pe := fun X EX XT o => (pe_chain (op_cmpAll o o1) (op_cmpAll o o2) (ha.pe X EX XT o) (hb.pe X EX XT o) (hc.pe X EX XT o) (by show behindInMarks o2 c' = false; exact mark_of hs o2)).imp fun σ H Q q => chain_read o q
  pt := fun X EX XT o => (pt_chain (op_cmpAll o o1) (op_cmpAll o o2) (ha.pe X EX XT o) (hb.pe X EX XT o) (hc.pe X EX XT o) (by show behindInMarks o2 c' = false; exact mark_of hs o2)).imp fun σ H Q q => chain_read o (tT_tE q)
  pw := notBool_pw (by intros; simp)
  pf := fun z => by cases z
/-! and, or, not -/
theorem and_readT {a b : E} {σ : St} {H : Hp} {Q : Bool → Hp → Prop} (q : tT M XT EX (fun σ S Q => wpE D.G (cw D k) (.and a b) XT σ S (bt Q)) σ H Q) :
    tAnd (tT M XT EX (fun σ S Q => wpE D.G (cw D k) a XT σ S (bt Q))) (tT M XT EX (fun σ S Q => wpE D.G (cw D k) b XT σ S (bt Q))) σ H Q := by
  obtain ⟨φ, σT, S, QT, at_, fx, hw, f⟩ := q
  refine ⟨φ, σT, S, _, at_, fx, hw, fun c S1 φ1 H1 e1 w1 q1 => ?_⟩
  cases c with
  | false => exact f false S1 φ1 H1 e1 w1 q1
  | true => exact ⟨φ1, σT, S1, _, at_.go e1 w1, fx.ext e1, q1, fun t S2 φ2 H2 e2 w2 q2 => f t S2 φ2 H2 (e1.trans e2) w2 q2⟩
theorem or_readT {a b : E} {σ : St} {H : Hp} {Q : Bool → Hp → Prop} (q : tT M XT EX (fun σ S Q => wpE D.G (cw D k) (.or a b) XT σ S (bt Q)) σ H Q) :
    tOr (tT M XT EX (fun σ S Q => wpE D.G (cw D k) a XT σ S (bt Q))) (tT M XT EX (fun σ S Q => wpE D.G (cw D k) b XT σ S (bt Q))) σ H Q := by
  obtain ⟨φ, σT, S, QT, at_, fx, hw, f⟩ := q
  refine ⟨φ, σT, S, _, at_, fx, hw, fun c S1 φ1 H1 e1 w1 q1 => ?_⟩
  cases c with
  | true => exact f true S1 φ1 H1 e1 w1 q1
  | false => exact ⟨φ1, σT, S1, _, at_.go e1 w1, fx.ext e1, q1, fun t S2 φ2 H2 e2 w2 q2 => f t S2 φ2 H2 (e1.trans e2) w2 q2⟩
theorem and_readV {a b : E} {σ : St} {H : Hp} {Q : VK} (q : tE M XT EX (wpE D.G (cw D k) (.and a b) XT) σ H Q) :
    tAndV (tE M XT EX (wpE D.G (cw D k) a XT)) (tE M XT EX (wpE D.G (cw D k) b XT)) σ H Q := by
  obtain ⟨φ, σT, S, QT, at_, fx, hw, f⟩ := q
  refine ⟨φ, σT, S, _, at_, fx, hw, fun c S1 φ1 v H1 e1 w1 r1 q1 => ?_⟩
  cases c <;> first | exact q1.elim | skip
  rename_i c
  cases r1
  refine ⟨c, rfl, ?_⟩
  cases c with
  | false => exact f _ S1 φ1 _ H1 e1 w1 (.bl false) q1
  | true => exact ⟨φ1, σT, S1, _, at_.go e1 w1, fx.ext e1, q1, f.ext e1⟩
theorem or_readV {a b : E} {σ : St} {H : Hp} {Q : VK} (q : tE M XT EX (wpE D.G (cw D k) (.or a b) XT) σ H Q) :
    tOrV (tE M XT EX (wpE D.G (cw D k) a XT)) (tE M XT EX (wpE D.G (cw D k) b XT)) σ H Q := by
  obtain ⟨φ, σT, S, QT, at_, fx, hw, f⟩ := q
  refine ⟨φ, σT, S, _, at_, fx, hw, fun c S1 φ1 v H1 e1 w1 r1 q1 => ?_⟩
  cases c <;> first | exact q1.elim | skip
  rename_i c
  cases r1
  refine ⟨c, rfl, ?_⟩
  cases c with
  | true => exact f _ S1 φ1 _ H1 e1 w1 (.bl true) q1
  | false => exact ⟨φ1, σT, S1, _, at_.go e1 w1, fx.ext e1, q1, f.ext e1⟩
/-- the rest of a chain of and, or -/
structure SndB (M : Mo) (D : Tab) (k : Nat) (s : SE) (e : E) (p : Expr) : Prop where
  pe : ∀ (X : Cx) (EX : XK) (XT : Wx), XOk M D k s EX X → PE X p (tE M XT EX (wpE D.G (cw D k) e XT))
  pw : ∀ (X : Cx) (EX : XK) (XT : Wx), XOk M D k s EX X → PW X p (tT M XT EX (fun σ S Q => wpE D.G (cw D k) e XT σ S (bt Q)))
theorem Snd.b {e : E} {op : BoolOp} {l : List Expr} {pos : Pos} (h : Snd M D k s e (.BoolOp op l pos)) : SndB M D k s e (.BoolOp op l pos) := ⟨h.pe, h.pw op l pos rfl⟩
theorem Snd.oneAnd {e : E} {p : Expr} {pos : Pos} (h : Snd M D k s e p) : SndB M D k s e (.BoolOp .And [p] pos) := ⟨fun X EX XT o => pe_one (h.pe X EX XT o), fun X EX XT o => pw_and1 (h.pt X EX XT o)⟩
theorem Snd.oneOr {e : E} {p : Expr} {pos : Pos} (h : Snd M D k s e p) : SndB M D k s e (.BoolOp .Or [p] pos) := ⟨fun X EX XT o => pe_one (h.pe X EX XT o), fun X EX XT o => pw_or1 (h.pt X EX XT o)⟩
theorem snd_and {a b : E} {x y : Expr} {r : List Expr} {pos : Pos} (ha : Snd M D k s a x) (hb : SndB M D k s b (.BoolOp .And (y :: r) pos)) : Snd M D k s (.and a b) (.BoolOp .And (x :: y :: r) pos) := by
  have pw : ∀ (X : Cx) (EX : XK) (XT : Wx), XOk M D k s EX X → PW X (.BoolOp .And (x :: y :: r) pos) (tT M XT EX (fun σ S Q => wpE D.G (cw D k) (.and a b) XT σ S (bt Q))) :=
    fun X EX XT o => (pw_and (ha.pt X EX XT o) (hb.pw X EX XT o)).imp fun σ H Q q => and_readT q
  exact ⟨fun X EX XT o => (pe_and (ha.pe X EX XT o) (hb.pe X EX XT o)).imp fun σ H Q q => and_readV q, fun X EX XT o => (pw X EX XT o).pt, fun op l pos' e => by cases e; exact pw, fun z => by cases z⟩
theorem snd_or {a b : E} {x y : Expr} {r : List Expr} {pos : Pos} (ha : Snd M D k s a x) (hb : SndB M D k s b (.BoolOp .Or (y :: r) pos)) : Snd M D k s (.or a b) (.BoolOp .Or (x :: y :: r) pos) := by
  have pw : ∀ (X : Cx) (EX : XK) (XT : Wx), XOk M D k s EX X → PW X (.BoolOp .Or (x :: y :: r) pos) (tT M XT EX (fun σ S Q => wpE D.G (cw D k) (.or a b) XT σ S (bt Q))) :=
    fun X EX XT o => (pw_or (ha.pt X EX XT o) (hb.pw X EX XT o)).imp fun σ H Q q => or_readT q
  exact ⟨fun X EX XT o => (pe_or (ha.pe X EX XT o) (hb.pe X EX XT o)).imp fun σ H Q q => or_readV q, fun X EX XT o => (pw X EX XT o).pt, fun op l pos' e => by cases e; exact pw, fun z => by cases z⟩
theorem snd_not {a : E} {a' : Expr} {pos : Pos} (ha : Snd M D k s a a') : Snd M D k s (.not a) (.UnaryOp .Not a' pos) where
  pe := fun X EX XT o => (pe_not (ha.pe X EX XT o)).imp fun σ H Q q => by
    obtain ⟨φ, σT, S, QT, at_, fx, hw, f⟩ := q
    refine ⟨φ, σT, S, _, at_, fx, hw, fun c S1 φ1 v H1 e1 w1 r1 q1 => ?_⟩
    cases c <;> first | exact q1.elim | skip
    cases r1
    exact ⟨_, rfl, f _ S1 φ1 _ H1 e1 w1 (.bl _) q1⟩
  pt := fun X EX XT o => (pt_not (ha.pt X EX XT o)).imp fun σ H Q q => by
    obtain ⟨φ, σT, S, QT, at_, fx, hw, f⟩ := q
    exact ⟨φ, σT, S, _, at_, fx, hw, fun c S1 φ1 H1 e1 w1 q1 => f _ S1 φ1 H1 e1 w1 q1⟩
  pw := notBool_pw (by intros; simp)
  pf := fun z => by cases z
theorem snd_ife {c a b : E} {c' a' b' : Expr} {pos : Pos} (hc : Snd M D k s c c') (ha : Snd M D k s a a') (hb : Snd M D k s b b') : Snd M D k s (.ife c a b) (.IfExp c' a' b' pos) where
  pe := fun X EX XT o => (pe_ifExp (hc.pt X EX XT o) (ha.pe X EX XT o) (hb.pe X EX XT o)).imp fun σ H Q q => by
    obtain ⟨φ, σT, S, QT, at_, fx, hw, f⟩ := q
    refine ⟨φ, σT, S, _, at_, fx, hw, fun c S1 φ1 H1 e1 w1 q1 => ?_⟩
    cases c with
    | true => exact ⟨φ1, σT, S1, QT, at_.go e1 w1, fx.ext e1, q1, f.ext e1⟩
    | false => exact ⟨φ1, σT, S1, QT, at_.go e1 w1, fx.ext e1, q1, f.ext e1⟩
  pt := fun X EX XT o => ⟨fun pins st σ H Q I q => by
    obtain ⟨φ, σT, S, QT, at_, fx, hw, f⟩ := q
    refine PyProof.Rows.isTrue_IfExp (thn ((hc.pt X EX XT o).run pins st σ H (fun d H1 => if d = true then tT M XT EX (fun σ S Q => wpE D.G (cw D k) a XT σ S (bt Q)) σ H1 Q else tT M XT EX (fun σ S Q => wpE D.G (cw D k) b XT σ S (bt Q)) σ H1 Q) I
      ⟨φ, σT, S, _, at_, fx, hw, fun c S1 φ1 H1 e1 w1 q1 => ?_⟩) fun d s1 ⟨H1, I1, q1⟩ => ?_)
    · cases c with
      | true => exact ⟨φ1, σT, S1, QT, at_.go e1 w1, fx.ext e1, q1, fun t S2 φ2 H2 e2 w2 q2 => f t S2 φ2 H2 (e1.trans e2) w2 q2⟩
      | false => exact ⟨φ1, σT, S1, QT, at_.go e1 w1, fx.ext e1, q1, fun t S2 φ2 H2 e2 w2 q2 => f t S2 φ2 H2 (e1.trans e2) w2 q2⟩
    · cases d with
      | true => exact (ha.pt X EX XT o).run pins s1 σ H1 Q I1 q1
      | false => exact (hb.pt X EX XT o).run pins s1 σ H1 Q I1 q1⟩
  pw := notBool_pw (by intros; simp)
  pf := fun z => by cases z
/-! argument lists -/
structure SndA (M : Mo) (D : Tab) (k : Nat) (s : SE) (es : Es) (ps : List Expr) : Prop where
  pa : ∀ (X : Cx) (EX : XK) (XT : Wx), XOk M D k s EX X → PA X ps (tA M XT EX (esLen es) (wpEs D.G (cw D k) es XT))
  st : ∀ env : Env, starEach ps env = ps.map fun e => (false, eval e env)
  len : ps.length = esLen es
  tl : ∀ p r, ps = p :: r → (∀ env : Env, starEach (p :: r) env = (false, eval p env) :: starEach r env) ∧ ∀ (pos : Pos) (env : Env), (backTo pos (starEach r env)).any (·.1) = false
theorem SndA.any {es : Es} {ps : List Expr} (h : SndA M D k s es ps) (pos : Pos) (env : Env) : (backTo pos (starEach ps env)).any (·.1) = false := by
  rw [h.st]
  unfold backTo
  simp
theorem snd_nil : SndA M D k s .nil [] := ⟨fun X EX XT o => pa_nil.imp fun σ H Q q => by
  obtain ⟨φ, σT, S, QT, at_, fx, hw, f⟩ := q
  exact f [] S φ [] H (Ext.refl _ _) at_.wd .nil rfl hw, fun _ => rfl, rfl, fun p r e => by cases e⟩
theorem star_cons {e : Expr} (h : notStar e = true) (es : List Expr) (env : Env) : starEach (e :: es) env = (false, eval e env) :: starEach es env := by
  cases e <;> first | rfl | cases h
theorem snd_cons {e : E} {es : Es} {p : Expr} {ps : List Expr} (hs : notStar p = true) (he : Snd M D k s e p) (hr : SndA M D k s es ps) : SndA M D k s (.cons e es) (p :: ps) := by
  refine ⟨fun X EX XT o => (pa_cons (he.pe X EX XT o) (hr.pa X EX XT o) (star_cons hs _ _)).imp fun σ H Q q => ?_, fun env => by rw [star_cons hs, hr.st, List.map_cons], by rw [List.length_cons, hr.len]; rfl, fun p r e => by cases e; exact ⟨star_cons hs ps, fun pos env => hr.any pos env⟩⟩
  obtain ⟨φ, σT, S, QT, at_, fx, hw, f⟩ := q
  refine ⟨φ, σT, S, _, at_, fx, hw, fun x S1 φ1 v H1 e1 w1 r1 q1 => ?_⟩
  refine ⟨φ1, σT, S1, _, at_.go e1 w1, fx.ext e1, q1, fun xs S2 φ2 vs H2 e2 w2 r2 l2 q2 => ?_⟩
  exact f (x :: xs) S2 φ2 _ H2 (e1.trans e2) w2 (.cons (r1.ext e2 w1.noTup) r2) (by rw [List.length_cons, l2]; rfl) q2
theorem FinA.ext {n : Nat} {φ φ' : List Addr} {H H' : Hp} {QT : List T → Mem → Prop} {Q : List V → Hp → Prop} (f : FinA M n φ H QT Q) (e : Ext φ H φ' H') : FinA M n φ' H' QT Q := fun t S φ2 v H2 e2 w r l q => f t S φ2 v H2 (e.trans e2) w r l q
theorem snd_tup {es : Es} {ps : List Expr} {n : Nat} {pos : Pos} (h : SndA M D k s es ps) (hl : esLen es ≤ 1000) : Snd M D k s (.tup es) (.Tuple ps n pos) := by
  refine .plain (fun X EX XT o => ⟨fun pins st σ H Q I q => ?_⟩) (by intros; simp) (fun _ _ => rfl) rfl
  obtain ⟨φ, σT, S, QT, at_, fx, hw, f⟩ := q
  refine wpAny_Tuple_spliced (thn ((h.pa X EX XT o).run pos pins st σ H (fun vs H1 => vs.length = esLen es ∧ NewT H1 vs Q) I ⟨φ, σT, S, _, at_, fx, hw, fun xs S1 φ1 vs H1 e1 w1 r1 l1 q1 => ⟨by rw [← r1.length]; exact l1, fun p ob hp h1 h2 => f _ S1 φ1 _ _ (e1.trans (Ext.laid hp)) (w1.laid hp) (Rep.tupNew w1 hp h1 h2 r1) q1⟩⟩) fun us s1 ⟨vs, H1, I1, r1, hl1, q1⟩ => ?_)
  have hz : vs.length ≤ sizeLine := by rw [hl1, sizeLine_eq]; omega
  exact ⟨by rw [← r1.length]; exact hz, .ref s1.heap.objs.size, _, tupNew (t' := s1.toks) I1 r1 hz, rfl, q1 _ _ I1.fresh rfl rfl⟩
theorem snd_lst {es : Es} {ps : List Expr} {pos : Pos} (h : SndA M D k s es ps) (hl : esLen es ≤ 1000) : Snd M D k s (.lst es) (.List ps pos) := by
  refine .fresh (fun X EX XT o => (pe_lst (h.pa X EX XT o)).imp fun σ H Q q => ?_) (by intros; simp) (fun _ _ => rfl)
  obtain ⟨φ, σT, S, QT, at_, fx, hw, f⟩ := q
  exact ⟨φ, σT, S, _, at_, fx, hw, fun xs S1 φ1 vs H1 e1 w1 r1 l1 q1 => ⟨by rw [← r1.length, l1, sizeLine_eq]; omega, fun p hp => f (.lst xs) S1 φ1 H1 e1 w1 q1 p vs hp r1⟩⟩
/-! items, slices, attributes -/
theorem plainIx_of {b : Expr} (h : plainIx b = true) : PlainIx b := by
  cases b <;> first | (intro _ _; rfl) | cases h
theorem snd_idx {a b : E} {a' b' : Expr} {pos : Pos} (ha : Snd M D k s a a') (hb : Snd M D k s b b') (hp : plainIx b' = true) : Snd M D k s (.idx a b) (.Subscript a' b' pos) := by
  refine .plain (fun X EX XT o => (pe_ix (ix_any o.m (by have := o.units; omega)) (ha.pe X EX XT o) (hb.pe X EX XT o) (plainIx_of hp)).imp fun σ H Q q => ?_) (by intros; simp) (fun _ _ => rfl) rfl
  obtain ⟨φ, σT, S, QT, at_, fx, hw, f⟩ := q
  refine two_read (op := fun x y S2 QT => okO (idxT (vw S2 x) y) fun z => QT z S2) (F := Fin M) Fin.ext (fun φ S H x y u v QT Q w r1 r2 q f => ?_) at_ fx hw f
  cases e : idxT (vw S x) y with
  | none => rw [e] at q; exact q.elim
  | some z =>
    rw [e] at q
    exact ⟨φ, S, _, _, z, w, r1.view w, r2, e, fun v rv => f z S φ v H (Ext.refl _ _) w rv q⟩
structure SndO (M : Mo) (D : Tab) (k : Nat) (s : SE) (e : Eo) (p : Option Expr) : Prop where
  po : ∀ (X : Cx) (EX : XK) (XT : Wx), XOk M D k s EX X → PO X p (tO M XT EX (wpO D.G (cw D k) e XT))
theorem snd_onone : SndO M D k s .none none := ⟨fun X EX XT o => po_none.imp fun σ H Q q => by
  obtain ⟨φ, σT, S, QT, at_, fx, hw, f⟩ := q
  exact f none S φ H (Ext.refl _ _) at_.wd hw⟩
theorem snd_osome {e : E} {p : Expr} (h : Snd M D k s e p) : SndO M D k s (.some e) (some p) := ⟨fun X EX XT o => (po_some (h.pe X EX XT o)).imp fun σ H Q q => by
  obtain ⟨φ, σT, S, QT, at_, fx, hw, f⟩ := q
  refine ⟨φ, σT, S, _, at_, fx, hw, fun x S1 φ1 v H1 e1 w1 r1 q1 => ?_⟩
  cases x <;> first | exact q1.elim | skip
  cases r1
  exact ⟨_, rfl, f _ S1 φ1 H1 e1 w1 q1⟩⟩
theorem snd_slc {a : E} {lo hi : Eo} {a' : Expr} {lo' hi' : Option Expr} {p2 pos : Pos} (ha : Snd M D k s a a') (hl : SndO M D k s lo lo') (hh : SndO M D k s hi hi') : Snd M D k s (.slc a lo hi) (.Subscript a' (.Slice lo' hi' none p2) pos) := by
  refine .fresh (fun X EX XT o => (pe_slice (sl_any (M := M)) (ha.pe X EX XT o) (hl.po X EX XT o) (hh.po X EX XT o)).imp fun σ H Q q => ?_) (by intros; simp) (fun _ _ => rfl)
  obtain ⟨φ, σT, S, QT, at_, fx, hw, f⟩ := q
  refine ⟨φ, σT, S, _, at_, fx, hw, fun x S1 φ1 v H1 e1 w1 r1 q1 => ?_⟩
  refine ⟨φ1, σT, S1, _, at_.go e1 w1, fx.ext e1, q1, fun l S2 φ2 H2 e2 w2 q2 => ?_⟩
  refine ⟨φ2, σT, S2, _, (at_.go e1 w1).go e2 w2, (fx.ext e1).ext e2, q2, fun h S3 φ3 H3 e3 w3 q3 => ?_⟩
  have r3 := (r1.ext e2 w1.noTup).ext e3 w2.noTup
  cases e : slcT (vw S3 x) l h with
  | none => rw [e] at q3; exact q3.elim
  | some z =>
    rw [e] at q3
    exact ⟨φ3, S3, _, z, w3, r3.view w3, e, f z S3 φ3 H3 ((e1.trans e2).trans e3) w3 q3⟩
theorem base_of {a : Expr} (h : plainBase a = true) (m : Str) (env : Env) (w : Sem Value) : attributeBase a m env w = w := by
  cases a <;> first | rfl | skip
  rename_i f args kws pos
  cases args <;> first | cases h | skip
  cases f <;> first | rfl | (cases kws <;> rfl)
theorem ob_some {S : Mem} {x : T} {i : Nat} {o : Ob} (h : ob? S x = some (i, o)) : x = .ref i ∧ S[i]? = some o := by
  cases x <;> first | (simp [ob?] at h; done) | skip
  rename_i j
  simp only [ob?] at h
  cases q : S[j]? with
  | none => rw [q] at h; cases h
  | some o' =>
    rw [q] at h
    cases h
    exact ⟨rfl, q⟩
theorem repF_lookup {φ : List Addr} {H : Hp} {f : Str} : ∀ {fs : List (Str × T)} {gs : List (Str × V)}, RepF M φ H fs gs → (∀ t, fs.lookup f = some t → ∃ v, gs.lookup f = some v ∧ Rep M φ H t v) ∧ (fs.lookup f = none → gs.lookup f = none)
  | _, _, .nil => ⟨fun t e => by simp at e, fun _ => rfl⟩
  | _, _, .cons (a := p) (b := q) h r => by
    obtain ⟨h1, h2⟩ := repF_lookup (f := f) r
    obtain ⟨n, t⟩ := p
    obtain ⟨n', v⟩ := q
    obtain ⟨rfl, hr⟩ := (show n = n' ∧ Rep M φ H t v from h)
    rw [List.lookup_cons, List.lookup_cons]
    cases e : f == n with
    | true => exact ⟨fun t' e' => by cases e'; exact ⟨v, rfl, hr⟩, fun e' => by cases e'⟩
    | false => exact ⟨h1, h2⟩
theorem snd_attr {a : E} {a' : Expr} {f : Str} {pos : Pos} (ha : Snd M D k s a a') (hf : s.fl.contains f = true) (hb : plainBase a' = true) : Snd M D k s (.attr a f) (.Attribute a' f pos) := by
  refine .plain (fun X EX XT o => (pe_fld (ha.pe X EX XT o) (base_of hb _ _ _)).imp fun σ H Q q => ?_) (by intros; simp) (fun _ _ => rfl) rfl
  obtain ⟨φ, σT, S, QT, at_, fx, hw, fn⟩ := q
  refine ⟨φ, σT, S, _, at_, fx, hw, fun x S1 φ1 v H1 e1 w1 r1 q1 => ?_⟩
  cases e : ob? S1 x with
  | none => rw [e] at q1; exact q1.elim
  | some io =>
    obtain ⟨i, ob⟩ := io
    rw [e] at q1
    cases ob <;> first | exact q1.elim | skip
    rename_i C fs
    obtain ⟨rfl, e2⟩ := ob_some e
    obtain ⟨p, rfl, e3, oa⟩ := r1.refAt w1 e2
    have q1 : okO (fs.lookup f) fun v => QT v S1 := q1
    cases el : fs.lookup f with
    | none => rw [el] at q1; exact q1.elim
    | some t =>
      rw [el] at q1
      cases oa with
      | ins hc hH hr =>
        obtain ⟨v, e4, rv⟩ := (repF_lookup (f := f) hr).1 t el
        obtain ⟨cl, na⟩ := o.lib.cls C _ hc
        refine ⟨p, _, _, _, v, rfl, hH, by rw [o.m.K]; exact cl, by rw [o.m.K]; exact na f (by rw [← o.fl]; exact List.contains_iff_mem.mp hf), e4, fn t S1 φ1 v H1 e1 w1 rv q1⟩
end
end PC
/-! PcSound3: calls. -/
namespace PC
open PySem L2
variable {M : Mo} {D : Tab} {k : Nat}
section
variable {s : SE} {EX : XK} {X : Cx} {XT : Wx}
theorem room_k (o : XOk M D k s EX X) : Room (5 * k) X.A := o.room.mono (by omega)
/-- what a call needs of the def's promise -/
theorem sp_of {C g : Str} {φ : List Addr} {H : Hp} {S : Mem} {xs : List T} {vs : List V} {QT : Wv} {Q : VK} (w : Wd M φ S H) (r : Reps M φ H xs vs) (h : CallWP D k C g xs S QT XT) (f : Fin M φ H QT Q) (fx : FinX M φ H XT EX) : spOf M D k C g vs H Q EX :=
  ⟨φ, S, xs, QT, XT, w, r, h, f, fx⟩
/-- f(..) of a def -/
theorem snd_call {g : Str} {es : Es} {ps : List Expr} {p1 pos : Pos} (hg : glChk s g = true) (hf : s.fns.contains ("", g) = true) (h : SndA M D k s es ps) : Snd M D k s (.call g es) (.Call (.Name g p1) ps [] pos) := by
  refine .plain (fun X EX XT o => ?_) (by intros; simp) (fun _ _ => rfl) rfl
  obtain ⟨h1, h2, h3⟩ := o.gl hg
  obtain ⟨d, hd⟩ := o.fns _ hf
  obtain ⟨f, fd, pps, e1, e2, e3, e4⟩ := o.lib.fn g d hd
  rw [← o.m.K] at e2 e3
  rw [← o.m.mg] at e1
  rw [← o.m.P, ← o.m.w, ← o.m.K, ← o.m.mg, ← o.m.base] at e4
  have px : Passes (L2N.CX X.prog X.w) X EX := by rw [o.m.P, o.m.w]; exact o.px
  have rd : ∀ (σ : St) (H : Hp) (Q : VK), tE M XT EX (wpE D.G (cw D k) (.call g es) XT) σ H Q → tCall (spOf M D k "" g) [] EX (tA M XT EX (esLen es) (wpEs D.G (cw D k) es XT)) σ H Q := by
    intro σ H Q q
    obtain ⟨φ, σT, S, QT, at_, fx, hw, f⟩ := q
    refine ⟨φ, σT, S, _, at_, fx, hw, fun xs S1 φ1 vs H1 e1 w1 r1 l1 q1 => ?_⟩
    show spOf M D k "" g (vs ++ []) H1 Q EX
    rw [List.append_nil]
    exact sp_of w1 r1 q1 (f.ext e1) (fx.ext e1)
  cases ps with
  | nil =>
    have hn := h.pa X EX XT o
    refine (pe_call0 e4 (room_k o) h1 e1 e2 e3 .nil px h2).imp fun σ H Q q => ?_
    obtain ⟨φ, σT, S, QT, at_, fx, hw, f⟩ := q
    have : es = .nil := by
      cases es with
      | nil => rfl
      | cons e r => have := h.len; simp [esLen] at this
    subst this
    exact sp_of at_.wd .nil hw f fx
  | cons p ps => exact (pe_call e4 (room_k o) h1 e1 e2 e3 .nil px (h.pa X EX XT o) h2 ((h.tl p ps rfl).1 X.env) ((h.tl p ps rfl).2 pos X.env)).imp rd
/-- C(..) -/
theorem snd_mk {C : Str} {es : Es} {ps : List Expr} {p1 pos : Pos} (hg : glChk s C = true) (hC : C ≠ "") (hf : s.fns.contains (C, "__init__") = true) (h : SndA M D k s es ps) : Snd M D k s (.mk C es) (.Call (.Name C p1) ps [] pos) := by
  refine .plain (fun X EX XT o => ?_) (by intros; simp) (fun _ _ => rfl) rfl
  obtain ⟨h1, h2, h3⟩ := o.gl hg
  obtain ⟨d, hd⟩ := o.fns _ hf
  obtain ⟨Ca, f, fd, pps, e0, e1, e2, e3, e4⟩ := o.lib.make C d hd hC
  rw [← o.m.K] at e2 e3
  rw [← o.m.mg] at e1
  rw [← o.m.P, ← o.m.w, ← o.m.K, ← o.m.mg, ← o.m.base] at e4
  have px : Passes (L2N.CX X.prog X.w) X EX := by rw [o.m.P, o.m.w]; exact o.px
  have fin : ∀ (φ : List Addr) (H : Hp) (S : Mem) (xs : List T) (vs : List V) (QT : Wv) (Q : VK), Wd M φ S H → Reps M φ H xs vs → CallWP D k C "__init__" (.ref S.length :: xs) (S ++ [.ins C []]) (fun v S2 => v = .non ∧ QT (.ref S.length) S2) XT → Fin M φ H QT Q → FinX M φ H XT EX →
      ∀ x dx, H x = none → H dx = none → dx ≠ x → spOf M D k C "__init__" (.ref x :: vs) (upd (upd H dx (.own x)) x (.ins Ca dx [])) (fun v H2 => v = .non ∧ Q (.ref x) H2) EX := by
    intro φ H S xs vs QT Q w r hw f fx x dx hx hdx hne
    have a1 : Ext φ H φ (upd H dx (.own x)) := Ext.laid hdx
    have w1 : Wd M φ S (upd H dx (.own x)) := w.laid hdx
    have hx1 : upd H dx (.own x) x = none := by rw [upd_ne hne.symm]; exact hx
    have a2 : Ext φ (upd H dx (.own x)) (φ ++ [x]) (upd (upd H dx (.own x)) x (.ins Ca dx [])) := Ext.add hx1
    have w2 : Wd M (φ ++ [x]) (S ++ [.ins C []]) (upd (upd H dx (.own x)) x (.ins Ca dx [])) := w1.add hx1 (.ins e0 upd_same .nil)
    have a := a1.trans a2
    have hi : (φ ++ [x])[S.length]? = some x := by rw [← w.len]; simp
    refine ⟨φ ++ [x], S ++ [.ins C []], _, _, XT, w2, .cons (.ref hi) (r.ext a w.noTup), hw, fun t S' φ' v H' e' w' rv q => ?_, fx.ext a⟩
    obtain ⟨rfl, q⟩ := q
    cases rv
    exact ⟨rfl, f _ S' φ' _ H' (a.trans e') w' (.ref (e'.get hi)) q⟩
  have hroom : Room (5 * k + 1) X.A := o.room.mono (by omega)
  cases ps with
  | nil =>
    refine (pe_make0 e2 e4 hroom h1 e1 e3 .nil px h2).imp fun σ H Q q => ?_
    obtain ⟨φ, σT, S, QT, at_, fx, hw, f⟩ := q
    have : es = .nil := by
      cases es with
      | nil => rfl
      | cons e r => have := h.len; simp [esLen] at this
    subst this
    exact fun x dx hx hdx hne => fin φ H S [] [] QT Q at_.wd .nil hw f fx x dx hx hdx hne
  | cons p ps =>
    refine (pe_make e2 e4 hroom h1 e1 e3 .nil px (h.pa X EX XT o) h2 ((h.tl p ps rfl).1 X.env) ((h.tl p ps rfl).2 pos X.env)).imp fun σ H Q q => ?_
    obtain ⟨φ, σT, S, QT, at_, fx, hw, f⟩ := q
    refine ⟨φ, σT, S, _, at_, fx, hw, fun xs S1 φ1 vs H1 a1 w1 r1 l1 q1 x dx hx hdx hne => ?_⟩
    rw [List.append_nil]
    exact fin φ1 H1 S1 xs vs QT Q w1 r1 q1 (f.ext a1) (fx.ext a1) x dx hx hdx hne
theorem meth_eval {a : Expr} {m : Str} {ps : List Expr} {apos pos : Pos} (env : Env) (hb : attributeBase a m env (eval a env) = eval a env) (hs : ∀ (pos : Pos) (env : Env), ((backTo pos (starEach ps env)).all fun x => !x.1) = true) (hl : (apos.endLine == pos.line) = true) (hn : ps.length < 20) :
    eval (.Call (.Attribute a m apos) ps [] pos) env = (do
      let ov ← eval a env
      standAt apos.atName
      let (f, first) ← holding [ov] (getMethod ov m (do return (← importBound a env).getD true))
      callWith pos f first (backTo pos (starEach ps env)) (backToKw pos (keywordEach [] env))) := by
  have h1 : methodCallForm (ps.length + ([] : List Keyword).length) (backTo pos (starEach ps env)) (backToKw pos (keywordEach [] env)) = true := by
    unfold methodCallForm
    rw [hs pos env]
    simp [backToKw, keywordEach]
    omega
  have h2 : methodCallPos true a env apos pos = pure pos := by unfold methodCallPos; simp [hl]
  rw [arm_eval_Call, hb]
  unfold methodCall
  rw [h1, h2]
  rfl
/-- o.m(..) -/
theorem snd_meth {a : E} {C m : Str} {es : Es} {a' : Expr} {ps : List Expr} {apos pos : Pos} (ha : Snd M D k s a a') (hb : plainBase a' = true) (hC : C ≠ "") (hf : s.fns.contains (C, m) = true) (h : SndA M D k s es ps)
    (hl : (apos.endLine == pos.line) = true) (hn : esLen es < 20) : Snd M D k s (.meth a C m es) (.Call (.Attribute a' m apos) ps [] pos) := by
  refine .plain (fun X EX XT o => ?_) (by intros; simp) (fun _ _ => rfl) rfl
  obtain ⟨d, hd⟩ := o.fns _ hf
  obtain ⟨Ca, f, fd, pps, e0, e2, e3, e4⟩ := o.lib.meth C m d hd hC
  obtain ⟨cl, _⟩ := o.lib.cls C Ca e0
  rw [← o.m.K] at e2 e3 cl
  rw [← o.m.P, ← o.m.w, ← o.m.K, ← o.m.mg, ← o.m.base] at e4
  have px : Passes (L2N.CX X.prog X.w) X EX := by rw [o.m.P, o.m.w]; exact o.px
  have ht := meth_eval (m := m) (a := a') (ps := ps) (apos := apos) (pos := pos) X.env (base_of hb m X.env (eval a' X.env)) (fun pos env => by rw [h.st]; unfold backTo; simp) hl (by rw [h.len]; exact hn)
  have rd : ∀ (σ : St) (H : Hp) (Q : VK), tE M XT EX (wpE D.G (cw D k) (.meth a C m es) XT) σ H Q → tMeth Ca m (spOf M D k C m) [] EX (tE M XT EX (wpE D.G (cw D k) a XT)) (tA M XT EX (esLen es) (wpEs D.G (cw D k) es XT)) σ H Q := by
    intro σ H Q q
    obtain ⟨φ, σT, S, QT, at_, fx, hw, fn⟩ := q
    refine ⟨φ, σT, S, _, at_, fx, hw, fun x S1 φ1 v H1 e1 w1 r1 q1 => ?_⟩
    cases e : ob? S1 x with
    | none => rw [e] at q1; exact q1.elim
    | some io =>
      obtain ⟨i, ob⟩ := io
      rw [e] at q1
      cases ob <;> first | exact q1.elim | skip
      rename_i C' fs
      obtain ⟨⟨rfl, hlk⟩, q1⟩ := q1
      obtain ⟨rfl, e5⟩ := ob_some e
      obtain ⟨p, rfl, e6, oa⟩ := r1.refAt w1 e5
      cases oa with
      | ins hc hH hr =>
        rw [e0] at hc
        cases hc
        refine ⟨p, _, _, rfl, hH, (repF_lookup hr).2 hlk, φ1, σT, S1, _, at_.go e1 w1, fx.ext e1, q1, fun xs S2 φ2 vs H2 e2' w2 r2 l2 q2 => ?_⟩
        show spOf M D k C' m (.ref p :: (vs ++ [])) H2 Q EX
        rw [List.append_nil]
        exact sp_of w2 (.cons (r1.ext e2' w1.noTup) r2) q2 (fn.ext (e1.trans e2')) (fx.ext (e1.trans e2'))
  cases ps with
  | nil =>
    refine (pe_meth0 (ha.pe X EX XT o) cl e2 e4 (room_k o) e3 .nil px ht).imp fun σ H Q q => ?_
    obtain ⟨x, hx⟩ : ∃ x, x = rd σ H Q q := ⟨_, rfl⟩
    obtain ⟨φ, σT, S, QT, at_, fx, hw, fn⟩ := q
    have : es = .nil := by
      cases es with
      | nil => rfl
      | cons e r => have := h.len; simp [esLen] at this
    subst this
    refine ⟨φ, σT, S, _, at_, fx, hw, fun x S1 φ1 v H1 e1 w1 r1 q1 => ?_⟩
    cases e : ob? S1 x with
    | none => rw [e] at q1; exact q1.elim
    | some io =>
      obtain ⟨i, ob⟩ := io
      rw [e] at q1
      cases ob <;> first | exact q1.elim | skip
      rename_i C' fs
      obtain ⟨⟨rfl, hlk⟩, q1⟩ := q1
      obtain ⟨rfl, e5⟩ := ob_some e
      obtain ⟨p, rfl, e6, oa⟩ := r1.refAt w1 e5
      cases oa with
      | ins hc hH hr =>
        rw [e0] at hc
        cases hc
        exact ⟨p, _, _, rfl, hH, (repF_lookup hr).2 hlk, sp_of w1 (.cons r1 .nil) q1 (fn.ext e1) (fx.ext e1)⟩
  | cons p ps => exact (pe_meth (ha.pe X EX XT o) cl e2 e4 (room_k o) e3 .nil px (h.pa X EX XT o) ((h.tl p ps rfl).1 X.env) ((h.tl p ps rfl).2 pos X.env) ht).imp rd
/-! built-ins -/
theorem bi_blt (f : Bi) : biName f ∈ bltNames := by cases f <;> decide +kernel
inductive BiV : Bi → Type where
  | b {f : Bi} (id : String) (h : biVal f = .builtin id) (hb : bootBuiltins (biName f) = some (.builtin id)) : BiV f
  | t {f : Bi} (T : String) (h : biVal f = .type T) (hb : bootBuiltins (biName f) = some (.type T)) : BiV f
def biV (f : Bi) : BiV f := by
  cases f
  · exact .b "len" rfl (by decide +kernel)
  · exact .b "max" rfl (by decide +kernel)
  · exact .b "min" rfl (by decide +kernel)
  · exact .b "max" rfl (by decide +kernel)
  · exact .b "min" rfl (by decide +kernel)
  · exact .b "sum" rfl (by decide +kernel)
  · exact .b "all" rfl (by decide +kernel)
  · exact .b "any" rfl (by decide +kernel)
  · exact .t "tuple" rfl (by decide +kernel)
  · exact .t "list" rfl (by decide +kernel)
  · exact .t "int" rfl (by decide +kernel)
  · exact .t "str" rfl (by decide +kernel)
  · exact .b "sorted" rfl (by decide +kernel)
  · exact .t "dict" rfl (by decide +kernel)
  · exact .t "list" rfl (by decide +kernel)
  · exact .t "list" rfl (by decide +kernel)
theorem bi_read {f : Bi} {es : Es} {σ : St} {H : Hp} {Q : VK} (q : tF M XT EX (wpE D.G (cw D k) (.bi f es) XT) σ H Q) : tA M XT EX (esLen es) (wpEs D.G (cw D k) es XT) σ H fun vs H1 => rBi M f vs H1 Q := by
  obtain ⟨φ, σT, S, QT, at_, fx, hw, fn⟩ := q
  refine ⟨φ, σT, S, _, at_, fx, hw, fun xs S1 φ1 vs H1 e1 w1 r1 l1 q1 => ?_⟩
  cases e : biT f (xs.map (vw S1)) with
  | none => rw [e] at q1; exact q1.elim
  | some z =>
    rw [e] at q1
    exact ⟨φ1, S1, _, z, w1, r1.views w1, e, fn z S1 φ1 H1 e1 w1 q1⟩
/-- the promise of a built-in is kept -/
def BiOk (M : Mo) (X : Cx) (f : Bi) : Prop := CallR X (biVal f) (rBi M f)
theorem pf_bi {f : Bi} {es : Es} {ps : List Expr} {p1 pos : Pos} (hg : glChk s (biName f) = true) (h0 : 0 < esLen es) (h : SndA M D k s es ps) (ok : ∀ (X : Cx) (EX : XK), XOk M D k s EX X → BiOk M X f) :
    ∀ (X : Cx) (EX : XK) (XT : Wx), XOk M D k s EX X → PE X (.Call (.Name (biName f) p1) ps [] pos) (tF M XT EX (wpE D.G (cw D k) (.bi f es) XT)) := by
  intro X EX XT o
  obtain ⟨h1, h2, h3⟩ := o.gl hg
  have hm : X.mg (biName f) = none := by rw [o.m.mg]; exact o.lib.blt _ (bi_blt f)
  have hc := ok X EX o
  cases ps with
  | nil =>
    have := h.len
    simp at this
    omega
  | cons p ps =>
    cases biV f with
    | b id e hb =>
      unfold BiOk at hc
      rw [e] at hc
      exact (pe_callB hc h1 hm hb (h.pa X EX XT o) h3 h2 ((h.tl p ps rfl).1 X.env) ((h.tl p ps rfl).2 pos X.env)).imp fun σ H Q q => bi_read q
    | t T e hb =>
      unfold BiOk at hc
      rw [e] at hc
      exact (pe_callTy hc h1 hm hb (h.pa X EX XT o) h3 h2 ((h.tl p ps rfl).1 X.env) ((h.tl p ps rfl).2 pos X.env)).imp fun σ H Q q => bi_read q
theorem snd_bi {f : Bi} {es : Es} {ps : List Expr} {p1 pos : Pos} (hg : glChk s (biName f) = true) (h0 : 0 < esLen es) (h : SndA M D k s es ps) (ok : ∀ (X : Cx) (EX : XK), XOk M D k s EX X → BiOk M X f) : Snd M D k s (.bi f es) (.Call (.Name (biName f) p1) ps [] pos) :=
  have pf := pf_bi (M := M) (D := D) (k := k) (p1 := p1) (pos := pos) hg h0 h ok
  ⟨fun X EX XT o => (pf X EX XT o).imp fun σ H Q q => tE_tF q, fun X EX XT o => (pt_val ((pf X EX XT o).imp fun σ H Q q => tE_tF q) (fun _ => rfl)).imp fun σ H Q q => tT_tE q, notBool_pw (by intros; simp), fun _ => pf⟩
/-! isinstance -/
theorem boot_isi : bootBuiltins ("isinstance" : Str) = some (.builtin "isinstance") := by decide +kernel
theorem boot_ty (t : Ty) : bootBuiltins (tyName t) = some (.type t.name) ∧ tyName t ∈ bltNames := by cases t <;> decide +kernel
theorem snd_isi {a : E} {t : Ty} {a' : Expr} {p1 p2 pos : Pos} (hg : glChk s "isinstance" = true) (hg2 : glChk s (tyName t) = true) (ha : Snd M D k s a a') (hs : notStar a' = true) : Snd M D k s (.isi a t) (.Call (.Name "isinstance" p1) [a', .Name (tyName t) p2] [] pos) := by
  refine .plain (fun X EX XT o => ?_) (by intros; simp) (fun _ _ => rfl) rfl
  obtain ⟨h1, h2, h3⟩ := o.gl hg
  obtain ⟨g1, g2, g3⟩ := o.gl hg2
  have hm : X.mg "isinstance" = none := by rw [o.m.mg]; exact o.lib.blt _ (by decide +kernel)
  have hm2 : X.mg (tyName t) = none := by rw [o.m.mg]; exact o.lib.blt _ (boot_ty t).2
  have hn : PE X (.Name (tyName t) p2) (tC (.ty t.name)) := pe_bltn g1 hm2 (boot_ty t).1 rfl g3 g2
  refine (pe_callB (call_isiT (M := M) t) h1 hm boot_isi (pa_cons (ha.pe X EX XT o) (pa_cons hn pa_nil) (star_cons hs _ _)) h3 h2 (star_cons hs _ _)).imp fun σ H Q q => ?_
  obtain ⟨φ, σT, S, QT, at_, fx, hw, f⟩ := q
  refine ⟨φ, σT, S, _, at_, fx, hw, fun x S1 φ1 v H1 e1 w1 r1 q1 => ?_⟩
  cases e : isiT (vw S1 x) t with
  | none => rw [e] at q1; exact q1.elim
  | some b =>
    rw [e] at q1
    exact ⟨φ1, _, v, b, rfl, r1.view w1, e, f _ S1 φ1 _ H1 e1 w1 (.bl b) q1⟩
/-! methods of built-in types -/
theorem mf_lcount : MFact "count" "list" "list.count" := ⟨PySem.F.plainAttrs_list, PySem.F.slot_list_count, PySem.F.type_list_count⟩
theorem mf_tcount : MFact "count" "tuple" "tuple.count" := ⟨PySem.F.plainAttrs_tuple, PySem.F.slot_tuple_count, PySem.F.type_tuple_count⟩
theorem mf_lindex : MFact "index" "list" "list.index" := ⟨PySem.F.plainAttrs_list, PySem.F.slot_list_index, PySem.F.type_list_index⟩
theorem mf_tindex : MFact "index" "tuple" "tuple.index" := ⟨PySem.F.plainAttrs_tuple, PySem.F.slot_tuple_index, PySem.F.type_tuple_index⟩
theorem mf_get : MFact "get" "dict" "dict.get" := ⟨PySem.F.plainAttrs_dict, PySem.F.slot_dict_get, PySem.F.type_dict_get⟩
theorem kind1 {t : T} (h : kindT t = 1) : ∃ xs, t = .lst xs := by cases t <;> first | exact ⟨_, rfl⟩ | cases h
theorem kind2 {t : T} (h : kindT t = 2) : ∃ xs, t = .tup xs := by cases t <;> first | exact ⟨_, rfl⟩ | cases h
theorem kind3 {t : T} (h : kindT t = 3) : ∃ ks vs, t = .dct ks vs := by cases t <;> first | exact ⟨_, _, rfl⟩ | cases h
theorem kind4 {t : T} (h : kindT t = 4) : ∃ z, t = .str z := by cases t <;> first | exact ⟨_, rfl⟩ | cases h
theorem Reps.one {φ : List Addr} {H : Hp} {x : T} {vs : List V} (h : Reps M φ H [x] vs) : ∃ v, vs = [v] ∧ Rep M φ H x v := by
  cases h with
  | cons a b => cases b; exact ⟨_, rfl, a⟩
section
variable {xs ys : List T} {K : T → Prop}
theorem bm_cntL (h : okO (bmT .count (.lst xs) ys) K) : ∃ y, ys = [y] ∧ flt y = true ∧ xs.all flt = true ∧ K (.int (xs.countP fun x => eqT x y)) := by
  rcases ys with _ | ⟨y, _ | ⟨z, r⟩⟩
  · exact h.elim
  · have h : okO (if flt y && xs.all flt then some (T.int (xs.countP fun x => eqT x y)) else none) K := h
    split at h
    · rename_i hg; rw [Bool.and_eq_true] at hg; exact ⟨y, rfl, hg.1, hg.2, h⟩
    · exact h.elim
  · exact h.elim
theorem bm_cntT (h : okO (bmT .count (.tup xs) ys) K) : ∃ y, ys = [y] ∧ flt y = true ∧ xs.all flt = true ∧ K (.int (xs.countP fun x => eqT x y)) := by
  rcases ys with _ | ⟨y, _ | ⟨z, r⟩⟩
  · exact h.elim
  · have h : okO (if flt y && xs.all flt then some (T.int (xs.countP fun x => eqT x y)) else none) K := h
    split at h
    · rename_i hg; rw [Bool.and_eq_true] at hg; exact ⟨y, rfl, hg.1, hg.2, h⟩
    · exact h.elim
  · exact h.elim
theorem place_inv {y : T} (h : okO (placeT xs y) K) : ∃ j : Nat, xs.findIdx? (fun x => eqT x y) = some j ∧ K (.int j) := by
  unfold placeT at h
  cases e : xs.findIdx? (fun x => eqT x y) with
  | none => rw [e] at h; exact h.elim
  | some j => rw [e] at h; exact ⟨j, rfl, h⟩
theorem bm_ixL (h : okO (bmT .index (.lst xs) ys) K) : ∃ y j, ys = [y] ∧ flt y = true ∧ xs.all flt = true ∧ xs.findIdx? (fun x => eqT x y) = some j ∧ K (.int (j : Nat)) := by
  rcases ys with _ | ⟨y, _ | ⟨z, r⟩⟩
  · exact h.elim
  · have h : okO (if flt y && xs.all flt then placeT xs y else none) K := h
    split at h
    · rename_i hg; rw [Bool.and_eq_true] at hg
      obtain ⟨j, e, q⟩ := place_inv h
      exact ⟨y, j, rfl, hg.1, hg.2, e, q⟩
    · exact h.elim
  · exact h.elim
theorem bm_ixT (h : okO (bmT .index (.tup xs) ys) K) : ∃ y j, ys = [y] ∧ flt y = true ∧ xs.all flt = true ∧ xs.findIdx? (fun x => eqT x y) = some j ∧ K (.int (j : Nat)) := by
  rcases ys with _ | ⟨y, _ | ⟨z, r⟩⟩
  · exact h.elim
  · have h : okO (if flt y && xs.all flt then placeT xs y else none) K := h
    split at h
    · rename_i hg; rw [Bool.and_eq_true] at hg
      obtain ⟨j, e, q⟩ := place_inv h
      exact ⟨y, j, rfl, hg.1, hg.2, e, q⟩
    · exact h.elim
  · exact h.elim
theorem bm_get1 {ks vs : List T} (h : okO (bmT .get1 (.dct ks vs) ys) K) : ∃ y, ys = [y] ∧ kt y = true ∧ ks.all kt = true ∧ K ((dget ks vs y).getD .non) := by
  rcases ys with _ | ⟨y, _ | ⟨z, r⟩⟩
  · exact h.elim
  · have h : okO (if kt y && ks.all kt then some ((dget ks vs y).getD .non) else none) K := h
    split at h
    · rename_i hg; rw [Bool.and_eq_true] at hg; exact ⟨y, rfl, hg.1, hg.2, h⟩
    · exact h.elim
  · exact h.elim
theorem bm_get2 {ks vs : List T} (h : okO (bmT .get2 (.dct ks vs) ys) K) : ∃ y z, ys = [y, z] ∧ kt y = true ∧ ks.all kt = true ∧ K ((dget ks vs y).getD z) := by
  rcases ys with _ | ⟨y, _ | ⟨z, _ | ⟨z2, r⟩⟩⟩
  · exact h.elim
  · exact h.elim
  · have h : okO (if kt y && ks.all kt then some ((dget ks vs y).getD z) else none) K := h
    split at h
    · rename_i hg; rw [Bool.and_eq_true] at hg; exact ⟨y, z, rfl, hg.1, hg.2, h⟩
    · exact h.elim
  · exact h.elim
end
/-- d.get as a method -/
def rGet1 (M : Mo) : V → List V → Hp → VK → Prop := fun x xs H Q => ∃ φ S ks ts y v, Wd M φ S H ∧ View M φ H (.dct ks ts) x ∧ xs = [v] ∧ Rep M φ H y v ∧ kt y = true ∧ ks.all kt = true ∧ ∀ u, Rep M φ H ((dget ks ts y).getD .non) u → Q u H
def rGet2 (M : Mo) : V → List V → Hp → VK → Prop := fun x xs H Q => ∃ φ S ks ts y z v w, Wd M φ S H ∧ View M φ H (.dct ks ts) x ∧ xs = [v, w] ∧ Rep M φ H y v ∧ Rep M φ H z w ∧ kt y = true ∧ ks.all kt = true ∧ ∀ u, Rep M φ H ((dget ks ts y).getD z) u → Q u H
theorem mt_get1 (o : XOk M D k s EX X) : MtR X "dict.get" (rGet1 M) := by
  intro pins s σ H x xs v us Q I rx rxs h
  obtain ⟨φ, S, ks, ts, y, w, w0, va, rfl, ry, hy, hks, q⟩ := h
  obtain ⟨d, kvs, vvs, rfl, h1, r1, r2⟩ := va.dct_inv
  cases rx
  obtain ⟨u, rfl, ru⟩ := rxs.one
  exact dict_get0 o.m I (by have := o.units; omega) h1 hks hy r1 r2 ry ru q
theorem mt_get2 (o : XOk M D k s EX X) : MtR X "dict.get" (rGet2 M) := by
  intro pins s σ H x xs v us Q I rx rxs h
  obtain ⟨φ, S, ks, ts, y, z, w, w', w0, va, rfl, ry, rz, hy, hks, q⟩ := h
  obtain ⟨d, kvs, vvs, rfl, h1, r1, r2⟩ := va.dct_inv
  cases rx
  obtain ⟨u, u', rfl, ru, ru'⟩ := rxs.two
  exact dict_getOr o.m I (by have := o.units; omega) h1 hks hy r1 r2 ry ru rz ru' q
/-! join -/
def rJoin : V → List V → Hp → VK → Prop := fun x xs H Q => ∃ z a vs l, x = .str z ∧ xs = [.ref a] ∧ Rd H a (.lst vs) ∧ vs = l.map V.str ∧ JoinOk z l = true ∧ Q (.str (Txt.join z l)) H
theorem vals_strs : ∀ {l : List Str} {its : List Value}, Vals (l.map V.str) its → ∃ lt : List (Str × Tok), its = strValues lt ∧ lt.map (·.1) = l
  | [], _, .nil => ⟨[], rfl, rfl⟩
  | z :: l, _, .cons r rs => by
    obtain ⟨t, rfl⟩ := r
    obtain ⟨lt, rfl, e⟩ := vals_strs rs
    exact ⟨(z, t) :: lt, rfl, by rw [List.map_cons, e]⟩
theorem mt_join {X : Cx} : MtR X "str.join" rJoin := by
  intro pins s σ H x xs v us Q I rx rxs h
  obtain ⟨z, a, vs, l, rfl, rfl, hr, rfl, hok, q⟩ := h
  obtain ⟨t, rfl⟩ := rx
  obtain ⟨u, rfl, ru⟩ := rxs.one
  cases ru
  obtain ⟨_, its, n, rv, _, e⟩ := lstR I hr
  obtain ⟨lt, rfl, el⟩ := vals_strs rv
  exact SC.join ⟨_, e, rfl, _, rfl⟩ el hok fun t' k => ⟨.str _, H, I.tok _, ⟨t', rfl⟩, q⟩
theorem mf_join : MFact "join" "str" "str.join" := ⟨PySem.F.plainAttrs_str, PySem.F.slot_str_join, PySem.F.type_str_join⟩
theorem strs_rep {φ : List Addr} {H : Hp} : ∀ {xs : List T} {vs : List V} {l : List Str}, strs? xs = some l → Reps M φ H xs vs → vs = l.map V.str
  | [], _, l, e, .nil => by
    cases e
    rfl
  | x :: xs, _, l, e, .cons r rs => by
    cases x <;> first | (simp [strs?] at e; done) | skip
    rename_i z
    simp only [strs?] at e
    cases e2 : strs? xs with
    | none => rw [e2] at e; cases e
    | some l2 =>
      rw [e2] at e
      cases e
      cases r
      rw [strs_rep e2 rs]
      rfl
theorem bm_join {z : Str} {ys : List T} {K : T → Prop} (h : okO (bmT .join (.str z) ys) K) : ∃ xs l, ys = [.lst xs] ∧ strs? xs = some l ∧ JoinOk z l = true ∧ K (.str (Txt.join z l)) := by
  rcases ys with _ | ⟨y, _ | ⟨y2, ys⟩⟩ <;> first | exact h.elim | skip
  · cases y <;> first | exact h.elim | skip
    rename_i xs
    have h : okO ((strs? xs).bind fun l => if JoinOk z l = true then some (T.str (Txt.join z l)) else none) K := h
    cases e : strs? xs with
    | none => rw [e] at h; exact h.elim
    | some l =>
      rw [e] at h
      have h : okO (if JoinOk z l = true then some (T.str (Txt.join z l)) else none) K := h
      split at h
      · exact ⟨xs, l, rfl, e, by assumption, h⟩
      · exact h.elim
  · exact absurd h (by unfold bmT; split <;> first | (intro z; exact z.elim) | (rename_i h1 _ ; cases h1; done) | (rename_i h1 h2; cases h2; done) | (rename_i h1 h2 _; cases h1; done))
theorem bmK_kind {m : Bm} {n : Nat} (hm : m = .count ∨ m = .index ∨ m = .get1 ∨ m = .get2) (h : bmK m n = true) : ((m = .count ∨ m = .index) ∧ (n = 1 ∨ n = 2)) ∨ ((m = .get1 ∨ m = .get2) ∧ n = 3) := by
  unfold bmK at h
  split at h <;> simp_all
theorem bm_read (o : XOk M D k s EX X) {a : E} {m : Bm} {es : Es} {σ : St} {H : Hp} {Q : VK} (hm : m = .count ∨ m = .index ∨ m = .get1 ∨ m = .get2 ∨ m = .join) (q : tE M XT EX (wpE D.G (cw D k) (.bm a m es) XT) σ H Q) :
    tBMV X M (bmName m) (tE M XT EX (wpE D.G (cw D k) a XT)) (tA M XT EX (esLen es) (wpEs D.G (cw D k) es XT)) σ H Q := by
  obtain ⟨φ, σT, S, QT, at_, fx, hw, f⟩ := q
  refine ⟨φ, σT, S, _, at_, fx, hw, fun x S1 φ1 v H1 e1 w1 r1 q0 => ?_⟩
  obtain ⟨hk, q1⟩ := q0
  have va := r1.view w1
  have fa := f.ext e1
  have xa := fx.ext e1
  by_cases hj : m = .join
  · subst hj
    have k1 : kindT (vw S1 x) = 4 := by
      unfold bmK at hk
      split at hk <;> simp_all
    obtain ⟨z, ex⟩ := kind4 k1
    rw [ex] at va
    cases va.str_inv
    refine ⟨"str", "str.join", rJoin, mf_join, mt_join, .str z, φ1, σT, S1, _, at_.go e1 w1, xa, q1, fun ys S2 φ2 us H2 e2 w2 r2 l2 q2 => ?_⟩
    obtain ⟨kk, q2⟩ := q2
    rw [k1] at kk
    obtain ⟨z2, ex2⟩ := kind4 kk.symm
    have vb := (r1.ext e2 w1.noTup).view w2
    rw [ex2] at q2 vb
    cases vb.str_inv
    obtain ⟨xs, l, rfl, g1, g2, q2⟩ := bm_join q2
    obtain ⟨u, rfl, ru⟩ := r2.one
    cases ru with
    | @lst _ p vs0 m hH rr => exact ⟨z, p, vs0, l, rfl, rfl, .inl hH, strs_rep g1 rr, g2, fa _ S2 φ2 _ H2 e2 w2 (.str _) q2⟩
  have hm : m = .count ∨ m = .index ∨ m = .get1 ∨ m = .get2 := by
    rcases hm with h | h | h | h | h
    · exact .inl h
    · exact .inr (.inl h)
    · exact .inr (.inr (.inl h))
    · exact .inr (.inr (.inr h))
    · exact absurd h hj
  rcases bmK_kind hm hk with ⟨hm, k1 | k1⟩ | ⟨hm, k1⟩
  · obtain ⟨xs, ex⟩ := kind1 k1
    rw [ex] at va
    obtain ⟨p, vs, rfl, h1, rr⟩ := va.lst_inv
    rcases hm with rfl | rfl
    · refine ⟨"list", "list.count", rCntF M "list", mf_lcount, mt_cntL, .lst h1, φ1, σT, S1, _, at_.go e1 w1, xa, q1, fun ys S2 φ2 us H2 e2 w2 r2 l2 q2 => ?_⟩
      obtain ⟨kk, q2⟩ := q2
      rw [k1] at kk
      obtain ⟨xs2, ex2⟩ := kind1 kk.symm
      have vb := (r1.ext e2 w1.noTup).view w2
      rw [ex2] at q2 vb
      obtain ⟨p', vs2, ep, h2, rr2⟩ := vb.lst_inv
      cases ep
      obtain ⟨y, rfl, g1, g2, q2⟩ := bm_cntL q2
      obtain ⟨u, rfl, ru⟩ := r2.one
      exact ⟨φ2, p, xs2, vs2, y, u, rfl, rfl, .inl ⟨rfl, h2⟩, rr2, ru, g1, g2, fa _ S2 φ2 _ H2 e2 w2 (.int _) q2⟩
    · refine ⟨"list", "list.index", rIxF M "list", mf_lindex, mt_ixL, .lst h1, φ1, σT, S1, _, at_.go e1 w1, xa, q1, fun ys S2 φ2 us H2 e2 w2 r2 l2 q2 => ?_⟩
      obtain ⟨kk, q2⟩ := q2
      rw [k1] at kk
      obtain ⟨xs2, ex2⟩ := kind1 kk.symm
      have vb := (r1.ext e2 w1.noTup).view w2
      rw [ex2] at q2 vb
      obtain ⟨p', vs2, ep, h2, rr2⟩ := vb.lst_inv
      cases ep
      obtain ⟨y, j, rfl, g1, g2, g3, q2⟩ := bm_ixL q2
      obtain ⟨u, rfl, ru⟩ := r2.one
      exact ⟨φ2, p, xs2, vs2, y, u, j, rfl, rfl, .inl ⟨rfl, h2⟩, rr2, ru, g1, g2, g3, fa _ S2 φ2 _ H2 e2 w2 (.int _) q2⟩
  · obtain ⟨xs, ex⟩ := kind2 k1
    rw [ex] at va
    obtain ⟨p, vs, rfl, h1, rr⟩ := va.tup_inv
    rcases hm with rfl | rfl
    · refine ⟨"tuple", "tuple.count", rCntF M "tuple", mf_tcount, mt_cntT, .tup h1, φ1, σT, S1, _, at_.go e1 w1, xa, q1, fun ys S2 φ2 us H2 e2 w2 r2 l2 q2 => ?_⟩
      obtain ⟨kk, q2⟩ := q2
      rw [k1] at kk
      obtain ⟨xs2, ex2⟩ := kind2 kk.symm
      have vb := (r1.ext e2 w1.noTup).view w2
      rw [ex2] at q2 vb
      obtain ⟨p', vs2, ep, h2, rr2⟩ := vb.tup_inv
      cases ep
      obtain ⟨y, rfl, g1, g2, q2⟩ := bm_cntT q2
      obtain ⟨u, rfl, ru⟩ := r2.one
      exact ⟨φ2, p, xs2, vs2, y, u, rfl, rfl, .inr ⟨rfl, h2⟩, rr2, ru, g1, g2, fa _ S2 φ2 _ H2 e2 w2 (.int _) q2⟩
    · refine ⟨"tuple", "tuple.index", rIxF M "tuple", mf_tindex, mt_ixT, .tup h1, φ1, σT, S1, _, at_.go e1 w1, xa, q1, fun ys S2 φ2 us H2 e2 w2 r2 l2 q2 => ?_⟩
      obtain ⟨kk, q2⟩ := q2
      rw [k1] at kk
      obtain ⟨xs2, ex2⟩ := kind2 kk.symm
      have vb := (r1.ext e2 w1.noTup).view w2
      rw [ex2] at q2 vb
      obtain ⟨p', vs2, ep, h2, rr2⟩ := vb.tup_inv
      cases ep
      obtain ⟨y, j, rfl, g1, g2, g3, q2⟩ := bm_ixT q2
      obtain ⟨u, rfl, ru⟩ := r2.one
      exact ⟨φ2, p, xs2, vs2, y, u, j, rfl, rfl, .inr ⟨rfl, h2⟩, rr2, ru, g1, g2, g3, fa _ S2 φ2 _ H2 e2 w2 (.int _) q2⟩
  · obtain ⟨ks, ts, ex⟩ := kind3 k1
    rw [ex] at va
    obtain ⟨p, kvs, vvs, rfl, h1, rr, rr'⟩ := va.dct_inv
    rcases hm with rfl | rfl
    · refine ⟨"dict", "dict.get", rGet1 M, mf_get, mt_get1 o, .dct h1, φ1, σT, S1, _, at_.go e1 w1, xa, q1, fun ys S2 φ2 us H2 e2 w2 r2 l2 q2 => ?_⟩
      obtain ⟨kk, q2⟩ := q2
      rw [k1] at kk
      obtain ⟨ks2, ts2, ex2⟩ := kind3 kk.symm
      have vb := (r1.ext e2 w1.noTup).view w2
      rw [ex2] at q2 vb
      obtain ⟨y, rfl, g1, g2, q2⟩ := bm_get1 q2
      obtain ⟨u, rfl, ru⟩ := r2.one
      exact ⟨φ2, S2, ks2, ts2, y, u, w2, vb, rfl, ru, g1, g2, fun z rz => fa _ S2 φ2 z H2 e2 w2 rz q2⟩
    · refine ⟨"dict", "dict.get", rGet2 M, mf_get, mt_get2 o, .dct h1, φ1, σT, S1, _, at_.go e1 w1, xa, q1, fun ys S2 φ2 us H2 e2 w2 r2 l2 q2 => ?_⟩
      obtain ⟨kk, q2⟩ := q2
      rw [k1] at kk
      obtain ⟨ks2, ts2, ex2⟩ := kind3 kk.symm
      have vb := (r1.ext e2 w1.noTup).view w2
      rw [ex2] at q2 vb
      obtain ⟨y, z, rfl, g1, g2, q2⟩ := bm_get2 q2
      cases r2 with
      | cons ru r2 =>
        obtain ⟨u', rfl, ru'⟩ := r2.one
        exact ⟨φ2, S2, ks2, ts2, y, z, _, u', w2, vb, rfl, ru, ru', g1, g2, fun z rz => fa _ S2 φ2 z H2 e2 w2 rz q2⟩
end
end PC
/-! PcIt: targets, what is walked, list comprehensions. -/
namespace PC
open PySem L2
variable {M : Mo} {D : Tab} {k : Nat}
/-! locks -/
def tLockT (t : TT) : TT := fun σ H Q => ∃ d u, H d = some u ∧ Mut (some u) ∧ ∀ od, t σ (upd H d (.frz od u)) fun v H' => H' d = some (.frz od u) ∧ Q v (upd H' d u)
theorem pt_lock {X : Cx} {e : Expr} {t : TT} (h : PT X e t) : PT X e (tLockT t) := by
  refine ⟨fun pins s σ H Q I hw => ?_⟩
  obtain ⟨d, u, hd, mu, hw⟩ := hw
  obtain ⟨od, I1⟩ := I.lock hd mu
  refine thn (h.run pins s σ _ _ I1 (hw od)) fun v s1 ⟨H1, I2, e2, q⟩ => ?_
  exact ⟨_, I2.unlock e2 (I.nofrz hd mu), q⟩
def rem (H : Hp) (D : Addr) : Hp := fun a => if a = D then none else H a
section
variable {φ φ' : List Addr} {S : Mem} {H H' : Hp} {p : Addr}
theorem rem_same : rem H p p = none := by simp [rem]
theorem rem_ne {a : Addr} (h : a ≠ p) : rem H p a = H a := by simp [rem, h]
theorem rem_some {a : Addr} {o : HO} (h : rem H p a = some o) : a ≠ p ∧ H a = some o := by
  by_cases e : a = p
  · subst e; rw [rem_same] at h; cases h
  · exact ⟨e, by rw [rem_ne e] at h; exact h⟩
theorem upd_rem {o : HO} : upd (rem H p) p o = upd H p o := by
  funext a
  by_cases e : a = p
  · subst e; rw [upd_same, upd_same]
  · rw [upd_ne e, upd_ne e, rem_ne e]
theorem rem_upd {o : HO} : rem (upd H p o) p = rem H p := by
  funext a
  by_cases e : a = p
  · subst e; rw [rem_same, rem_same]
  · rw [rem_ne e, rem_ne e, upd_ne e]
theorem upd_self {o : HO} (h : H p = some o) : upd H p o = H := by
  funext a
  by_cases e : a = p
  · subst e; rw [upd_same, h]
  · rw [upd_ne e]
theorem rem_none (h : H p = none) : rem H p = H := by
  funext a
  by_cases e : a = p
  · subst e; rw [rem_same, h]
  · rw [rem_ne e]
theorem upd_upd {o u : HO} : upd (upd H p o) p u = upd H p u := by
  funext a
  by_cases e : a = p
  · subst e; rw [upd_same, upd_same]
  · rw [upd_ne e, upd_ne e, upd_ne e]
/-- nothing told stands at a locked list -/
def isTupH : HO → Bool
  | .tup _ => true
  | _ => false
def Lkd (H : Hp) (p : Addr) : Prop := ∃ o u, H p = some (.frz o u) ∧ isTupH u = false
mutual
theorem Rep.rem (l : Lkd H p) : ∀ {t : T} {v : V}, Rep M φ H t v → Rep M φ (rem H p) t v
  | _, _, .non => .non
  | _, _, .bl b => .bl b
  | _, _, .int i => .int i
  | _, _, .str x => .str x
  | _, _, .tup h r => .tup (by
      obtain ⟨o, h1, h2⟩ := h
      obtain ⟨o', xs, l, nt⟩ := l
      exact ⟨o, by rw [rem_ne (fun e => by subst e; rw [l] at h1; cases h1; cases nt)]; exact h1, h2⟩) (Reps.rem l r)
  | _, _, .lst m h r => .lst m (by
      obtain ⟨o', xs, l, nt⟩ := l
      rw [rem_ne (fun e => by subst e; rw [l] at h; cases h)]; exact h) (Reps.rem l r)
  | _, _, .dct m h r s => .dct m (by
      obtain ⟨h1, h2, o, h3, h4⟩ := h
      obtain ⟨o', xs, l, nt⟩ := l
      exact ⟨h1, h2, o, by rw [rem_ne (fun e => by subst e; rw [l] at h3; cases h3)]; exact h3, h4⟩) (Reps.rem l r) (Reps.rem l s)
  | _, _, .ref h => .ref h
theorem Reps.rem (l : Lkd H p) : ∀ {ts : List T} {vs : List V}, Reps M φ H ts vs → Reps M φ (rem H p) ts vs
  | _, _, .nil => .nil
  | _, _, .cons r s => .cons (Rep.rem l r) (Reps.rem l s)
end
theorem ObAt.rem (l : Lkd H p) {a : Addr} {o : Ob} (ne : a ≠ p) (h : ObAt M φ H a o) : ObAt M φ (PC.rem H p) a o := by
  cases h with
  | lst h r => exact .lst (by rw [rem_ne ne]; exact h) (r.rem l)
  | dct h r s =>
    obtain ⟨h1, h2, o, h3, h4⟩ := h
    exact .dct ⟨h1, h2, o, by rw [rem_ne ne]; exact h3, h4⟩ (r.rem l) (s.rem l)
  | ins c h r => exact .ins c (by rw [rem_ne ne]; exact h) (Paired.mapP r fun _ _ q => ⟨q.1, q.2.rem l⟩)
  | fix h r => exact .fix (h.imp (fun h => by rw [rem_ne ne]; exact h) fun ⟨o, h⟩ => ⟨o, by rw [rem_ne ne]; exact h⟩) (r.rem l)
theorem Wd.rem (w : Wd M φ S H) (l : Lkd H p) (n : p ∉ φ) : Wd M φ S (rem H p) := by
  refine ⟨w.len, w.nd, fun i o a h1 h2 => (w.at_ i o a h1 h2).rem l fun e => n (e ▸ List.mem_of_getElem? h2), fun r hr => ?_⟩
  obtain ⟨o', xs, l, nt⟩ := l
  obtain ⟨n1, ps, h1, h2, h3⟩ := w.tb r hr
  refine ⟨n1, ps, by rw [rem_ne (fun e => by rw [e, l] at h1; cases h1)]; exact h1, h2, fun pos cv hc => ?_⟩
  obtain ⟨c, e, nc, hco⟩ := h3 pos cv hc
  refine ⟨c, e, nc, ?_⟩
  rw [rem_ne fun z => ?_]
  · exact hco
  · rw [z, l] at hco
    cases hco
/-- a step seen without p -/
theorem Ext.remB {o : HO} (e : Ext φ (upd H p o) φ' H') : Ext φ (PC.rem H p) φ' (PC.rem H' p) := by
  refine ⟨?_, fun a u h n t => ?_, fun a h => ?_, fun a ps h n => ?_⟩
  · obtain ⟨ψ, rfl, hn⟩ := e.pre
    refine ⟨ψ, rfl, fun a m => ?_⟩
    by_cases z : a = p
    · subst z; exact rem_same
    · have := hn a m
      rw [upd_ne z] at this
      rw [rem_ne z]; exact this
  · obtain ⟨z, h⟩ := rem_some h
    rw [rem_ne z]
    exact e.keep a u (by rw [upd_ne z]; exact h) n t
  · cases q : PC.rem H p a with
    | none => exact absurd q h
    | some o' =>
      obtain ⟨z, q⟩ := rem_some q
      rw [rem_ne z]
      exact e.there a (by rw [upd_ne z, q]; simp)
  · obtain ⟨z, h⟩ := rem_some h
    obtain ⟨qs, h1⟩ := e.nt a ps h n
    rw [upd_ne z] at h1
    exact ⟨qs, by rw [rem_ne z]; exact h1⟩
/-- more stands, nothing tracked touched -/
structure Up (φ : List Addr) (H H' : Hp) : Prop where
  ext : Ext φ H φ H'
  same : ∀ a ∈ φ, H' a = H a
  tbs : ∀ a ps, H a = some (.tbl ps) → H' a = some (.tbl ps)
theorem Up.refl : Up φ H H := ⟨Ext.refl _ _, fun _ _ => rfl, fun _ _ h => h⟩
theorem Up.trans {H2 : Hp} (a : Up φ H H') (b : Up φ H' H2) : Up φ H H2 := ⟨a.ext.trans b.ext, fun x m => (b.same x m).trans (a.same x m), fun x ps h => b.tbs x ps (a.tbs x ps h)⟩
theorem Up.all (u : Up φ H H') (a : Addr) (o : HO) (h : H a = some o) (n : a ∉ φ) : H' a = some o := by
  cases t : isTbl o with
  | false => exact u.ext.keep a o h n t
  | true =>
    cases o <;> first | cases t | skip
    exact u.tbs a _ h
theorem Wd.up (w : Wd M φ S H) (u : Up φ H H') : Wd M φ S H' := w.keep u.ext u.same (w.tb.go0 u.all)
theorem Wd.upLaid {o : HO} (w : Wd M φ S H) (h : H p = none) (ho : isTbl o = false := by rfl) : Up φ H (upd H p o) := ⟨Ext.laid h ho, fun a m => upd_ne fun e => w.live m (by rw [e]; exact h), fun a _ q => upd_keep h a _ q⟩
theorem Up.rem {o : HO} (hp : p ∉ φ) (u : Up φ (upd H p o) H') : Up φ (PC.rem H p) (PC.rem H' p) :=
  ⟨Ext.remB u.ext, fun a m => by have z : a ≠ p := fun e => hp (e ▸ m); rw [rem_ne z, rem_ne z, u.same a m, upd_ne z], fun a ps h => by
    obtain ⟨z, h⟩ := rem_some h
    rw [rem_ne z]
    exact u.tbs a ps (by rw [upd_ne z]; exact h)⟩
end
theorem TupAt.up {φ : List Addr} {H H' : Hp} {a : Addr} {vs : List V} (h : TupAt H a vs) (u : Ext φ H φ H') (n : NoTup φ H) : TupAt H' a vs := by
  obtain ⟨o, h1, h2⟩ := id h
  exact ⟨o, u.keep _ _ h1 (n _ _ h) rfl, h2⟩
/-! targets -/
/-- an item that a walk hands out: a value, or a new pair -/
def Item (M : Mo) (φ : List Addr) (H H' : Hp) (tup : Bool) (x : T) (v : V) : Prop :=
  Rep M φ H x v ∨ (tup = true ∧ ∃ a b y z q, x = .tup [a, b] ∧ v = .ref q ∧ H' q = some (.tup [y, z]) ∧ Rep M φ H a y ∧ Rep M φ H b z)
def gOf (K : PySem.W.Frag) : Tg → TG
  | .one i => gName i
  | .two i j => gTup K 2 (gCons (gName i) (gCons (gName j) gNil))
  | .three i j l => gTup K 3 (gCons (gName i) (gCons (gName j) (gCons (gName l) gNil)))
section
variable {s : SE} {EX : XK} {X : Cx}
theorem pg_one (o : XOk M D k s EX X) {i : Nat} {x : Str} {p : Pos} (h : stChk s i x = true) : PG X (.Name x p) (gName i) := by
  unfold stChk at h
  simp only [Bool.and_eq_true, decide_eq_true_eq] at h
  obtain ⟨⟨h1, h2⟩, h3⟩ := h
  obtain ⟨l, f⟩ := o.ow x h2
  exact pg_name (by rw [o.N]; exact o.nd) (by rw [o.N]; exact h1) (by rw [o.sc]; exact l) (by rw [o.sc]; exact f)
theorem nmSt_inv {i : Nat} {p : Expr} (h : nmSt s i p = true) : ∃ x q, p = .Name x q ∧ stChk s i x = true := by
  cases p <;> first | exact ⟨_, _, rfl, h⟩ | cases h
theorem pg_nm (o : XOk M D k s EX X) {i : Nat} {p : Expr} (h : nmSt s i p = true) : PG X p (gName i) := by
  obtain ⟨x, q, rfl, h⟩ := nmSt_inv h
  exact pg_one o h
theorem pg_of (o : XOk M D k s EX X) {tg : Tg} {p : Expr} (h : chkTg s tg p = true) : PG X p (gOf X.K tg) := by
  cases tg with
  | one i => exact pg_nm o h
  | two i j =>
    cases p <;> first | cases h | skip
    rename_i es n pos
    rcases es with _ | ⟨a, _ | ⟨b, _ | ⟨c, r⟩⟩⟩ <;> first | cases h | skip
    simp only [chkTg, Bool.and_eq_true] at h
    obtain ⟨x, q, rfl, h1⟩ := nmSt_inv h.1
    obtain ⟨y, q, rfl, h2⟩ := nmSt_inv h.2
    exact pg_tup o.calm (pgs_cons (pg_one o h1) (pgs_cons (pg_one o h2) pgs_nil))
  | three i j l =>
    cases p <;> first | cases h | skip
    rename_i es n pos
    rcases es with _ | ⟨a, _ | ⟨b, _ | ⟨c, _ | ⟨d, r⟩⟩⟩⟩ <;> first | cases h | skip
    simp only [chkTg, Bool.and_eq_true] at h
    obtain ⟨x, q, rfl, h1⟩ := nmSt_inv h.1.1
    obtain ⟨y, q, rfl, h2⟩ := nmSt_inv h.1.2
    obtain ⟨z, q, rfl, h3⟩ := nmSt_inv h.2
    exact pg_tup o.calm (pgs_cons (pg_one o h1) (pgs_cons (pg_one o h2) (pgs_cons (pg_one o h3) pgs_nil)))
theorem tg_read {K : PySem.W.Frag} {tg : Tg} {x : T} {v : V} {σT : Sl} {σ : St} {KT : Sl → Prop} {KV : St → Hp → Prop} {φ : List Addr} {H H' : Hp} (hx : asgTg tg x σT KT) (sl : Slots M φ H σT σ) (u : Ext φ H φ H') (n : NoTup φ H) (it : Item M φ H H' (tgPair tg) x v)
    (kk : ∀ σT' σ', Slots M φ H σT' σ' → KT σT' → (∀ vs : List Nat, (∀ i ∈ tgSlots tg, i ∈ vs) → L2.wipe σ' vs = L2.wipe σ vs) → KV σ' H') : gOf K tg v σ H' KV := by
  have hset : ∀ (σ : St) (i : Nat) (w : V) (vs : List Nat), i ∈ vs → L2.wipe (σ.set i (some w)) vs = L2.wipe σ vs := by
    intro σ i w vs
    induction vs with
    | nil => intro h; cases h
    | cons j vs ih =>
      intro h
      show (L2.wipe (σ.set i (some w)) vs).set j none = (L2.wipe σ vs).set j none
      by_cases e : i ∈ vs
      · rw [ih e]
      · have e2 : i = j := (List.mem_cons.mp h).resolve_right e
        subst e2
        have hc : ∀ (vs : List Nat), i ∉ vs → L2.wipe (σ.set i (some w)) vs = (L2.wipe σ vs).set i (some w) := by
          intro vs
          induction vs with
          | nil => intro _; rfl
          | cons l vs ih2 =>
            intro hn
            have h1 : i ≠ l := fun z => hn (z ▸ List.mem_cons_self)
            show (L2.wipe (σ.set i (some w)) vs).set l none = ((L2.wipe σ vs).set l none).set i (some w)
            rw [ih2 fun z => hn (List.mem_cons_of_mem _ z), List.set_comm _ _ h1]
        rw [hc vs e, List.set_set]
  cases tg with
  | one i =>
    rcases it with r | ⟨h, _⟩
    · exact kk _ _ (sl.set r i) hx fun vs h => hset _ _ _ _ (h i List.mem_cons_self)
    · cases h
  | two i j =>
    have hx2 : ∃ a b, x = .tup [a, b] ∧ KT ((σT.set i (some a)).set j (some b)) := by
      cases x <;> first | exact hx.elim | skip
      rename_i xs
      rcases xs with _ | ⟨a, _ | ⟨b, _ | ⟨c, r⟩⟩⟩ <;> first | exact hx.elim | exact ⟨_, _, rfl, hx⟩
    obtain ⟨a, b, rfl, hk⟩ := hx2
    rcases it with r | ⟨_, a', b', y, z, q, e1, e2, e3, r1, r2⟩
    · cases r with
      | tup h rs =>
        cases rs with
        | cons r1 rs =>
          cases rs with
          | cons r2 rs =>
            cases rs
            have h' := h.up u n
            exact ⟨_, _, rfl, h'.sq, rfl, _, _, rfl, _, _, rfl, rfl, kk _ _ ((sl.set r1 i).set r2 j) hk fun vs h => by rw [hset _ _ _ _ (h j (by simp [tgSlots])), hset _ _ _ _ (h i (by simp [tgSlots]))]⟩
    · cases e1
      exact ⟨q, _, e2, .inl (.inl e3), rfl, _, _, rfl, _, _, rfl, rfl, kk _ _ ((sl.set r1 i).set r2 j) hk fun vs h => by rw [hset _ _ _ _ (h j (by simp [tgSlots])), hset _ _ _ _ (h i (by simp [tgSlots]))]⟩
  | three i j l =>
    have hx2 : ∃ a b c, x = .tup [a, b, c] ∧ KT (((σT.set i (some a)).set j (some b)).set l (some c)) := by
      cases x <;> first | exact hx.elim | skip
      rename_i xs
      rcases xs with _ | ⟨a, _ | ⟨b, _ | ⟨c, _ | ⟨d, r⟩⟩⟩⟩ <;> first | exact hx.elim | exact ⟨_, _, _, rfl, hx⟩
    obtain ⟨a, b, c, rfl, hk⟩ := hx2
    rcases it with r | ⟨_, a', b', y, z, q, e1, e2, e3, r1, r2⟩
    · cases r with
      | tup h rs =>
        cases rs with
        | cons r1 rs =>
          cases rs with
          | cons r2 rs =>
            cases rs with
            | cons r3 rs =>
              cases rs
              have h' := h.up u n
              exact ⟨_, _, rfl, h'.sq, rfl, _, _, rfl, _, _, rfl, _, _, rfl, rfl, kk _ _ (((sl.set r1 i).set r2 j).set r3 l) hk fun vs h => by
                rw [hset _ _ _ _ (h l (by simp [tgSlots])), hset _ _ _ _ (h j (by simp [tgSlots])), hset _ _ _ _ (h i (by simp [tgSlots]))]⟩
    · cases e1
end
end PC
/-! PcIt2: what is walked. -/
namespace PC
open PySem L2 PyProof.Rows PySem.Spec
variable {M : Mo} {D : Tab} {k : Nat}
def HSz (K : PySem.W.Frag) (H : Hp) : Prop := (∀ a xs, SqL K H a xs → xs.length ≤ sizeLine) ∧ ∀ a xs, SqT K H a xs → xs.length ≤ sizeLine
theorem pi_size {X : Cx} {tg p : Expr} {wi : TI} (h : PI X tg p wi) : PI X tg p (fun σ H R => wi σ H fun J H1 => HSz X.K H1 → R J H1) :=
  ⟨fun pins s σ H R I q => thn (h.run pins s σ H _ I q) fun v s1 h1 => thn h1 fun u s2 ⟨it, fp, tn, J, H', e, I2, t, st, f, q⟩ =>
    ⟨it, fp, tn, J, H', e, I2, t, st, f, q ⟨fun a xs hq => (I2.list hq).choose_spec.2.2, fun a xs hq => (I2.tuple hq).choose_spec.2.2⟩⟩⟩
/-- a dict's keys -/
def Itd (d : Addr) (o : Obj) (as : List Addr) : It := ⟨fun i H => H d = some (dictHO d o) ∧ i < as.length, fun i H x H' => H' = H ∧ ∃ a, as[i]? = some a ∧ x = .ref a, fun i H => H d = some (dictHO d o) ∧ as.length ≤ i⟩
theorem key_at {es : Array DictEntry} {as : List Addr} (h : es.toList.map (·.key) = as.map Value.ref) : es.size = as.length ∧ ∀ i (hi : i < es.size), ∃ a, as[i]? = some a ∧ es[i].key = .ref a := by
  have hl := congrArg List.length h
  rw [List.length_map, List.length_map] at hl
  refine ⟨by simpa using hl, fun i hi => ?_⟩
  have hi2 : i < as.length := by rw [← hl]; simpa using hi
  refine ⟨as[i], List.getElem?_eq_getElem hi2, ?_⟩
  have := congrArg (fun l => l[i]?) h
  simp only [List.getElem?_map, List.getElem?_eq_getElem hi2, Option.map_some] at this
  rw [Array.getElem?_toList, Array.getElem?_eq_getElem hi] at this
  exact Option.some.inj this
theorem turn_dict {P : Program} {w : World} {K : PySem.W.Frag} {tg : Expr} {d it : Addr} {o : Obj} {es : Array DictEntry} {ep : Nat} {as : List Addr} (ho : o.ExactDict) (hd : o.data = .dict es ep) (hk : es.toList.map (·.key) = as.map Value.ref) :
    Turn P w K tg (Itd d o as) [it] it (fun i h => h.IsKeyIter it d i es.size ep) where
  mem := by simp
  obj := fun i h st b hb => by
    obtain rfl : b = it := by simpa using hb
    obtain ⟨ob, e, c, dd⟩ := st
    exact ⟨ob, e, fun v z => by rw [dd] at z; cases z⟩
  keep := fun i h h' st kp => let ⟨ob, e, c, dd⟩ := st; ⟨ob, kp it (by simp) ob e, c, dd⟩
  item := by
    intro X hP hw hK hc i pins s σ H E I hf st ⟨hH, hi⟩
    subst hP hw hK
    obtain ⟨hs, hg⟩ := key_at hk
    have hi' : i < es.size := by rw [hs]; exact hi
    obtain ⟨a, ha, hka⟩ := hg i hi'
    have raw : s.heap.DictRaw d es ep := ⟨o, (I.hok d _ hH).1, ho, hd⟩
    obtain ⟨f0, f1, f2, f3, f4, f5⟩ := hf it (by simp)
    refine wpAny_pyNext_keys_item_raw st raw hi' fun h' st' sb => ?_
    have I1 : L2.Inv X pins σ H { s with heap := h' } := I.turned (t' := s.toks) (fun b ob hb e => (sb.2 b hb).trans e) f0 f1 f3 f4 f5
    obtain ⟨ob, e, c, dd⟩ := id st'
    exact ⟨_, rfl, go_of (s := { s with heap := h' }) e c dd (by decide) ⟨.ref a, H, I1, hka, ⟨rfl, a, ha, rfl⟩, st', fun b hb => (hf b hb).1⟩⟩
  done := by
    intro X hP hw hK hc i pins s σ H E I hf st ⟨hH, hi⟩
    subst hP hw hK
    obtain ⟨hs, hg⟩ := key_at hk
    have raw : s.heap.DictRaw d es ep := ⟨o, (I.hok d _ hH).1, ho, hd⟩
    obtain ⟨f0, f1, f2, f3, f4, f5⟩ := hf it (by simp)
    exact wpAny_pyNext_keys_end_raw (I.ok.hd hc) st raw (by rw [hs]; exact hi) fun h' eb => ⟨rfl, I.turned (t' := s.toks) (fun b ob hb e => eb b ob hb e) f0 f1 f3 f4 f5⟩
  self := fun _ _ _ _ _ st h => wpAny_pyIter_keyiter st h
def iVal (K : PySem.W.Frag) (te : TE) : TI := fun σ H R => te σ H fun v H1 => (∃ a, v = .ref a ∧ (∃ xs, SqL K H1 a xs) ∧ R (Itl K a) H1) ∨ (∃ a, v = .ref a ∧ (∃ xs, SqT K H1 a xs) ∧ R (Itt K a) H1) ∨ (∃ x, v = .str x ∧ R (Its x) H1)
  ∨ (∃ d o es ep as, v = .ref d ∧ (d == sysModules) = false ∧ H1 d = some (dictHO d o) ∧ o.ExactDict ∧ o.data = .dict es ep ∧ es.toList.map (·.key) = as.map Value.ref ∧ R (Itd d o as) H1)
theorem pi_val {X : Cx} {tg e : Expr} {te : TE} (he : PE X e te) : PI X tg e (iVal X.K te) := by
  refine ⟨fun pins s σ H R I h => ?_⟩
  refine thn (he.run pins s σ H _ I h) fun v s1 ⟨y, H1, I1, r1, q⟩ => ?_
  rcases q with ⟨a, rfl, ⟨xs, hq⟩, q⟩ | ⟨a, rfl, ⟨xs, hq⟩, q⟩ | ⟨x, rfl, q⟩ | ⟨d, o, es, ep, as, rfl, hsys, hH, ho, hd, hk, q⟩
  · cases r1
    obtain ⟨its, rv, p, hz⟩ := I1.list hq
    exact wpAny_pyIter_list p.isList (pi_one (tk := s1.toks) I1 _ (turn_list a _) ⟨_, Heap.get?_push_size _ rfl, rfl, rfl⟩ q)
  · cases r1
    obtain ⟨its, rv, p, hz⟩ := I1.tuple hq
    exact wpAny_pyIter_tuple (show s1.heap.IsTuple a its.toArray from p) (pi_one (tk := s1.toks) I1 _ (turn_tuple a _) ⟨_, Heap.get?_push_size _ rfl, rfl, rfl⟩ q)
  · obtain ⟨t, rfl⟩ := r1
    cases ha : x.cps.all (· < 128)
    · exact wpAny_pyIter_wide ha (pi_one (tk := s1.toks) I1 _ (turn_str _ x t "str_iterator" (.inr rfl)) ⟨_, Heap.get?_push_size _ rfl, rfl, rfl⟩ q)
    · exact wpAny_pyIter_ascii ha (pi_one (tk := s1.toks) I1 _ (turn_str _ x t "str_ascii_iterator" (.inl rfl)) ⟨_, Heap.get?_push_size _ rfl, rfl, rfl⟩ q)
  · cases r1
    have raw : s1.heap.DictRaw d es ep := ⟨o, (I1.hok d _ hH).1, ho, hd⟩
    exact wpAny_pyIter_dict_raw hsys raw (pi_one (tk := s1.toks) I1 _ (turn_dict ho hd hk) ⟨_, Heap.get?_push_size _ rfl, rfl, rfl⟩ q)
/-! enumerate of a tuple -/
theorem meets_enum1 {v : Value} {o : Obj} {H : Heap → Prop} (B : Begins v o H) :
    Meets (Builtin.«enumerate.__new__» ⟨[.type "enumerate", v], []⟩) (fun _ R s => H s.heap ∧
      R (.ok (.ret (.ref (s.heap.push o).objs.size))) { s with heap := (s.heap.push o).push { cls := .type "enumerate", data := .fields #[.none, .bool false, .ref s.heap.objs.size, rawInt 0, .none, .none] } }) :=
  .of_wp fun prog w A R s h => by
    obtain ⟨hp, g, d, tk, os⟩ := s; obtain ⟨h1, h⟩ := h
    have hsub := sub_enumerate
    have q1 : ∀ {A' : Around} {E : Value → Shared → Prop} {Q : Value → Shared → Prop}, Q (.ref hp.objs.size) ⟨hp.push o, g, d, tk, os⟩ → wpAny (model prog w) A' (pyIter v) Q E ⟨hp, g, d, tk, os⟩ :=
      fun q => B.iter prog w _ _ ⟨hp, g, d, tk, os⟩ _ h1 q
    wp_walk using q1
    refine wpAny_stack_any fun st => wpAny_pure ?_
    split
    · rename_i c _ _ _ _ _
      cases (c == Value.type "enumerate")
      · wp_walk using q1
        exact ⟨_, rfl, h⟩
      · wp_walk using q1
        exact ⟨_, rfl, h⟩
    · wp_walk using q1
      exact ⟨_, rfl, h⟩
theorem call_enum1 {prog : Program} {w : World} {A : Around} {E : Value → Shared → Prop} {s : Shared} {v : Value} {o : Obj} {H : Heap → Prop} {Q : Value → Shared → Prop} (B : Begins v o H) (h1 : H s.heap)
    (h : ∀ h', IsEnum h' (s.heap.objs.size + 1) s.heap.objs.size 0 .none → h'.get? s.heap.objs.size = some o → h'.objs.size = s.heap.objs.size + 2 →
      (∀ b o, s.heap.get? b = some o → h'.get? b = some o) → Q (.ref (s.heap.objs.size + 1)) { s with heap := h' }) :
    wpAny (model prog w) A (call (.type "enumerate") [v]) Q E s := by
  refine callType_new F.called_enumerate (by decide) (F.typeCall_enumerate_1 _) (F.newCall_enumerate_1 _) (fun obj => F.args_object_init_2 obj _) F.entry_enumerate_new
    (meets_enum1 B) ⟨h1, ?_⟩
  have hz : (s.heap.push o).objs.size = s.heap.objs.size + 1 := Heap.size_push ..
  show _ ∧ _
  rw [hz]
  have he : IsEnum ((s.heap.push o).push { cls := .type "enumerate", data := .fields #[.none, .bool false, .ref s.heap.objs.size, rawInt 0, .none, .none] }) (s.heap.objs.size + 1) s.heap.objs.size 0 .none := by
    have := Heap.get?_push_size (s.heap.push o) (o := { cls := .type "enumerate", data := .fields #[.none, .bool false, .ref s.heap.objs.size, rawInt 0, .none, .none] }) rfl
    rw [hz] at this; exact this
  refine ⟨⟨_, he, rfl⟩, h _ he (Heap.get?_push_of_some _ (Heap.get?_push_size _ B.free)) (by rw [Heap.size_push, hz]) fun b o x => Heap.get?_push_of_some _ (Heap.get?_push_of_some _ x)⟩
theorem enumT_end {prog : Program} {w : World} {A : Around} {E : Value → Shared → Prop} {s : Shared} {e it a : Addr} {i : Int} {j : Nat} {items : Array Value} {old : Value} {Q : Option Value → Shared → Prop} (hh : A.handled = none)
    (he : IsEnum s.heap e it i old) (hit : s.heap.IsTupleIter it a j) (ht : s.heap.IsTuple a items) (hx : items[j]? = none)
    (hQ : ∀ h', Heap.ExtBut it s.heap h' → Q none { s with heap := h' }) : wpAny (model prog w) A (pyNext (.ref e)) Q E s := by
  have hT : s.TypeIs (.ref e) "enumerate" := ⟨_, he, rfl⟩
  unfold pyNext
  refine wpAny_bind (wpAny_attempt (wpAny_callSpecial?_slot (name := Str.ofString "__next__") hT F.slot_enumerate_next
    (wpAny_call_entry F.slot_enumerate_next hT F.entry_enumerate_next ?_ (F.args_enumerate_next_1 _))))
  show wpAny _ _ (field (.ref e) 2 >>= _) _ _ _
  refine wpAny_bind (wpAny_field he rfl (x := .ref it) rfl ?_)
  refine wpAny_bind (wpAny_nextOf_tuple_end hh hit ht hx fun h' x he' hx' => ?_)
  obtain ⟨o, ho, hc⟩ := hx'
  refine wpAny_bind (wpAny_isInstance (T := "StopIteration") (b := true) ⟨o, ho, hc⟩ isSubtype_stop ?_)
  exact wpAny_pure (hQ _ he')
def IteT (K : PySem.W.Frag) (a : Addr) : It :=
  ⟨fun i H => ∃ (xs : List V) (x : V), SqT K H a xs ∧ xs[i]? = some x, fun i H v H' => ∃ T x, v = .ref T ∧ H T = none ∧ H' = upd H T (.tup [.int (i : Nat), x]) ∧ ∀ xs, SqT K H a xs → xs[i]? = some x, fun i H => ∃ xs : List V, SqT K H a xs ∧ xs.length ≤ i⟩
theorem turn_enumT {P : Program} {w : World} {K : PySem.W.Frag} {elts : List Expr} {kk : Nat} {tpos : Pos} (a e it : Addr) :
    Turn P w K (.Tuple elts kk tpos) (IteT K a) [e, it] e (fun i h => (∃ old, IsEnum h e it ((i : Nat) : Int) old) ∧ h.IsTupleIter it a i ∧ e ≠ it ∧ a ≠ it ∧ e ≠ a) where
  mem := by simp
  obj := fun i h st b hb => by
    obtain ⟨⟨old, he⟩, ⟨o, ho, hc, hd⟩, _⟩ := st
    have e' : b = e ∨ b = it := by simpa using hb
    rcases e' with z | z
    · rw [z]; exact ⟨_, he, fun v q => nomatch q⟩
    · rw [z]; exact ⟨o, ho, fun v q => by rw [hd] at q; cases q⟩
  keep := fun i h h' st k => let ⟨⟨old, he⟩, hi, hne⟩ := st; ⟨⟨old, k e (by simp) _ he⟩, hi.at fun o q => k it (by simp) o q, hne⟩
  item := by
    intro X hP hw hK hc i pins s σ H E I hf st hg
    subst hP hw hK
    obtain ⟨⟨old, he⟩, hit, hne, hai, hea⟩ := st
    obtain ⟨xs, x, hq, hx⟩ := hg
    obtain ⟨its, rv, p, hz⟩ := I.tuple hq
    obtain ⟨u, hu, ru⟩ := rv.get hx
    have hel : e < s.heap.objs.size := Heap.lt_size he
    have hil : it < s.heap.objs.size := by obtain ⟨_, q, _⟩ := hit; exact Heap.lt_size q
    have hlt : i < its.toArray.size := by
      have := (List.getElem?_eq_some_iff.mp hu).1
      simpa using this
    have Dr : Draws X.prog X.w X.A.in1 it [it, a] its.toArray.size (fun i v => its.toArray[i]? = some v) (fun i h => h.IsTupleIter it a i ∧ h.IsTuple a its.toArray) := Draws.tuple (by rw [show X.A.in1.handled = X.A.handled from rfl]; exact I.ok.hd hc) it a hai its.toArray
    refine wpAny_pyNext_enum_itemD Dr he ⟨hit, p⟩ hlt hne (by simp [hne, hea]) fun y h' tk hy ho hst hT hsz hk => ?_
    have ey : y = u := by
      have hy' : its.toArray[i]? = some y := hy
      rw [List.getElem?_toArray, hu] at hy'
      exact (Option.some.inj hy').symm
    subst ey
    refine ⟨_, rfl, wpAny_letOwnedTupleGo_enum (s := { s with heap := h', toks := tk + 1 }) ho fun h'' he' sb => ?_⟩
    have hT2 : h''.get? s.heap.objs.size = some { cls := .type "tuple", data := .seq #[.int i tk, y] } := (sb.2 _ (Nat.ne_of_gt hel)).trans hT
    have new : ObjOk X.prog X.w (upd H s.heap.objs.size (.tup [.int (i : Nat), x])) h'' s.heap.objs.size (.tup [.int (i : Nat), x]) :=
      ⟨by show 2 ≤ sizeLine; decide, [.int i tk, y], .cons ⟨_, rfl⟩ (.cons ru .nil), ⟨_, hT2, rfl, _, rfl⟩⟩
    have I1 : Inv X pins σ (upd H s.heap.objs.size (.tup [.int (i : Nat), x])) { s with heap := h'', toks := tk + 1 } :=
      I.turnedNew (ch := [e, it]) (fun b ob hb q => (sb.2 b (fun z => hb (by simp [z]))).trans (hk b ob (fun z => hb (by simp [z])) (fun z => hb (by simp [z])) q)) hf (Nat.le_refl _) new
    refine ⟨.ref s.heap.objs.size, _, I1, rfl, ⟨_, x, rfl, I.hok.fresh (Nat.le_refl _), rfl, fun ys hy => by rw [I.tuple_inj hy hq]; exact hx⟩, ⟨⟨y, ?_⟩, hst.1.at fun o q => (sb.2 it (Ne.symm hne)).trans q, hne, hai, hea⟩, fun b hb => ?_⟩
    · have e1 : ((i + 1 : Nat) : Int) = (i : Int) + 1 := by omega
      rw [e1]; exact he'
    · have hb' : b < s.heap.objs.size := by
        have e' : b = e ∨ b = it := by simpa using hb
        rcases e' with z | z
        · rw [z]; exact hel
        · rw [z]; exact hil
      rw [upd_ne (Nat.ne_of_lt hb')]
      exact (hf b hb).1
  done := by
    intro X hP hw hK hc i pins s σ H E I hf st hg
    subst hP hw hK
    obtain ⟨⟨old, he⟩, hit, hne, hai, hea⟩ := st
    obtain ⟨xs, hq, hx⟩ := hg
    obtain ⟨its, rv, p, hz⟩ := I.tuple hq
    obtain ⟨f0, f1, f2, f3, f4, f5⟩ := hf it (by simp)
    have hl := rv.length
    exact enumT_end (I.ok.hd hc) he hit p (by simp; omega) fun h' eb => ⟨rfl, I.turned (t' := s.toks) (fun b o hb q => eb b o hb q) f0 f1 f3 f4 f5⟩
  self := fun A i s Q E st h => let ⟨⟨_, he⟩, _⟩ := st; wpAny_pyIter_enum he h
def iEnumA (K : PySem.W.Frag) (ta : TA) : TI := fun σ H R => ta σ H fun vs H1 => ∃ a xs, vs = [.ref a] ∧ ((SqL K H1 a xs ∧ R (Ite K a) H1) ∨ (SqT K H1 a xs ∧ R (IteT K a) H1))
theorem pi_enumA {X : Cx} {e : Expr} {ta : TA} {p pos tpos : Pos} {elts : List Expr} {kk : Nat} (hg : Gl X "enumerate") (hm : X.mg "enumerate" = none) (ha : PA X [e] ta) (hs : starEach [e] X.env = [(false, eval e X.env)]) :
    PI X (.Tuple elts kk tpos) (.Call (.Name "enumerate" p) [e] [] pos) (iEnumA X.K ta) := by
  refine ⟨fun pins s σ H R I h => ?_⟩
  refine Call_ (ld_blt I hg hm boot_enumerate (PyProof.Rows.callWith_type1 (thn (ha.run pos pins s σ H _ I h) fun us s1 ⟨vs, H1, I1, r1, q1⟩ => ?_) hs rfl))
  obtain ⟨a, xs, ex, q⟩ := q1
  subst ex
  cases r1 with
  | cons r rr =>
    cases rr
    cases r
    have fin : ∀ b, b ∈ [s1.heap.objs.size + 1, s1.heap.objs.size] → FpOk X pins H1 b := fun b hb => by
      have e' : b = s1.heap.objs.size + 1 ∨ b = s1.heap.objs.size := by simpa using hb
      have hle : s1.heap.objs.size ≤ b := by
        rcases e' with z | z
        · rw [z]; exact Nat.le_add_right _ _
        · rw [z]; exact Nat.le_refl _
      exact I1.fpOk hle (I1.hok.fresh hle)
    rcases q with ⟨hq, q⟩ | ⟨hq, q⟩
    · obtain ⟨its, rv, p', hz⟩ := I1.list hq
      refine call_enumerate_list p'.isList fun h' he hit hsz hk => wpAny_pyIter_enum he ?_
      have I2 : Inv X pins σ H1 { s1 with heap := h' } := I1.kept (t' := s1.toks) hk
      exact ⟨s1.heap.objs.size + 1, [s1.heap.objs.size + 1, s1.heap.objs.size], _, _, H1, rfl, I2, turn_enum a (s1.heap.objs.size + 1) s1.heap.objs.size, ⟨⟨.none, he⟩, hit, Nat.succ_ne_self _⟩, fin, q⟩
    · obtain ⟨its, rv, p', hz⟩ := I1.tuple hq
      have hal : a < s1.heap.objs.size := by obtain ⟨o, ho, _⟩ := id p'; exact Heap.lt_size ho
      refine call_enum1 (begins_tuple a its.toArray) p' fun h' he hit hsz hk => wpAny_pyIter_enum he ?_
      have I2 : Inv X pins σ H1 { s1 with heap := h' } := I1.kept (t' := s1.toks) hk
      exact ⟨s1.heap.objs.size + 1, [s1.heap.objs.size + 1, s1.heap.objs.size], _, _, H1, rfl, I2, turn_enumT a (s1.heap.objs.size + 1) s1.heap.objs.size, ⟨⟨.none, he⟩, ⟨_, hit, rfl, rfl⟩, Nat.succ_ne_self _, Nat.ne_of_lt hal, Nat.ne_of_gt (Nat.lt_succ_of_lt hal)⟩, fin, q⟩
/-! walks by values -/
structure Itm (M : Mo) (tup : Bool) (φ1 : List Addr) (H1 : Hp) (g : Mem → Prop) (xs : List T) (J : It) : Prop where
  sz : xs.length ≤ sizeLine
  walk : ∃ G Y, Walk J xs.length G Y ∧
    (∀ φ2 S2 H2 H3, Ext φ1 H1 φ2 H2 → Wd M φ2 S2 H2 → g S2 → Up φ2 H2 H3 → G H3) ∧
    (∀ φ2 S2 H2 H3 i x v H4, Ext φ1 H1 φ2 H2 → Wd M φ2 S2 H2 → g S2 → Up φ2 H2 H3 → xs[i]? = some x → Y i H3 v H4 → Up φ2 H3 H4 ∧ Item M φ2 H2 H4 tup x v)
def tI (M : Mo) (X : Wx) (EX : XK) (tup : Bool) (w : Sl → Mem → ((Mem → Prop) → List T → Mem → Prop) → Prop) : TI := fun σ H R => ∃ φ σT S QT, At M φ H S σT σ ∧ FinX M φ H X EX ∧ w σT S QT ∧
  ∀ g xs S1 φ1 H1 J, Ext φ H φ1 H1 → Wd M φ1 S1 H1 → QT g xs S1 → Itm M tup φ1 H1 g xs J → R J H1
structure SndI (M : Mo) (D : Tab) (k : Nat) (s : SE) (tg : Tg) (it : I) (p : Expr) : Prop where
  pi : ∀ (X : Cx) (EX : XK) (XT : Wx), XOk M D k s EX X → ∀ tgp, (tgPair tg = true → ∃ es n q, tgp = .Tuple es n q) → PI X tgp p (tI M XT EX (tgPair tg) (wpI D.G (cw D k) it XT))
  fs : ∀ (env : Env) x, foldedSetIterable p env x = pure x
theorem fs_of {p : Expr} (h : notSet p = true) (env : Env) (x : Value) : foldedSetIterable p env x = pure x := by
  cases p <;> first | rfl | cases h
theorem walk_listN {K : PySem.W.Frag} {a : Addr} {n : Nat} : Walk (Itl K a) n (fun H => ∃ vs, SqL K H a vs ∧ vs.length = n) (fun i H v H' => H' = H ∧ ∀ vs, SqL K H a vs → vs[i]? = some v) where
  goes := fun i H hi ⟨vs, h, hl⟩ => ⟨vs, vs[i]'(by omega), h, List.getElem?_eq_getElem (by omega)⟩
  stops := fun H ⟨vs, h, hl⟩ => ⟨vs, h, by omega⟩
  yields := fun i H x H' _ _ y => y
theorem walk_enumT {K : PySem.W.Frag} {a : Addr} {xs : List V} : Walk (IteT K a) xs.length (fun H => SqT K H a xs) (YPair (fun i => some (.int (i : Nat))) (fun i => xs[i]?)) where
  goes := fun i H hi h => ⟨xs, xs[i], h, List.getElem?_eq_getElem hi⟩
  stops := fun H h => ⟨xs, h, Nat.le_refl _⟩
  yields := fun i H x H' _ h ⟨T, y, e1, e2, e3, e4⟩ => ⟨T, _, y, e1, e2, e3, rfl, e4 xs h⟩
theorem walk_zipT {K : PySem.W.Frag} {a b : Addr} {xs ys : List V} {n : Nat} (hn : n = min xs.length ys.length) : Walk (RZ.ItzT K a b) n (fun H => SqT K H a xs ∧ SqT K H b ys) (YPair (fun i => xs[i]?) (fun i => ys[i]?)) where
  goes := fun i H hi ⟨h1, h2⟩ => ⟨xs, ys, xs[i]'(by omega), ys[i]'(by omega), h1, h2, List.getElem?_eq_getElem (by omega), List.getElem?_eq_getElem (by omega)⟩
  stops := fun H ⟨h1, h2⟩ => ⟨xs, ys, h1, h2, by omega⟩
  yields := fun i H x H' _ ⟨h1, h2⟩ ⟨T, y, z, e1, e2, e3, e4, e5⟩ => ⟨T, y, z, e1, e2, e3, e4 xs h1, e5 ys h2⟩
section
variable {φ φ' : List Addr} {H H' : Hp} {S : Mem}
theorem Up.rd {φ : List Addr} {H H' : Hp} {a : Addr} {vs : List V} (u : Up φ H H') (h : Rd H a (.lst vs)) : Rd H' a (.lst vs) := by
  by_cases m : a ∈ φ
  · rcases h with h | ⟨o, h⟩
    · exact .inl ((u.same a m).trans h)
    · exact .inr ⟨o, (u.same a m).trans h⟩
  · exact u.ext.rd h m
theorem Reps.getV : ∀ {ts : List T} {vs : List V} {i : Nat} {t : T} {v : V}, Reps M φ H ts vs → ts[i]? = some t → vs[i]? = some v → Rep M φ H t v := by
  intro ts vs i t v r h1 h2
  obtain ⟨v', h3, h4⟩ := r.get h1
  rw [h2] at h3
  cases h3
  exact h4
/-- a list that stands, frozen or tracked -/
theorem itm_live {K : PySem.W.Frag} {x : T} {v : V} {xs : List T} (w : Wd M φ S H) (r : Rep M φ H x v) (e : vw S x = .lst xs) : ∃ a, v = .ref a ∧ (∃ vs, SqL K H a vs) ∧ (HSz K H → Itm M false φ H (fun S2 => vw S2 x = .lst xs) xs (Itl K a)) := by
  have v0 := r.view w
  rw [e] at v0
  obtain ⟨a, vs, rfl, h1, rr⟩ := v0.lst_inv
  refine ⟨a, rfl, ⟨vs, .inl h1⟩, fun hz => ⟨?_, _, _, walk_listN, fun φ2 S2 H2 H3 e2 w2 g u => ?_, fun φ2 S2 H2 H3 i y u H4 e2 w2 g up hx hy => ?_⟩⟩
  · rw [rr.length]; exact hz.1 a vs (.inl h1)
  · have v2 := ((r.ext e2 w.noTup).ext u.ext w2.noTup).view (w2.up u)
    rw [g] at v2
    obtain ⟨a', vs', ea, h2, rr2⟩ := v2.lst_inv
    cases ea
    exact ⟨vs', .inl h2, rr2.length.symm⟩
  · obtain ⟨e4, hy⟩ := hy
    subst e4
    have v2 := (r.ext e2 w.noTup).view w2
    rw [g] at v2
    obtain ⟨a', vs', ea, h2, rr2⟩ := v2.lst_inv
    cases ea
    exact ⟨Up.refl, .inl (rr2.getV hx (hy vs' (.inl (up.rd h2))))⟩
theorem itm_tup {K : PySem.W.Frag} {v : V} {xs : List T} (w : Wd M φ S H) (r : Rep M φ H (.tup xs) v) : ∃ a, v = .ref a ∧ (∃ vs, SqT K H a vs) ∧ (HSz K H → Itm M false φ H gT xs (Itt K a)) := by
  cases r with
  | @tup xs a vs h rr =>
    refine ⟨a, rfl, ⟨vs, h.sq⟩, fun hz => ⟨?_, _, _, rr.length ▸ walk_tup (xs := vs), fun φ2 S2 H2 H3 e2 w2 g u => ?_, fun φ2 S2 H2 H3 i y u H4 e2 w2 g up hx hy => ?_⟩⟩
    · rw [rr.length]; exact hz.2 a vs h.sq
    · have h2 : TupAt H2 a vs := by obtain ⟨o, q1, q2⟩ := id h; exact ⟨o, e2.keep _ _ q1 (w.noTup _ _ h) rfl, q2⟩
      exact (h2.up u.ext w2.noTup).sq
    · obtain ⟨e4, hy⟩ := hy
      subst e4
      exact ⟨Up.refl, .inl ((rr.ext e2 w.noTup).getV hx hy)⟩
theorem signs_get {z : Str} {i : Nat} {y : T} (h : (signs z)[i]? = some y) : ∃ c, z.cps[i]? = some c ∧ y = .str ⟨#[c]⟩ := by
  unfold signs at h
  rw [List.getElem?_map] at h
  cases q : z.cps.toList[i]? with
  | none => rw [q] at h; cases h
  | some c =>
    rw [q] at h
    cases h
    exact ⟨c, by rw [← q, Array.getElem?_toList], rfl⟩
theorem itm_str {z : Str} (h : z.length ≤ line) : Itm M false φ H gT (signs z) (Its z) := by
  have hl : (signs z).length = z.cps.size := by simp [signs]
  refine ⟨by rw [hl]; exact h, _, _, hl ▸ walk_str (z := z), fun φ2 S2 H2 H3 e2 w2 g u => trivial, fun φ2 S2 H2 H3 i y u H4 e2 w2 g up hx hy => ?_⟩
  obtain ⟨e4, c, hc, e⟩ := hy
  subst e4; subst e
  obtain ⟨c', hc', rfl⟩ := signs_get hx
  rw [hc] at hc'
  cases hc'
  exact ⟨Up.refl, .inl (.str _)⟩
theorem rangeT_get {lo : Int} {n i : Nat} {y : T} (h : (rangeT lo n)[i]? = some y) : y = .int (lo + i) := by
  unfold rangeT at h
  rw [List.getElem?_map] at h
  cases q : (List.range n)[i]? with
  | none => rw [q] at h; cases h
  | some c =>
    rw [q] at h
    cases h
    obtain ⟨h1, h2⟩ := List.getElem?_eq_some_iff.mp q
    rw [← h2]
    simp
theorem itm_rng {lo : Int} {n : Nat} (h : n ≤ sizeLine) : Itm M false φ H gT (rangeT lo n) (Itr lo n) := by
  have hl : (rangeT lo n).length = n := by simp [rangeT]
  refine ⟨by rw [hl]; exact h, _, _, (show Walk (Itr lo n) (rangeT lo n).length (fun _ => True) (YFn fun i => .int (lo + i)) by rw [hl]; exact walk_range), fun φ2 S2 H2 H3 e2 w2 g u => trivial, fun φ2 S2 H2 H3 i y u H4 e2 w2 g up hx hy => ?_⟩
  obtain ⟨e4, e⟩ := hy
  subst e4; subst e
  rw [rangeT_get hx]
  exact ⟨Up.refl, .inl (.int _)⟩
theorem enumT_get {i : Nat} {y : T} : ∀ {xs : List T} {n : Nat}, (enumT n xs)[i]? = some y → ∃ x, xs[i]? = some x ∧ y = .tup [.int ((n + i : Nat) : Int), x] := by
  induction i with
  | zero =>
    intro xs n h
    cases xs with
    | nil => cases h
    | cons x r => cases h; exact ⟨x, rfl, rfl⟩
  | succ i ih =>
    intro xs n h
    cases xs with
    | nil => cases h
    | cons x r =>
      obtain ⟨x', h1, h2⟩ := ih (xs := r) (n := n + 1) h
      exact ⟨x', h1, by rw [h2, show n + 1 + i = n + (i + 1) by omega]⟩
theorem enumT_len : ∀ (xs : List T) (n : Nat), (enumT n xs).length = xs.length
  | [], _ => rfl
  | _ :: r, n => congrArg (· + 1) (enumT_len r (n + 1))
theorem Up.newTup {p : Addr} {o : HO} (w : Wd M φ S H) (h : H p = none) (ho : isTbl o = false := by rfl) : Up φ H (upd H p o) := Wd.upLaid w h ho
theorem itm_enum {K : PySem.W.Frag} {x : T} {v : V} {xs : List T} (w : Wd M φ S H) (r : Rep M φ H x v) (e : seq? x = some xs) :
    ∃ a vs, v = .ref a ∧ ((SqL K H a vs ∧ (HSz K H → Itm M true φ H gT (enumT 0 xs) (Ite K a))) ∨ (SqT K H a vs ∧ (HSz K H → Itm M true φ H gT (enumT 0 xs) (IteT K a)))) := by
  have main : ∀ (vs : List V) (J : It) (G : Hp → Prop), Reps M φ H xs vs → vs.length ≤ sizeLine → Walk J vs.length G (YPair (fun i => some (.int (i : Nat))) (fun i => vs[i]?)) →
      (∀ φ2 S2 H2 H3, Ext φ H φ2 H2 → Wd M φ2 S2 H2 → Up φ2 H2 H3 → G H3) → Itm M true φ H gT (enumT 0 xs) J := by
    intro vs J G rr hs wk hG
    refine ⟨by rw [enumT_len, rr.length]; exact hs, _, _, (show (enumT 0 xs).length = vs.length by rw [enumT_len, rr.length]).symm ▸ wk, fun φ2 S2 H2 H3 e2 w2 g u => hG φ2 S2 H2 H3 e2 w2 u, fun φ2 S2 H2 H3 i y u H4 e2 w2 g up hx hy => ?_⟩
    obtain ⟨q, a, b, rfl, h1, rfl, h2, h3⟩ := hy
    obtain ⟨x', h4, rfl⟩ := enumT_get hx
    cases h2
    exact ⟨.newTup (w2.up up) h1, .inr ⟨rfl, _, _, _, _, q, rfl, rfl, upd_same, by rw [Nat.zero_add]; exact .int _, (rr.ext e2 w.noTup).getV h4 h3⟩⟩
  cases x <;> first | cases e | skip
  · cases r with
    | @tup xs a vs h rr =>
      refine ⟨a, vs, rfl, .inr ⟨h.sq, fun hz => main vs _ _ rr (hz.2 a vs h.sq) walk_enumT fun φ2 S2 H2 H3 e2 w2 u => ?_⟩⟩
      have h2 : TupAt H2 a vs := by obtain ⟨o, q1, q2⟩ := id h; exact ⟨o, e2.keep _ _ q1 (w.noTup _ _ h) rfl, q2⟩
      exact (h2.up u.ext w2.noTup).sq
  · cases r with
    | @lst xs a vs hm h rr =>
      exact ⟨a, vs, rfl, .inl ⟨.inl (.inl h), fun hz => main vs _ _ rr (hz.1 a vs (.inl (.inl h))) walk_enum fun φ2 S2 H2 H3 e2 w2 u => .inl (.inl (u.ext.keep _ _ (e2.keep _ _ h hm rfl) (e2.nmem h hm) rfl))⟩⟩
theorem zipT_get {i : Nat} {y : T} : ∀ {xs ys : List T}, (zipT xs ys)[i]? = some y → ∃ a b, xs[i]? = some a ∧ ys[i]? = some b ∧ y = .tup [a, b] := by
  induction i with
  | zero =>
    intro xs ys h
    cases xs with
    | nil => cases h
    | cons x r =>
      cases ys with
      | nil => cases h
      | cons z r' => cases h; exact ⟨x, z, rfl, rfl, rfl⟩
  | succ i ih =>
    intro xs ys h
    cases xs with
    | nil => cases h
    | cons x r =>
      cases ys with
      | nil => cases h
      | cons z r' => exact ih (xs := r) (ys := r') h
theorem zipT_len : ∀ (xs ys : List T), (zipT xs ys).length = min xs.length ys.length
  | [], _ => by simp [zipT]
  | _ :: _, [] => by simp [zipT]
  | _ :: r, _ :: r' => by simp [zipT, zipT_len r r']
theorem itm_zip {K : PySem.W.Frag} {va vb : List V} {xs ys : List T} {J : It} {G : Hp → Prop} (w : Wd M φ S H) (ra : Reps M φ H xs va) (rb : Reps M φ H ys vb) (hs : va.length ≤ sizeLine) (wk : Walk J (min va.length vb.length) G (YPair (fun i => va[i]?) (fun i => vb[i]?)))
    (hG : ∀ φ2 S2 H2 H3, Ext φ H φ2 H2 → Wd M φ2 S2 H2 → Up φ2 H2 H3 → G H3) : Itm M true φ H gT (zipT xs ys) J := by
  have hl : (zipT xs ys).length = min va.length vb.length := by rw [zipT_len, ra.length, rb.length]
  refine ⟨by rw [hl]; omega, _, _, hl.symm ▸ wk, fun φ2 S2 H2 H3 e2 w2 g u => hG φ2 S2 H2 H3 e2 w2 u, fun φ2 S2 H2 H3 i y u H4 e2 w2 g up hx hy => ?_⟩
  obtain ⟨q, a, b, rfl, h1, rfl, h2, h3⟩ := hy
  obtain ⟨a', b', h4, h5, rfl⟩ := zipT_get hx
  exact ⟨.newTup (w2.up up) h1, .inr ⟨rfl, _, _, _, _, q, rfl, rfl, upd_same, (ra.ext e2 w.noTup).getV h4 h2, (rb.ext e2 w.noTup).getV h5 h3⟩⟩
end
end PC
/-! PcIt3: list comprehensions. -/
namespace PC
open PySem L2 PyProof.Rows PySem.Spec
variable {M : Mo} {D : Tab} {k : Nat}
theorem _root_.L2.PI.imp {X : Cx} {tg e : Expr} {t u : TI} (h : PI X tg e t) (k : ∀ σ H Q, u σ H Q → t σ H Q) : PI X tg e u := ⟨fun pins s σ H Q I q => h.run pins s σ H Q I (k σ H Q q)⟩
theorem Item.weak {φ : List Addr} {H H' : Hp} {b : Bool} {x : T} {v : V} (h : Item M φ H H' false x v) : Item M φ H H' b x v := by
  rcases h with h | ⟨h, _⟩
  · exact .inl h
  · cases h
theorem Itm.weak {b : Bool} {φ : List Addr} {H : Hp} {g g' : Mem → Prop} {xs : List T} {J : It} (h : Itm M false φ H g xs J) (hg : ∀ S, g' S → g S) : Itm M b φ H g' xs J := by
  obtain ⟨sz, G, Y, w, h1, h2⟩ := h
  exact ⟨sz, G, Y, w, fun φ2 S2 H2 H3 e2 w2 g u => h1 φ2 S2 H2 H3 e2 w2 (hg _ g) u, fun φ2 S2 H2 H3 i x v H4 e2 w2 g u hx hy => let ⟨a, b⟩ := h2 φ2 S2 H2 H3 i x v H4 e2 w2 (hg _ g) u hx hy; ⟨a, b.weak⟩⟩
section
variable {s : SE}
theorem boot_rng : bootBuiltins ("range" : Str) = some (.type "range") := by decide +kernel
theorem sndI_val {e : E} {p : Expr} {tg : Tg} (he : Snd M D k s e p) (hs : notSet p = true) : SndI M D k s tg (.val e) p := by
  refine ⟨fun X EX XT o tgp _ => (pi_size (pi_val (he.pe X EX XT o))).imp fun σ H R q => ?_, fun env x => fs_of hs env x⟩
  obtain ⟨φ, σT, S, QT, at_, fx, hw, f⟩ := q
  refine ⟨φ, σT, S, _, at_, fx, hw, fun x S1 φ1 v H1 e1 w1 r1 q1 => ?_⟩
  cases x with
  | lst xs =>
    obtain ⟨a, rfl, h1, h2⟩ := itm_live (K := X.K) w1 r1 rfl
    exact .inl ⟨a, rfl, h1, fun hz => f gT xs S1 φ1 H1 _ e1 w1 q1 ((h2 hz).weak fun _ _ => rfl)⟩
  | tup xs =>
    obtain ⟨a, rfl, h1, h2⟩ := itm_tup (K := X.K) w1 r1
    exact .inr (.inl ⟨a, rfl, h1, fun hz => f gT xs S1 φ1 H1 _ e1 w1 q1 ((h2 hz).weak fun _ h => h)⟩)
  | str z =>
    have q1 : okO (if z.length ≤ line then some (signs z) else none) fun xs => QT gT xs S1 := q1
    split at q1
    · rename_i hz
      cases r1
      exact .inr (.inr (.inl ⟨z, rfl, fun _ => f gT _ S1 φ1 H1 _ e1 w1 q1 ((itm_str hz).weak fun _ h => h)⟩))
    · exact q1.elim
  | _ => exact q1.elim
theorem itm_dct {b : Bool} {φ : List Addr} {S : Mem} {H : Hp} {v : V} {ks vs : List T} (w : Wd M φ S H) (r : Rep M φ H (.dct ks vs) v) (hk : ks.all kt = true) : ∃ d o es ep as, v = .ref d ∧ (d == sysModules) = false ∧ H d = some (dictHO d o) ∧ o.ExactDict ∧ o.data = .dict es ep ∧ es.toList.map (·.key) = as.map Value.ref ∧ Itm M b φ H gT ks (Itd d o as) := by
  cases r with
  | @dct ks ts d kvs vvs m hd rk rt =>
    obtain ⟨h1, h2, o, h3, h4⟩ := hd
    cases h4 with
    | raw _ _ hn => simp [hn] at hk
    | @keyed es ep xs _ _ e1 e2 e3 e4 e5 e6 =>
      have hl : ks.length = (xs.map (·.2.1)).length := by rw [List.length_map]; exact Paired.length e5
      refine ⟨d, o, es, ep, xs.map (·.2.1), rfl, h1, h3, e1, e2, by rw [e3, List.map_map, List.map_map]; rfl, ?_, fun H => H d = some (dictHO d o), fun i H x H' => H' = H ∧ ∃ a, (xs.map (·.2.1))[i]? = some a ∧ x = .ref a, ?_, fun φ2 S2 H2 H3 e2 w2 g u => ?_, fun φ2 S2 H2 H3 i y u H4 e2 w2 g up hx hy => ?_⟩
      · have := e6.length
        rw [List.length_map] at this hl
        omega
      · rw [hl]
        exact ⟨fun i H hi q => ⟨q, hi⟩, fun H q => ⟨q, Nat.le_refl _⟩, fun i H x H' hi q y => y⟩
      · exact u.all _ _ (e2.keep _ _ h3 m rfl) (e2.nmem h3 m)
      · obtain ⟨rfl, a, ha, rfl⟩ := hy
        refine ⟨Up.refl, .inl ((rk.ext e2 w.noTup).getV hx ?_)⟩
        rw [List.getElem?_map] at ha ⊢
        cases hxi : xs[i]? with
        | none => rw [hxi] at ha; cases ha
        | some x => rw [hxi] at ha; cases ha; rfl
theorem sndI_live {e : E} {p : Expr} {tg : Tg} (he : Snd M D k s e p) (hs : notSet p = true) : SndI M D k s tg (.live e) p := by
  refine ⟨fun X EX XT o tgp _ => (pi_size (pi_val (he.pe X EX XT o))).imp fun σ H R q => ?_, fun env x => fs_of hs env x⟩
  obtain ⟨φ, σT, S, QT, at_, fx, hw, f⟩ := q
  refine ⟨φ, σT, S, _, at_, fx, hw, fun x S1 φ1 v H1 e1 w1 r1 q1 => ?_⟩
  cases e : vw S1 x with
  | lst xs =>
    rw [e] at q1
    obtain ⟨a, rfl, h1, h2⟩ := itm_live (K := X.K) w1 r1 e
    exact .inl ⟨a, rfl, h1, fun hz => f _ xs S1 φ1 H1 _ e1 w1 q1 ((h2 hz).weak fun _ h => h)⟩
  | tup xs =>
    rw [e] at q1
    have ex : x = .tup xs := by
      cases x <;> first | exact e | (simp [vw] at e; done) | skip
      rename_i i
      simp only [vw] at e
      split at e <;> cases e
    subst ex
    obtain ⟨a, rfl, h1, h2⟩ := itm_tup (K := X.K) w1 r1
    exact .inr (.inl ⟨a, rfl, h1, fun hz => f gT xs S1 φ1 H1 _ e1 w1 q1 ((h2 hz).weak fun _ h => h)⟩)
  | str z =>
    rw [e] at q1
    have ex : x = .str z := by
      cases x <;> first | exact e | (simp [vw] at e; done) | skip
      rename_i i
      simp only [vw] at e
      split at e <;> cases e
    subst ex
    obtain ⟨hz, q1⟩ := q1
    cases r1
    exact .inr (.inr (.inl ⟨z, rfl, fun _ => f gT _ S1 φ1 H1 _ e1 w1 q1 ((itm_str hz).weak fun _ h => h)⟩))
  | dct ks vs =>
    rw [e] at q1
    obtain ⟨⟨hd, hk⟩, q1⟩ := q1
    have ex : x = .dct ks vs := by
      cases x <;> first | exact e | cases hd
    subst ex
    obtain ⟨d, o, es, ep, as, rfl, h1, h2, h3, h4, h5, h6⟩ := itm_dct (b := tgPair tg) w1 r1 hk
    exact .inr (.inr (.inr ⟨d, o, es, ep, as, rfl, h1, h2, h3, h4, h5, fun _ => f gT ks S1 φ1 H1 _ e1 w1 q1 h6⟩))
  | _ => rw [e] at q1; exact q1.elim
theorem line62 {n : Int} (h1 : -(line : Int) ≤ n) (h2 : n ≤ line) : -(2 ^ 62) ≤ n ∧ n < 2 ^ 62 := by
  have : (line : Int) = 16777216 := rfl
  omega
theorem sizeLine_line : sizeLine = line := by decide
theorem sndI_rng1 {a : E} {a' : Expr} {p1 pos : Pos} {tg : Tg} (hg : glChk s "range" = true) (ha : Snd M D k s a a') (hs : notStar a' = true) : SndI M D k s tg (.rng1 a) (.Call (.Name "range" p1) [a'] [] pos) := by
  refine ⟨fun X EX XT o tgp _ => ?_, fun env x => rfl⟩
  obtain ⟨h1, h2, h3⟩ := o.gl hg
  have hm : X.mg "range" = none := by rw [o.m.mg]; exact o.lib.blt _ (by decide +kernel)
  refine (pi_range1 h1 hm (pa_cons (ha.pe X EX XT o) pa_nil (star_cons hs _ _)) (star_cons hs _ _)).imp fun σ H R q => ?_
  obtain ⟨φ, σT, S, QT, at_, fx, hw, f⟩ := q
  refine ⟨φ, σT, S, _, at_, fx, hw, fun x S1 φ1 v H1 e1 w1 r1 q1 => ?_⟩
  cases x <;> first | exact q1.elim | skip
  rename_i n
  cases r1
  obtain ⟨⟨g1, g2⟩, q1⟩ := q1
  obtain ⟨b1, b2⟩ := line62 g1 g2
  exact ⟨n, rfl, b1, b2, f gT _ S1 φ1 H1 _ e1 w1 q1 ((itm_rng (by rw [sizeLine_line]; omega)).weak fun _ h => h)⟩
theorem sndI_rng2 {a b : E} {a' b' : Expr} {p1 pos : Pos} {tg : Tg} (hg : glChk s "range" = true) (ha : Snd M D k s a a') (hb : Snd M D k s b b') (hs : notStar a' = true) (hs2 : notStar b' = true) : SndI M D k s tg (.rng2 a b) (.Call (.Name "range" p1) [a', b'] [] pos) := by
  refine ⟨fun X EX XT o tgp _ => ?_, fun env x => rfl⟩
  obtain ⟨h1, h2, h3⟩ := o.gl hg
  have hm : X.mg "range" = none := by rw [o.m.mg]; exact o.lib.blt _ (by decide +kernel)
  refine (pi_range2 h1 hm (pa_cons (ha.pe X EX XT o) (pa_cons (hb.pe X EX XT o) pa_nil (star_cons hs2 _ _)) (star_cons hs _ _)) (by rw [star_cons hs, star_cons hs2]; rfl) (star_cons hs2 _ _)).imp fun σ H R q => ?_
  obtain ⟨φ, σT, S, QT, at_, fx, hw, f⟩ := q
  refine ⟨φ, σT, S, _, at_, fx, hw, fun x S1 φ1 v H1 e1 w1 r1 q1 => ?_⟩
  refine ⟨φ1, σT, S1, _, at_.go e1 w1, fx.ext e1, q1, fun y S2 φ2 u H2 e2 w2 r2 q2 => ?_⟩
  cases x <;> first | exact q2.elim | skip
  rename_i m
  cases y <;> first | exact q2.elim | skip
  rename_i n
  cases r1
  cases r2
  obtain ⟨⟨g1, g2, g3, g4, g5⟩, q2⟩ := q2
  obtain ⟨b1, b2⟩ := line62 g1 g2
  obtain ⟨b3, b4⟩ := line62 g3 g4
  exact ⟨m, n, rfl, ⟨b3, b4, b1, b2⟩, f gT _ S2 φ2 H2 _ (e1.trans e2) w2 q2 ((itm_rng (by rw [sizeLine_line]; omega)).weak fun _ h => h)⟩
theorem sndI_enum {a : E} {a' : Expr} {p1 pos : Pos} {tg : Tg} (ht : tgPair tg = true) (hg : glChk s "enumerate" = true) (ha : Snd M D k s a a') (hs : notStar a' = true) : SndI M D k s tg (.enum a) (.Call (.Name "enumerate" p1) [a'] [] pos) := by
  refine ⟨fun X EX XT o tgp hp => ?_, fun env x => rfl⟩
  obtain ⟨es, n, q, rfl⟩ := hp ht
  rw [ht]
  obtain ⟨h1, h2, h3⟩ := o.gl hg
  have hm : X.mg "enumerate" = none := by rw [o.m.mg]; exact o.lib.blt _ (by decide +kernel)
  refine (pi_size (pi_enumA h1 hm (pa_cons (ha.pe X EX XT o) pa_nil (star_cons hs _ _)) (star_cons hs _ _))).imp fun σ H R q => ?_
  obtain ⟨φ, σT, S, QT, at_, fx, hw, f⟩ := q
  refine ⟨φ, σT, S, _, at_, fx, hw, fun x S1 φ1 v H1 e1 w1 r1 q1 => ?_⟩
  cases e : seq? x with
  | none => rw [e] at q1; exact q1.elim
  | some xs =>
    rw [e] at q1
    obtain ⟨b, vs, rfl, ⟨h4, h5⟩ | ⟨h4, h5⟩⟩ := itm_enum (K := X.K) w1 r1 e
    · exact ⟨b, vs, rfl, .inl ⟨h4, fun hz => f gT _ S1 φ1 H1 _ e1 w1 q1 (h5 hz)⟩⟩
    · exact ⟨b, vs, rfl, .inr ⟨h4, fun hz => f gT _ S1 φ1 H1 _ e1 w1 q1 (h5 hz)⟩⟩
theorem sndI_zip {a b : E} {a' b' : Expr} {p1 pos : Pos} {tg : Tg} (ht : tgPair tg = true) (hg : glChk s "zip" = true) (ha : Snd M D k s a a') (hb : Snd M D k s b b') (hs : notStar a' = true) (hs2 : notStar b' = true) : SndI M D k s tg (.zip a b) (.Call (.Name "zip" p1) [a', b'] [] pos) := by
  refine ⟨fun X EX XT o tgp hp => ?_, fun env x => rfl⟩
  obtain ⟨es, n, q, rfl⟩ := hp ht
  rw [ht]
  obtain ⟨h1, h2, h3⟩ := o.gl hg
  have hm : X.mg "zip" = none := by rw [o.m.mg]; exact o.lib.blt _ (by decide +kernel)
  refine (pi_size (RZ.pi_zipA h1 hm (pa_cons (ha.pe X EX XT o) (pa_cons (hb.pe X EX XT o) pa_nil (star_cons hs2 _ _)) (star_cons hs _ _)) (star_cons hs _ _) (by rw [star_cons hs2]; rfl))).imp fun σ H R q => ?_
  obtain ⟨φ, σT, S, QT, at_, fx, hw, f⟩ := q
  refine ⟨φ, σT, S, _, at_, fx, hw, fun x S1 φ1 v H1 e1 w1 r1 q1 => ?_⟩
  refine ⟨φ1, σT, S1, _, at_.go e1 w1, fx.ext e1, q1, fun y S2 φ2 u H2 e2 w2 r2 q2 => ?_⟩
  have r1 := r1.ext e2 w1.noTup
  cases x <;> first | exact q2.elim | skip
  · cases y <;> first | exact q2.elim | skip
    cases r1 with
    | @tup xs a va h ra =>
      cases r2 with
      | @tup ys b vb h' rb =>
        refine ⟨a, b, va, vb, rfl, .inr ⟨h.sq, h'.sq, fun hz => f gT _ S2 φ2 H2 _ (e1.trans e2) w2 q2 (itm_zip (K := X.K) w2 ra rb (hz.2 _ _ h.sq) (walk_zipT rfl) fun φ3 S3 H3 H4 e3 w3 up => ⟨?_, ?_⟩)⟩⟩
        · have h2 : TupAt H3 a va := by obtain ⟨o, z1, z2⟩ := id h; exact ⟨o, e3.keep _ _ z1 (w2.noTup _ _ h) rfl, z2⟩
          exact (h2.up up.ext w3.noTup).sq
        · have h2 : TupAt H3 b vb := by obtain ⟨o, z1, z2⟩ := id h'; exact ⟨o, e3.keep _ _ z1 (w2.noTup _ _ h') rfl, z2⟩
          exact (h2.up up.ext w3.noTup).sq
  · cases y <;> first | exact q2.elim | skip
    cases r1 with
    | @lst xs a va m h ra =>
      cases r2 with
      | @lst ys b vb m' h' rb =>
        refine ⟨a, b, va, vb, rfl, .inl ⟨.inl (.inl h), .inl (.inl h'), fun hz => f gT _ S2 φ2 H2 _ (e1.trans e2) w2 q2 (itm_zip (K := X.K) w2 ra rb (hz.1 _ _ (.inl (.inl h))) (walk_zip rfl) fun φ3 S3 H3 H4 e3 w3 up => ⟨?_, ?_⟩)⟩⟩
        · exact .inl (up.rd (e3.rd (.inl h) m))
        · exact .inl (up.rd (e3.rd (.inl h') m'))
/-! conditions -/
theorem pts_lock {X : Cx} {e : List Expr} {t : TT} (h : PTs X e t) : PTs X e (tLockT t) := by
  refine ⟨fun pins s σ H Q I hw => ?_⟩
  obtain ⟨d, u, hd, mu, hw⟩ := hw
  obtain ⟨od, I1⟩ := I.lock hd mu
  refine thn (h.run pins s σ _ _ I1 (hw od)) fun v s1 ⟨H1, I2, e2, q⟩ => ?_
  exact ⟨_, I2.unlock e2 (I.nofrz hd mu), q⟩
theorem _root_.L2.PTs.imp {X : Cx} {e : List Expr} {t u : TT} (h : PTs X e t) (k : ∀ σ H Q, u σ H Q → t σ H Q) : PTs X e u := ⟨fun pins s σ H Q I q => h.run pins s σ H Q I (k σ H Q q)⟩
structure SndC (M : Mo) (D : Tab) (k : Nat) (s : SE) (c : Eo) (ps : List Expr) : Prop where
  pts : ∀ (X : Cx) (EX : XK) (XT : Wx), XOk M D k s EX X → PTs X ps (tT M XT EX (wpT D.G (cw D k) c XT))
theorem sndC_none : SndC M D k s .none [] := ⟨fun X EX XT o => pts_nil.imp fun σ H Q q => by
  obtain ⟨φ, σT, S, QT, at_, fx, hw, f⟩ := q
  exact f true S φ H (Ext.refl _ _) at_.wd hw⟩
theorem sndC_some {e : E} {p : Expr} (h : Snd M D k s e p) : SndC M D k s (.some e) [p] := ⟨fun X EX XT o => pts_one (h.pt X EX XT o)⟩
/-! the block -/
theorem loc_of {o : Option NameKind} (h : isLoc o = true) : o = some .local ∨ o = some .cell := by
  cases o with
  | none => cases h
  | some k => cases k <;> first | exact .inl rfl | exact .inr rfl | cases h
theorem XOk.blk {EX : XK} {X : Cx} (o : XOk M D k s EX X) {vs : List Nat} {scope : Scope} (hb : blkChk s vs scope = true) (s0 : Shared) (H : Hp) (C : Addr) (cl : List (Str × Addr)) (fp : List Addr) :
    XOk M D k (blkSE s scope) (fun _ _ _ => False) (X.blk s0 H scope (compEnvC scope cl C X.env) fp) where
  m := ⟨o.m.P, o.m.w, o.m.K, o.m.mg, o.m.base⟩
  lib := o.lib
  N := o.N
  sc := by
    show relS scope X.env.scope = relScope scope s.sc
    rw [o.sc]
    rfl
  fl := o.fl
  fns := o.fns
  xs := o.xs
  nd := o.nd
  calm := o.calm
  room := o.room
  lam := o.lam
  px := fun _ _ _ _ _ _ _ h => by
    obtain ⟨_, _, _, _, _, _, _, _, _, _, _, _, z⟩ := h
    exact z.elim
  ow := fun x hx => by
    have hm : x ∈ (scope.names.filter fun y => isLoc (some y.2)).map (·.1) := List.contains_iff_mem.mp hx
    obtain ⟨y, hy, rfl⟩ := List.mem_map.mp hm
    obtain ⟨hy, hl⟩ := List.mem_filter.mp hy
    unfold blkChk at hb
    rw [Bool.and_eq_true] at hb
    have ok := blkOk_by hb.1
    have hu := ok.uniq y hy
    have hne : y.2 ≠ .free := fun z => by rw [z] at hl; cases hl
    have hk := lookup_relS_keep (sc := s.sc) hne hu
    have hk2 : (relScope scope s.sc).names.lookup y.1 = some y.2 := hk
    show Loc (relScope scope s.sc) y.1 ∧ _
    rcases loc_of hl with e | e
    · exact ⟨.inl (hk2.trans e), .inr (hk2.trans e)⟩
    · exact ⟨.inr (hk2.trans e), .inl (by show (scope.names.lookup y.1 == some NameKind.cell) = true; rw [hu, e]; rfl)⟩
theorem wipe_comm {σ : L2.St} {i : Nat} {w : Option V} : ∀ (vs : List Nat), i ∉ vs → L2.wipe (σ.set i w) vs = (L2.wipe σ vs).set i w
  | [], _ => rfl
  | l :: vs, h => by
    have h1 : i ≠ l := fun z => h (z ▸ List.mem_cons_self)
    show (L2.wipe (σ.set i w) vs).set l none = ((L2.wipe σ vs).set l none).set i w
    rw [wipe_comm vs fun z => h (List.mem_cons_of_mem _ z), List.set_comm _ _ h1]
theorem wipe_set {σ : L2.St} {i : Nat} {w : Option V} : ∀ (vs : List Nat), i ∈ vs → L2.wipe (σ.set i w) vs = L2.wipe σ vs
  | j :: vs, h => by
    show (L2.wipe (σ.set i w) vs).set j none = (L2.wipe σ vs).set j none
    by_cases e : i ∈ vs
    · rw [wipe_set vs e]
    · have e2 : i = j := (List.mem_cons.mp h).resolve_right e
      subst e2
      rw [wipe_comm vs e, List.set_set]
theorem wipe_sub {σ : L2.St} (ws : List Nat) : ∀ (vs : List Nat), (∀ i ∈ vs, i ∈ ws) → L2.wipe (L2.wipe σ vs) ws = L2.wipe σ ws
  | [], _ => rfl
  | v :: vs, h => by
    show L2.wipe ((L2.wipe σ vs).set v none) ws = _
    rw [wipe_set ws (h v List.mem_cons_self), wipe_sub ws vs fun i q => h i (List.mem_cons_of_mem _ q)]
theorem wpL_g {g : Mem → Prop} {body : T → Mem → (List T → Mem → Prop) → Prop} {xs acc : List T} {S : Mem} {kk : List T → Mem → Prop} (h : wpL g body xs acc S kk) : g S := by
  cases xs <;> exact h.1
/-- the loop -/
theorem lc_read {K : PySem.W.Frag} {g : Mem → Prop} {xs : List T} {J : It} {φ1 : List Addr} {H1 : Hp} {S1 : Mem} {σT : Sl} {σ : L2.St} {Dd : Addr} {vs : List Nat} {tg : Tg} {wc : Sl → Mem → (Bool → Mem → Prop) → Prop} {we : Sl → Mem → Wv → Prop} {KT : List T → Mem → Prop} {Q : VK}
    (itm : Itm M (tgPair tg) φ1 H1 g xs J) (at_ : At M φ1 H1 S1 σT σ) (hD : H1 Dd = none) (hsub : ∀ i ∈ tgSlots tg, i ∈ vs)
    (hw : wpL g (fun x S k => asgTg tg x (wipe σT vs) fun σ1 => wc σ1 S fun b S2 => if b = true then we σ1 S2 fun y S3 => k [y] S3 else k [] S2) xs [] S1 KT)
    (fin : ∀ ys S φ H vl, Ext φ1 H1 φ (rem H Dd) → Wd M φ S (rem H Dd) → H Dd = some (.lst vl) → Reps M φ (rem H Dd) ys vl → KT ys S → Q (.ref Dd) H) :
    ∃ W : Nat → Nat → Hp → Prop, (∃ m, W 0 m (upd H1 Dd (.lst []))) ∧ ∀ i m H, W i m H →
  (J.stop i H ∧ Q (.ref Dd) H) ∨ (J.go i H ∧ ∃ Nx : Hp → Prop, (∀ H', Nx H' → ∃ m', m' < m ∧ W (i + 1) m' H') ∧ ∀ x H', J.yld i H x H' → gOf K tg x (L2.wipe σ vs) H' fun σ2 H2 => L2.wipe σ2 vs = L2.wipe σ vs ∧ tLockT (tT M noX (fun _ _ _ => False) wc) σ2 H2 fun b H3 =>
    if b = true then tLockE (tE M noX (fun _ _ _ => False) we) σ2 H3 fun y H4 => ∃ acc, H4 Dd = some (.lst acc) ∧ acc.length < sizeLine ∧ Nx (upd H4 Dd (.lst (acc ++ [y]))) else Nx H3) := by
  obtain ⟨sz, G, Y, wk, hG, hY⟩ := itm
  have n1 := at_.wd.noTup
  refine lc_it (Qd := fun H => Q (.ref Dd) H) wk (fun i H => ∃ φ S acc vl, H Dd = some (.lst vl) ∧ Dd ∉ φ ∧ Ext φ1 H1 φ (rem H Dd) ∧ Wd M φ S (rem H Dd) ∧ Reps M φ (rem H Dd) acc vl ∧ acc.length ≤ i ∧
    wpL g (fun x S k => asgTg tg x (wipe σT vs) fun σ1 => wc σ1 S fun b S2 => if b = true then we σ1 S2 fun y S3 => k [y] S3 else k [] S2) (xs.drop i) acc S KT) ?_ ?_ ?_ ?_
  · refine ⟨φ1, S1, [], [], upd_same, at_.wd.new hD, ?_, ?_, .nil, Nat.zero_le _, hw⟩
    · rw [rem_upd, rem_none hD]; exact Ext.refl _ _
    · rw [rem_upd, rem_none hD]; exact at_.wd
  · intro i H hi ⟨φ, S, acc, vl, h1, h2, h3, h4, h5, h6, h7⟩
    refine hG φ S (rem H Dd) H h3 h4 (wpL_g h7) ?_
    have := Up.newTup (o := .lst vl) h4 (rem_same (H := H) (p := Dd))
    rw [upd_rem, upd_self h1] at this
    exact this
  · intro i x H H' hi ⟨φ, S, acc, vl, h1, h2, h3, h4, h5, h6, h7⟩ hy
    have up0 : Up φ (rem H Dd) H := by
      have := Up.newTup (o := .lst vl) h4 (rem_same (H := H) (p := Dd))
      rw [upd_rem, upd_self h1] at this
      exact this
    have hx : xs[i]? = some xs[i] := List.getElem?_eq_getElem hi
    have hd : xs.drop i = xs[i] :: xs.drop (i + 1) := List.drop_eq_getElem_cons hi
    rw [hd] at h7
    obtain ⟨hg, h7⟩ := h7
    obtain ⟨up1, hit⟩ := hY φ S (rem H Dd) H i xs[i] x H' h3 h4 hg up0 hx hy
    have up2 := up0.trans up1
    have hD1 : H' Dd = some (.lst vl) := up1.ext.keep _ _ h1 h2 rfl
    have sl0 : Slots M φ (rem H Dd) (wipe σT vs) (L2.wipe σ vs) := (at_.sl.ext h3 n1).wipe vs
    refine tg_read h7 sl0 up2.ext h4.noTup hit fun σT' σ' sl1 hwc hws => ⟨by rw [hws vs hsub, wipe_sub vs vs fun i h => h], Dd, .lst vl, hD1, trivial, fun od => ?_⟩
    -- the test
    have upR : Up φ (rem H Dd) (rem H' Dd) := by
      have : Up φ (upd H Dd (.lst vl)) H' := by rw [upd_self h1]; exact up1
      exact this.rem h2
    have wR : Wd M φ S (rem H' Dd) := h4.up upR
    have eL : upd H' Dd (.frz od (.lst vl)) = upd (rem H' Dd) Dd (.frz od (.lst vl)) := upd_rem.symm
    have lay : Ext φ (rem H' Dd) φ (upd H' Dd (.frz od (.lst vl))) := by rw [eL]; exact Ext.laid rem_same
    have wL : Wd M φ S (upd H' Dd (.frz od (.lst vl))) := by rw [eL]; exact wR.laid rem_same
    refine ⟨φ, σT', S, _, ⟨wL, (sl1.ext upR.ext h4.noTup).ext lay wR.noTup⟩, fun _ _ _ _ _ _ _ _ h => h.elim, hwc, fun b S2 φ2 H2 e2 w2 q2 => ?_⟩
    have hD2 : H2 Dd = some (.frz od (.lst vl)) := e2.keep _ _ upd_same h2 rfl
    have lk2 : Lkd H2 Dd := ⟨_, _, hD2, rfl⟩
    refine ⟨hD2, ?_⟩
    have e2' : Ext φ (rem H' Dd) φ2 (rem H2 Dd) := Ext.remB e2
    have hn2 : Dd ∉ φ2 := e2.nmem upd_same h2
    have wR2 : Wd M φ2 S2 (rem H2 Dd) := w2.rem lk2 hn2
    have eX2 : Ext φ1 H1 φ2 (rem H2 Dd) := (h3.trans upR.ext).trans e2'
    have ra2 : Reps M φ2 (rem H2 Dd) acc vl := (h5.ext upR.ext h4.noTup).ext e2' wR.noTup
    cases b with
    | false =>
      refine ⟨φ2, S2, acc, vl, upd_same, hn2, ?_, ?_, ?_, Nat.le_succ_of_le h6, ?_⟩
      · rw [rem_upd]; exact eX2
      · rw [rem_upd]; exact wR2
      · rw [rem_upd]; exact ra2
      · have q2 : wpL g _ (xs.drop (i + 1)) (acc ++ []) S2 KT := q2
        rw [List.append_nil] at q2
        exact q2
    | true =>
      refine ⟨Dd, .lst vl, upd_same, trivial, fun od2 => ?_⟩
      have eL2 : upd (upd H2 Dd (.lst vl)) Dd (.frz od2 (.lst vl)) = upd (rem H2 Dd) Dd (.frz od2 (.lst vl)) := by rw [upd_upd, upd_rem]
      rw [eL2]
      have lay2 : Ext φ2 (rem H2 Dd) φ2 (upd (rem H2 Dd) Dd (.frz od2 (.lst vl))) := Ext.laid rem_same
      have wL2 := wR2.laid (o := .frz od2 (.lst vl)) (rem_same (H := H2) (p := Dd))
      have sl2 : Slots M φ2 (rem H2 Dd) σT' σ' := (sl1.ext upR.ext h4.noTup).ext e2' wR.noTup
      refine ⟨φ2, σT', S2, _, ⟨wL2, sl2.ext lay2 wR2.noTup⟩, fun _ _ _ _ _ _ _ _ h => h.elim, q2, fun y S3 φ3 v H3 e3 w3 r3 q3 => ?_⟩
      have hD3 : H3 Dd = some (.frz od2 (.lst vl)) := e3.keep _ _ upd_same hn2 rfl
      have lk3 : Lkd H3 Dd := ⟨_, _, hD3, rfl⟩
      have hn3 : Dd ∉ φ3 := e3.nmem upd_same hn2
      refine ⟨hD3, vl, upd_same, ?_, ?_⟩
      · rw [← ra2.length]; omega
      · have e3' : Ext φ2 (rem H2 Dd) φ3 (rem H3 Dd) := by
          have := Ext.remB e3
          rw [show rem (rem H2 Dd) Dd = rem H2 Dd from rem_none rem_same] at this
          exact this
        refine ⟨φ3, S3, acc ++ [y], vl ++ [v], upd_same, hn3, ?_, ?_, ?_, by rw [List.length_append]; exact Nat.succ_le_succ h6, q3⟩
        · rw [rem_upd, rem_upd]; exact eX2.trans e3'
        · rw [rem_upd, rem_upd]; exact w3.rem lk3 hn3
        · rw [rem_upd, rem_upd]; exact (ra2.ext e3' wR2.noTup).append (.cons (r3.rem lk3) .nil)
  · intro H ⟨φ, S, acc, vl, h1, h2, h3, h4, h5, h6, h7⟩
    rw [List.drop_length] at h7
    exact fin acc S φ H vl h3 h4 h1 h5 h7.2
/-- what a comprehension needs -/
theorem comp_read {EX : XK} {XT : Wx} {K : PySem.W.Frag} {e : E} {vs : List Nat} {tg : Tg} {it : I} {c : Eo} {σ : L2.St} {H : Hp} {Q : VK} (hsub : ∀ i ∈ tgSlots tg, i ∈ vs) (q : tF M XT EX (wpE D.G (cw D k) (.comp e vs tg it c) XT) σ H Q) :
    tLc (tI M XT EX (tgPair tg) (wpI D.G (cw D k) it XT)) (gOf K tg) (tLockT (tT M noX (fun _ _ _ => False) (wpT D.G (cw D k) c noX))) (tLockE (tE M noX (fun _ _ _ => False) (wpE D.G (cw D k) e noX))) vs σ H Q := by
  obtain ⟨φ, σT, S, QT, at_, fx, hw, f⟩ := q
  refine ⟨φ, σT, S, _, at_, fx, hw, fun g xs S1 φ1 H1 J e1 w1 q1 itm Dd hD => ?_⟩
  refine lc_read itm (at_.go e1 w1) hD hsub q1 fun ys S2 φ2 H2 vl e2 w2 h2 r2 q2 => ?_
  have := f (.lst ys) S2 φ2 (rem H2 Dd) (e1.trans e2) w2 q2 Dd vl rem_same r2
  rw [upd_rem, upd_self h2] at this
  exact this
theorem subAll_mem {a b : List Nat} (h : subAll a b = true) : ∀ i ∈ a, i ∈ b := fun i hi => List.contains_iff_mem.mp (List.all_eq_true.mp h i hi)
theorem blk_own {vs : List Nat} {scope : Scope} (h : blkChk s vs scope = true) : (blkOwn s vs).map (·.2) = vs := by
  unfold blkChk at h
  rw [Bool.and_eq_true] at h
  exact of_decide_eq_true h.2
theorem tgp_tup {tg : Tg} {tgp : Expr} {s : SE} (h : chkTg s tg tgp = true) : tgPair tg = true → ∃ es n q, tgp = .Tuple es n q := by
  cases tg <;> first | (intro z; cases z; done) | skip
  intro _
  cases tgp <;> first | exact ⟨_, _, _, rfl⟩ | cases h
theorem snd_comp {e : E} {vs : List Nat} {tg : Tg} {it : I} {c : Eo} {e' tg' it' : Expr} {cs' : List Expr} {scope : Scope} {pos : Pos} (hb : blkChk s vs scope = true) (hs : subAll (tgSlots tg) vs = true) (hi : SndI M D k s tg it it') (hg : chkTg (blkSE s scope) tg tg' = true)
    (hc : SndC M D k (blkSE s scope) c cs') (he : Snd M D k (blkSE s scope) e e') : Snd M D k s (.comp e vs tg it c) (.ListComp e' [⟨tg', it', cs', 0⟩] scope pos) := by
  refine .fresh (fun X EX XT o => ?_) (by intros; simp) (fun _ _ => rfl)
  have ok : BlkOk X.N X.env.scope scope (blkOwn s vs) := by
    unfold blkChk at hb
    rw [Bool.and_eq_true] at hb
    rw [o.N, o.sc]
    exact blkOk_by hb.1
  refine (pe_lc (g := gOf X.K tg) o.calm (by rw [o.N]; exact o.nd) (hi.pi X EX XT o tg' (tgp_tup hg)) ok (fun s0 H C cl fp => pg_of (o.blk hb s0 H C cl fp) hg) (fun s0 H C cl fp => pts_lock (hc.pts _ _ noX (o.blk hb s0 H C cl fp))) (fun s0 H C cl fp => pe_lock (he.pe _ _ noX (o.blk hb s0 H C cl fp))) (hi.fs X.env)).imp fun σ H Q q => ?_
  rw [blk_own hb]
  exact comp_read (subAll_mem hs) q
end
end PC
/-! PcIt4: list comprehensions of two generators. -/
namespace PC
open PySem L2 PyProof.Rows PySem.Spec
variable {M : Mo} {D : Tab} {k : Nat}
/-- a walk's states, the step of any form -/
theorem it_w {J : It} {n : Nat} {G : Hp → Prop} {Y : Nat → Hp → V → Hp → Prop} (w : Walk J n G Y) {Qd : Hp → Prop} {Stp : (Hp → Prop) → V → Hp → Prop} (Pv : Nat → Hp → Prop) (hG : ∀ i H, i ≤ n → Pv i H → G H)
    (hs : ∀ i x H H', i < n → Pv i H → Y i H x H' → Stp (Pv (i + 1)) x H') (hd : ∀ H, Pv n H → Qd H) :
    ∃ W : Nat → Nat → Hp → Prop, (∀ H, Pv 0 H → ∃ m, W 0 m H) ∧ ∀ i m H, W i m H →
      (J.stop i H ∧ Qd H) ∨ (J.go i H ∧ ∃ Nx : Hp → Prop, (∀ H', Nx H' → ∃ m', m' < m ∧ W (i + 1) m' H') ∧ ∀ x H', J.yld i H x H' → Stp Nx x H') := by
  refine ⟨fun i m H => m = n - i ∧ i ≤ n ∧ Pv i H, fun H h => ⟨n, by simp, Nat.zero_le _, h⟩, ?_⟩
  rintro i m H ⟨rfl, hi, p⟩
  have q := hG i H hi p
  rcases Nat.lt_or_ge i n with hlt | hge
  · refine .inr ⟨w.goes i H hlt q, Pv (i + 1), fun H' p' => ⟨n - (i + 1), by omega, rfl, hlt, p'⟩, ?_⟩
    exact fun x H' y => hs i x H H' hlt p (w.yields i H x H' hlt q y)
  · obtain rfl : i = n := by omega
    exact .inl ⟨w.stops H q, hd H p⟩
/-- the list that grows at Dd, unseen by what is told -/
def LSt (M : Mo) (φ1 : List Addr) (H1 : Hp) (Dd : Addr) (b : Nat) (H : Hp) (F : Mem → List T → Prop) : Prop :=
  ∃ φ S acc vl, H Dd = some (.lst vl) ∧ Dd ∉ φ ∧ Ext φ1 H1 φ (rem H Dd) ∧ Wd M φ S (rem H Dd) ∧ Reps M φ (rem H Dd) acc vl ∧ acc.length ≤ b ∧ F S acc
theorem LSt.up {φ1 : List Addr} {H1 : Hp} {Dd : Addr} {b : Nat} {H : Hp} {F : Mem → List T → Prop} (h : LSt M φ1 H1 Dd b H F) : ∃ φ S, Ext φ1 H1 φ (rem H Dd) ∧ Wd M φ S (rem H Dd) ∧ Up φ (rem H Dd) H ∧ ∃ acc, F S acc := by
  obtain ⟨φ, S, acc, vl, h1, h2, h3, h4, h5, h6, h7⟩ := h
  refine ⟨φ, S, h3, h4, ?_, acc, h7⟩
  have := Up.newTup (o := .lst vl) h4 (rem_same (H := H) (p := Dd))
  rw [upd_rem, upd_self h1] at this
  exact this
/-- a part of it is told while the list is locked -/
theorem LSt.part {φ1 : List Addr} {H1 : Hp} {Dd : Addr} {H' : Hp} {we : Sl → Mem → Wv → Prop} {σT' : Sl} {σ' : L2.St} {φ : List Addr} {S : Mem} {vl : List V} {acc : List T} {QT : Wv} {Q : VK} (hD : H' Dd = some (.lst vl)) (hn : Dd ∉ φ) (w : Wd M φ S (rem H' Dd)) (sl : Slots M φ (rem H' Dd) σT' σ') (ra : Reps M φ (rem H' Dd) acc vl)
    (hw : we σT' S QT) (hq : ∀ y S3 φ3 H3 v, H3 Dd = some (.lst vl) → Dd ∉ φ3 → Ext φ (rem H' Dd) φ3 (rem H3 Dd) → Wd M φ3 S3 (rem H3 Dd) → Reps M φ3 (rem H3 Dd) acc vl → Rep M φ3 (rem H3 Dd) y v → QT y S3 → Q v H3) :
    tLockE (tE M noX (fun _ _ _ => False) we) σ' H' Q := by
  refine ⟨Dd, .lst vl, hD, trivial, fun od => ?_⟩
  have eL : upd H' Dd (.frz od (.lst vl)) = upd (rem H' Dd) Dd (.frz od (.lst vl)) := upd_rem.symm
  rw [eL]
  have lay : Ext φ (rem H' Dd) φ (upd (rem H' Dd) Dd (.frz od (.lst vl))) := Ext.laid rem_same
  refine ⟨φ, σT', S, _, ⟨w.laid rem_same, sl.ext lay w.noTup⟩, fun _ _ _ _ _ _ _ _ h => h.elim, hw, fun y S3 φ3 v H3 e3 w3 r3 q3 => ?_⟩
  have hD3 : H3 Dd = some (.frz od (.lst vl)) := e3.keep _ _ upd_same hn rfl
  have lk3 : Lkd H3 Dd := ⟨_, _, hD3, rfl⟩
  have hn3 : Dd ∉ φ3 := e3.nmem upd_same hn
  have e3' : Ext φ (rem H' Dd) φ3 (rem H3 Dd) := by
    have := Ext.remB e3
    rw [show rem (rem H' Dd) Dd = rem H' Dd from rem_none rem_same] at this
    exact this
  refine ⟨hD3, hq y S3 φ3 _ v upd_same hn3 ?_ ?_ ?_ ?_ q3⟩
  · rw [rem_upd]; exact e3'
  · rw [rem_upd]; exact w3.rem lk3 hn3
  · rw [rem_upd]; exact ra.ext e3' w.noTup
  · rw [rem_upd]; exact r3.rem lk3
/-- the loop's next item, what was told kept -/
theorem LSt.step {φ : List Addr} {H H' : Hp} {S : Mem} {Dd : Addr} {vl : List V} (h1 : H Dd = some (.lst vl)) (h2 : Dd ∉ φ) (h4 : Wd M φ S (rem H Dd)) (up1 : Up φ H H') : H' Dd = some (.lst vl) ∧ Up φ (rem H Dd) (rem H' Dd) ∧ Wd M φ S (rem H' Dd) := by
  have upR : Up φ (rem H Dd) (rem H' Dd) := by
    have : Up φ (upd H Dd (.lst vl)) H' := by rw [upd_self h1]; exact up1
    exact this.rem h2
  exact ⟨up1.ext.keep _ _ h1 h2 rfl, upR, h4.up upR⟩
def rngK (R : (Mem → Prop) → List T → Mem → Prop) : Wv := fun x S1 => match x with
  | .int n => (-(line : Int) ≤ n ∧ n ≤ line) ∧ R gT (rangeT 0 n.toNat) S1
  | _ => False
theorem wpI_r {G : Str → Option T} {CW : Cal} {a : E} {σ : Sl} {S : Mem} {R : (Mem → Prop) → List T → Mem → Prop} {R' : Mem → Prop} (h : wpT G CW .none noX σ S (fun b S2 => if b = true then wpI G CW (.rng1 a) noX σ S2 R else R' S2)) : wpE G CW a noX σ S (rngK R) := h
theorem wpT_n {G : Str → Option T} {CW : Cal} {a : E} {σ : Sl} {S : Mem} {R : Wv} {R' : Mem → Prop} (h : wpT G CW .none noX σ S (fun b S2 => if b = true then wpE G CW a noX σ S2 R else R' S2)) : wpE G CW a noX σ S R := h
theorem yes_t {σ : L2.St} {H : Hp} {A B : Hp → Prop} (h : A H) : tYes σ H fun b H3 => if b = true then A H3 else B H3 := h
section
variable {s : SE}
theorem comp2_read {EX : XK} {XT : Wx} {K : PySem.W.Frag} {e a1 : E} {vs vs1 : List Nat} {tg tg1 : Tg} {it : I} {σ : L2.St} {H : Hp} {Q : VK} (hsub : ∀ i ∈ tgSlots tg, i ∈ vs) (hsub1 : ∀ i ∈ tgSlots tg1, i ∈ vs1) (hp1 : tgPair tg1 = false)
    (q : tF M XT EX (wpE D.G (cw D k) (.comp2 e vs tg it .none vs1 tg1 (.rng1 a1) .none) XT) σ H Q) :
    tLc2 (tI M XT EX (tgPair tg) (wpI D.G (cw D k) it XT)) (gOf K tg) tYes (iRng1 (tCons (tLockE (tE M noX (fun _ _ _ => False) (wpE D.G (cw D k) a1 noX))) tNil)) (gOf K tg1) tYes (tLockE (tE M noX (fun _ _ _ => False) (wpE D.G (cw D k) e noX))) vs vs1 σ H Q := by
  obtain ⟨φ, σT, S, QT, at_, fx, hw, f⟩ := q
  refine ⟨φ, σT, S, _, at_, fx, hw, fun g xs S1 φ1 H1 J e1 w1 q1 itm Dd hD => ?_⟩
  have at1 := at_.go e1 w1
  obtain ⟨sz, G, Y, wk, hG, hY⟩ := itm
  have n1 := w1.noTup
  obtain ⟨hx1000, q1⟩ := q1
  generalize hb : (fun x S (kk : List T → Mem → Prop) => asgTg tg x (wipe σT vs) fun σ1 => wpT D.G (cw D k) .none noX σ1 S fun b S2 => if b = true then wpI D.G (cw D k) (.rng1 a1) noX σ1 S2 fun g1 xs1 S3 => xs1.length ≤ 1000 ∧
        wpL g1 (fun x S k' => asgTg tg1 x (wipe σ1 vs1) fun σ2 => wpT D.G (cw D k) .none noX σ2 S fun b S2 => if b = true then wpE D.G (cw D k) e noX σ2 S2 fun y S3 => k' [y] S3 else k' [] S2) xs1 [] S3 kk else kk [] S2) = body
  have q1 : wpL g body xs [] S1 fun ys S2 => QT (.lst ys) S2 := by rw [← hb]; exact q1
  have w0 : LSt M φ1 H1 Dd (0 * 1000) (upd H1 Dd (.lst [])) (fun S acc => wpL g body (xs.drop 0) acc S fun ys S2 => QT (.lst ys) S2) := by
    refine ⟨φ1, S1, [], [], upd_same, w1.new hD, ?_, ?_, .nil, Nat.zero_le _, q1⟩
    · rw [rem_upd, rem_none hD]; exact Ext.refl _ _
    · rw [rem_upd, rem_none hD]; exact w1
  refine Exists.elim (it_w (Qd := fun H => Q (.ref Dd) H) (Stp := fun Nx x H' => gOf K tg x (L2.wipe σ vs) H' fun σ2 H2 => L2.wipe σ2 vs = L2.wipe σ vs ∧ tYes σ2 H2 fun b H3 =>
    if b = true then iRng1 (tCons (tLockE (tE M noX (fun _ _ _ => False) (wpE D.G (cw D k) a1 noX))) tNil) σ2 H3 fun J1 H4 => ∃ W1 : Nat → Nat → Hp → Prop, (∃ m, W1 0 m H4) ∧ ∀ j k' H, W1 j k' H →
      (J1.stop j H ∧ Nx H) ∨ (J1.go j H ∧ ∃ Nx1 : Hp → Prop, (∀ H', Nx1 H' → ∃ k'', k'' < k' ∧ W1 (j + 1) k'' H') ∧ ∀ x H', J1.yld j H x H' → gOf K tg1 x (L2.wipe σ2 vs1) H' fun σ3 H5 => L2.wipe σ3 vs1 = L2.wipe σ2 vs1 ∧ tYes σ3 H5 fun b H6 =>
        if b = true then tLockE (tE M noX (fun _ _ _ => False) (wpE D.G (cw D k) e noX)) σ3 H6 fun y H7 => ∃ acc, H7 Dd = some (.lst acc) ∧ acc.length < sizeLine ∧ Nx1 (upd H7 Dd (.lst (acc ++ [y]))) else Nx1 H6)
    else Nx H3) wk (fun i H => LSt M φ1 H1 Dd (i * 1000) H fun S acc => wpL g body (xs.drop i) acc S fun ys S2 => QT (.lst ys) S2) ?_ ?_ ?_) fun W hh => ⟨W, hh.1 _ w0, hh.2⟩
  · intro i H hi h
    obtain ⟨φ, S, h3, h4, up, acc, h7⟩ := h.up
    exact hG φ S (rem H Dd) H h3 h4 (wpL_g h7) up
  · intro i x H H' hi h hy
    obtain ⟨φ, S, acc, vl, h1, h2, h3, h4, h5, h6, h7⟩ := h
    have up0 : Up φ (rem H Dd) H := by
      have := Up.newTup (o := .lst vl) h4 (rem_same (H := H) (p := Dd))
      rw [upd_rem, upd_self h1] at this
      exact this
    have hx : xs[i]? = some xs[i] := List.getElem?_eq_getElem hi
    have hd : xs.drop i = xs[i] :: xs.drop (i + 1) := List.drop_eq_getElem_cons hi
    rw [hd] at h7
    obtain ⟨hg, h7⟩ := h7
    obtain ⟨up1, hit⟩ := hY φ S (rem H Dd) H i xs[i] x H' h3 h4 hg up0 hx hy
    obtain ⟨hD1, upR, wR⟩ := LSt.step h1 h2 h4 up1
    have sl0 : Slots M φ (rem H Dd) (wipe σT vs) (L2.wipe σ vs) := (at1.sl.ext h3 n1).wipe vs
    rw [← hb] at h7
    refine tg_read h7 sl0 (up0.trans up1).ext h4.noTup hit fun σT' σ' sl1 hwc hws => ⟨by rw [hws vs hsub, wipe_sub vs vs fun i h => h], ?_⟩
    refine yes_t ?_
    have hwc := wpI_r hwc
    have slR := sl1.ext upR.ext h4.noTup
    refine LSt.part (φ1 := φ1) (H1 := H1) hD1 h2 wR slR (h5.ext upR.ext h4.noTup) hwc fun y S3 φ3 H3 v hD3 hn3 e3 w3 ra3 r3 q3 => ?_
    cases y <;> first | exact q3.elim | skip
    rename_i n
    cases r3
    obtain ⟨⟨g1, g2⟩, hl3, q3⟩ := q3
    obtain ⟨b1, b2⟩ := line62 g1 g2
    refine ⟨n, rfl, b1, b2, ?_⟩
    have hb' := hb
    rw [hb] at q3
    have sl3 : Slots M φ3 (rem H3 Dd) σT' σ' := slR.ext e3 wR.noTup
    have eX3 : Ext φ1 H1 φ3 (rem H3 Dd) := (h3.trans upR.ext).trans e3
    have hln : (rangeT 0 n.toNat).length = n.toNat := by simp [rangeT]
    refine Exists.elim (it_w (J := Itr 0 n.toNat) (n := n.toNat) (Qd := fun H => LSt M φ1 H1 Dd ((i + 1) * 1000) H fun S acc => wpL g body (xs.drop (i + 1)) acc S fun ys S2 => QT (.lst ys) S2) (Stp := fun Nx1 x H' => gOf K tg1 x (L2.wipe σ' vs1) H' fun σ3 H5 => L2.wipe σ3 vs1 = L2.wipe σ' vs1 ∧ tYes σ3 H5 fun b H6 =>
        if b = true then tLockE (tE M noX (fun _ _ _ => False) (wpE D.G (cw D k) e noX)) σ3 H6 fun y H7 => ∃ acc, H7 Dd = some (.lst acc) ∧ acc.length < sizeLine ∧ Nx1 (upd H7 Dd (.lst (acc ++ [y]))) else Nx1 H6) walk_range
      (fun j H => LSt M φ3 (rem H3 Dd) Dd (i * 1000 + j) H fun S acc2 => ∃ acc1, acc2 = acc ++ acc1 ∧ wpL gT (fun x S k' => asgTg tg1 x (wipe σT' vs1) fun σ2 => wpT D.G (cw D k) .none noX σ2 S fun b S2 => if b = true then wpE D.G (cw D k) e noX σ2 S2 fun y S3 => k' [y] S3 else k' [] S2) ((rangeT 0 n.toNat).drop j) acc1 S fun ys S2 => wpL g body (xs.drop (i + 1)) (acc ++ ys) S2 fun ys S2 => QT (.lst ys) S2) ?_ ?_ ?_) fun W1 hh1 => ⟨W1, hh1.1 _ ⟨φ3, S3, acc, vl, hD3, hn3, Ext.refl _ _, w3, ra3, h6, [], by simp, q3⟩, hh1.2⟩
    · intros; trivial
    · intro j x H4 H4' hj hst hyy
      obtain ⟨e44, rfl⟩ := hyy
      subst H4'
      obtain ⟨φ4, S4, acc4, vl4, k1, k2, k3, k4, k5, k6, acc1, rfl, k7⟩ := hst
      have hj' : j < (rangeT 0 n.toNat).length := by rw [hln]; exact hj
      rw [show (rangeT 0 n.toNat).drop j = (rangeT 0 n.toNat)[j] :: (rangeT 0 n.toNat).drop (j + 1) from List.drop_eq_getElem_cons hj', rangeT_get (List.getElem?_eq_getElem hj')] at k7
      obtain ⟨_, k7⟩ := k7
      have slw : Slots M φ4 (rem H4 Dd) (wipe σT' vs1) (L2.wipe σ' vs1) := (sl3.ext k3 w3.noTup).wipe vs1
      have up4 : Up φ4 (rem H4 Dd) H4 := by
        have := Up.newTup (o := .lst vl4) k4 (rem_same (H := H4) (p := Dd))
        rw [upd_rem, upd_self k1] at this
        exact this
      refine tg_read k7 slw up4.ext k4.noTup (by rw [hp1]; exact .inl (.int _)) fun σT5 σ5 sl5 hwe hws5 => ⟨by rw [hws5 vs1 hsub1, wipe_sub vs1 vs1 fun i h => h], ?_⟩
      refine yes_t ?_
      have hwe := wpT_n hwe
      refine LSt.part (φ1 := φ1) (H1 := H1) k1 k2 k4 sl5 k5 hwe fun y S6 φ6 H6 v hD6 hn6 e6 w6 ra6 r6 q6 => ?_
      refine ⟨vl4, hD6, ?_, ?_⟩
      · rw [← k5.length]
        have : sizeLine = 16777216 := rfl
        have : i < 1000 := by omega
        have : n.toNat ≤ 1000 := by rw [← hln]; exact hl3
        omega
      · refine ⟨φ6, S6, (acc ++ acc1) ++ [y], vl4 ++ [v], upd_same, hn6, ?_, ?_, ?_, ?_, acc1 ++ [y], by simp, ?_⟩
        · rw [rem_upd]; exact k3.trans e6
        · rw [rem_upd]; exact w6
        · rw [rem_upd]; exact ra6.append (.cons r6 .nil)
        · rw [List.length_append]; simp; simp at k6; omega
        · exact q6
    · intro H4 hst
      obtain ⟨φ4, S4, acc4, vl4, k1, k2, k3, k4, k5, k6, acc1, rfl, k7⟩ := hst
      rw [List.drop_eq_nil_of_le (by rw [hln]; exact Nat.le_refl _)] at k7
      have : n.toNat ≤ 1000 := by rw [← hln]; exact hl3
      exact ⟨φ4, S4, acc ++ acc1, vl4, k1, k2, eX3.trans k3, k4, k5, by omega, k7.2⟩
  · intro H ⟨φ, S, acc, vl, h1, h2, h3, h4, h5, h6, h7⟩
    rw [List.drop_length] at h7
    have := f (.lst acc) S φ (rem H Dd) (e1.trans h3) h4 h7.2 Dd vl rem_same h5
    rw [upd_rem, upd_self h1] at this
    exact this
theorem snd_comp2 {e a1 : E} {vs vs1 : List Nat} {tg tg1 : Tg} {it : I} {e' tg' it' tg1' a1' : Expr} {scope : Scope} {pos p1 pos1 : Pos} (hb : blkChk s vs scope = true) (hs : subAll (tgSlots tg) vs = true) (hs1 : subAll (tgSlots tg1) vs1 = true) (hs2 : subAll vs1 vs = true) (hp1 : tgPair tg1 = false)
    (hi : SndI M D k s tg it it') (hg : chkTg (blkSE s scope) tg tg' = true) (hg1 : chkTg (blkSE s scope) tg1 tg1' = true) (hr : glChk (blkSE s scope) "range" = true) (ha : Snd M D k (blkSE s scope) a1 a1') (hst : notStar a1' = true) (he : Snd M D k (blkSE s scope) e e') :
    Snd M D k s (.comp2 e vs tg it .none vs1 tg1 (.rng1 a1) .none) (.ListComp e' [⟨tg', it', [], 0⟩, ⟨tg1', .Call (.Name "range" p1) [a1'] [] pos1, [], 0⟩] scope pos) := by
  refine .fresh (fun X EX XT o => ?_) (by intros; simp) (fun _ _ => rfl)
  have ok : BlkOk X.N X.env.scope scope (blkOwn s vs) := by
    unfold blkChk at hb
    rw [Bool.and_eq_true] at hb
    rw [o.N, o.sc]
    exact blkOk_by hb.1
  refine (pe_lc2 (g := gOf X.K tg) (g1 := gOf X.K tg1) (vs1 := vs1) (wi1 := iRng1 (tCons (tLockE (tE M noX (fun _ _ _ => False) (wpE D.G (cw D k) a1 noX))) tNil)) o.calm (by rw [o.N]; exact o.nd) (hi.pi X EX XT o tg' (tgp_tup hg)) ok (by rw [blk_own hb]; exact subAll_mem hs2) (fun s0 H C cl fp => pg_of (o.blk hb s0 H C cl fp) hg) (fun s0 H C cl fp => pts_nil)
    (fun s0 H C cl fp => ?_) (fun s0 H C cl fp => pg_of (o.blk hb s0 H C cl fp) hg1) (fun s0 H C cl fp => pts_nil) (fun s0 H C cl fp => pe_lock (he.pe _ _ noX (o.blk hb s0 H C cl fp))) (hi.fs X.env)).imp fun σ H Q q => ?_
  · have ob := o.blk hb s0 H C cl fp
    obtain ⟨h1, h2, h3⟩ := ob.gl hr
    exact pi_range1 h1 (by rw [ob.m.mg]; exact ob.lib.blt _ (by decide +kernel)) (pa_cons (pe_lock (ha.pe _ _ noX ob)) pa_nil (star_cons hst _ _)) (star_cons hst _ _)
  rw [blk_own hb]
  exact comp2_read (subAll_mem hs) (subAll_mem hs1) hp1 q
end
end PC
/-! PcDcomp: dict comprehensions, the keys tuples. -/
namespace PC
open PySem L2 PyProof.Rows PySem.Spec
variable {M : Mo} {D : Tab} {k : Nat}
/-- one more key stands -/
def DPut (M : Mo) (d : Addr) (y z : V) (H : Hp) (Nx : Hp → Prop) : Prop := ∃ φ H0 ks ts kvs vvs ty tz, Ext φ H0 φ H ∧ NoTup φ H0 ∧ DAt M.P M.w H d ks kvs vvs ∧ ks.all kt = true ∧ ks.length < line ∧ kt ty = true ∧ Reps M φ H0 ks kvs ∧ Reps M φ H0 ts vvs ∧ Rep M φ H0 ty y ∧ Rep M φ H0 tz z ∧
  ∀ o kvs' vvs', vvs'.length ≤ sizeLine → DictObj M.P M.w o (dputK ks ty) kvs' vvs' → Reps M φ H0 (dputK ks ty) kvs' → Reps M φ H0 (dputV ks ts ty tz) vvs' → Nx (upd H d (dictHO d o))
theorem dput_ok {X : Cx} (hM : XM M X) (hr : X.A.units + 9 < cLine) {pins : List (Addr × Obj)} {σ : L2.St} {H : Hp} {s : Shared} {d : Addr} {y z : V} {u r : Value} {Nx : Hp → Prop} {E : Value → Shared → Prop} {Q : Unit → Shared → Prop} (I : L2.Inv X pins σ H s) (h : DPut M d y z H Nx) (ry : RelV y u) (rz : RelV z r)
    (q : ∀ s' H', L2.Inv X pins σ H' s' → Nx H' → Q () s') : wpAny (model X.prog X.w) X.A (dictSet d u r) Q E s := by
  obtain ⟨φ, H0, ks, ts, kvs, vvs, ty, tz, e0, n0, hd, hk, hl, hy, rk, rv, rty, rtz, nx⟩ := h
  obtain ⟨_, _, o0, hH, _⟩ := id hd
  obtain ⟨hsys, hv, xs, hx, pk, ek, ev⟩ := DAt.of I hd hk (rk.ext e0 n0)
  obtain ⟨a, rfl, ka⟩ := (rty.ext e0 n0).key I hy
  cases ry
  have hlen : xs.length ≤ sizeLine := by rw [← Paired.len pk, ← line_eq]; omega
  rw [hM.P, hM.w]
  refine wpAny_dictSet_heap (knd := nestedKind M.P M.w) (by show X.A.units + 8 < cLine; omega) ka hx (fun h' hx' hs => ?_) hlen
  obtain ⟨g1, g2, vvs', g3, g4, g5⟩ := stR_rel (v := r) hy rtz rz rty pk ev rv rk ek
  obtain ⟨o, es, ep, e1, e2, e3, e4, e5, e6⟩ := hx'
  rw [storedH_eq hx.nodup] at e4 e6
  have hvl : vvs'.length ≤ sizeLine := by
    have a1 := g3.length
    have a2 := dputK_len ks ty
    have a3 := Paired.len g1
    rw [List.length_map] at a1
    rw [← line_eq]
    omega
  exact q { s with heap := h', toks := _ } _ (I.write (by rw [hH]; exact mut_dict _ _) (.inl rfl) (fun b u hb e => (hs.2 b hb).trans e) ⟨o, e1⟩ (dictHO_ok e1)) (nx o _ vvs' hvl (.keyed e2 e3 e4 e6 g1 g3) g2 g4)
section
variable {X : Cx}
/-- {k: v for target in iter} -/
def tDx (M : Mo) (wi : TI) (g : TG) (tk tv : TE) (vs : List Nat) : TE := fun σ H Q => wi σ H fun J H1 => ∀ d o0, H1 d = none → (d == sysModules) = false → DictObj M.P M.w o0 [] [] [] → ∃ W : Nat → Nat → Hp → Prop, (∃ m, W 0 m (upd H1 d (dictHO d o0))) ∧ ∀ i m H, W i m H →
  (J.stop i H ∧ Q (.ref d) H) ∨ (J.go i H ∧ ∃ Nx : Hp → Prop, (∀ H', Nx H' → ∃ m', m' < m ∧ W (i + 1) m' H') ∧ ∀ x H', J.yld i H x H' → g x (L2.wipe σ vs) H' fun σ2 H2 => L2.wipe σ2 vs = L2.wipe σ vs ∧ tk σ2 H2 fun y H4 => tv σ2 H4 fun z H5 => DPut M d y z H5 Nx)
theorem dcx_core {pins : List (Addr × Obj)} {s : Shared} {σ : L2.St} {H : Hp} {Q : VK} {kx vx tg iter : Expr} {scope : Scope} {own : List (Str × Nat)} {pos pos' : Pos} {wi : TI} {g : TG} {tk tv : TE} {use : Option (Value → Sem Unit)} {Qf : Value → Shared → Prop}
    (hM : XM M X) (hr : X.A.units + 9 < cLine) (hc : X.calm = true) (hN : X.N.Nodup) (I : Inv X pins σ H s) (hi : PI X tg iter wi) (ok : BlkOk X.N X.env.scope scope own)
    (hg : ∀ (s : Shared) (H : Hp) (C : Addr) (cl : List (Str × Addr)) (fp : List Addr), PG (X.blk s H scope (compEnvC scope cl C X.env) fp) tg g)
    (hk : ∀ (s : Shared) (H : Hp) (C : Addr) (cl : List (Str × Addr)) (fp : List Addr), PE (X.blk s H scope (compEnvC scope cl C X.env) fp) kx tk)
    (he : ∀ (s : Shared) (H : Hp) (C : Addr) (cl : List (Str × Addr)) (fp : List Addr), PE (X.blk s H scope (compEnvC scope cl C X.env) fp) vx tv) (hs : ∀ x, foldedSetIterable iter X.env x = pure x)
    (h : tDx M wi g tk tv (own.map (·.2)) σ H Q)
    (hRR : ∀ d C s' m H', Inv X pins σ H' s' → Q (.ref d) H' → s'.heap.Ns C m → FpOk X pins H' C → compPost (model X.prog X.w) X.A X.xe use Qf (.ref d) C (.ok .next) s') :
    wpAny (model X.prog X.w) X.A (comprehension (.DictComp kx vx [⟨tg, iter, [], 0⟩] scope pos) scope X.env pos' newDict false (eval iter X.env) use) Qf X.xe s := by
  have clo : ∀ y ∈ scope.names, y.2 = .free → ∃ c, X.env.cells.lookup y.1 = some c := fun y hy e => (ok.free y hy e).elim (fun z => I.ok.has _ (.inl z)) fun z => I.ok.has _ (.inr z)
  refine wpAny_comprehension_free (use := use) rfl hs (closure_ok clo) ok.kind (fun y hy e => (ok.uniq y hy).trans (by rw [e])) (thn (hi.run pins s σ H _ I h) fun xv t1 hx => thn hx fun itv t2 z => ?_)
  obtain ⟨it, fp, tn, J, G2, rfl, I2, T, st2, f2, q⟩ := z
  refine wpAny_newObj_type (newEnv_comp ?_)
  generalize hd : t2.heap.objs.size = d
  have dn : G2 d = none := I2.hok.fresh (Nat.le_of_eq hd)
  have dsys : (d == sysModules) = false := by rw [← hd]; exact beq_eq_false_iff_ne.mpr (Nat.ne_of_gt I2.big)
  let o0 : Obj := { cls := .type "dict", data := .dict #[] }
  obtain ⟨W, ⟨m0, w0⟩, turn⟩ := q d o0 dn dsys (.keyed (es := #[]) (ep := 0) (xs := []) ⟨rfl, rfl, rfl⟩ rfl rfl .nil .nil .nil)
  generalize ht3 : ({ t2 with heap := t2.heap.push o0 } : Shared) = t3
  have h3 : t3.heap = t2.heap.push o0 := by rw [← ht3]
  have J3 : Inv X pins σ (upd G2 d (dictHO d o0)) t3 := by
    rw [← ht3]
    exact I2.laid (t' := t2.toks) (fun b o e => Heap.get?_push_of_some _ e) (Nat.le_of_eq hd) (dictHO_ok (by rw [← hd]; exact Heap.get?_push_size _ rfl))
  have small : ∀ b ∈ fp, b < t2.heap.objs.size := fun b hb => let ⟨o, e, _⟩ := T.obj _ _ st2 b hb; Heap.lt_size e
  have f3 : ∀ b ∈ fp, FpOk X pins (upd G2 d (dictHO d o0)) b ∧ b < t3.heap.objs.size := fun b hb => by
    have lt := small b hb
    refine ⟨⟨?_, (f2 b hb).2⟩, by rw [h3, Heap.size_push]; exact Nat.lt_succ_of_lt lt⟩
    rw [upd_ne (by rw [← hd]; exact Nat.ne_of_lt lt)]
    exact (f2 b hb).1
  have st3 : tn 0 t3.heap := T.keep _ _ _ st2 fun b _ o e => by rw [h3]; exact Heap.get?_push_of_some _ e
  have J4 := block_start J3 ok hN f3
  have kg := hg t3 (upd G2 d (dictHO d o0)) t3.heap.objs.size (cellsFrom (t3.heap.objs.size + 1) scope.names (cloFrom X.env.cells scope.names [])) fp
  have kk := hk t3 (upd G2 d (dictHO d o0)) t3.heap.objs.size (cellsFrom (t3.heap.objs.size + 1) scope.names (cloFrom X.env.cells scope.names [])) fp
  have kv := he t3 (upd G2 d (dictHO d o0)) t3.heap.objs.size (cellsFrom (t3.heap.objs.size + 1) scope.names (cloFrom X.env.cells scope.names [])) fp
  show codeAny _ _ (.compStart (.DictComp kx vx [⟨tg, iter, [], 0⟩] scope pos) 0 (.ref it) (.ref d) (compEnvC scope (cellsFrom (t3.heap.objs.size + 1) scope.names (cloFrom X.env.cells scope.names [])) t3.heap.objs.size X.env)) (compPost (model X.prog X.w) X.A X.xe use Qf (.ref d) t3.heap.objs.size) { t3 with heap := pushCells (t3.heap.push o0) scope.names }
  have freeFp : ∀ b ∈ fp, (upd G2 d (dictHO d o0)) b = none := fun b hb => (f3 b hb).1.1
  generalize ec : compEnvC scope (cellsFrom (t3.heap.objs.size + 1) scope.names (cloFrom X.env.cells scope.names [])) t3.heap.objs.size X.env = ce at J4 kg kk kv ⊢
  have ceL : ce.locals = t3.heap.objs.size := by rw [← ec]; rfl
  generalize eG : upd G2 d (dictHO d o0) = G3 at J3 J4 kg kk kv w0 freeFp f3
  generalize et4 : ({ t3 with heap := pushCells (t3.heap.push o0) scope.names } : Shared) = t4 at J4 ⊢
  have st4 : tn 0 t4.heap := T.keep _ _ _ st3 fun b _ o e => by rw [← et4]; exact pushCells_keeps _ _ _ _ (Heap.get?_push_of_some _ e)
  have hBM : XM M (X.blk t3 G3 scope ce fp) := ⟨hM.P, hM.w, hM.K, hM.mg, hM.base⟩
  have fpOk : ∀ {σ' : L2.St} {H' : Hp} {s' : Shared}, Inv (X.blk t3 G3 scope ce fp) [] σ' H' s' → (∀ b ∈ fp, H' b = none) → ∀ b ∈ fp, FpOk (X.blk t3 G3 scope ce fp) [] H' b := fun {σ' H' s'} I' hn b hb =>
    ⟨hn b hb, (I'.ok.exf b hb).1, I'.ok.exfs b hb, .inl hb, fun x c e => (I'.ok.exf b hb).2 x c e, fun p hp => by cases (show p ∈ ([] : List (Addr × Obj)) ++ [] from hp)⟩
  refine codeAny_compStart_dict ?_ (T.self X.A 0 _ _ _ st4 ?_)
  all_goals
    refine compLoop_anyD (fun n s' => ∃ i H', Inv (X.blk t3 G3 scope ce fp) [] (L2.wipe σ (own.map (·.2))) H' s' ∧ tn i s'.heap ∧ (∀ b ∈ fp, H' b = none) ∧ W i n H') ?_ m0 ⟨0, G3, J4, st4, freeFp, w0⟩
    rintro n t5 ⟨i, H5, J5, st5, n5, w5⟩
    rcases turn i n H5 w5 with ⟨stop, fine⟩ | ⟨go, Nx, hNx, step⟩
    · refine thnF (T.done (X.blk t3 G3 scope ce fp) rfl rfl rfl hc i [] t5 _ H5 (fun _ _ => False) J5 (fpOk J5 n5) st5 stop) fun r t6 ⟨hr6, J6⟩ => ?_
      subst hr6
      have J7 : Inv X pins σ H5 t6 := J3.call' (ch := fp) J6.os J6.base J6.hok J6.bare fun b hb => let z := (f3 b hb).1.2; ⟨z.2.2.1, z.1, z.2.2.2.1, z.2.2.2.2⟩
      have nC : H5 t3.heap.objs.size = none := by rw [← ceL]; exact J6.free
      obtain ⟨m, hn, _⟩ := J6.loc
      have hn : t6.heap.Ns t3.heap.objs.size m := by rw [← ceL]; exact hn
      exact hRR d t3.heap.objs.size t6 m H5 J7 fine hn (J3.fpOk (Nat.le_refl _) nC)
    · refine thnF (T.item (X.blk t3 G3 scope ce fp) rfl rfl rfl hc i [] t5 _ H5 (fun _ _ => False) J5 (fpOk J5 n5) st5 go) fun r t6 ⟨u, hr6, h6⟩ => ?_
      subst hr6
      refine thnF h6 fun _ t7 ⟨x, H7, J7, r7, y7, st7, n7⟩ => ?_
      refine thnF (kg.run _ t7 _ H7 x u _ (J7.pinned (fpOk J7 n7) (T.obj _ _ st7)) r7 (step x H7 y7)) fun _ t8 ⟨σ8, H8, J8, hw8, q8⟩ => ?_
      refine thnF ((pts_nil (X := X.blk t3 G3 scope ce fp)).run _ t8 σ8 H8 (fun b H => b = true ∧ H = H8) J8 ⟨rfl, rfl⟩) fun b t9 ⟨H9, J9, eb, eH⟩ => ?_
      subst eb
      subst eH
      simp only [if_true]
      refine thnF (kk.run _ t9 σ8 _ _ J9 q8) fun z t10 ⟨yk, H10, J10, r10, q10⟩ => ?_
      refine thnF (kv.run _ t10 σ8 H10 _ J10 q10) fun z2 t11 ⟨yv, H11, J11, r11, dp⟩ => ?_
      refine dput_ok hBM hr J11 dp r10 r11 fun s' H' I' nx => ?_
      obtain ⟨m', hm, w'⟩ := hNx H' nx
      have stay : ∀ b ∈ fp, ∀ o, t7.heap.get? b = some o → s'.heap.get? b = some o ∧ H' b = none := fun b hb o e =>
        let z := I'.pin (b, o) (List.mem_append_right _ (List.mem_append_right _ (mem_pinsAt hb e)))
        ⟨z.1, z.2.1⟩
      have hl : (L2.wipe σ (own.map (·.2))).length = σ8.length := by rw [← hw8, L2.wipe_length]
      refine ⟨m', hm, i + 1, H', (I'.unpinned (pins := [])).weak hl (fun j v e => ?_), T.keep _ _ _ st7 fun b hb o e => (stay b hb o e).1, fun b hb => ?_, w'⟩
      · rw [← hw8] at e
        exact (L2.wipe_some e).1
      · obtain ⟨o, e, _⟩ := T.obj _ _ st7 b hb
        exact (stay b hb o e).2
/-- as a value -/
theorem pe_dcx {kx vx tg iter : Expr} {scope : Scope} {own : List (Str × Nat)} {pos : Pos} {wi : TI} {g : TG} {tk tv : TE} (hM : XM M X) (hr : X.A.units + 9 < cLine) (hc : X.calm = true) (hN : X.N.Nodup) (hi : PI X tg iter wi) (ok : BlkOk X.N X.env.scope scope own)
    (hg : ∀ (s : Shared) (H : Hp) (C : Addr) (cl : List (Str × Addr)) (fp : List Addr), PG (X.blk s H scope (compEnvC scope cl C X.env) fp) tg g)
    (hk : ∀ (s : Shared) (H : Hp) (C : Addr) (cl : List (Str × Addr)) (fp : List Addr), PE (X.blk s H scope (compEnvC scope cl C X.env) fp) kx tk)
    (he : ∀ (s : Shared) (H : Hp) (C : Addr) (cl : List (Str × Addr)) (fp : List Addr), PE (X.blk s H scope (compEnvC scope cl C X.env) fp) vx tv) (hs : ∀ x, foldedSetIterable iter X.env x = pure x) :
    PE X (.DictComp kx vx [⟨tg, iter, [], 0⟩] scope pos) (tDx M wi g tk tv (own.map (·.2))) := ⟨fun pins s σ H Q I h => by
  rw [arm_eval_DictComp]
  refine dcx_core hM hr hc hN I hi ok hg hk he hs h fun d C s' m H' I' q hn ⟨f0, f1, f2, f3, f4, f5⟩ => ⟨m, hn, fun h'' sb => ?_⟩
  exact ⟨.ref d, H', I'.turned (t' := s'.toks) (fun b o hb e => (sb.2 b hb).trans e) f0 f1 f3 f4 f5, rfl, q⟩⟩
/-- stored at once -/
theorem ps_setDcx {i : Nat} {y : Str} {py : Pos} {kx vx tg iter : Expr} {scope : Scope} {own : List (Str × Nat)} {pos spos : Pos} {wi : TI} {g : TG} {tk tv : TE} (hM : XM M X) (hr : X.A.units + 9 < cLine) (hc : X.calm = true) (hN : X.N.Nodup) (hy : X.N[i]? = some y) (hyl : X.env.scope.names.lookup y = some .local)
    (hsw : swapsWith (.DictComp kx vx [⟨tg, iter, [], 0⟩] scope pos) (some (.Name y py)) spos.line X.env = pure true) (hi : PI X tg iter wi) (ok : BlkOk X.N X.env.scope scope own)
    (hg : ∀ (s : Shared) (H : Hp) (C : Addr) (cl : List (Str × Addr)) (fp : List Addr), PG (X.blk s H scope (compEnvC scope cl C X.env) fp) tg g)
    (hk : ∀ (s : Shared) (H : Hp) (C : Addr) (cl : List (Str × Addr)) (fp : List Addr), PE (X.blk s H scope (compEnvC scope cl C X.env) fp) kx tk)
    (he : ∀ (s : Shared) (H : Hp) (C : Addr) (cl : List (Str × Addr)) (fp : List Addr), PE (X.blk s H scope (compEnvC scope cl C X.env) fp) vx tv) (hs : ∀ x, foldedSetIterable iter X.env x = pure x) :
    PS X (.Assign [.Name y py] (.DictComp kx vx [⟨tg, iter, [], 0⟩] scope pos) spos) (tAsg (tDx M wi g tk tv (own.map (·.2))) (gName i)) := ⟨fun pins s σ H K I h => by
  rw [exec_Assign_Name_used _ _ _ _ hsw]
  refine wpAny_bind (wpAny_standAt (wpAny_bind ?_))
  show wpAny _ X.A (do let _ ← comprehension (.DictComp kx vx [⟨tg, iter, [], 0⟩] scope pos) scope X.env (firstIterPos [⟨tg, iter, [], 0⟩] pos) newDict false (eval iter X.env) (some (assign (.Name y py) X.env))) _ _ s
  refine wpAny_bind (thn (dcx_core (Q := fun x H1 => gName i x σ H1 K.nx) (Qf := fun _ s' => SP X pins K .next s') hM hr hc hN I hi ok hg hk he hs h fun d C s' m H' I' q hn f => ?_) fun _ s' hq => wpAny_pure (wpAny_pure hq))
  show wpAny _ _ (assign (.Name y py) X.env (.ref d)) _ _ _
  refine wpAny_assign_Name (store_ok2 (v := V.ref d) I' hN hy (.inl hyl) rfl (fun s2 J2 ⟨a, sb, ha⟩ => ?_) (.inr hyl))
  obtain ⟨z0, z1, z2, z3, z4, z5⟩ := f
  have far : C ≠ a := ha.elim (fun z => by rw [z]; exact z1) fun z e => z4 y a z e.symm
  exact ⟨m, hn.sameBut sb far, fun g3 sb3 => ⟨_, H', J2.turned (t' := s2.toks) (fun b o hb e => (sb3.2 b hb).trans e) z0 z1 z3 z4 z5, q⟩⟩⟩
end
theorem dofL_snoc (y z : T) (l : List T) (d : List T × List T) : dofL (l ++ [.tup [y, z]]) d = (dputK (dofL l d).1 y, dputV (dofL l d).1 (dofL l d).2 y z) := by
  induction l, d using dofL.induct with
  | case1 d y' z' r ih => simpa [dofL] using ih
  | case2 t r d hne ih =>
    rw [List.cons_append, dofL.eq_2 _ _ _ hne, dofL.eq_2 _ _ _ hne]
    exact ih
  | case3 d => rfl
theorem all_put {y : T} (hy : kt y = true) : ∀ ks : List T, ks.all kt = true → (dputK ks y).all kt = true
  | [], _ => by simp [dputK, hy]
  | k :: ks, h => by
    simp only [List.all_cons, Bool.and_eq_true] at h
    unfold dputK
    split
    · simp only [List.all_cons, Bool.and_eq_true]; exact h
    · simp only [List.all_cons, Bool.and_eq_true]; exact ⟨h.1, all_put hy ks h.2⟩
/-- a part is told while the dict is locked -/
theorem lock_part {u : HO} {d : Addr} {H' : Hp} {we : Sl → Mem → Wv → Prop} {σT' : Sl} {σ' : L2.St} {φ : List Addr} {S : Mem} {QT : Wv} {Q : VK} (mu : Mut (some u)) (nt : isTupH u = false) (hD : H' d = some u) (hn : d ∉ φ) (w : Wd M φ S (rem H' d)) (sl : Slots M φ (rem H' d) σT' σ')
    (hw : we σT' S QT) (hq : ∀ y S3 φ3 H3 v, H3 d = some u → d ∉ φ3 → Ext φ (rem H' d) φ3 (rem H3 d) → Wd M φ3 S3 (rem H3 d) → Rep M φ3 (rem H3 d) y v → QT y S3 → Q v H3) : tLockE (tE M noX (fun _ _ _ => False) we) σ' H' Q := by
  refine ⟨d, u, hD, mu, fun od => ?_⟩
  rw [show upd H' d (.frz od u) = upd (rem H' d) d (.frz od u) from upd_rem.symm]
  have lay : Ext φ (rem H' d) φ (upd (rem H' d) d (.frz od u)) := Ext.laid rem_same
  refine ⟨φ, σT', S, _, ⟨w.laid rem_same, sl.ext lay w.noTup⟩, fun _ _ _ _ _ _ _ _ h => h.elim, hw, fun y S3 φ3 v H3 e3 w3 r3 q3 => ?_⟩
  have hD3 : H3 d = some (.frz od u) := e3.keep _ _ upd_same hn rfl
  have lk3 : Lkd H3 d := ⟨_, _, hD3, nt⟩
  have hn3 : d ∉ φ3 := e3.nmem upd_same hn
  have e3' : Ext φ (rem H' d) φ3 (rem H3 d) := by
    have := Ext.remB e3
    rwa [show rem (rem H' d) d = rem H' d from rem_none rem_same] at this
  refine ⟨hD3, hq y S3 φ3 _ v upd_same hn3 ?_ ?_ ?_ q3⟩
  · rw [rem_upd]; exact e3'
  · rw [rem_upd]; exact w3.rem lk3 hn3
  · rw [rem_upd]; exact r3.rem lk3
section
variable {s : SE}
/-- the dict that grows at d -/
def DSt (M : Mo) (φ1 : List Addr) (H1 : Hp) (d : Addr) (b : Nat) (H : Hp) (F : Mem → List T → Prop) : Prop :=
  ∃ φ S acc kvs vvs o, H d = some (dictHO d o) ∧ d ∉ φ ∧ Ext φ1 H1 φ (rem H d) ∧ Wd M φ S (rem H d) ∧ vvs.length ≤ sizeLine ∧ DictObj M.P M.w o (dofL acc ([], [])).1 kvs vvs ∧ (dofL acc ([], [])).1.all kt = true ∧ (dofL acc ([], [])).1.length ≤ b ∧
    Reps M φ (rem H d) (dofL acc ([], [])).1 kvs ∧ Reps M φ (rem H d) (dofL acc ([], [])).2 vvs ∧ F S acc
theorem dcomp_read {EX : XK} {XT : Wx} {K : PySem.W.Frag} {ke ve : E} {vs : List Nat} {tg : Tg} {it : I} {σ : L2.St} {H : Hp} {Q : VK} (hsub : ∀ i ∈ tgSlots tg, i ∈ vs)
    (q : tF M XT EX (wpE D.G (cw D k) (.dcomp ke ve vs tg it) XT) σ H Q) :
    tDx M (tI M XT EX (tgPair tg) (wpI D.G (cw D k) it XT)) (gOf K tg) (tLockE (tE M noX (fun _ _ _ => False) (wpE D.G (cw D k) ke noX))) (tLockE (tE M noX (fun _ _ _ => False) (wpE D.G (cw D k) ve noX))) vs σ H Q := by
  obtain ⟨φ, σT, S, QT, at_, fx, hw, f⟩ := q
  refine ⟨φ, σT, S, _, at_, fx, hw, fun g xs S1 φ1 H1 J e1 w1 q1 itm d o0 hD dsys dob => ?_⟩
  have at1 := at_.go e1 w1
  obtain ⟨sz, G, Y, wk, hG, hY⟩ := itm
  have n1 := w1.noTup
  have upOf : ∀ {φ : List Addr} {S : Mem} {H : Hp} {o : Obj}, Wd M φ S (rem H d) → H d = some (dictHO d o) → Up φ (rem H d) H := fun {φ S H o} w h => by
    have := Up.newTup (o := dictHO d o) w (rem_same (H := H) (p := d))
    rw [upd_rem, upd_self h] at this
    exact this
  obtain ⟨body, hb⟩ : ∃ b : T → Mem → (List T → Mem → Prop) → Prop, b = fun x S kk => asgTg tg x (wipe σT vs) fun σ1 => wpE D.G (cw D k) ke noX σ1 S fun y S2 => wpE D.G (cw D k) ve noX σ1 S2 fun z S3 => kt y = true ∧ kk [.tup [y, z]] S3 := ⟨_, rfl⟩
  have q1 : wpL g body xs [] S1 fun ys S2 => QT (.dct (dofL ys ([], [])).1 (dofL ys ([], [])).2) S2 := by rw [hb]; exact q1
  have w0 : DSt M φ1 H1 d 0 (upd H1 d (dictHO d o0)) (fun S acc => wpL g body (xs.drop 0) acc S fun ys S2 => QT (.dct (dofL ys ([], [])).1 (dofL ys ([], [])).2) S2) := by
    refine ⟨φ1, S1, [], [], [], o0, upd_same, w1.new hD, ?_, ?_, by simp, dob, rfl, Nat.le_refl _, .nil, .nil, q1⟩
    · rw [rem_upd, rem_none hD]; exact Ext.refl _ _
    · rw [rem_upd, rem_none hD]; exact w1
  refine Exists.elim (it_w (Qd := fun H => Q (.ref d) H) (Stp := fun Nx x H' => gOf K tg x (L2.wipe σ vs) H' fun σ2 H2 => L2.wipe σ2 vs = L2.wipe σ vs ∧ tLockE (tE M noX (fun _ _ _ => False) (wpE D.G (cw D k) ke noX)) σ2 H2 fun y H4 =>
    tLockE (tE M noX (fun _ _ _ => False) (wpE D.G (cw D k) ve noX)) σ2 H4 fun z H5 => DPut M d y z H5 Nx) wk (fun i H => DSt M φ1 H1 d i H fun S acc => wpL g body (xs.drop i) acc S fun ys S2 => QT (.dct (dofL ys ([], [])).1 (dofL ys ([], [])).2) S2) ?_ ?_ ?_) fun W hh => ⟨W, hh.1 _ w0, hh.2⟩
  · intro i H hi ⟨φ, S, acc, kvs, vvs, o, h1, h2, h3, h4, h5, h6, h7, h8, h9, h10, h11⟩
    exact hG φ S (rem H d) H h3 h4 (wpL_g h11) (upOf h4 h1)
  · intro i x H H' hi ⟨φ, S, acc, kvs, vvs, o, h1, h2, h3, h4, h5, h6, h7, h8, h9, h10, h11⟩ hy
    have up0 := upOf h4 h1
    have hx : xs[i]? = some xs[i] := List.getElem?_eq_getElem hi
    rw [show xs.drop i = xs[i] :: xs.drop (i + 1) from List.drop_eq_getElem_cons hi] at h11
    obtain ⟨hg, h11⟩ := h11
    rw [hb] at h11
    obtain ⟨up1, hit⟩ := hY φ S (rem H d) H i xs[i] x H' h3 h4 hg up0 hx hy
    have hD1 : H' d = some (dictHO d o) := up1.ext.keep _ _ h1 h2 rfl
    have upR : Up φ (rem H d) (rem H' d) := by
      have : Up φ (upd H d (dictHO d o)) H' := by rw [upd_self h1]; exact up1
      exact this.rem h2
    have wR := h4.up upR
    have sl0 : Slots M φ (rem H d) (wipe σT vs) (L2.wipe σ vs) := (at1.sl.ext h3 n1).wipe vs
    refine tg_read h11 sl0 (up0.trans up1).ext h4.noTup hit fun σT' σ' sl1 hke hws => ⟨by rw [hws vs hsub, wipe_sub vs vs fun i h => h], ?_⟩
    have slR := sl1.ext upR.ext h4.noTup
    refine lock_part (u := dictHO d o) (mut_dict _ _) rfl hD1 h2 wR slR hke fun y S3 φ3 H3 v3 hD3 hn3 e3 w3 r3 hve => ?_
    refine lock_part (u := dictHO d o) (mut_dict _ _) rfl hD3 hn3 w3 (slR.ext e3 wR.noTup) hve fun z S4 φ4 H4 v4 hD4 hn4 e4 w4 r4 hq4 => ?_
    obtain ⟨hky, hq4⟩ := hq4
    rw [← hb] at hq4
    have eX : Ext φ (rem H d) φ4 (rem H4 d) := (upR.ext.trans e3).trans e4
    have up4 := upOf w4 hD4
    refine ⟨φ4, rem H4 d, _, _, kvs, vvs, y, z, up4.ext, w4.noTup, ⟨dsys, h5, o, hD4, h6⟩, h7, ?_, hky, h9.ext eX h4.noTup, h10.ext eX h4.noTup, r3.ext e4 w3.noTup, r4, fun o' kvs' vvs' hv' hdo hk' ht' => ?_⟩
    · have : sizeLine = line := rfl
      omega
    · refine ⟨φ4, S4, acc ++ [.tup [y, z]], kvs', vvs', o', upd_same, hn4, ?_, ?_, hv', ?_, ?_, ?_, ?_, ?_, hq4⟩
      · rw [rem_upd]; exact h3.trans eX
      · rw [rem_upd]; exact w4
      · rw [dofL_snoc]; exact hdo
      · rw [dofL_snoc]; exact all_put hky _ h7
      · rw [dofL_snoc]
        have := dputK_len (dofL acc ([], [])).1 y
        exact Nat.le_trans this (by omega)
      · rw [rem_upd, dofL_snoc]; exact hk'
      · rw [rem_upd, dofL_snoc]; exact ht'
  · intro H ⟨φ, S, acc, kvs, vvs, o, h1, h2, h3, h4, h5, h6, h7, h8, h9, h10, h11⟩
    rw [List.drop_length] at h11
    have := f (.dct _ _) S φ (rem H d) (e1.trans h3) h4 h11.2 d o kvs vvs rem_same dsys h5 h6 h9 h10
    rw [upd_rem, upd_self h1] at this
    exact this
theorem snd_dcomp {ke ve : E} {vs : List Nat} {tg : Tg} {it : I} {k' v' tg' it' : Expr} {scope : Scope} {pos : Pos} (hb : blkChk s vs scope = true) (hs : subAll (tgSlots tg) vs = true) (hi : SndI M D k s tg it it') (hg : chkTg (blkSE s scope) tg tg' = true)
    (hk : Snd M D k (blkSE s scope) ke k') (he : Snd M D k (blkSE s scope) ve v') : Snd M D k s (.dcomp ke ve vs tg it) (.DictComp k' v' [⟨tg', it', [], 0⟩] scope pos) := by
  refine .fresh (fun X EX XT o => ?_) (by intros; simp) (fun _ _ => rfl)
  have ok : BlkOk X.N X.env.scope scope (blkOwn s vs) := by
    unfold blkChk at hb
    rw [Bool.and_eq_true] at hb
    rw [o.N, o.sc]
    exact blkOk_by hb.1
  refine (pe_dcx (g := gOf X.K tg) o.m (by have := o.units; omega) o.calm (by rw [o.N]; exact o.nd) (hi.pi X EX XT o tg' (tgp_tup hg)) ok (fun s0 H C cl fp => pg_of (o.blk hb s0 H C cl fp) hg) (fun s0 H C cl fp => pe_lock (hk.pe _ _ noX (o.blk hb s0 H C cl fp))) (fun s0 H C cl fp => pe_lock (he.pe _ _ noX (o.blk hb s0 H C cl fp))) (hi.fs X.env)).imp fun σ H Q q => ?_
  rw [blk_own hb]
  exact dcomp_read (subAll_mem hs) q
end
end PC
/-! PcSnd4: methods of built-in types, default=, tracked things, dicts. -/
namespace PC
open PySem L2 PyProof.Rows PySem.Spec
variable {M : Mo} {D : Tab} {k : Nat}
section
variable {s : SE}
theorem plainP_bool {p : Expr} (h : plainP p = true) : ∀ op l pos, p ≠ .BoolOp op l pos := fun op l pos e => by subst e; cases h
theorem plainP_true {p : Expr} (h : plainP p = true) (env : Env) (whole : Sem Value) : isTrue p env whole = (do let v ← whole; standAt p.pos; holding [v] (truthy v)) := by
  cases p <;> first | rfl | cases h
theorem track_read {EX : XK} {XT : Wx} {e : E} {σ : L2.St} {H : Hp} {Q : VK} (q : tE M XT EX (wpE D.G (cw D k) (.track e) XT) σ H Q) : tF M XT EX (wpE D.G (cw D k) e XT) σ H Q := by
  obtain ⟨φ, σT, S, QT, at_, fx, hw, f⟩ := q
  refine ⟨φ, σT, S, _, at_, fx, hw, fun x S1 φ1 H1 e1 w1 q1 => ?_⟩
  cases x <;> first | exact q1.elim | skip
  · intro p vs hp r
    have w2 := w1.add (p := p) (ob := .lst _) (o := .lst vs) hp (.lst upd_same (r.ext (Ext.add hp) w1.noTup))
    exact f _ _ _ _ _ (e1.trans (Ext.add hp)) w2 (.ref (by rw [← w1.len]; simp)) q1
  · intro p o kvs vvs hp hs hz d r r'
    have w2 := w1.add (p := p) (ob := .dct _ _) (o := dictHO p o) hp (.dct ⟨hs, hz, o, upd_same, d⟩ (r.ext (Ext.add hp) w1.noTup) (r'.ext (Ext.add hp) w1.noTup))
    exact f _ _ _ _ _ (e1.trans (Ext.add hp)) w2 (.ref (by rw [← w1.len]; simp)) q1
theorem snd_track {e : E} {p : Expr} (hf : freshE e = true) (hp : plainP p = true) (he : Snd M D k s e p) : Snd M D k s (.track e) p :=
  .plain (fun X EX XT o => (he.pf hf X EX XT o).imp fun σ H Q q => track_read q) (plainP_bool hp) (plainP_true hp) rfl
theorem snd_dct0 {pos : Pos} : Snd M D k s .dct0 (.Dict [] [] pos) := by
  refine .fresh (fun X EX XT o => ⟨fun pins st σ H Q I q => ?_⟩) (by intros; simp) (fun _ _ => rfl)
  obtain ⟨φ, σT, S, QT, at_, fx, hw, f⟩ := q
  refine wpAny_Dict_empty ?_
  have hq := f (.dct [] []) S φ H (Ext.refl _ _) at_.wd hw st.heap.objs.size { cls := .type "dict", data := .dict #[] } [] [] I.fresh ?_ (by simp) (.keyed (es := #[]) (ep := 0) (xs := []) ⟨rfl, rfl, rfl⟩ rfl rfl .nil .nil .nil) .nil .nil
  · refine ⟨.ref st.heap.objs.size, _, I.laid (t' := st.toks) (fun b o e => Heap.get?_push_of_some _ e) (Nat.le_refl _) (dictHO_ok (Heap.get?_push_size _ rfl)), rfl, hq⟩
  · exact beq_eq_false_iff_ne.mpr (Nat.ne_of_gt I.big)
theorem snd_bm {a : E} {m : Bm} {es : Es} {a' : Expr} {ps : List Expr} {apos pos : Pos} (hm : m = .count ∨ m = .index ∨ m = .get1 ∨ m = .get2 ∨ m = .join) (ha : Snd M D k s a a') (h : SndA M D k s es ps) (hb : methChk a' apos pos = true) (h0 : 0 < esLen es) (h5 : esLen es < 5) : Snd M D k s (.bm a m es) (.Call (.Attribute a' (bmName m) apos) ps [] pos) := by
  refine .plain (fun X EX XT o => ?_) (by intros; simp) (fun _ _ => rfl) rfl
  unfold methChk at hb
  rw [Bool.and_eq_true] at hb
  cases ps with
  | nil => have := h.len; simp at this; omega
  | cons p ps =>
    have hl : (p :: ps).length < 30 := by rw [h.len]; omega
    refine (pe_bmV (M := M) (ha.pe X EX XT o) (h.pa X EX XT o) (base_of hb.1 _ _ _) ?_ hb.2 ((h.tl p ps rfl).1 X.env) ((h.tl p ps rfl).2 pos X.env)).imp fun σ H Q q => bm_read o hm q
    rw [h.st]
    unfold backTo
    simp [backToKw, keywordEach] at hl ⊢
    omega
/-! max(x, default=d), min(x, default=d) -/
theorem reads_ints {h : Heap} : ∀ {ns : List Int} {us : List Value}, Vals (ns.map V.int) us → ReadsAll h us (ns.map PyData.int) []
  | [], _, .nil => .nil
  | n :: ns, _, .cons r rs => by
    obtain ⟨t, rfl⟩ := r
    exact .cons (as := []) (bs := []) (.int n t) (reads_ints rs)
theorem alike_ints (ns : List Int) : PySem.W.AlikeAll (ns.map PyData.int) := by
  refine ⟨fun x hx y hy => ?_, fun x hx => ?_⟩
  · obtain ⟨a, _, rfl⟩ := List.mem_map.mp hx
    obtain ⟨b, _, rfl⟩ := List.mem_map.mp hy
    rfl
  · obtain ⟨a, _, rfl⟩ := List.mem_map.mp hx
    intro z
    cases z
theorem depth_ints (ns : List Int) : PyData.depthAll (ns.map PyData.int) = 0 := by
  induction ns with
  | nil => rfl
  | cons n ns ih => simp [PyData.depthAll, PyData.depth, ih]
theorem boot_mm (f : Bi) (hf : f = .maxL ∨ f = .minL) : bootBuiltins (biName f) = some (biVal f) := by
  rcases hf with rfl | rfl <;> decide +kernel
/-- the call itself -/
theorem call_bid {X : Cx} {pins : List (Addr × Obj)} {σ : L2.St} {H : Hp} {st : Shared} {φ : List Addr} {S : Mem} {f : Bi} {x y z : T} {v w : V} {u u' : Value} {Q : VK} (hc : X.calm = true) (hr : X.A.units + 1 < cLine) (hf : f = .maxL ∨ f = .minL) (I : Inv X pins σ H st) (wd : Wd M φ S H) (vx : View M φ H x v) (ry : Rep M φ H y w) (rv : RelV v u) (rw' : RelV w u')
    (e : bidT f x y = some z) (q : ∀ v, Rep M φ H z v → Q v H) : wpAny (model X.prog X.w) X.A (call (biVal f) [u] [(Str.ofString "default", u')]) (EP X pins σ Q) X.xe st := by
  have main : ∀ (xs : List T) (vs : List V) (its : List Value), Reps M φ H xs vs → Vals vs its → seq? x = some xs → ∃ ns : List Int, vs = ns.map V.int ∧ (ns = [] → z = y) ∧ ∀ n r, ns = n :: r → (f = .maxL → z = .int (r.foldl max n)) ∧ (f = .minL → z = .int (r.foldl min n)) := by
    intro xs vs its r rvs es
    unfold bidT at e
    rw [es] at e
    cases xs with
    | nil =>
      cases r
      refine ⟨[], rfl, fun _ => ?_, fun n r h => by cases h⟩
      rcases hf with rfl | rfl <;> (cases e; rfl)
    | cons t ts =>
      cases ei : ints? (t :: ts) with
      | none => rcases hf with rfl | rfl <;> (simp only [ei] at e; cases e)
      | some ns =>
        obtain ⟨h1, h2⟩ := ints_of ei r
        refine ⟨ns, h2, fun hn => (by subst hn; cases h1), fun n r hn => ?_⟩
        subst hn
        rcases hf with rfl | rfl
        · refine ⟨fun _ => ?_, fun z => by cases z⟩
          simp only [ei] at e
          have e : some (T.int (r.foldl max n)) = some z := e
          exact (Option.some.inj e).symm
        · refine ⟨fun z => (by cases z), fun _ => ?_⟩
          simp only [ei] at e
          have e : some (T.int (r.foldl min n)) = some z := e
          exact (Option.some.inj e).symm
  have fin : ∀ (ns : List Int) (its : List Value) (h' : Heap) (tk : Nat), (∀ b o, st.heap.get? b = some o → h'.get? b = some o) → Inv X pins σ H { st with heap := h', toks := tk } := fun ns its h' tk hk => I.kept hk
  cases x <;> first | (rcases hf with rfl | rfl <;> cases e; done) | skip
  · obtain ⟨a, vs, rfl, h1, rr⟩ := vx.tup_inv
    cases rv
    obtain ⟨its, rvs, hl, hz⟩ := I.tuple h1.sq
    obtain ⟨ns, rfl, h3, h4⟩ := main _ vs its rr rvs rfl
    have rd := reads_ints (h := st.heap) rvs
    rcases hf with rfl | rfl
    · refine PySem.W.max_tuple_default (I.ok.hd hc) (show st.heap.IsTuple a its.toArray from hl) (by simpa using rd) (alike_ints ns) (by rw [depth_ints]; exact hr) (fun hn h' tk hk => ?_) fun y0 ys i v h' tk bs hn _ hrd hk => ?_
      · have hz := h3 (List.map_eq_nil_iff.mp hn)
        subst hz
        exact ⟨w, H, I.kept hk, rw', q _ ry⟩
      · cases ns with
        | nil => cases hn
        | cons n r =>
          rw [List.map_cons] at hn
          injection hn with e1 e2
          subst e1; subst e2
          rw [PySem.W.maxD_ints] at hrd
          have hz := (h4 n r rfl).1 rfl
          subst hz
          cases hrd
          exact ⟨.int _, H, I.kept hk, ⟨_, rfl⟩, q _ (.int _)⟩
    · refine PySem.W.min_tuple_default (I.ok.hd hc) (show st.heap.IsTuple a its.toArray from hl) (by simpa using rd) (alike_ints ns) (by rw [depth_ints]; exact hr) (fun hn h' tk hk => ?_) fun y0 ys i v h' tk bs hn _ hrd hk => ?_
      · have hz := h3 (List.map_eq_nil_iff.mp hn)
        subst hz
        exact ⟨w, H, I.kept hk, rw', q _ ry⟩
      · cases ns with
        | nil => cases hn
        | cons n r =>
          rw [List.map_cons] at hn
          injection hn with e1 e2
          subst e1; subst e2
          rw [PySem.W.minD_ints] at hrd
          have hz := (h4 n r rfl).2 rfl
          subst hz
          cases hrd
          exact ⟨.int _, H, I.kept hk, ⟨_, rfl⟩, q _ (.int _)⟩
  · obtain ⟨a, vs, rfl, h1, rr⟩ := vx.lst_inv
    cases rv
    obtain ⟨its, rvs, hl, hz⟩ := I.list (show SqL X.K H a vs from .inl h1)
    obtain ⟨ns, rfl, h3, h4⟩ := main _ vs its rr rvs rfl
    have rd := reads_ints (h := st.heap) rvs
    rcases hf with rfl | rfl
    · refine PySem.W.max_list_default (I.ok.hd hc) hl.isList (by simpa using rd) (alike_ints ns) (by rw [depth_ints]; exact hr) (fun hn h' tk hk => ?_) fun y0 ys i v h' tk bs hn _ hrd hk => ?_
      · have hz := h3 (List.map_eq_nil_iff.mp hn)
        subst hz
        exact ⟨w, H, I.kept hk, rw', q _ ry⟩
      · cases ns with
        | nil => cases hn
        | cons n r =>
          rw [List.map_cons] at hn
          injection hn with e1 e2
          subst e1; subst e2
          rw [PySem.W.maxD_ints] at hrd
          have hz := (h4 n r rfl).1 rfl
          subst hz
          cases hrd
          exact ⟨.int _, H, I.kept hk, ⟨_, rfl⟩, q _ (.int _)⟩
    · refine PySem.W.min_list_default (I.ok.hd hc) hl.isList (by simpa using rd) (alike_ints ns) (by rw [depth_ints]; exact hr) (fun hn h' tk hk => ?_) fun y0 ys i v h' tk bs hn _ hrd hk => ?_
      · have hz := h3 (List.map_eq_nil_iff.mp hn)
        subst hz
        exact ⟨w, H, I.kept hk, rw', q _ ry⟩
      · cases ns with
        | nil => cases hn
        | cons n r =>
          rw [List.map_cons] at hn
          injection hn with e1 e2
          subst e1; subst e2
          rw [PySem.W.minD_ints] at hrd
          have hz := (h4 n r rfl).2 rfl
          subst hz
          cases hrd
          exact ⟨.int _, H, I.kept hk, ⟨_, rfl⟩, q _ (.int _)⟩
theorem snd_bid {f : Bi} {a d : E} {a' d' : Expr} {p1 kp pos : Pos} (hf : f = .maxL ∨ f = .minL) (hg : glChk s (biName f) = true) (ha : Snd M D k s a a') (hd : Snd M D k s d d') (hs : notStar a' = true) :
    Snd M D k s (.bid f a d) (.Call (.Name (biName f) p1) [a'] [⟨some (Str.ofString "default"), d', kp⟩] pos) := by
  refine .plain (fun X EX XT o => ⟨fun pins st σ H Q I q => ?_⟩) (by intros; simp) (fun _ _ => rfl) rfl
  obtain ⟨h1, h2, h3⟩ := o.gl hg
  have hm : X.mg (biName f) = none := by rw [o.m.mg]; exact o.lib.blt _ (bi_blt f)
  obtain ⟨φ, σT, S, QT, at_, fx, hw, fn⟩ := q
  have hu : X.A.units + 1 < cLine := hu_of o.room
  refine wpAny_Call_Name_kw (ld_blt I h1 hm (boot_mm f hf) ?_ h3 h2)
  have pa : PA X [a'] (tCons (tE M XT EX (wpE D.G (cw D k) a XT)) tNil) := pa_cons (ha.pe X EX XT o) pa_nil (star_cons hs _ _)
  have pk : PK X [⟨some (Str.ofString "default"), d', kp⟩] (tCons (tE M XT EX (wpE D.G (cw D k) d XT)) tNil) := pk_cons (hd.pe X EX XT o) pk_nil
  have goal : wpAny (model X.prog X.w) X.A (spliced (backTo pos (starEach [a'] X.env))) (fun vs s₁ => wpAny (model X.prog X.w) X.A (evalAll ((backToKw pos (keywordEach [⟨some (Str.ofString "default"), d', kp⟩] X.env)).map (·.2)))
      (fun kvs s₂ => wpAny (model X.prog X.w) X.A (call (biVal f) vs (((backToKw pos (keywordEach [⟨some (Str.ofString "default"), d', kp⟩] X.env)).filterMap (·.1)).zip kvs)) (EP X pins σ Q) X.xe s₂) X.xe s₁) X.xe st := by
    refine thn (pa.run pos pins st σ H (fun vs H1 => tCons (tE M XT EX (wpE D.G (cw D k) d XT)) tNil σ H1 fun ws H2 => ∃ φ S x y z v w, vs = [v] ∧ ws = [w] ∧ Wd M φ S H2 ∧ View M φ H2 x v ∧ Rep M φ H2 y w ∧ bidT f x y = some z ∧ ∀ v, Rep M φ H2 z v → Q v H2) I ⟨φ, σT, S, _, at_, fx, hw, fun x S1 φ1 v H1 e1 w1 r1 q1 => ?_⟩) fun us s1 ⟨vs, H1, I1, r1, q1⟩ => ?_
    · refine ⟨φ1, σT, S1, _, at_.go e1 w1, fx.ext e1, q1, fun y S2 φ2 w H2 e2 w2 r2 q2 => ?_⟩
      cases e : bidT f (vw S2 x) y with
      | none => rw [e] at q2; exact q2.elim
      | some z =>
        rw [e] at q2
        exact ⟨φ2, S2, _, y, z, v, w, rfl, rfl, w2, (r1.ext e2 w1.noTup).view w2, r2, e, fun v' rz => fn z S2 φ2 v' H2 (e1.trans e2) w2 rz q2⟩
    · refine thn (pk.run pos pins s1 σ H1 _ I1 q1) fun ws s2 ⟨zs, H2, I2, rz, φ2, S2, x, y, z, v, w, ev, ew, w2, vx, ry, e, q2⟩ => ?_
      subst ev; subst ew
      cases r1 with
      | cons ru rn =>
        cases rn
        cases rz with
        | cons ru' rn' =>
          cases rn'
          exact call_bid o.calm hu hf I2 w2 vx ry ru ru' e q2
  rcases hf with rfl | rfl
  · exact callWith_kw goal (by rw [star_cons hs]; rfl) (by rw [star_cons hs]; rfl)
  · exact callWith_kw goal (by rw [star_cons hs]; rfl) (by rw [star_cons hs]; rfl)
end
end PC
/-! PcStm: statements. -/
namespace PC
open PySem L2 PyProof.Rows PySem.Spec
variable {M : Mo} {D : Tab} {k : Nat}
/-- where statements stand -/
structure SOk (M : Mo) (D : Tab) (k : Nat) (s : SE) (EX : XK) (X : Cx) : Prop extends XOk M D k s EX X where
  kind : s.sc.kind = .function
  tk : L2N.Takes X (fun c d _ H => EX c d H)
  hp : PassesOwn (model X.prog X.w) X.A X.env X.xe
def tS (M : Mo) (X : Wx) (EX : XK) (w : Sl → Mem → K → Prop) : TS := fun E σ H => ∃ φ σT S D, At M φ H S σT σ ∧ FinX M φ H X EX ∧ w σT S D ∧
  (∀ σT' S' φ' σ' H', Ext φ H φ' H' → At M φ' H' S' σT' σ' → D.nx σT' S' → E.nx σ' H') ∧ Fin M φ H D.rt E.rt
structure SndS (M : Mo) (D : Tab) (k : Nat) (s : SE) (st : Sm) (p : Stmt) : Prop where
  ps : ∀ (X : Cx) (EX : XK) (XT : Wx), SOk M D k s EX X → PS X p (tS M XT EX (wpS D.G (cw D k) st XT))
structure SndSs (M : Mo) (D : Tab) (k : Nat) (s : SE) (st : Ss) (p : List Stmt) : Prop where
  pss : ∀ (X : Cx) (EX : XK) (XT : Wx), SOk M D k s EX X → PSs X p (tS M XT EX (wpSs D.G (cw D k) st XT))
theorem _root_.L2.PS.imp {X : Cx} {p : Stmt} {t u : TS} (h : PS X p t) (k : ∀ D σ H, u D σ H → t D σ H) : PS X p u := ⟨fun pins s σ H D I q => h.run pins s σ H D I (k D σ H q)⟩
theorem _root_.L2.PSs.imp {X : Cx} {p : List Stmt} {t u : TS} (h : PSs X p t) (k : ∀ D σ H, u D σ H → t D σ H) : PSs X p u := ⟨fun pins s σ H D I q => h.run pins s σ H D I (k D σ H q)⟩
section
variable {s : SE}
theorem snds_nil : SndSs M D k s .nil [] := ⟨fun X EX XT o => pss_nil.imp fun E σ H q => by
  obtain ⟨φ, σT, S, K, at_, fx, hw, fn, fr⟩ := q
  exact fn _ _ _ _ _ (Ext.refl _ _) at_ hw⟩
theorem At.ext {φ φ' : List Addr} {H H' : Hp} {S S' : Mem} {σT : Sl} {σ : L2.St} (a : At M φ H S σT σ) (e : Ext φ H φ' H') (w : Wd M φ' S' H') : At M φ' H' S' σT σ := a.go e w
theorem snds_cons {st : Sm} {r : Ss} {p : Stmt} {ps : List Stmt} (h1 : SndS M D k s st p) (h2 : SndSs M D k s r ps) : SndSs M D k s (.cons st r) (p :: ps) := ⟨fun X EX XT o => (pss_cons (h1.ps X EX XT o) (h2.pss X EX XT o)).imp fun E σ H q => by
  obtain ⟨φ, σT, S, K, at_, fx, hw, fn, fr⟩ := q
  exact ⟨φ, σT, S, _, at_, fx, hw, fun σT1 S1 φ1 σ1 H1 e1 a1 q1 => ⟨φ1, σT1, S1, K, a1, fx.ext e1, q1, fun σT2 S2 φ2 σ2 H2 e2 a2 q2 => fn σT2 S2 φ2 σ2 H2 (e1.trans e2) a2 q2, fr.ext e1⟩, fr⟩⟩
theorem sw_not {v : Expr} (h : notComp v = true) (t : Option Expr) (l : Nat) (env : Env) : swapsWith v t l env = pure false := by
  cases v <;> first | rfl | cases h
/-- x = e -/
theorem snds_set {i : Nat} {e : E} {x : Str} {px : Pos} {v : Expr} {pos : Pos} (hx : stChk s i x = true) (hn : notComp v = true) (he : Snd M D k s e v) : SndS M D k s (.asg i e) (.Assign [.Name x px] v pos) := ⟨fun X EX XT o => by
  unfold stChk at hx
  simp only [Bool.and_eq_true, decide_eq_true_eq] at hx
  obtain ⟨⟨h1, h2⟩, h3⟩ := hx
  obtain ⟨l, f⟩ := o.ow x h2
  refine (ps_set (i := i) (by rw [o.N]; exact o.nd) (by rw [o.N]; exact h1) (by rw [o.sc]; exact l) (he.pe X EX XT o.toXOk) (sw_not hn _ _ _) (by rw [o.sc]; exact f)).imp fun E σ H q => ?_
  obtain ⟨φ, σT, S, K, at_, fx, hw, fn, fr⟩ := q
  exact ⟨φ, σT, S, _, at_, fx, hw, fun t S1 φ1 u H1 e1 w1 r1 q1 => fn _ _ φ1 _ H1 e1 ⟨w1, (at_.go e1 w1).sl.set r1 i⟩ q1⟩⟩
theorem stores_none {t v : Expr} {env : Env} (hs : env.scope = s.sc) (h : nswChk s t v = true) : swappedStores [t] v env = pure none := by
  unfold swappedStores
  cases v <;> first | (cases t <;> rfl; done) | skip
  rename_i vs k2 p2
  cases t <;> first | cases h | skip
  rename_i ts kt pt
  have h : (vs.all (foldedForSure 8) || ((nmLoc s ts).length != ts.length)) = true := h
  have hk : ∀ x, env.kindOf x = s.sc.names.lookup x := fun x => by unfold Env.kindOf; rw [hs]
  simp only [hk]
  show (if _ then _ else _) = _
  split
  · rfl
  · show (if _ then _ else _) = _
    split
    · rfl
    · show (if ((nmLoc s ts).length != ts.length || _) = true then _ else _) = _
      split
      · rfl
      · rename_i hh
        rw [Bool.or_eq_true] at h
        rcases h with h | h
        · rw [h]; rfl
        · rw [h] at hh; exact absurd rfl hh
theorem sw_tg {t v : Expr} (h : ∀ x p, t ≠ .Name x p) (l : Nat) (env : Env) : swapsWithSole [t] v l env = pure false := by
  show swapsWith v (some t) l env = pure false
  cases v <;> first | rfl | (cases t <;> first | rfl | exact absurd rfl (h _ _))
/-- a, b = e -/
theorem snds_asgT {tg : Tg} {e : E} {t v : Expr} {pos : Pos} (ht : notTup t = false) (hg : chkTg s tg t = true) (hn : nswChk s t v = true) (he : Snd M D k s e v) : SndS M D k s (.asgT tg e) (.Assign [t] v pos) := ⟨fun X EX XT o => by
  cases t <;> first | cases ht | skip
  rename_i ts kt pt
  refine (ps_asg (he.pe X EX XT o.toXOk) (pg_of o.toXOk hg) (sw_tg (by intros; simp) _ _) (stores_none o.sc hn) (by rfl)).imp fun E σ H q => ?_
  obtain ⟨φ, σT, S, K, at_, fx, hw, fn, fr⟩ := q
  refine ⟨φ, σT, S, _, at_, fx, hw, fun x S1 φ1 u H1 e1 w1 r1 q1 => ?_⟩
  exact tg_read q1 (at_.go e1 w1).sl (Ext.refl _ _) w1.noTup (.inl r1) fun σT' σ' sl q2 _ => fn _ _ φ1 _ H1 e1 ⟨w1, sl⟩ q2⟩
theorem stores_two {x y : Str} {px py : Pos} {a b : Expr} {kt k2 : Nat} {pt p2 : Pos} {env : Env} (hs : env.scope = s.sc) (hk : s.sc.kind = .function) (h : parChk s x y px py a b = true) :
    swappedStores [.Tuple [.Name x px, .Name y py] kt pt] (.Tuple [a, b] k2 p2) env = pure (some [x, y]) := by
  unfold parChk at h
  simp only [Bool.and_eq_true, Bool.not_eq_true', beq_iff_eq] at h
  obtain ⟨⟨⟨⟨⟨⟨⟨h1, h2⟩, h3⟩, h4⟩, h5⟩, h6⟩, h7⟩, h8⟩ := h
  have hx : env.kindOf x = some .local := by unfold Env.kindOf; rw [hs]; exact h1
  have hy : env.kindOf y = some .local := by unfold Env.kindOf; rw [hs]; exact h2
  have hb : env.blockKind = .function := by unfold Env.blockKind; rw [hs, hk]; rfl
  have hxy : (y == x) = false := by rw [beq_eq_false_iff_ne] at h4 ⊢; exact fun e => h4 e.symm
  unfold swappedStores
  simp only [List.any_cons, List.any_nil, List.all_cons, List.all_nil, Bool.and_true, hb, List.filterMap_cons, List.filterMap_nil, hx, hy, Expr.pos, List.head?_cons, Option.map_some, Option.getD_some, h3, List.length_cons, List.length_nil]
  simp [h7, h8, List.eraseDups_cons, hxy]
  intro h
  exfalso
  rcases h with h | h
  · cases a <;> first | (cases h5; done) | (simp at h; done)
  · cases b <;> first | (cases h6; done) | (simp at h; done)
theorem snds_par2 {i j : Nat} {es : Es} {x y : Str} {px py : Pos} {a b : Expr} {kt k2 : Nat} {pt p2 pos : Pos} (hx : stChk s i x = true) (hy : stChk s j y = true) (hp : parChk s x y px py a b = true) (hij : i ≠ j) (he : SndA M D k s es [a, b]) :
    SndS M D k s (.par (.two i j) es) (.Assign [.Tuple [.Name x px, .Name y py] kt pt] (.Tuple [a, b] k2 p2) pos) := ⟨fun X EX XT o => by
  have hw := stores_two (env := X.env) (kt := kt) (k2 := k2) (pt := pt) (p2 := p2) o.sc o.kind hp
  unfold stChk at hx hy
  simp only [Bool.and_eq_true, decide_eq_true_eq] at hx hy
  unfold parChk at hp
  simp only [Bool.and_eq_true, beq_iff_eq] at hp
  obtain ⟨⟨⟨⟨⟨⟨⟨h1, h2⟩, h3⟩, h4⟩, h5⟩, h6⟩, h7⟩, h8⟩ := hp
  refine (ps_par (i := i) (j := j) o.calm (by rw [o.N]; exact o.nd) (by rw [o.N]; exact hx.1.1) (by rw [o.N]; exact hy.1.1) hij (by rw [o.sc]; exact h1) (by rw [o.sc]; exact h2) (he.pa X EX XT o.toXOk) hw).imp fun E σ H q => ?_
  obtain ⟨φ, σT, S, K, at_, fx, hw, fn, fr⟩ := q
  refine ⟨φ, σT, S, _, at_, fx, hw, fun xs S1 φ1 us H1 e1 w1 r1 l1 q1 => ?_⟩
  have hl : xs.length = 2 := by rw [l1, ← he.len]; rfl
  rcases xs with _ | ⟨t, _ | ⟨u, _ | ⟨w, r⟩⟩⟩ <;> first | cases hl | skip
  cases r1 with
  | cons r r1 =>
    cases r1 with
    | cons r' r1 =>
      cases r1
      exact ⟨_, _, rfl, fn _ _ φ1 _ H1 e1 ⟨w1, ((at_.go e1 w1).sl.set r i).set r' j⟩ q1⟩⟩
theorem stores_three {x y z : Str} {px py pz : Pos} {a b c : Expr} {kt k2 : Nat} {pt p2 : Pos} {env : Env} (hs : env.scope = s.sc) (hk : s.sc.kind = .function) (h : par3Chk s x y z px py pz a b c = true) :
    swappedStores [.Tuple [.Name x px, .Name y py, .Name z pz] kt pt] (.Tuple [a, b, c] k2 p2) env = pure (some [x, y, z]) := by
  unfold par3Chk at h
  simp only [Bool.and_eq_true, Bool.not_eq_true', beq_iff_eq] at h
  obtain ⟨⟨⟨⟨⟨⟨⟨⟨⟨⟨⟨⟨h1, h2⟩, h3⟩, g1⟩, g2⟩, g3⟩, g4⟩, g5⟩, h5⟩, h6⟩, h9⟩, h7⟩, h8⟩ := h
  have hx : env.kindOf x = some .local := by unfold Env.kindOf; rw [hs]; exact h1
  have hy : env.kindOf y = some .local := by unfold Env.kindOf; rw [hs]; exact h2
  have hz : env.kindOf z = some .local := by unfold Env.kindOf; rw [hs]; exact h3
  have hb : env.blockKind = .function := by unfold Env.blockKind; rw [hs, hk]; rfl
  have e1 : (y == x) = false := by rw [beq_eq_false_iff_ne] at g3 ⊢; exact fun e => g3 e.symm
  have e2 : (z == x) = false := by rw [beq_eq_false_iff_ne] at g4 ⊢; exact fun e => g4 e.symm
  have e3 : (z == y) = false := by rw [beq_eq_false_iff_ne] at g5 ⊢; exact fun e => g5 e.symm
  have g1' : py.line = px.line := g1.symm
  have g2' : pz.line = px.line := g2.symm
  unfold swappedStores
  simp only [List.any_cons, List.any_nil, List.all_cons, List.all_nil, Bool.and_true, hb, List.filterMap_cons, List.filterMap_nil, hx, hy, hz, Expr.pos, List.head?_cons, Option.map_some, Option.getD_some, g1', g2', List.length_cons, List.length_nil]
  have h7' : (foldedForSure 8 a && (foldedForSure 8 b && foldedForSure 8 c)) = false := by rw [← Bool.and_assoc]; exact h7
  have h8' : (constantsAlone 8 a && (constantsAlone 8 b && constantsAlone 8 c)) = false := by rw [← Bool.and_assoc]; exact h8
  simp [h7', h8', List.eraseDups_cons, e1, e2, e3]
  intro h
  exfalso
  rcases h with h | h | h
  · cases a <;> first | (cases h5; done) | (simp at h; done)
  · cases b <;> first | (cases h6; done) | (simp at h; done)
  · cases c <;> first | (cases h9; done) | (simp at h; done)
theorem snds_par3 {i j l : Nat} {es : Es} {x y z : Str} {px py pz : Pos} {a b c : Expr} {kt k2 : Nat} {pt p2 pos : Pos} (hx : stChk s i x = true) (hy : stChk s j y = true) (hz : stChk s l z = true) (hp : par3Chk s x y z px py pz a b c = true) (hij : i ≠ j) (hil : i ≠ l) (hjl : j ≠ l) (he : SndA M D k s es [a, b, c]) :
    SndS M D k s (.par (.three i j l) es) (.Assign [.Tuple [.Name x px, .Name y py, .Name z pz] kt pt] (.Tuple [a, b, c] k2 p2) pos) := ⟨fun X EX XT o => by
  have hw := stores_three (env := X.env) (kt := kt) (k2 := k2) (pt := pt) (p2 := p2) o.sc o.kind hp
  unfold stChk at hx hy hz
  simp only [Bool.and_eq_true, decide_eq_true_eq] at hx hy hz
  unfold par3Chk at hp
  simp only [Bool.and_eq_true, beq_iff_eq] at hp
  obtain ⟨⟨⟨⟨⟨⟨⟨⟨⟨⟨⟨⟨h1, h2⟩, h3⟩, g1⟩, g2⟩, g3⟩, g4⟩, g5⟩, h5⟩, h6⟩, h9⟩, h7⟩, h8⟩ := hp
  refine (ps_par3 (i := i) (j := j) (l := l) o.calm (by rw [o.N]; exact o.nd) (by rw [o.N]; exact hx.1.1) (by rw [o.N]; exact hy.1.1) (by rw [o.N]; exact hz.1.1) hij hil hjl (by rw [o.sc]; exact h1) (by rw [o.sc]; exact h2) (by rw [o.sc]; exact h3) (he.pa X EX XT o.toXOk) hw).imp fun E σ H q => ?_
  obtain ⟨φ, σT, S, K, at_, fx, hw, fn, fr⟩ := q
  refine ⟨φ, σT, S, _, at_, fx, hw, fun xs S1 φ1 us H1 e1 w1 r1 l1 q1 => ?_⟩
  have hl : xs.length = 3 := by rw [l1, ← he.len]; rfl
  rcases xs with _ | ⟨t, _ | ⟨u, _ | ⟨w, _ | ⟨w', r⟩⟩⟩⟩ <;> first | cases hl | skip
  cases r1 with
  | cons r r1 =>
    cases r1 with
    | cons r' r1 =>
      cases r1 with
      | cons r'' r1 =>
        cases r1
        exact ⟨_, _, _, rfl, fn _ _ φ1 _ H1 e1 ⟨w1, (((at_.go e1 w1).sl.set r i).set r' j).set r'' l⟩ q1⟩⟩
theorem snds_expr {e : E} {p : Expr} {pos : Pos} (hn : notComp p = true) (he : Snd M D k s e p) : SndS M D k s (.expr e) (.Expr p pos) := ⟨fun X EX XT o => by
  refine (ps_expr (he.pe X EX XT o.toXOk) (sw_not hn _ _ _)).imp fun E σ H q => ?_
  obtain ⟨φ, σT, S, K, at_, fx, hw, fn, fr⟩ := q
  exact ⟨φ, σT, S, _, at_, fx, hw, fun t S1 φ1 u H1 e1 w1 r1 q1 => fn _ _ φ1 _ H1 e1 (at_.go e1 w1) q1⟩⟩
theorem snds_ret {e : E} {p : Expr} {pos : Pos} (he : Snd M D k s e p) : SndS M D k s (.ret e) (.Return (some p) pos) := ⟨fun X EX XT o => by
  refine (ps_ret (he.pe X EX XT o.toXOk)).imp fun E σ H q => ?_
  obtain ⟨φ, σT, S, K, at_, fx, hw, fn, fr⟩ := q
  exact ⟨φ, σT, S, _, at_, fx, hw, fr⟩⟩
theorem snds_if {c : E} {A B : Ss} {c' : Expr} {A' B' : List Stmt} {pos : Pos} (hc : Snd M D k s c c') (hA : SndSs M D k s A A') (hB : SndSs M D k s B B') : SndS M D k s (.ifs c A B) (.If c' A' B' pos) := ⟨fun X EX XT o => by
  refine (ps_if (hc.pt X EX XT o.toXOk) (hA.pss X EX XT o) (hB.pss X EX XT o)).imp fun E σ H q => ?_
  obtain ⟨φ, σT, S, K, at_, fx, hw, fn, fr⟩ := q
  refine ⟨φ, σT, S, _, at_, fx, hw, fun b S1 φ1 H1 e1 w1 q1 => ?_⟩
  cases b with
  | true => exact ⟨φ1, σT, S1, K, at_.go e1 w1, fx.ext e1, q1, fun σT2 S2 φ2 σ2 H2 e2 a2 q2 => fn σT2 S2 φ2 σ2 H2 (e1.trans e2) a2 q2, fr.ext e1⟩
  | false => exact ⟨φ1, σT, S1, K, at_.go e1 w1, fx.ext e1, q1, fun σT2 S2 φ2 σ2 H2 e2 a2 q2 => fn σT2 S2 φ2 σ2 H2 (e1.trans e2) a2 q2, fr.ext e1⟩⟩
theorem snds_while {c : E} {B : Ss} {c' : Expr} {B' : List Stmt} {pos : Pos} (hc : Snd M D k s c c') (hB : SndSs M D k s B B') : SndS M D k s (.whiles c B) (.While c' B' [] pos) := ⟨fun X EX XT o => by
  refine (ps_while o.hp (hc.pt X EX XT o.toXOk) (hB.pss X EX XT o)).imp fun E σ H q => ?_
  obtain ⟨φ, σT, S, K, at_, fx, ⟨n, hw⟩, fn, fr⟩ := q
  refine ⟨fun m σ1 H1 => ∃ φ1 S1 σT1, Ext φ H φ1 H1 ∧ At M φ1 H1 S1 σT1 σ1 ∧ wpWh (fun σ S k => wpE D.G (cw D _) c XT σ S (bt k)) (fun σ S k => wpSs D.G (cw D _) B XT σ S ⟨k, K.rt⟩) m σT1 S1 K.nx, ⟨n, φ, S, σT, Ext.refl _ _, at_, hw⟩, ?_⟩
  rintro m σ1 H1 ⟨φ1, S1, σT1, e1, a1, w1⟩
  cases m with
  | zero => exact w1.elim
  | succ m =>
    refine ⟨φ1, σT1, S1, _, a1, fx.ext e1, w1, fun b S2 φ2 H2 e2 w2 q2 => ?_⟩
    cases b with
    | true =>
      refine ⟨_, fun σ' H' h => ⟨m, Nat.lt_succ_self _, h⟩, φ2, σT1, S2, _, a1.go e2 w2, (fx.ext e1).ext e2, q2, fun σT3 S3 φ3 σ3 H3 e3 a3 q3 => ⟨φ3, S3, σT3, (e1.trans e2).trans e3, a3, q3⟩, (fr.ext e1).ext e2⟩
    | false => exact fn _ _ φ2 _ H2 (e1.trans e2) (a1.go e2 w2) q2⟩
theorem wpFor_g {g : Mem → Prop} {body : T → Sl → Mem → (Sl → Mem → Prop) → Prop} {xs : List T} {σ : Sl} {S : Mem} {kk : Sl → Mem → Prop} (h : wpFor g body xs σ S kk) : g S := by
  cases xs <;> exact h.1
theorem snds_for {tg : Tg} {it : I} {B : Ss} {tg' it' : Expr} {B' : List Stmt} {pos : Pos} (hi : SndI M D k s tg it it') (hg : chkTg s tg tg' = true) (hB : SndSs M D k s B B') : SndS M D k s (.fors tg it B) (.For tg' it' B' [] pos) := ⟨fun X EX XT o => by
  refine (ps_for (g := gOf X.K tg) o.hp o.calm (hi.pi X EX XT o.toXOk tg' (tgp_tup hg)) (pg_of o.toXOk hg) (hB.pss X EX XT o) (hi.fs X.env)).imp fun E σ H q => ?_
  obtain ⟨φ, σT, S, K, at_, fx, hw, fn, fr⟩ := q
  refine ⟨φ, σT, S, _, at_, fx, hw, fun g xs S1 φ1 H1 J e1 w1 q1 itm => ?_⟩
  obtain ⟨sz, G, Y, wk, hG, hY⟩ := itm
  refine for_it wk (fun i σ2 H2 => ∃ φ2 S2 σT2, Ext φ1 H1 φ2 H2 ∧ At M φ2 H2 S2 σT2 σ2 ∧ wpFor g (fun x σ S k => asgTg tg x σ fun σ1 => wpSs D.G (cw D _) B XT σ1 S ⟨k, K.rt⟩) (xs.drop i) σT2 S2 K.nx) ⟨φ1, S1, σT, Ext.refl _ _, at_.go e1 w1, q1⟩ ?_ ?_ ?_
  · intro i σ2 H2 hi ⟨φ2, S2, σT2, e2, a2, w2⟩
    exact hG φ2 S2 H2 H2 e2 a2.wd (wpFor_g w2) Up.refl
  · intro i x σ2 H2 H2' hi ⟨φ2, S2, σT2, e2, a2, w2⟩ hy
    have hx : xs[i]? = some xs[i] := List.getElem?_eq_getElem hi
    rw [show xs.drop i = xs[i] :: xs.drop (i + 1) from List.drop_eq_getElem_cons hi] at w2
    obtain ⟨hg2, w2⟩ := w2
    obtain ⟨up, itm⟩ := hY φ2 S2 H2 H2 i xs[i] x H2' e2 a2.wd hg2 Up.refl hx hy
    refine tg_read w2 a2.sl up.ext a2.wd.noTup itm fun σT3 σ3 sl3 w3 _ => ?_
    have wd3 := a2.wd.up up
    refine ⟨φ2, σT3, S2, _, ⟨wd3, sl3.ext up.ext a2.wd.noTup⟩, ((fx.ext e1).ext e2).ext up.ext, w3, fun σT4 S4 φ4 σ4 H4 e4 a4 q4 => ⟨φ4, S4, σT4, (e2.trans up.ext).trans e4, a4, q4⟩, ((fr.ext e1).ext e2).ext up.ext⟩
  · intro σ2 H2 ⟨φ2, S2, σT2, e2, a2, w2⟩
    rw [List.drop_length] at w2
    exact fn _ _ φ2 _ H2 (e1.trans e2) a2 w2.2⟩
/-- raise C('..') -/
theorem snds_raise {C m : Str} {j : Nat} {p1 p2 p3 pos : Pos} (hg : glChk s C = true) (hx : s.xs.contains C = true) : SndS M D k s (.raise C) (.Raise (some (.Call (.Name C p1) [.Constant (.str m) j p2] [] p3)) none pos) := ⟨fun X EX XT o => by
  obtain ⟨h1, h2, h3⟩ := o.toXOk.gl hg
  obtain ⟨Ca, hC⟩ := o.xs C hx
  obtain ⟨g1, g2, g3, g4, g5⟩ := o.lib.exc C Ca hC
  rw [← o.m.K] at g2 g3 g4 g5
  rw [← o.m.mg] at g1
  refine (L2N.ps_raise o.calm o.tk (L2N.pmk_own F.excBase_ValueError g3 g1 g2 (raises_own g4 g5) h1 h2)).imp fun E σ H q => ?_
  obtain ⟨φ, σT, S, K, at_, fx, hw, fn, fr⟩ := q
  exact fx C Ca S φ H hC (Ext.refl _ _) at_.wd hw⟩
end
section
variable {s : SE}
/-- o[i] = v -/
def rSet (M : Mo) : V → V → V → Hp → (Hp → Prop) → Prop := fun o i v H Q => rSetL o i v H Q ∨
  ∃ φ S d ks ts kvs vvs y t, Wd M φ S H ∧ o = .ref d ∧ DAt M.P M.w H d ks kvs vvs ∧ ks.all kt = true ∧ ks.length < line ∧ kt y = true ∧ Reps M φ H ks kvs ∧ Reps M φ H ts vvs ∧ Rep M φ H y i ∧ Rep M φ H t v ∧
    ∀ (o' : Obj) (kvs' vvs' : List V), (d == sysModules) = false → vvs'.length ≤ sizeLine → DictObj M.P M.w o' (dputK ks y) kvs' vvs' → Reps M φ H (dputK ks y) kvs' → Reps M φ H (dputV ks ts y t) vvs' → Q (upd H d (dictHO d o'))
theorem set_any {X : Cx} (hM : XM M X) (hr : X.A.units + 9 < cLine) : PSet X (rSet M) := by
  intro pins st σ H o i v ov iv u Q I ro ri rv h
  rcases h with h | ⟨φ, S, d, ks, ts, kvs, vvs, y, t, wd, rfl, hd, hk, hz, hy, rk, rt, ry, rtv, q⟩
  · exact set_list pins st σ H o i v ov iv u Q I ro ri rv h
  · cases ro
    exact dict_put hM I hr hd hk hz hy rk rt ry ri rtv rv fun o' kvs' vvs' s' I' g1 g2 g3 g4 g5 => ⟨_, I', q o' kvs' vvs' g1 g2 g3 g4 g5⟩
theorem wr_lst {φ : List Addr} {H : Hp} {S : Mem} {i : Nat} {p : Addr} {xs : List T} {vs : List V} (w : Wd M φ S H) (hi : φ[i]? = some p) (r : Reps M φ H xs vs) : Ext φ H φ (upd H p (.lst vs)) ∧ Wd M φ (S.set i (.lst xs)) (upd H p (.lst vs)) := by
  have e : Ext φ H φ (upd H p (.lst vs)) := Ext.write (List.mem_of_getElem? hi)
  exact ⟨e, w.write hi (.lst upd_same (r.ext e w.noTup))⟩
theorem snds_setIdx {a b e : E} {a' b' v : Expr} {ps pos : Pos} (hb : notSlice b' = true) (he : Snd M D k s e v) (ha : Snd M D k s a a') (hb2 : Snd M D k s b b') : SndS M D k s (.setIdx a b e) (.Assign [.Subscript a' b' ps] v pos) := ⟨fun X EX XT o => by
  have asg : ∀ u, assign (.Subscript a' b' ps) X.env u = (do
      let ov ← holding [u] (eval a' X.env)
      let iv ← holding [u, ov] (eval b' X.env)
      standAt ps
      holding [u, ov, iv] (setItem ov iv u)
      release [u, ov, iv] []) := fun u => by cases b' <;> first | rfl | cases hb
  refine (ps_asg (he.pe X EX XT o.toXOk) (pg_sub (ha.pe X EX XT o.toXOk) (hb2.pe X EX XT o.toXOk) (set_any o.m (by have := o.units; omega)) asg) (sw_tg (by intros; simp) _ _) (by cases v <;> rfl) (by rfl)).imp fun E σ H q => ?_
  obtain ⟨φ, σT, S, K, at_, fx, hw, fn, fr⟩ := q
  refine ⟨φ, σT, S, _, at_, fx, hw, fun t S1 φ1 u H1 e1 w1 r1 q1 => ?_⟩
  refine ⟨φ1, σT, S1, _, at_.go e1 w1, fx.ext e1, q1, fun x S2 φ2 xv H2 e2 w2 r2 q2 => ?_⟩
  refine ⟨φ2, σT, S2, _, (at_.go e1 w1).go e2 w2, (fx.ext e1).ext e2, q2, fun y S3 φ3 yv H3 e3 w3 r3 q3 => ?_⟩
  have at3 := ((at_.go e1 w1).go e2 w2).go e3 w3
  have r1' := (r1.ext e2 w1.noTup).ext e3 w2.noTup
  have r2' := r2.ext e3 w2.noTup
  have ee := (e1.trans e2).trans e3
  cases eo : ob? S3 x with
  | none => rw [eo] at q3; exact q3.elim
  | some io =>
    obtain ⟨i, ob⟩ := io
    rw [eo] at q3
    obtain ⟨rfl, eS⟩ := ob_some eo
    obtain ⟨p, rfl, ep, oa⟩ := r2'.refAt w3 eS
    cases ob with
    | lst xs =>
      cases y <;> first | exact q3.elim | skip
      rename_i n
      cases r3
      cases oa with
      | @lst xs vs hH rr =>
        cases ej : L2.ixN xs.length n with
        | none => simp only [ej] at q3; exact q3.elim
        | some j =>
          simp only [ej] at q3
          obtain ⟨e4, w4⟩ := wr_lst w3 ep (rr.set r1' j)
          exact .inl ⟨p, vs, n, j, rfl, rfl, hH, by rw [← rr.length]; exact ej, fn _ _ φ3 _ _ (ee.trans e4) (at3.go e4 w4) q3⟩
    | dct ks ts =>
      have q3 : (kt y = true ∧ ks.all kt = true ∧ ks.length < line) ∧ K.nx σT (S3.set i (.dct (dputK ks y) (dputV ks ts y t))) := by
        cases y <;> first | exact q3 | exact q3.elim
      obtain ⟨⟨g1, g2, g3⟩, q3⟩ := q3
      cases oa with
      | @dct _ _ kvs vvs hd rk rt =>
        refine .inr ⟨φ3, S3, p, ks, ts, kvs, vvs, y, t, w3, rfl, hd, g2, g3, g1, rk, rt, r3, r1', fun o' kvs' vvs' h1 h2 h3 h4 h5 => ?_⟩
        have e4 : Ext φ3 H3 φ3 (upd H3 p (dictHO p o')) := Ext.write (List.mem_of_getElem? ep)
        have w4 : Wd M φ3 (S3.set i (.dct (dputK ks y) (dputV ks ts y t))) (upd H3 p (dictHO p o')) := w3.write ep (.dct ⟨h1, h2, o', upd_same, h3⟩ (h4.ext e4 w3.noTup) (h5.ext e4 w3.noTup))
        exact fn _ _ φ3 _ _ (ee.trans e4) (at3.go e4 w4) q3
    | ins C fs => exact q3.elim
    | fix xs => exact q3.elim⟩
theorem putF_rep {φ : List Addr} {H : Hp} {f : Str} {t : T} {v : V} (r : Rep M φ H t v) : ∀ {fs : List (Str × T)} {gs : List (Str × V)}, RepF M φ H fs gs → RepF M φ H (putF f t fs) (L2.putF f v gs)
  | _, _, .nil => .cons ⟨rfl, r⟩ .nil
  | _, _, .cons (a := p) (b := q) h rs => by
    obtain ⟨n, u⟩ := p
    obtain ⟨n', w⟩ := q
    obtain ⟨rfl, hr⟩ := (show n = n' ∧ Rep M φ H u w from h)
    unfold putF L2.putF
    by_cases e : n = f
    · subst e
      simp only [if_true]
      first | exact .cons ⟨rfl, r⟩ rs | (rw [if_pos rfl]; exact .cons ⟨rfl, r⟩ rs)
    · first | (rw [if_neg e, if_neg e]; exact .cons ⟨rfl, hr⟩ (putF_rep r rs)) | (rw [if_neg e, if_neg (fun z => e z.symm)]; exact .cons ⟨rfl, hr⟩ (putF_rep r rs))
theorem snds_setAttr {a e : E} {f : Str} {a' v : Expr} {p2 pos : Pos} (hf : s.fl.contains f = true) (he : Snd M D k s e v) (ha : Snd M D k s a a') : SndS M D k s (.setAttr a f e) (.Assign [.Attribute a' f p2] v pos) := ⟨fun X EX XT o => by
  refine (ps_fld (ha.pe X EX XT o.toXOk) (he.pe X EX XT o.toXOk) (by cases v <;> rfl)).imp fun E σ H q => ?_
  obtain ⟨φ, σT, S, K, at_, fx, hw, fn, fr⟩ := q
  refine ⟨φ, σT, S, _, at_, fx, hw, fun t S1 φ1 u H1 e1 w1 r1 q1 => ?_⟩
  refine ⟨φ1, σT, S1, _, at_.go e1 w1, fx.ext e1, q1, fun x S2 φ2 xv H2 e2 w2 r2 q2 => ?_⟩
  have at2 := (at_.go e1 w1).go e2 w2
  have r1' := r1.ext e2 w1.noTup
  cases eo : ob? S2 x with
  | none => rw [eo] at q2; exact q2.elim
  | some io =>
    obtain ⟨i, ob⟩ := io
    rw [eo] at q2
    cases ob <;> first | exact q2.elim | skip
    rename_i C fs
    obtain ⟨hl, q2⟩ := q2
    obtain ⟨rfl, eS⟩ := ob_some eo
    obtain ⟨p, rfl, ep, oa⟩ := r2.refAt w2 eS
    cases oa with
    | @ins _ _ Ca dx gs hc hH hr =>
      obtain ⟨cl, na⟩ := o.lib.cls C _ hc
      have e4 : Ext φ2 H2 φ2 (upd H2 p (.ins Ca dx (L2.putF f u gs))) := Ext.write (List.mem_of_getElem? ep)
      have w4 : Wd M φ2 (S2.set i (.ins C (putF f t fs))) (upd H2 p (.ins Ca dx (L2.putF f u gs))) := w2.write ep (.ins hc upd_same (RepF.ext e4 w2.noTup (putF_rep r1' hr)))
      refine ⟨p, _, _, _, rfl, hH, by rw [o.m.K]; exact cl, by rw [o.m.K]; exact na f (by rw [← o.fl]; exact List.contains_iff_mem.mp hf), ?_, fn _ _ φ2 _ _ ((e1.trans e2).trans e4) (at2.go e4 w4) q2⟩
      have : fs.length = gs.length := Paired.length hr
      omega⟩
theorem mf_append : MFact "append" "list" "list.append" := ⟨PySem.F.plainAttrs_list, PySem.F.slot_list_append, PySem.F.type_list_append⟩
theorem snds_append {a e : E} {a' e' : Expr} {apos p3 pos : Pos} (ha : Snd M D k s a a') (he : Snd M D k s e e') (hb : methChk a' apos p3 = true) (hs : notStar e' = true) : SndS M D k s (.append a e) (.Expr (.Call (.Attribute a' "append" apos) [e'] [] p3) pos) := ⟨fun X EX XT o => by
  unfold methChk at hb
  rw [Bool.and_eq_true] at hb
  refine (ps_expr (pe_bmV (M := M) (ha.pe X EX XT o.toXOk) (pa_cons (he.pe X EX XT o.toXOk) pa_nil (star_cons hs _ _)) (base_of hb.1 _ _ _) (by rw [star_cons hs]; rfl) hb.2 (star_cons hs _ _) (by rfl)) (by rfl)).imp fun E σ H q => ?_
  obtain ⟨φ, σT, S, K, at_, fx, hw, fn, fr⟩ := q
  refine ⟨φ, σT, S, _, at_, fx, hw, fun x S1 φ1 xv H1 e1 w1 r1 q1 => ?_⟩
  obtain ⟨hl, q1⟩ := q1
  unfold lref at hl
  split at hl
  · rename_i i0 xs0 eo1
    obtain ⟨rfl, eS1⟩ := ob_some eo1
    obtain ⟨p, rfl, ep1, oa1⟩ := r1.refAt w1 eS1
    cases oa1 with
    | @lst _ vs0 hH1 rr1 =>
      refine ⟨"list", "list.append", rAppend, mf_append, mt_append, .lst (.inl hH1), φ1, σT, S1, _, at_.go e1 w1, fx.ext e1, q1, fun v S2 φ2 u H2 e2 w2 r2 q2 => ?_⟩
      have rx := r1.ext e2 w1.noTup
      cases eo : ob? S2 (.ref i0) with
      | none => rw [eo] at q2; exact q2.elim
      | some io =>
        obtain ⟨i, ob⟩ := io
        rw [eo] at q2
        cases ob <;> first | exact q2.elim | skip
        rename_i xs
        obtain ⟨hz, q2⟩ := q2
        obtain ⟨e5, eS⟩ := ob_some eo
        cases e5
        obtain ⟨p2, ep2, ep, oa⟩ := rx.refAt w2 eS
        cases ep2
        cases oa with
        | @lst _ vs hH rr =>
          obtain ⟨e4, w4⟩ := wr_lst w2 ep (rr.append (.cons r2 .nil))
          exact ⟨p, vs, u, rfl, rfl, hH, by rw [← rr.length, sizeLine_line]; exact hz, fn _ _ φ2 _ _ ((e1.trans e2).trans e4) (((at_.go e1 w1).go e2 w2).go e4 w4) q2⟩
  · cases hl⟩
theorem snds_pop {a : E} {a' : Expr} {apos p3 pos : Pos} (ha : Snd M D k s a a') (hb : methChk a' apos p3 = true) : SndS M D k s (.pop a) (.Expr (.Call (.Attribute a' "pop" apos) [] [] p3) pos) := ⟨fun X EX XT o => by
  unfold methChk at hb
  rw [Bool.and_eq_true] at hb
  refine (ps_expr (pe_bm0 PySem.F.plainAttrs_list PySem.F.slot_list_pop PySem.F.type_list_pop mt_pop (ha.pe X EX XT o.toXOk) (base_of hb.1 _ _ _) hb.2) (by rfl)).imp fun E σ H q => ?_
  obtain ⟨φ, σT, S, K, at_, fx, hw, fn, fr⟩ := q
  refine ⟨φ, σT, S, _, at_, fx, hw, fun x S1 φ1 xv H1 e1 w1 r1 q1 => ?_⟩
  cases eo : ob? S1 x with
  | none => rw [eo] at q1; exact q1.elim
  | some io =>
    obtain ⟨i, ob⟩ := io
    rw [eo] at q1
    cases ob <;> first | exact q1.elim | skip
    rename_i xs
    obtain ⟨hne, q1⟩ := q1
    obtain ⟨rfl, eS⟩ := ob_some eo
    obtain ⟨p, rfl, ep, oa⟩ := r1.refAt w1 eS
    cases oa with
    | @lst _ vs hH rr =>
      have hlen := rr.length
      have hpos : 0 < xs.length := List.length_pos_iff.mpr hne
      have rr' : Reps M φ1 H1 xs.dropLast vs.dropLast := by
        have := rr.take (xs.length - 1)
        rw [List.dropLast_eq_take, List.dropLast_eq_take, ← hlen]
        exact this
      obtain ⟨e4, w4⟩ := wr_lst w1 ep rr'
      have hv : vs.length - 1 < vs.length := by omega
      refine ⟨.inl ⟨rfl, vs, .inl (.inl hH)⟩, p, vs, vs[vs.length - 1], rfl, rfl, hH, List.getElem?_eq_getElem hv, ?_⟩
      exact fn _ _ φ1 _ _ (e1.trans e4) ((at_.go e1 w1).go e4 w4) q1⟩
/-- x = [..] stored at once -/
theorem comp_setE {e : E} {vs : List Nat} {tg : Tg} {it : I} {c : Eo} {e0 : E} {i : Nat} {x : Str} {px : Pos} {e' tg' it' : Expr} {cs' : List Expr} {scope : Scope} {pos spos : Pos} (hx : stChk s i x = true) (hsw : swL s x px (.ListComp e' [⟨tg', it', cs', 0⟩] scope pos) = true)
    (he0 : e0 = .comp e vs tg it c ∨ e0 = .track (.comp e vs tg it c)) (hb : blkChk s vs scope = true) (hs : subAll (tgSlots tg) vs = true) (hi : SndI M D k s tg it it') (hg : chkTg (blkSE s scope) tg tg' = true)
    (hc : SndC M D k (blkSE s scope) c cs') (he : Snd M D k (blkSE s scope) e e') : SndS M D k s (.asg i e0) (.Assign [.Name x px] (.ListComp e' [⟨tg', it', cs', 0⟩] scope pos) spos) := ⟨fun X EX XT o => by
  have ok : BlkOk X.N X.env.scope scope (blkOwn s vs) := by
    unfold blkChk at hb
    rw [Bool.and_eq_true] at hb
    rw [o.N, o.sc]
    exact blkOk_by hb.1
  unfold swL at hsw
  simp only [Bool.and_eq_true, Bool.not_eq_true'] at hsw
  obtain ⟨⟨g1, g2⟩, g3⟩ := hsw
  have g1 : s.sc.names.lookup x = some .local := eq_of_beq g1
  unfold stChk at hx
  simp only [Bool.and_eq_true, decide_eq_true_eq] at hx
  refine (ps_setLc (i := i) (g := gOf X.K tg) o.calm (by rw [o.N]; exact o.nd) (by rw [o.N]; exact hx.1.1) (by rw [o.sc]; exact g1) (sw_true (by rw [o.sc]; exact o.kind) (by rw [o.sc]; exact g1) g2 g3) (hi.pi X EX XT o.toXOk tg' (tgp_tup hg)) ok (fun s0 H C cl fp => pg_of (o.blk hb s0 H C cl fp) hg) (fun s0 H C cl fp => pts_lock (hc.pts _ _ noX (o.blk hb s0 H C cl fp))) (fun s0 H C cl fp => pe_lock (he.pe _ _ noX (o.blk hb s0 H C cl fp))) (hi.fs X.env)).imp fun E σ H q => ?_
  rw [blk_own hb]
  obtain ⟨φ, σT, S, K, at_, fx, hw, fn, fr⟩ := q
  have q : tE M XT EX (wpE D.G (cw D _) e0 XT) σ H (fun x H1 => gName i x σ H1 E.nx) := ⟨φ, σT, S, _, at_, fx, hw, fun t S1 φ1 u H1 e1 w1 r1 q1 => fn _ _ φ1 _ H1 e1 ⟨w1, (at_.go e1 w1).sl.set r1 i⟩ q1⟩
  refine comp_read (subAll_mem hs) ?_
  rcases he0 with rfl | rfl
  · exact tE_tF q
  · exact track_read q⟩
theorem sw_trueD {ek ev : Expr} {gs : List Comprehension} {scope : Scope} {pos py : Pos} {y : Str} {l : Nat} {env : Env} (hk : env.scope.kind = .function) (hy : env.scope.names.lookup y = some .local) (hl : (py.line == pos.line) = true)
    (ha : (scope.names.any fun (n, k) => n == y && (k == .local || k == .cell)) = false) : swapsWith (.DictComp ek ev gs scope pos) (some (.Name y py)) l env = pure true := by
  have q1 : env.kindOf y = some .local := hy
  have q2 : env.blockKind = .function := (by unfold Env.blockKind; rw [hk]; rfl)
  unfold swapsWith
  simp only [q2, q1, ha, Expr.pos, hl]; rfl
/-- x = {..} stored at once -/
theorem dcomp_setE {ke ve : E} {vs : List Nat} {tg : Tg} {it : I} {e0 : E} {i : Nat} {x : Str} {px : Pos} {k' v' tg' it' : Expr} {scope : Scope} {pos spos : Pos} (hx : stChk s i x = true) (hsw : swL s x px (.DictComp k' v' [⟨tg', it', [], 0⟩] scope pos) = true)
    (he0 : e0 = .dcomp ke ve vs tg it ∨ e0 = .track (.dcomp ke ve vs tg it)) (hb : blkChk s vs scope = true) (hs : subAll (tgSlots tg) vs = true) (hi : SndI M D k s tg it it') (hg : chkTg (blkSE s scope) tg tg' = true)
    (hk : Snd M D k (blkSE s scope) ke k') (he : Snd M D k (blkSE s scope) ve v') : SndS M D k s (.asg i e0) (.Assign [.Name x px] (.DictComp k' v' [⟨tg', it', [], 0⟩] scope pos) spos) := ⟨fun X EX XT o => by
  have ok : BlkOk X.N X.env.scope scope (blkOwn s vs) := by
    unfold blkChk at hb
    rw [Bool.and_eq_true] at hb
    rw [o.N, o.sc]
    exact blkOk_by hb.1
  unfold swL at hsw
  simp only [Bool.and_eq_true, Bool.not_eq_true'] at hsw
  obtain ⟨⟨g1, g2⟩, g3⟩ := hsw
  have g1 : s.sc.names.lookup x = some .local := eq_of_beq g1
  unfold stChk at hx
  simp only [Bool.and_eq_true, decide_eq_true_eq] at hx
  refine (ps_setDcx (i := i) (g := gOf X.K tg) o.m (by have := o.units; omega) o.calm (by rw [o.N]; exact o.nd) (by rw [o.N]; exact hx.1.1) (by rw [o.sc]; exact g1) (sw_trueD (by rw [o.sc]; exact o.kind) (by rw [o.sc]; exact g1) g2 g3) (hi.pi X EX XT o.toXOk tg' (tgp_tup hg)) ok (fun s0 H C cl fp => pg_of (o.blk hb s0 H C cl fp) hg) (fun s0 H C cl fp => pe_lock (hk.pe _ _ noX (o.blk hb s0 H C cl fp))) (fun s0 H C cl fp => pe_lock (he.pe _ _ noX (o.blk hb s0 H C cl fp))) (hi.fs X.env)).imp fun E σ H q => ?_
  rw [blk_own hb]
  obtain ⟨φ, σT, S, K, at_, fx, hw, fn, fr⟩ := q
  have q : tE M XT EX (wpE D.G (cw D _) e0 XT) σ H (fun x H1 => gName i x σ H1 E.nx) := ⟨φ, σT, S, _, at_, fx, hw, fun t S1 φ1 u H1 e1 w1 r1 q1 => fn _ _ φ1 _ H1 e1 ⟨w1, (at_.go e1 w1).sl.set r1 i⟩ q1⟩
  refine dcomp_read (subAll_mem hs) ?_
  rcases he0 with rfl | rfl
  · exact tE_tF q
  · exact track_read q⟩
/-- the same, where it is not -/
theorem snds_setC {i : Nat} {e : E} {x : Str} {px : Pos} {el : Expr} {gs : List Comprehension} {sc : Scope} {p0 pos : Pos} (hx : stChk s i x = true) (hn : swL s x px (.ListComp el gs sc p0) = false) (he : Snd M D k s e (.ListComp el gs sc p0)) : SndS M D k s (.asg i e) (.Assign [.Name x px] (.ListComp el gs sc p0) pos) := ⟨fun X EX XT o => by
  unfold stChk at hx
  simp only [Bool.and_eq_true, decide_eq_true_eq] at hx
  obtain ⟨⟨h1, h2⟩, h3⟩ := hx
  obtain ⟨l, f⟩ := o.ow x h2
  have hsw : swapsWith (.ListComp el gs sc p0) (some (.Name x px)) pos.line X.env = pure false := by
    unfold swapsWith
    have hk : X.env.kindOf x = s.sc.names.lookup x := by unfold Env.kindOf; rw [o.sc]
    unfold swL at hn
    simp only [hk, Expr.pos]
    show (pure (_ && _ && _ && _) : Sem Bool) = pure false
    have e : ∀ a b c d : Bool, (b && c && d) = false → (a && b && c && d) = false := by decide
    rw [e _ _ _ _ hn]
  refine (ps_set (i := i) (by rw [o.N]; exact o.nd) (by rw [o.N]; exact h1) (by rw [o.sc]; exact l) (he.pe X EX XT o.toXOk) hsw (by rw [o.sc]; exact f)).imp fun E σ H q => ?_
  obtain ⟨φ, σT, S, K, at_, fx, hw, fn, fr⟩ := q
  exact ⟨φ, σT, S, _, at_, fx, hw, fun t S1 φ1 u H1 e1 w1 r1 q1 => fn _ _ φ1 _ H1 e1 ⟨w1, (at_.go e1 w1).sl.set r1 i⟩ q1⟩⟩
/-- the same of a dict -/
theorem snds_setD {i : Nat} {e : E} {x : Str} {px : Pos} {ek ev : Expr} {gs : List Comprehension} {sc : Scope} {p0 pos : Pos} (hx : stChk s i x = true) (hn : swL s x px (.DictComp ek ev gs sc p0) = false) (he : Snd M D k s e (.DictComp ek ev gs sc p0)) : SndS M D k s (.asg i e) (.Assign [.Name x px] (.DictComp ek ev gs sc p0) pos) := ⟨fun X EX XT o => by
  unfold stChk at hx
  simp only [Bool.and_eq_true, decide_eq_true_eq] at hx
  obtain ⟨⟨h1, h2⟩, h3⟩ := hx
  obtain ⟨l, f⟩ := o.ow x h2
  have hsw : swapsWith (.DictComp ek ev gs sc p0) (some (.Name x px)) pos.line X.env = pure false := by
    unfold swapsWith
    have hk : X.env.kindOf x = s.sc.names.lookup x := by unfold Env.kindOf; rw [o.sc]
    unfold swL at hn
    simp only [hk, Expr.pos]
    show (pure (_ && _ && _ && _) : Sem Bool) = pure false
    have e : ∀ a b c d : Bool, (b && c && d) = false → (a && b && c && d) = false := by decide
    rw [e _ _ _ _ hn]
  refine (ps_set (i := i) (by rw [o.N]; exact o.nd) (by rw [o.N]; exact h1) (by rw [o.sc]; exact l) (he.pe X EX XT o.toXOk) hsw (by rw [o.sc]; exact f)).imp fun E σ H q => ?_
  obtain ⟨φ, σT, S, K, at_, fx, hw, fn, fr⟩ := q
  exact ⟨φ, σT, S, _, at_, fx, hw, fun t S1 φ1 u H1 e1 w1 r1 q1 => fn _ _ φ1 _ H1 e1 ⟨w1, (at_.go e1 w1).sl.set r1 i⟩ q1⟩⟩
end
end PC
/-! PcDictN: dict(a list of pairs), keys tuples. -/
namespace PC
open PySem L2
variable {M : Mo}
section
variable {X : Cx} {φ : List Addr} {S : Mem} {pins : List (Addr × Obj)} {σ : St} {H : Hp} {s : Shared}
theorem stR_keys (k : NestedKey) (a : Addr) (v : Value) : ∀ xs : List Kx, (stR k a v xs).map (·.1) = if k ∈ xs.map (·.1) then xs.map (·.1) else xs.map (·.1) ++ [k]
  | [] => by simp [stR]
  | x :: xs => by
    have ih := stR_keys k a v xs
    unfold stR
    by_cases h : x.1 = k
    · rw [if_pos h, if_pos (by simp [h])]
      rfl
    · rw [if_neg h, List.map_cons, ih]
      by_cases h2 : k ∈ xs.map (·.1)
      · rw [if_pos h2, if_pos (by rw [List.map_cons]; exact List.mem_cons_of_mem _ h2)]
        rfl
      · rw [if_neg h2, if_neg (by rw [List.map_cons, List.mem_cons]; rintro (z | z); exact h z.symm; exact h2 z)]
        rfl
theorem stR_nodup {k : NestedKey} {a : Addr} {v : Value} {xs : List Kx} (h : (xs.map (·.1)).Nodup) : ((stR k a v xs).map (·.1)).Nodup := by
  rw [stR_keys]
  split
  · exact h
  · rename_i hn
    rw [List.nodup_append]
    refine ⟨h, by simp, fun x hx y hy z => ?_⟩
    simp at hy
    subst hy; subst z
    exact hn hx
/-- a pair and where it stands -/
structure PR (M : Mo) (φ : List Addr) (H : Hp) (h : Heap) (p : T × T) (x : Addr × Kx) : Prop where
  kt : kt p.1 = true
  key : keyT p.1 = x.2.1
  rk : Rep M φ H p.1 (.ref x.2.2.1)
  rv : ∃ u, RelV u x.2.2.2 ∧ Rep M φ H p.2 u
  at_ : h.IsTuple x.1 #[.ref x.2.2.1, x.2.2.2]
  is_ : (nestedKind M.P M.w).is h x.2.1 x.2.2.1
theorem pairs_of (I : L2.Inv X pins σ H s) : ∀ {xs : List T} {vs : List V} {its : List Value} {l : List (T × T)}, pairs? xs = some l → (l.all fun p => PC.kt p.1) = true → Reps M φ H xs vs → Vals vs its → ∃ ks : List (Addr × Kx), its = ks.map (fun x => Value.ref x.1) ∧ Paired (PR M φ H s.heap) l ks
  | [], _, _, _, e, _, r, v => by
    cases e; cases r; cases v
    exact ⟨[], rfl, .nil⟩
  | t :: ts, _, _, _, e, hk, r, v => by
    cases r with
    | cons r rs =>
      cases v with
      | cons v vs =>
        unfold pairs? at e
        split at e
        · rename_i e0; cases e0
        · rename_i a b r' e0
          injection e0 with e1 e2
          subst e1 e2
          obtain ⟨l', h1, rfl⟩ := Option.map_eq_some_iff.mp e
          rw [List.all_cons, Bool.and_eq_true] at hk
          obtain ⟨ks, e3, hp⟩ := pairs_of I h1 hk.2 rs vs
          cases r with
          | tup hat hr =>
            cases v
            cases hr with
            | cons ra rb =>
              cases rb with
              | cons rb rn =>
                cases rn
                obtain ⟨its, hv, hl, hz⟩ := I.tuple hat.sq
                obtain ⟨u1, u2, rfl, w1, w2⟩ := vals2 hv
                obtain ⟨c, rfl, ki⟩ := ra.key I hk.1
                cases w1
                exact ⟨(_, (keyT a, c, u2)) :: ks, by rw [e3]; rfl, .cons ⟨hk.1, rfl, ra, ⟨_, w2, rb⟩, hl, ki⟩ hp⟩
        · cases e
theorem storedAll_rel {h : Heap} : ∀ {l : List (T × T)} {ks : List (Addr × Kx)}, Paired (PR M φ H h) l ks → ∀ {kT tT : List T} {xs : List Kx} {vvs : List V}, (xs.map (·.1)).Nodup → Paired KeyIs kT xs → Vals vvs (xs.map (·.2.2)) → Reps M φ H tT vvs → Reps M φ H kT (xs.map fun x => V.ref x.2.1) →
    Paired KeyIs (dofPairs l (kT, tT)).1 (storedAllH xs (ks.map (·.2))) ∧ Reps M φ H (dofPairs l (kT, tT)).1 ((storedAllH xs (ks.map (·.2))).map fun x => V.ref x.2.1) ∧ ∃ vvs', Vals vvs' ((storedAllH xs (ks.map (·.2))).map (·.2.2)) ∧ Reps M φ H (dofPairs l (kT, tT)).2 vvs'
  | [], _, .nil, kT, tT, xs, vvs, hn, p, v, r, rk => ⟨p, rk, vvs, v, r⟩
  | (y, t) :: l, _, .cons (b := x) q qs, kT, tT, xs, vvs, hn, p, v, r, rk => by
    obtain ⟨u, w1, w2⟩ := q.rv
    obtain ⟨g1, g2, vvs', g3, g4, g5⟩ := stR_rel q.kt w2 w1 q.rk p v r rk rfl
    have e : ∀ ls : List (Addr × Kx), storedAllH xs ((x :: ls).map (·.2)) = storedAllH (stR (keyT y) x.2.2.1 x.2.2.2 xs) (ls.map (·.2)) := fun ls => by
      show storedAllH (storedH xs x.2.1 x.2.2.1 x.2.2.2) _ = _
      rw [storedH_eq hn, ← q.key]
    rw [e]
    exact storedAll_rel qs (stR_nodup hn) g1 g3 g4 g2
theorem pairedGet {α β : Type} {F : α → β → Prop} : ∀ {xs : List α} {ys : List β}, Paired F xs ys → ∀ y ∈ ys, ∃ x, F x y
  | _, _, .nil, y, h => by cases h
  | _, _, .cons p ps, y, h => by
    rcases List.mem_cons.mp h with rfl | h
    · exact ⟨_, p⟩
    · exact pairedGet ps y h
theorem dict_new (hM : XM M X) (hc : X.calm = true) (hu : X.A.units + 65 < cLine) (I : L2.Inv X pins σ H s) {a : Addr} {xs : List T} {vs : List V} {l : List (T × T)} {Q : VK} (w : Wd M φ S H) (hl : SqL X.K H a vs) (r : Reps M φ H xs vs) (e : pairs? xs = some l) (hk : (l.all fun p => PC.kt p.1) = true)
    (q : FrL M φ S H (.dct (dofPairs l ([], [])).1 (dofPairs l ([], [])).2) Q) : wpAny (model X.prog X.w) X.A (call (.type "dict") [.ref a]) (EP X pins σ Q) X.xe s := by
  obtain ⟨its, rv, pl, hz⟩ := I.list hl
  obtain ⟨ks, rfl, hp⟩ := pairs_of I e hk r rv
  have hlen := rv.length
  rw [List.length_map] at hlen
  have hat : ∀ (j : Nat) (k v : Value), (ks.map fun x : Addr × Kx => (Value.ref x.2.2.1, x.2.2.2))[j]? = some (k, v) → ∃ x, ks[j]? = some x ∧ k = .ref x.2.2.1 ∧ v = x.2.2.2 := by
    intro j k v h
    rw [List.getElem?_map] at h
    obtain ⟨x, h1, h2⟩ := Option.map_eq_some_iff.mp h
    cases h2
    exact ⟨x, h1, rfl, rfl⟩
  rw [hM.P, hM.w]
  refine call_dict_pairsH (knd := nestedKind M.P M.w) (ps := ks.map (·.2)) (PairArg.list a (ks.map fun x : Addr × Kx => Value.ref x.1).toArray (fun j => ((ks[j]?).map (·.1)).getD 0) (ks.map fun x : Addr × Kx => (Value.ref x.2.2.1, x.2.2.2))) (I.ok.hd hc) (by show X.A.in1.in1.units + 8 < cLine; simp only [Around.in1_units]; omega)
    ⟨pl, ⟨by simp, fun j k v hj => ?_⟩⟩ ⟨by simp, fun i k v hj => ?_⟩ (fun h' hk' x hx => ?_) (by rw [List.length_map]; omega) fun h' tk hd hk' => ?_
  · obtain ⟨x, h1, rfl, rfl⟩ := hat j k v hj
    obtain ⟨p, hpx⟩ := pairedGet hp x (List.mem_of_getElem? h1)
    refine ⟨?_, .inl ?_⟩
    · dsimp only
      rw [List.getElem?_toArray, List.getElem?_map, h1]; rfl
    · dsimp only
      rw [h1]; exact hpx.at_
  · obtain ⟨x, h1, rfl, rfl⟩ := hat i k v hj
    exact ⟨x.2.1, x.2.2.1, by rw [List.getElem?_map, h1]; rfl, rfl⟩
  · obtain ⟨y, hy, rfl⟩ := List.mem_map.mp hx
    obtain ⟨p, hpx⟩ := pairedGet hp y hy
    exact nestedKind_stays.stays (fun b o vs n hb _ => hk' b o (Nat.ne_of_lt (Heap.lt_size hb)) (by simp) hb) hpx.is_
  · obtain ⟨g1, g2, vvs', g3, g4⟩ := storedAll_rel hp (kT := []) (tT := []) (xs := []) (vvs := []) (by simp) .nil .nil .nil .nil
    obtain ⟨o, es, ep, e1, e2, e3, e4, e5, e6⟩ := hd
    have hvl : vvs'.length ≤ sizeLine := by
      have a1 := g3.length
      have a2 := storedAllH_length (ks.map (·.2)) []
      rw [List.length_map] at a1
      simp at a2
      omega
    exact ⟨.ref s.heap.objs.size, _, I.laid (t' := tk) (fun b u hb => hk' b u (by simp) hb) (Nat.le_refl _) (dictHO_ok e1), rfl, q _ o _ vvs' (I.hok.fresh (Nat.le_refl _)) (beq_eq_false_iff_ne.mpr (Nat.ne_of_gt I.big)) hvl (.keyed e2 e3 e4 e6 g1 g3) g2 g4⟩
theorem call_dictN (hM : XM M X) (hc : X.calm = true) (hu : X.A.units + 65 < cLine) : CallR X (biVal .dict) (rBi M .dict) := by
  intro pins s σ H vs us Q I rs h
  obtain ⟨φ, S, xs, z, w, vas, e, k⟩ := h
  unfold biT at e
  split at e <;> first | (rename_i e0; cases e0; done) | skip
  all_goals first | (rename_i e0 _; cases e0; done) | skip
  · obtain ⟨l, e2, e3⟩ := Option.bind_eq_some_iff.mp e
    split at e3
    · rename_i hm
      obtain rfl := Option.some.inj e3
      obtain ⟨v, rfl, va⟩ := vas.one
      obtain ⟨a, ws, rfl, h1, r1⟩ := va.lst_inv
      obtain ⟨u, rfl, ru⟩ := vals1 rs
      cases ru
      exact dict_new hM hc hu I w (.inl h1) r1 e2 hm k
    · cases e3
  · cases e
end
end PC
/-! PcSndT: _law_told(lambda: e) is sound. -/
namespace PC
open PySem L2
variable {M : Mo} {D : Tab} {k : Nat}
theorem OldH.ext {φ : List Addr} {H H' : Hp} (o : OldH H H') : Ext φ H φ H' := ⟨⟨[], by simp, by simp⟩, fun a u h _ _ => o.k a u h, fun a h => by
  cases e : H a with
  | none => exact absurd e h
  | some u => rw [o.k a u e]; simp, fun a ps h _ => ⟨ps, o.t a ps h⟩⟩
theorem OldH.wd {φ : List Addr} {S : Mem} {H H' : Hp} (o : OldH H H') (w : Wd M φ S H) : Wd M φ S H' := w.keep o.ext (fun a m => by
  cases e : H a with
  | none => exact absurd e (w.live m)
  | some u => exact o.k a u e) (w.tb.go0 fun a u h _ => o.k a u h)
theorem lam_wd {φ : List Addr} {S : Mem} {H H1 : Hp} {P c' : Addr} {q : Str} (w : Wd M φ S H) (hm : (P, q) ∈ M.tabs) (hu : ∀ p ∈ M.tabs, p.1 = P → p.2 = q) (ls : LamStep H H1 P c' q) : Ext φ H φ H1 ∧ Wd M φ S H1 := by
  rcases ls with rfl | ⟨ps, more, nC, hP, rfl, ht, hcd⟩
  · exact ⟨Ext.refl _ _, w⟩
  · obtain ⟨nP, ps', hP', _, hco⟩ := w.tb _ hm
    rw [hP] at hP'
    cases hP'
    have nc : c' ∉ φ := w.new nC
    have st : ∀ a o, H a = some o → isTbl o = false → upd (upd H P (.tbl (ps ++ more))) c' (LamX.CodeO c' q) a = some o := fun a o h t => by
      rw [upd_ne (ne_of_none h nC), upd_ne (fun e => by subst e; rw [hP] at h; cases h; cases t)]
      exact h
    have hne : P ≠ c' := ne_of_none hP nC
    have e : Ext φ H φ (upd (upd H P (.tbl (ps ++ more))) c' (LamX.CodeO c' q)) := by
      refine ⟨⟨[], by simp, by simp⟩, fun a o h _ t => st a o h t, fun a h => ?_, fun a qs h n => ?_⟩
      · by_cases e1 : a = c'
        · subst e1; rw [upd_same]; simp
        · rw [upd_ne e1]
          by_cases e2 : a = P
          · subst e2; rw [upd_same]; simp
          · rw [upd_ne e2]; exact h
      · by_cases e1 : a = c'
        · subst e1
          rw [upd_same] at h
          exact absurd (Option.some.inj h) (LamX.codeO_ne qs)
        · rw [upd_ne e1] at h
          by_cases e2 : a = P
          · exact ⟨ps, e2 ▸ hP⟩
          · rw [upd_ne e2] at h; exact ⟨qs, h⟩
    refine ⟨e, w.keep e (fun a m => by rw [upd_ne (fun z : a = c' => nc (by rw [← z]; exact m)), upd_ne (fun z : a = P => nP (by show P ∈ φ; rw [← z]; exact m))]) fun p hp => ?_⟩
    obtain ⟨n1, qs, h1, h2, h3⟩ := w.tb p hp
    have codeK : ∀ {c : Addr}, H c = some (LamX.CodeO c p.2) → upd (upd H P (.tbl (ps ++ more))) c' (LamX.CodeO c' q) c = some (LamX.CodeO c p.2) := fun {c} h => st c _ h rfl
    by_cases ep : p.1 = P
    · have eq : p.2 = q := hu p hp ep
      rw [ep, hP] at h1
      cases h1
      refine ⟨n1, _, by rw [ep, upd_ne hne, upd_same], ht, fun pos cv hc => ?_⟩
      rcases hcd pos cv hc with z | z
      · obtain ⟨c, e1, n2, e2⟩ := h3 pos cv z
        exact ⟨c, e1, n2, codeK e2⟩
      · exact ⟨c', z, nc, by rw [upd_same, eq]⟩
    · refine ⟨n1, qs, by rw [upd_ne (ne_of_none h1 nC), upd_ne ep]; exact h1, h2, fun pos cv hc => ?_⟩
      obtain ⟨c, e1, n2, e2⟩ := h3 pos cv hc
      exact ⟨c, e1, n2, codeK e2⟩
theorem noArgs_of {a : Arguments} (h : noArgs a = true) : a = ⟨[], [], none, [], [], none, []⟩ := by
  obtain ⟨a1, a2, a3, a4, a5, a6, a7⟩ := a
  unfold noArgs at h
  simp only [Bool.and_eq_true, List.isEmpty_iff, Option.isNone_iff_eq_none] at h
  obtain ⟨⟨⟨⟨⟨⟨rfl, rfl⟩, rfl⟩, rfl⟩, rfl⟩, rfl⟩, rfl⟩ := h
  rfl
section
variable {s : SE}
theorem snd_told {e : E} {x : Str} {params : Arguments} {body : Expr} {scope : Scope} {p lpos pos : Pos} (hx : x = ("_law_told" : Str)) (hl : s.lam = true) (hg : glChk s x = true) (ha : noArgs params = true) (hL : LamX.lamSB s.sc scope = true) (he : Snd M D k (lamSE s scope) e body) :
    Snd M D k s (.told e) (.Call (.Name x p) [.Lambda params body scope lpos] [] pos) := by
  subst hx
  have ea := noArgs_of ha
  subst ea
  refine .plain (fun X EX XT o => ?_) (by intros; simp) (fun _ _ => rfl) rfl
  obtain ⟨hr, TT, c, P, hcode, TB, hm, hu⟩ := o.lam hl
  obtain ⟨h1, h2, h3⟩ := o.gl hg
  have L : LamX.LamS X.env.scope scope := by rw [o.sc]; exact LamX.lamS_by hL
  refine (pe_told (k := 5 * k + 1) (t := fun E σ H Q => ∃ XT : Wx, tE M XT E (wpE D.G (cw D k) e XT) σ H Q) TT o.m.K o.m.mg h1 TB hcode hr L rfl (fun _ _ _ _ _ => rfl) fun A outer st H E f c' hr2 => ⟨fun pins st2 σ H2 Q I q => ?_⟩).imp fun σ H Q q => ?_
  · obtain ⟨XT2, q⟩ := q
    have ok : XOk M D k (lamSE s scope) E (lamN X A outer st H E scope f c') :=
      { m := ⟨o.m.P, o.m.w, o.m.K, o.m.mg, o.m.base⟩, lib := o.lib, N := o.N, sc := rfl, fl := o.fl, fns := o.fns, xs := o.xs, nd := o.nd, calm := rfl, room := hr2
        px := by
          have z : Passes (L2N.CX X.prog X.w) (lamN X A outer st H E scope f c') E := L2N.passes_call lamN_takes fun _ _ _ _ h => h
          rw [o.m.P, o.m.w] at z
          exact z
        lam := fun z => by cases z
        ow := fun x hx => by simp [lamSE] at hx }
    exact (he.pe _ E XT2 ok).run pins st2 σ H2 Q I q
  · obtain ⟨φ, σT, S, QT, at_, fx, hw, f⟩ := q
    obtain ⟨_, ps, g1, g2, g3⟩ := at_.wd.tb _ hm
    refine ⟨⟨ps, g1, g2, fun pos cv hc => by obtain ⟨c1, e1, _, e2⟩ := g3 pos cv hc; exact ⟨c1, e1, e2⟩⟩, fun H1 c' ls => ?_⟩
    obtain ⟨e1, w1⟩ := lam_wd at_.wd hm hu ls
    refine ⟨_, φ, σT, S, QT, at_.go e1 w1, fun c0 Ca S1 φ1 H2 hc e2 w2 q2 => ⟨Ca, c0, rfl, rfl, hc, fun H3 qa ob old nq t1 t2 t3 => ?_⟩, hw, f.ext e1⟩
    exact f (.tup [.str "refused", .str c0]) S1 φ1 (.ref qa) H3 ((e1.trans e2).trans old.ext) (old.wd w2) (.tup ⟨ob, t1, t2, t3⟩ (.cons (.str _) (.cons (.str _) .nil))) q2
end
end PC
/-! PcSnd5: list(range(..)). -/
namespace PC
open PySem L2 PyProof.Rows PySem.Spec
variable {M : Mo} {D : Tab} {k : Nat} {s : SE}
theorem rng1_inv {es : Es} {ps : List Expr} (h : rngOk s .lrng1 es ps = true) : ∃ x p a q, ps = [.Call (.Name x p) [a] [] q] ∧ x = ("range" : Str) ∧ glChk s x = true ∧ notStar a = true ∧ esLen es = 1 := by
  unfold rngOk at h
  split at h
  · simp only [Bool.and_eq_true, decide_eq_true_eq] at h
    exact ⟨_, _, _, _, rfl, h.1.1.1, h.1.1.2, h.1.2, h.2⟩
  · rename_i e; cases e
  · cases h
  · cases h
  · rename_i a _ _ _; exact (a rfl).elim
theorem rng2_inv {es : Es} {ps : List Expr} (h : rngOk s .lrng2 es ps = true) : ∃ x p a b q, ps = [.Call (.Name x p) [a, b] [] q] ∧ x = ("range" : Str) ∧ glChk s x = true ∧ notStar a = true ∧ notStar b = true ∧ esLen es = 2 := by
  unfold rngOk at h
  split at h
  · rename_i e; cases e
  · simp only [Bool.and_eq_true, decide_eq_true_eq] at h
    exact ⟨_, _, _, _, _, rfl, h.1.1.1.1, h.1.1.1.2, h.1.1.2, h.1.2, h.2⟩
  · cases h
  · cases h
  · rename_i _ a _ _; exact (a rfl).elim
theorem esLen1 {es : Es} (h : esLen es = 1) : ∃ a, es = .cons a .nil := by
  cases es with
  | nil => simp [esLen] at h
  | cons a r =>
    cases r with
    | nil => exact ⟨a, rfl⟩
    | cons b r => simp [esLen] at h
theorem esLen2 {es : Es} (h : esLen es = 2) : ∃ a b, es = .cons a (.cons b .nil) := by
  cases es with
  | nil => simp [esLen] at h
  | cons a r =>
    cases r with
    | nil => simp [esLen] at h
    | cons b r =>
      cases r with
      | nil => exact ⟨a, b, rfl⟩
      | cons c r => simp [esLen] at h
theorem reps_rg {φ : List Addr} {H : Hp} (a : Int) (n : Nat) : Reps M φ H (rangeT a n) ((List.range n).map fun i => V.int (a + (i : Nat))) := by
  unfold rangeT
  induction (List.range n) with
  | nil => exact .nil
  | cons x l ih => exact .cons (.int _) ih
theorem line_v : line = 16777216 := rfl
theorem snd_lrng1 {a : E} {a' : Expr} {p1 p2 pos q : Pos} (hg : glChk s "list" = true) (hg2 : glChk s "range" = true) (ha : Snd M D k s a a') (hs : notStar a' = true) : Snd M D k s (.bi .lrng1 (.cons a .nil)) (.Call (.Name "list" p1) [.Call (.Name "range" p2) [a'] [] q] [] pos) := by
  refine .fresh (fun X EX XT o => ?_) (by intros; simp) (fun _ _ => rfl)
  obtain ⟨h1, h2, h3⟩ := o.gl hg
  obtain ⟨g1, g2, g3⟩ := o.gl hg2
  refine (pe_listRg o.calm h1 (by rw [o.m.mg]; exact o.lib.blt _ (by decide +kernel)) (prg_1 g1 (by rw [o.m.mg]; exact o.lib.blt _ (by decide +kernel)) (ha.pe X EX XT o) (star_cons hs _ _))).imp fun σ H Q qq => ?_
  obtain ⟨φ, σT, S, QT, at_, fx, hw, f⟩ := qq
  refine ⟨φ, σT, S, _, at_, fx, hw, fun x S1 φ1 v H1 e1 w1 r1 q1 => ?_⟩
  have qa : okO (biT .lrng1 [vw S1 x]) fun z => QT z S1 := q1
  cases hx : biT .lrng1 [vw S1 x] with
  | none => rw [hx] at qa; exact qa.elim
  | some z =>
    rw [hx] at qa
    have hv : ∃ n, vw S1 x = .int n ∧ (-(line : Int) ≤ n ∧ n ≤ line) ∧ z = .lst (rangeT 0 n.toNat) := by
      cases e : vw S1 x <;> rw [e] at hx <;> first | (simp [biT] at hx; done) | skip
      rename_i n
      simp only [biT] at hx
      split at hx
      · rename_i hn; exact ⟨n, rfl, hn, (Option.some.inj hx).symm⟩
      · cases hx
    obtain ⟨n, e2, hn, rfl⟩ := hv
    have hx2 : x = .int n := by
      cases x <;> first | exact e2 | (simp [vw] at e2; done) | skip
      simp only [vw] at e2
      split at e2 <;> cases e2
    subst hx2
    cases r1
    rw [line_v] at hn
    refine ⟨n, rfl, ⟨by omega, by omega, by omega, by omega, by omega⟩, fun p hp => ?_⟩
    have := f (.lst (rangeT 0 n.toNat)) S1 φ1 H1 e1 w1 qa p _ hp (reps_rg 0 n.toNat)
    unfold rgV
    rw [Int.sub_zero]
    exact this
theorem snd_lrng2 {a b : E} {a' b' : Expr} {p1 p2 pos q : Pos} (hg : glChk s "list" = true) (hg2 : glChk s "range" = true) (ha : Snd M D k s a a') (hb : Snd M D k s b b') (hs : notStar a' = true) (hs2 : notStar b' = true) : Snd M D k s (.bi .lrng2 (.cons a (.cons b .nil))) (.Call (.Name "list" p1) [.Call (.Name "range" p2) [a', b'] [] q] [] pos) := by
  refine .fresh (fun X EX XT o => ?_) (by intros; simp) (fun _ _ => rfl)
  obtain ⟨h1, h2, h3⟩ := o.gl hg
  obtain ⟨g1, g2, g3⟩ := o.gl hg2
  refine (pe_listRg o.calm h1 (by rw [o.m.mg]; exact o.lib.blt _ (by decide +kernel)) (prg_2 g1 (by rw [o.m.mg]; exact o.lib.blt _ (by decide +kernel)) (ha.pe X EX XT o) (hb.pe X EX XT o) (star_cons hs _ _) (star_cons hs2 _ _) (by rw [star_cons hs2]; rfl))).imp fun σ H Q qq => ?_
  obtain ⟨φ, σT, S, QT, at_, fx, hw, f⟩ := qq
  refine ⟨φ, σT, S, _, at_, fx, hw, fun x S1 φ1 v H1 e1 w1 r1 q1 => ⟨φ1, σT, S1, _, at_.go e1 w1, fx.ext e1, q1, fun y S2 φ2 u H2 e2 w2 r2 q2 => ?_⟩⟩
  have qa : okO (biT .lrng2 [vw S2 x, vw S2 y]) fun z => QT z S2 := q2
  have notInt : ∀ {S : Mem} {x : T} {n : Int}, vw S x = .int n → x = .int n := fun {S x n} e2 => by
    cases x <;> first | exact e2 | (simp [vw] at e2; done) | skip
    simp only [vw] at e2
    split at e2 <;> cases e2
  cases hx : biT .lrng2 [vw S2 x, vw S2 y] with
  | none => rw [hx] at qa; exact qa.elim
  | some z =>
    rw [hx] at qa
    have hv : ∃ m n, vw S2 x = .int m ∧ vw S2 y = .int n ∧ (-(line : Int) ≤ n ∧ n ≤ line ∧ -(line : Int) ≤ m ∧ m ≤ line ∧ n - m ≤ line) ∧ z = .lst (rangeT m (n - m).toNat) := by
      cases e : vw S2 x <;> rw [e] at hx <;> first | (simp [biT] at hx; done) | skip
      cases e' : vw S2 y <;> rw [e'] at hx <;> first | (simp [biT] at hx; done) | skip
      rename_i m n
      simp only [biT] at hx
      split at hx
      · rename_i hn; exact ⟨m, n, rfl, rfl, hn, (Option.some.inj hx).symm⟩
      · cases hx
    obtain ⟨m, n, e3, e4, hn, rfl⟩ := hv
    have hx2 := notInt e3
    have hy2 := notInt e4
    subst hx2 hy2
    cases r1
    cases r2
    rw [line_v] at hn
    refine ⟨m, n, rfl, rfl, ⟨by omega, by omega, by omega, by omega, by omega⟩, fun p hp => ?_⟩
    exact f (.lst (rangeT m (n - m).toNat)) S2 φ2 H2 (e1.trans e2) w2 qa p _ hp (reps_rg m (n - m).toNat)
end PC
/-! PcAll: the checker is sound. -/
namespace PC
open PySem L2
variable {M : Mo} {D : Tab} {k : Nat}
theorem bi_ok {s : SE} {f : Bi} (hf : f ≠ .lrng1 ∧ f ≠ .lrng2) (X : Cx) (EX : XK) (o : XOk M D k s EX X) : BiOk M X f := by
  by_cases hd : f = .dict
  · subst hd
    exact call_dictN o.m o.calm o.units
  · exact call_bi o.m o.calm f ⟨hd, hf⟩
def comp2C (s : SE) (e : E) (vs : List Nat) (tg : Tg) (it : I) (vs1 : List Nat) (tg1 : Tg) (a : E) : Expr → Bool
  | .ListComp e' [⟨tg', it', [], 0⟩, ⟨tg1', .Call (.Name x _) [a'] [] _, [], 0⟩] scope _ => blkChk s vs scope && subAll (tgSlots tg) vs && subAll (tgSlots tg1) vs1 && subAll vs1 vs && !tgPair tg1 && chkI s (tgPair tg) it it' && chkTg (blkSE s scope) tg tg' &&
      chkTg (blkSE s scope) tg1 tg1' && decide (x = ("range" : Str)) && glChk (blkSE s scope) x && chkE (blkSE s scope) a a' && notStar a' && chkE (blkSE s scope) e e'
  | _ => false
theorem comp2_chk (s : SE) (e : E) (vs : List Nat) (tg : Tg) (it : I) (vs1 : List Nat) (tg1 : Tg) (a : E) (p : Expr) : comp2C s e vs tg it vs1 tg1 a p = chkE s (.comp2 e vs tg it .none vs1 tg1 (.rng1 a) .none) p := by
  unfold comp2C
  split
  · rw [chkE]
  · rename_i hne
    symm
    unfold chkE
    split <;> first | rfl | skip
    all_goals first | (rename_i heq; cases heq; done) | skip
    all_goals first | (rename_i heq _; cases heq; done) | skip
    all_goals first | exact (hne _ _ _ _ _ _ _ _ _ rfl).elim | exact (hne _ _ _ _ _ _ _ _ _ _ rfl).elim | exact (hne _ _ _ _ _ _ _ _ rfl).elim | exact (hne _ _ _ _ _ _ _ _ _ _ _ rfl).elim
mutual
theorem sndE (M : Mo) (D : Tab) (k : Nat) : ∀ (e : E) (s : SE) (p : Expr), chkE s e p = true → Snd M D k s e p
  | .var i, s, p, h => by
    cases p <;> first | (simp [chkE] at h; done) | skip
    simp only [chkE] at h
    exact snd_var h
  | .glob x, s, p, h => by
    cases p <;> first | (simp [chkE] at h; done) | skip
    simp only [chkE, Bool.and_eq_true, decide_eq_true_eq] at h
    obtain ⟨rfl, h⟩ := h
    exact snd_glob h
  | .int i, s, p, h => by
    cases p <;> first | (simp [chkE] at h; done) | skip
    rename_i c j pos
    cases c <;> first | (simp [chkE] at h; done) | skip
    simp only [chkE, decide_eq_true_eq] at h
    subst h
    exact snd_int
  | .bl b, s, p, h => by
    cases p <;> first | (simp [chkE] at h; done) | skip
    rename_i c j pos
    cases c <;> first | (simp [chkE] at h; done) | skip
    simp only [chkE, decide_eq_true_eq] at h
    subst h
    exact snd_bl
  | .str x, s, p, h => by
    cases p <;> first | (simp [chkE] at h; done) | skip
    rename_i c j pos
    cases c <;> first | (simp [chkE] at h; done) | skip
    simp only [chkE, decide_eq_true_eq] at h
    subst h
    exact snd_str
  | .non, s, p, h => by
    cases p <;> first | (simp [chkE] at h; done) | skip
    rename_i c j pos
    cases c <;> first | (simp [chkE] at h; done) | skip
    exact snd_non
  | .bin op a b, s, p, h => by
    cases p <;> first | (simp [chkE] at h; done) | skip
    simp only [chkE, Bool.and_eq_true, decide_eq_true_eq] at h
    obtain ⟨⟨rfl, h1⟩, h2⟩ := h
    exact snd_bin (sndE M D k a s _ h1) (sndE M D k b s _ h2)
  | .neg a, s, p, h => by
    cases p <;> first | (simp [chkE] at h; done) | skip
    rename_i op q pos
    cases op <;> first | (simp [chkE] at h; done) | skip
    simp only [chkE] at h
    exact snd_neg (sndE M D k a s _ h)
  | .cmp op a b, s, p, h => by
    cases p <;> first | (simp [chkE] at h; done) | skip
    rename_i l ops rs pos
    rcases ops with _ | ⟨o1, _ | ⟨o2, ops⟩⟩ <;> first | (simp [chkE] at h; done) | skip
    rcases rs with _ | ⟨r1, _ | ⟨r2, rs⟩⟩ <;> first | (simp [chkE] at h; done) | skip
    simp only [chkE, Bool.and_eq_true, decide_eq_true_eq] at h
    obtain ⟨⟨⟨rfl, h1⟩, h2⟩, h3⟩ := h
    exact snd_cmp (sndE M D k a s _ h1) (sndE M D k b s _ h2) h3
  | .chain o1 o2 a b c, s, p, h => by
    cases p <;> first | (simp [chkE] at h; done) | skip
    rename_i l ops rs pos
    rcases ops with _ | ⟨p1, _ | ⟨p2, _ | ⟨p3, ops⟩⟩⟩ <;> first | (simp [chkE] at h; done) | skip
    rcases rs with _ | ⟨r1, _ | ⟨r2, _ | ⟨r3, rs⟩⟩⟩ <;> first | (simp [chkE] at h; done) | skip
    simp only [chkE, Bool.and_eq_true, decide_eq_true_eq] at h
    obtain ⟨⟨⟨⟨⟨rfl, rfl⟩, h1⟩, h2⟩, h3⟩, h4⟩ := h
    exact snd_chain (sndE M D k a s _ h1) (sndE M D k b s _ h2) (sndE M D k c s _ h3) h4
  | .and a b, s, p, h => by
    cases p <;> first | (simp [chkE] at h; done) | skip
    rename_i op l pos
    cases op <;> first | (simp [chkE] at h; done) | skip
    rcases l with _ | ⟨x, _ | ⟨y, r⟩⟩ <;> first | (simp [chkE] at h; done) | skip
    cases r with
    | nil =>
      simp only [chkE, Bool.and_eq_true] at h
      exact snd_and (sndE M D k a s _ h.1) (sndE M D k b s _ h.2).oneAnd
    | cons z r =>
      simp only [chkE, Bool.and_eq_true] at h
      exact snd_and (sndE M D k a s _ h.1) (sndE M D k b s _ h.2).b
  | .or a b, s, p, h => by
    cases p <;> first | (simp [chkE] at h; done) | skip
    rename_i op l pos
    cases op <;> first | (simp [chkE] at h; done) | skip
    rcases l with _ | ⟨x, _ | ⟨y, r⟩⟩ <;> first | (simp [chkE] at h; done) | skip
    cases r with
    | nil =>
      simp only [chkE, Bool.and_eq_true] at h
      exact snd_or (sndE M D k a s _ h.1) (sndE M D k b s _ h.2).oneOr
    | cons z r =>
      simp only [chkE, Bool.and_eq_true] at h
      exact snd_or (sndE M D k a s _ h.1) (sndE M D k b s _ h.2).b
  | .not a, s, p, h => by
    cases p <;> first | (simp [chkE] at h; done) | skip
    rename_i op q pos
    cases op <;> first | (simp [chkE] at h; done) | skip
    simp only [chkE] at h
    exact snd_not (sndE M D k a s _ h)
  | .ife c a b, s, p, h => by
    cases p <;> first | (simp [chkE] at h; done) | skip
    simp only [chkE, Bool.and_eq_true, decide_eq_true_eq] at h
    exact snd_ife (sndE M D k c s _ h.1.1) (sndE M D k a s _ h.1.2) (sndE M D k b s _ h.2)
  | .tup es, s, p, h => by
    cases p <;> first | (simp [chkE] at h; done) | skip
    simp only [chkE, Bool.and_eq_true, decide_eq_true_eq] at h
    exact snd_tup (sndEs M D k es s _ h.2) h.1
  | .lst es, s, p, h => by
    cases p <;> first | (simp [chkE] at h; done) | skip
    simp only [chkE, Bool.and_eq_true, decide_eq_true_eq] at h
    exact snd_lst (sndEs M D k es s _ h.2) h.1
  | .dct0, s, p, h => by
    cases p <;> first | (simp [chkE] at h; done) | skip
    rename_i ks vs pos
    cases ks <;> cases vs <;> first | (simp [chkE] at h; done) | skip
    exact snd_dct0
  | .dct1 k v, s, p, h => by
    cases p <;> simp [chkE] at h
  | .idx a b, s, p, h => by
    cases p <;> first | (simp [chkE] at h; done) | skip
    simp only [chkE, Bool.and_eq_true, decide_eq_true_eq] at h
    exact snd_idx (sndE M D k a s _ h.1.1) (sndE M D k b s _ h.1.2) h.2
  | .slc a lo hi, s, p, h => by
    cases p <;> first | (simp [chkE] at h; done) | skip
    rename_i q sl pos
    cases sl <;> first | (simp [chkE] at h; done) | skip
    rename_i lo' hi' st p2
    cases st <;> first | (simp [chkE] at h; done) | skip
    simp only [chkE, Bool.and_eq_true, decide_eq_true_eq] at h
    exact snd_slc (sndE M D k a s _ h.1.1) (sndO M D k lo s _ h.1.2) (sndO M D k hi s _ h.2)
  | .rev a, s, p, h => by
    cases p <;> simp [chkE] at h
  | .attr a f, s, p, h => by
    cases p <;> first | (simp [chkE] at h; done) | skip
    simp only [chkE, Bool.and_eq_true, decide_eq_true_eq] at h
    obtain ⟨⟨⟨rfl, h1⟩, h2⟩, h3⟩ := h
    exact snd_attr (sndE M D k a s _ h2) h1 h3
  | .call g es, s, p, h => by
    cases p <;> first | (simp [chkE] at h; done) | skip
    rename_i fn args kws pos
    cases fn <;> first | (simp [chkE] at h; done) | skip
    cases kws <;> first | (simp [chkE] at h; done) | skip
    simp only [chkE, Bool.and_eq_true, decide_eq_true_eq] at h
    obtain ⟨⟨⟨rfl, h1⟩, h2⟩, h3⟩ := h
    exact snd_call h2 h1 (sndEs M D k es s _ h3)
  | .meth a C m es, s, p, h => by
    cases p <;> first | (simp [chkE] at h; done) | skip
    rename_i fn args kws pos
    cases fn <;> first | (simp [chkE] at h; done) | skip
    cases kws <;> first | (simp [chkE] at h; done) | skip
    simp only [chkE, Bool.and_eq_true, decide_eq_true_eq] at h
    obtain ⟨⟨⟨⟨⟨⟨rfl, h1⟩, h2⟩, h3⟩, h4⟩, h5⟩, h6⟩ := h
    unfold methChk at h5
    rw [Bool.and_eq_true] at h5
    exact snd_meth (sndE M D k a s _ h3) h5.1 h1 h2 (sndEs M D k es s _ h4) h5.2 h6
  | .mk C es, s, p, h => by
    cases p <;> first | (simp [chkE] at h; done) | skip
    rename_i fn args kws pos
    cases fn <;> first | (simp [chkE] at h; done) | skip
    cases kws <;> first | (simp [chkE] at h; done) | skip
    simp only [chkE, Bool.and_eq_true, decide_eq_true_eq] at h
    obtain ⟨⟨⟨⟨rfl, h1⟩, h2⟩, h3⟩, h4⟩ := h
    exact snd_mk h3 h1 h2 (sndEs M D k es s _ h4)
  | .bi f es, s, p, h => by
    cases p <;> first | (simp [chkE] at h; done) | skip
    rename_i fn args kws pos
    cases fn <;> first | (simp [chkE] at h; done) | skip
    cases kws <;> first | (simp [chkE] at h; done) | skip
    simp only [chkE, Bool.and_eq_true, decide_eq_true_eq] at h
    obtain ⟨⟨⟨⟨rfl, h1⟩, h3⟩, h4⟩, h5⟩ := h
    by_cases hf : f = .lrng1 ∨ f = .lrng2
    · rcases hf with rfl | rfl
      · obtain ⟨x, p, a', q, rfl, rfl, g1, g2, g3⟩ := rng1_inv h4
        cases es with
        | nil => simp [esLen] at g3
        | cons a r =>
          cases r with
          | cons b r => simp [esLen] at g3
          | nil =>
            simp only [rngArgs, chkEs, Bool.and_eq_true] at h5
            exact snd_lrng1 h1 g1 (sndE M D k a s _ h5.1.2) g2
      · obtain ⟨x, p, a', b', q, rfl, rfl, g1, g2, g4, g3⟩ := rng2_inv h4
        cases es with
        | nil => simp [esLen] at g3
        | cons a r =>
          cases r with
          | nil => simp [esLen] at g3
          | cons b r =>
            cases r with
            | cons c r => simp [esLen] at g3
            | nil =>
              simp only [rngArgs, chkEs, Bool.and_eq_true] at h5
              exact snd_lrng2 h1 g1 (sndE M D k a s _ h5.1.2) (sndE M D k b s _ h5.2.1.2) g2 g4
    · have e : rngArgs f args = args := by
        unfold rngArgs
        split <;> first | rfl | exact absurd (Or.inl rfl) hf | exact absurd (Or.inr rfl) hf
      rw [e] at h5
      exact snd_bi h1 h3 (sndEs M D k es s _ h5) fun X EX o => bi_ok ⟨fun z => hf (.inl z), fun z => hf (.inr z)⟩ X EX o
  | .bid f a d, s, p, h => by
    cases p <;> first | (simp [chkE] at h; done) | skip
    rename_i fn args kws pos
    cases fn <;> first | (simp [chkE] at h; done) | skip
    rcases args with _ | ⟨a', _ | ⟨b', args⟩⟩ <;> first | (simp [chkE] at h; done) | skip
    rcases kws with _ | ⟨⟨nm, d', kp⟩, _ | ⟨q, kws⟩⟩ <;> first | (simp [chkE] at h; done) | skip
    · cases nm <;> first | (simp [chkE] at h; done) | skip
      simp only [chkE, Bool.and_eq_true, decide_eq_true_eq] at h
      obtain ⟨⟨⟨⟨⟨⟨rfl, h1⟩, h2⟩, rfl⟩, h3⟩, h4⟩, h5⟩ := h
      exact snd_bid h1 h2 (sndE M D k a s _ h3) (sndE M D k d s _ h4) h5
  | .bm a m es, s, p, h => by
    cases p <;> first | (simp [chkE] at h; done) | skip
    rename_i fn args kws pos
    cases fn <;> first | (simp [chkE] at h; done) | skip
    cases kws <;> first | (simp [chkE] at h; done) | skip
    simp only [chkE, Bool.and_eq_true, decide_eq_true_eq] at h
    obtain ⟨⟨⟨⟨⟨⟨rfl, h0⟩, h1⟩, h2⟩, h3⟩, h4⟩, h5⟩ := h
    exact snd_bm (bmOk_of h0) (sndE M D k a s _ h1) (sndEs M D k es s _ h2) h3 h4 h5
  | .isi a t, s, p, h => by
    cases p <;> first | (simp [chkE] at h; done) | skip
    rename_i fn args kws pos
    cases fn <;> first | (simp [chkE] at h; done) | skip
    cases kws <;> first | (simp [chkE] at h; done) | skip
    · rcases args with _ | ⟨a', _ | ⟨b', _ | ⟨c', args⟩⟩⟩ <;> first | (simp [chkE] at h; done) | skip
      cases b' <;> first | (simp [chkE] at h; done) | skip
      simp only [chkE, Bool.and_eq_true, decide_eq_true_eq] at h
      obtain ⟨⟨⟨⟨⟨rfl, h1⟩, rfl⟩, h2⟩, h3⟩, h4⟩ := h
      exact snd_isi h1 h2 (sndE M D k a s _ h3) h4
  | .comp e vs tg it c, s, p, h => by
    cases p <;> first | (simp [chkE] at h; done) | skip
    rename_i el gs scope pos
    rcases gs with _ | ⟨⟨tg', it', cs', as⟩, _ | ⟨g2, gs⟩⟩ <;> first | (simp [chkE] at h; done) | skip
    · by_cases ea : as = 0
      · subst ea
        simp only [chkE, Bool.and_eq_true] at h
        obtain ⟨⟨⟨⟨⟨h1, h2⟩, h3⟩, h4⟩, h5⟩, h6⟩ := h
        exact snd_comp h1 h2 (sndI M D k it s tg _ h3) h4 (sndC M D k c _ _ h5) (sndE M D k e _ _ h6)
      · exact absurd h (by unfold chkE; split <;> simp_all)
  | .comp2 e vs tg it c vs1 tg1 it1 c1, s, p, h => by
    cases c <;> first | (simp [chkE] at h; done) | skip
    cases c1 <;> first | (simp [chkE] at h; done) | skip
    cases it1 <;> first | (simp [chkE] at h; done) | skip
    rename_i a
    cases p <;> first | (simp [chkE] at h; done) | skip
    rename_i el gs scope pos
    have h : comp2C s e vs tg it vs1 tg1 a (.ListComp el gs scope pos) = true := by rw [← h, comp2_chk]
    unfold comp2C at h
    split at h
    · rename_i heq
      cases heq
      simp only [Bool.and_eq_true, decide_eq_true_eq, Bool.not_eq_true'] at h
      obtain ⟨⟨⟨⟨⟨⟨⟨⟨⟨⟨⟨⟨h1, h2⟩, h3⟩, h4⟩, h5⟩, h6⟩, h7⟩, h8⟩, rfl⟩, h10⟩, h11⟩, h12⟩, h13⟩ := h
      exact snd_comp2 h1 h2 h3 h4 h5 (sndI M D k it s tg _ h6) h7 h8 h10 (sndE M D k a _ _ h11) h12 (sndE M D k e _ _ h13)
    · cases h
  | .dcomp ke ve vs tg it, s, p, h => by
    cases p <;> first | (simp [chkE] at h; done) | skip
    rename_i k' v' gs scope pos
    rcases gs with _ | ⟨⟨tg', it', cs', as⟩, _ | ⟨g2, gs⟩⟩ <;> first | (simp [chkE] at h; done) | skip
    cases cs' with
    | nil =>
      by_cases ea : as = 0
      · subst ea
        simp only [chkE, Bool.and_eq_true] at h
        obtain ⟨⟨⟨⟨⟨h1, h2⟩, h3⟩, h4⟩, h5⟩, h6⟩ := h
        exact snd_dcomp h1 h2 (sndI M D k it s tg _ h3) h4 (sndE M D k ke _ _ h5) (sndE M D k ve _ _ h6)
      · exact absurd h (by unfold chkE; split <;> simp_all)
    | cons c cs => exact absurd h (by simp [chkE])
  | .track e, s, p, h => by
    have h : (freshE e && plainP p && chkE s e p) = true := by rw [chkE] at h; exact h
    simp only [Bool.and_eq_true] at h
    exact snd_track h.1.1 h.1.2 (sndE M D k e s _ h.2)
  | .told e, s, p, h => by
    cases p <;> first | (simp [chkE] at h; done) | skip
    rename_i fn args kws pos
    cases fn <;> first | (simp [chkE] at h; done) | skip
    cases kws <;> first | (simp [chkE] at h; done) | skip
    rcases args with _ | ⟨a', _ | ⟨b', args⟩⟩ <;> first | (simp [chkE] at h; done) | skip
    cases a' <;> first | (simp [chkE] at h; done) | skip
    simp only [chkE, Bool.and_eq_true, decide_eq_true_eq] at h
    obtain ⟨⟨⟨⟨⟨h1, h2⟩, h3⟩, h4⟩, h5⟩, h6⟩ := h
    exact snd_told h1 h2 h3 h4 h5 (sndE M D k e _ _ h6)
theorem sndEs (M : Mo) (D : Tab) (k : Nat) : ∀ (es : Es) (s : SE) (ps : List Expr), chkEs s es ps = true → SndA M D k s es ps
  | .nil, s, ps, h => by
    cases ps <;> first | (simp [chkEs] at h; done) | skip
    exact snd_nil
  | .cons e es, s, ps, h => by
    cases ps <;> first | (simp [chkEs] at h; done) | skip
    simp only [chkEs, Bool.and_eq_true] at h
    exact snd_cons h.1.1 (sndE M D k e s _ h.1.2) (sndEs M D k es s _ h.2)
theorem sndO (M : Mo) (D : Tab) (k : Nat) : ∀ (e : Eo) (s : SE) (p : Option Expr), chkO s e p = true → SndO M D k s e p
  | .none, s, p, h => by
    cases p <;> first | (simp [chkO] at h; done) | skip
    exact snd_onone
  | .some e, s, p, h => by
    cases p <;> first | (simp [chkO] at h; done) | skip
    simp only [chkO] at h
    exact snd_osome (sndE M D k e s _ h)
theorem sndC (M : Mo) (D : Tab) (k : Nat) : ∀ (e : Eo) (s : SE) (p : List Expr), chkC s e p = true → SndC M D k s e p
  | .none, s, p, h => by
    cases p <;> first | (simp [chkC] at h; done) | skip
    exact sndC_none
  | .some e, s, p, h => by
    rcases p with _ | ⟨a, _ | ⟨b, p⟩⟩ <;> first | (simp [chkC] at h; done) | skip
    simp only [chkC] at h
    exact sndC_some (sndE M D k e s _ h)
theorem sndI (M : Mo) (D : Tab) (k : Nat) : ∀ (it : I) (s : SE) (tg : Tg) (p : Expr), chkI s (tgPair tg) it p = true → SndI M D k s tg it p
  | .val e, s, tg, p, h => by
    have h : (chkE s e p && notSet p) = true := by rw [chkI] at h; exact h
    rw [Bool.and_eq_true] at h
    exact sndI_val (sndE M D k e s _ h.1) h.2
  | .live e, s, tg, p, h => by
    have h : (chkE s e p && notSet p) = true := by rw [chkI] at h; exact h
    rw [Bool.and_eq_true] at h
    exact sndI_live (sndE M D k e s _ h.1) h.2
  | .rng1 a, s, tg, p, h => by
    cases p <;> first | (simp [chkI] at h; done) | skip
    rename_i fn args kws pos
    cases fn <;> first | (simp [chkI] at h; done) | skip
    cases kws <;> first | (rcases args with _ | ⟨a', _ | ⟨b', _ | ⟨c', args⟩⟩⟩ <;> simp [chkI] at h; done) | skip
    rcases args with _ | ⟨a', _ | ⟨b', _ | ⟨c', args⟩⟩⟩ <;> first | (simp [chkI] at h; done) | skip
    simp only [chkI, Bool.and_eq_true, decide_eq_true_eq] at h
    obtain ⟨⟨⟨rfl, h1⟩, h2⟩, h3⟩ := h
    exact sndI_rng1 h1 (sndE M D k a s _ h2) h3
  | .rng2 a b, s, tg, p, h => by
    cases p <;> first | (simp [chkI] at h; done) | skip
    rename_i fn args kws pos
    cases fn <;> first | (simp [chkI] at h; done) | skip
    cases kws <;> first | (rcases args with _ | ⟨a', _ | ⟨b', _ | ⟨c', args⟩⟩⟩ <;> simp [chkI] at h; done) | skip
    rcases args with _ | ⟨a', _ | ⟨b', _ | ⟨c', args⟩⟩⟩ <;> first | (simp [chkI] at h; done) | skip
    simp only [chkI, Bool.and_eq_true, decide_eq_true_eq] at h
    obtain ⟨⟨⟨⟨⟨rfl, h1⟩, h2⟩, h3⟩, h4⟩, h5⟩ := h
    exact sndI_rng2 h1 (sndE M D k a s _ h2) (sndE M D k b s _ h3) h4 h5
  | .enum a, s, tg, p, h => by
    cases p <;> first | (simp [chkI] at h; done) | skip
    rename_i fn args kws pos
    cases fn <;> first | (simp [chkI] at h; done) | skip
    cases kws <;> first | (rcases args with _ | ⟨a', _ | ⟨b', _ | ⟨c', args⟩⟩⟩ <;> simp [chkI] at h; done) | skip
    rcases args with _ | ⟨a', _ | ⟨b', _ | ⟨c', args⟩⟩⟩ <;> first | (simp [chkI] at h; done) | skip
    simp only [chkI, Bool.and_eq_true, decide_eq_true_eq] at h
    obtain ⟨⟨⟨⟨h0, rfl⟩, h1⟩, h2⟩, h3⟩ := h
    exact sndI_enum h0 h1 (sndE M D k a s _ h2) h3
  | .zip a b, s, tg, p, h => by
    cases p <;> first | (simp [chkI] at h; done) | skip
    rename_i fn args kws pos
    cases fn <;> first | (simp [chkI] at h; done) | skip
    cases kws <;> first | (rcases args with _ | ⟨a', _ | ⟨b', _ | ⟨c', args⟩⟩⟩ <;> simp [chkI] at h; done) | skip
    rcases args with _ | ⟨a', _ | ⟨b', _ | ⟨c', args⟩⟩⟩ <;> first | (simp [chkI] at h; done) | skip
    simp only [chkI, Bool.and_eq_true, decide_eq_true_eq] at h
    obtain ⟨⟨⟨⟨⟨⟨h0, rfl⟩, h1⟩, h2⟩, h3⟩, h4⟩, h5⟩ := h
    exact sndI_zip h0 h1 (sndE M D k a s _ h2) (sndE M D k b s _ h3) h4 h5
end
section
variable {s : SE}
theorem comp_go {i : Nat} {e : E} {x : Str} {px : Pos} {el : Expr} {gs : List Comprehension} {sc : Scope} {p0 pos : Pos} (h1 : stChk s i x = true) (hw : swL s x px (.ListComp el gs sc p0) = true) (e1 : E) (vs : List Nat) (tg : Tg) (it : I) (c : Eo) (h3 : chkE s (.comp e1 vs tg it c) (.ListComp el gs sc p0) = true)
    (he : e = .comp e1 vs tg it c ∨ e = .track (.comp e1 vs tg it c)) : SndS M D k s (.asg i e) (.Assign [.Name x px] (.ListComp el gs sc p0) pos) := by
  rcases gs with _ | ⟨⟨tg', it', cs', as⟩, _ | ⟨g2, gs⟩⟩ <;> first | (simp [chkE] at h3; done) | skip
  by_cases ea : as = 0
  · subst ea
    simp only [chkE, Bool.and_eq_true] at h3
    obtain ⟨⟨⟨⟨⟨g1, g2⟩, g3⟩, g4⟩, g5⟩, g6⟩ := h3
    exact comp_setE h1 hw he g1 g2 (sndI M D k it s tg _ g3) g4 (sndC M D k c _ _ g5) (sndE M D k e1 _ _ g6)
  · exact absurd h3 (by unfold chkE; split <;> simp_all)
theorem dcomp_go {i : Nat} {e : E} {x : Str} {px : Pos} {ek ev : Expr} {gs : List Comprehension} {sc : Scope} {p0 pos : Pos} (h1 : stChk s i x = true) (hw : swL s x px (.DictComp ek ev gs sc p0) = true) (ke ve : E) (vs : List Nat) (tg : Tg) (it : I) (h3 : chkE s (.dcomp ke ve vs tg it) (.DictComp ek ev gs sc p0) = true)
    (he : e = .dcomp ke ve vs tg it ∨ e = .track (.dcomp ke ve vs tg it)) : SndS M D k s (.asg i e) (.Assign [.Name x px] (.DictComp ek ev gs sc p0) pos) := by
  rcases gs with _ | ⟨⟨tg', it', cs', as⟩, _ | ⟨g2, gs⟩⟩ <;> first | (simp [chkE] at h3; done) | skip
  cases cs' with
  | nil =>
    by_cases ea : as = 0
    · subst ea
      simp only [chkE, Bool.and_eq_true] at h3
      obtain ⟨⟨⟨⟨⟨g1, g2⟩, g3⟩, g4⟩, g5⟩, g6⟩ := h3
      exact dcomp_setE h1 hw he g1 g2 (sndI M D k it s tg _ g3) g4 (sndE M D k ke _ _ g5) (sndE M D k ve _ _ g6)
    · exact absurd h3 (by unfold chkE; split <;> simp_all)
  | cons c cs => exact absurd h3 (by simp [chkE])
theorem asg_ok {i : Nat} {e : E} {p : Stmt} (h : asgC s i e p = true) : SndS M D k s (.asg i e) p := by
  unfold asgC at h
  split at h
  · rename_i x px v pos
    simp only [Bool.and_eq_true, Bool.or_eq_true] at h
    obtain ⟨⟨h1, h2⟩, h3⟩ := h
    by_cases hn : notComp v = true
    · exact snds_set h1 hn (sndE M D k e s _ h3)
    · cases v <;> first | (exact absurd rfl hn) | (rcases h2 with h2 | h2 <;> cases h2; done) | skip
      case neg.DictComp =>
        rename_i ek ev gs sc p0
        by_cases hw : swL s x px (.DictComp ek ev gs sc p0) = true
        · cases e <;> first | (simp [chkE] at h3; done) | skip
          · exact dcomp_go h1 hw _ _ _ _ _ h3 (.inl rfl)
          · rename_i e
            have h4 : (freshE e && plainP (.DictComp ek ev gs sc p0) && chkE s e (.DictComp ek ev gs sc p0)) = true := by rw [chkE] at h3; exact h3
            simp only [Bool.and_eq_true] at h4
            cases e <;> first | (simp [freshE] at h4; done) | (simp [chkE] at h4; done) | skip
            exact dcomp_go h1 hw _ _ _ _ _ h4.2 (.inr rfl)
        · exact snds_setD h1 (by simpa using hw) (sndE M D k e s _ h3)
      rename_i el gs sc p0
      obtain ⟨g0, rfl⟩ : ∃ g0, gs = [g0] := by
        rcases gs with _ | ⟨g0, _ | ⟨g1, gs⟩⟩ <;> first | (rcases h2 with h2 | h2 <;> cases h2; done) | exact ⟨_, rfl⟩
      by_cases hw : swL s x px (.ListComp el [g0] sc p0) = true
      · cases e <;> first | (simp [chkE] at h3; done) | skip
        · exact comp_go h1 hw _ _ _ _ _ h3 (.inl rfl)
        · rename_i e
          have h4 : (freshE e && plainP (.ListComp el [g0] sc p0) && chkE s e (.ListComp el [g0] sc p0)) = true := by rw [chkE] at h3; exact h3
          simp only [Bool.and_eq_true] at h4
          cases e <;> first | (simp [freshE] at h4; done) | (simp [chkE] at h4; done) | skip
          exact comp_go h1 hw _ _ _ _ _ h4.2 (.inr rfl)
      · exact snds_setC h1 (by simpa using hw) (sndE M D k e s _ h3)
  · cases h
theorem asgT_ok {tg : Tg} {e : E} {p : Stmt} (h : asgTC s tg e p = true) : SndS M D k s (.asgT tg e) p := by
  unfold asgTC at h
  split at h
  · simp only [Bool.and_eq_true, Bool.not_eq_true'] at h
    exact snds_asgT h.1.1.1 h.1.1.2 h.1.2 (sndE M D k e s _ h.2)
  · cases h
theorem par2_ok {i j : Nat} {es : Es} {p : Stmt} (h : par2C s i j es p = true) : SndS M D k s (.par (.two i j) es) p := by
  unfold par2C at h
  split at h
  · simp only [Bool.and_eq_true, Bool.not_eq_true', beq_eq_false_iff_ne] at h
    exact snds_par2 h.1.1.1.1 h.1.1.1.2 h.1.1.2 h.1.2 (sndEs M D k es s _ h.2)
  · cases h
theorem par3_ok {i j l : Nat} {es : Es} {p : Stmt} (h : par3C s i j l es p = true) : SndS M D k s (.par (.three i j l) es) p := by
  unfold par3C at h
  split at h
  · simp only [Bool.and_eq_true, Bool.not_eq_true', beq_eq_false_iff_ne] at h
    obtain ⟨⟨⟨⟨⟨⟨⟨g1, g2⟩, g3⟩, g4⟩, g5⟩, g6⟩, g7⟩, g8⟩ := h
    exact snds_par3 g1 g2 g3 g4 g5 g6 g7 (sndEs M D k es s _ g8)
  · cases h
theorem setIdx_ok {a b e : E} {p : Stmt} (h : setIdxC s a b e p = true) : SndS M D k s (.setIdx a b e) p := by
  unfold setIdxC at h
  split at h
  · simp only [Bool.and_eq_true] at h
    exact snds_setIdx h.1.1.1 (sndE M D k e s _ h.1.1.2) (sndE M D k a s _ h.1.2) (sndE M D k b s _ h.2)
  · cases h
theorem setAttr_ok {a e : E} {f : Str} {p : Stmt} (h : setAttrC s a f e p = true) : SndS M D k s (.setAttr a f e) p := by
  unfold setAttrC at h
  split at h
  · simp only [Bool.and_eq_true, decide_eq_true_eq] at h
    obtain ⟨⟨⟨rfl, h1⟩, h2⟩, h3⟩ := h
    exact snds_setAttr h1 (sndE M D k e s _ h2) (sndE M D k a s _ h3)
  · cases h
theorem pop_ok {a : E} {p : Stmt} (h : popC s a p = true) : SndS M D k s (.pop a) p := by
  unfold popC at h
  split at h
  · simp only [Bool.and_eq_true, decide_eq_true_eq] at h
    obtain ⟨⟨rfl, h1⟩, h2⟩ := h
    exact snds_pop (sndE M D k a s _ h1) h2
  · cases h
theorem expr_ok {e : E} {p : Stmt} (h : exprC s e p = true) : SndS M D k s (.expr e) p := by
  unfold exprC at h
  split at h
  · simp only [Bool.and_eq_true] at h
    exact snds_expr h.1 (sndE M D k e s _ h.2)
  · cases h
theorem app_ok {a e : E} {p : Stmt} (h : appC s a e p = true) : SndS M D k s (.append a e) p := by
  unfold appC at h
  split at h
  · simp only [Bool.and_eq_true, decide_eq_true_eq] at h
    obtain ⟨⟨⟨⟨rfl, h1⟩, h2⟩, h3⟩, h4⟩ := h
    exact snds_append (sndE M D k _ s _ h1) (sndE M D k _ s _ h2) h3 h4
  · cases h
theorem ret_ok {e : E} {p : Stmt} (h : retC s e p = true) : SndS M D k s (.ret e) p := by
  unfold retC at h
  split at h
  · exact snds_ret (sndE M D k e s _ h)
  · cases h
theorem raise_ok {C : Str} {p : Stmt} (h : raiseC s C p = true) : SndS M D k s (.raise C) p := by
  unfold raiseC at h
  split at h
  · simp only [Bool.and_eq_true, decide_eq_true_eq] at h
    obtain ⟨⟨rfl, h1⟩, h2⟩ := h
    exact snds_raise h1 h2
  · cases h
theorem leaf_ok {st : Sm} {p : Stmt} (h : leafC s p st = true) : SndS M D k s st p := by
  cases st <;> first | exact asg_ok h | exact asgT_ok h | exact setIdx_ok h | exact setAttr_ok h | exact expr_ok h | exact app_ok h | exact pop_ok h | exact ret_ok h | exact raise_ok h | (cases h; done) | skip
  rename_i tg es
  cases tg <;> first | exact par2_ok h | exact par3_ok h | cases h
end
mutual
theorem sndS (M : Mo) (D : Tab) (k : Nat) : ∀ (st : Sm) (s : SE) (p : Stmt), chkS s st p = true → SndS M D k s st p
  | .ifs c A B, s, p, h => by
    cases p <;> first | (simp [chkS, leafC] at h; done) | skip
    simp only [chkS, Bool.and_eq_true] at h
    exact snds_if (sndE M D k c s _ h.1.1) (sndSs M D k A s _ h.1.2) (sndSs M D k B s _ h.2)
  | .fors tg it body, s, p, h => by
    cases p <;> first | (simp [chkS, leafC] at h; done) | skip
    rename_i t i b oe pos
    cases oe <;> first | (simp [chkS, leafC] at h; done) | skip
    simp only [chkS, Bool.and_eq_true] at h
    exact snds_for (sndI M D k it s tg _ h.1.1) h.1.2 (sndSs M D k body s _ h.2)
  | .whiles c body, s, p, h => by
    cases p <;> first | (simp [chkS, leafC] at h; done) | skip
    rename_i t b oe pos
    cases oe <;> first | (simp [chkS, leafC] at h; done) | skip
    simp only [chkS, Bool.and_eq_true] at h
    exact snds_while (sndE M D k c s _ h.1) (sndSs M D k body s _ h.2)
  | .asg i e, s, p, h => leaf_ok (by simpa only [chkS] using h)
  | .asgT tg e, s, p, h => leaf_ok (by simpa only [chkS] using h)
  | .par tg es, s, p, h => leaf_ok (by simpa only [chkS] using h)
  | .setIdx a b e, s, p, h => leaf_ok (by simpa only [chkS] using h)
  | .setAttr a f e, s, p, h => leaf_ok (by simpa only [chkS] using h)
  | .setAttr2 a f b g e, s, p, h => leaf_ok (by simpa only [chkS] using h)
  | .expr e, s, p, h => leaf_ok (by simpa only [chkS] using h)
  | .append a e, s, p, h => leaf_ok (by simpa only [chkS] using h)
  | .pop a, s, p, h => leaf_ok (by simpa only [chkS] using h)
  | .ret e, s, p, h => leaf_ok (by simpa only [chkS] using h)
  | .raise C, s, p, h => leaf_ok (by simpa only [chkS] using h)
  | .tryw b C, s, p, h => leaf_ok (by simpa only [chkS] using h)
theorem sndSs (M : Mo) (D : Tab) (k : Nat) : ∀ (st : Ss) (s : SE) (p : List Stmt), chkSs s st p = true → SndSs M D k s st p
  | .nil, s, p, h => by
    cases p <;> first | (simp [chkSs] at h; done) | skip
    exact snds_nil
  | .cons a r, s, p, h => by
    cases p <;> first | (simp [chkSs] at h; done) | skip
    simp only [chkSs, Bool.and_eq_true] at h
    exact snds_cons (sndS M D k a s _ h.1) (sndSs M D k r s _ h.2)
end
end PC
/-! PcFn: each def keeps what CallWP says, by induction on the level. -/
namespace PC
open PySem L2
variable {M : Mo} {D : Tab} {k : Nat}
/-! ### what a def leaves behind -/
mutual
/-- its refs lie below n -/
def RB (n : Nat) : T → Prop
  | .ref i => i < n
  | .tup xs => RBs n xs
  | .lst xs => RBs n xs
  | .dct ks vs => RBs n ks ∧ RBs n vs
  | _ => True
def RBs (n : Nat) : List T → Prop
  | [] => True
  | x :: xs => RB n x ∧ RBs n xs
end
theorem RBs_all {n : Nat} : ∀ {xs : List T}, RBs n xs ↔ ∀ x ∈ xs, RB n x
  | [] => by simp [RBs]
  | x :: xs => by simp [RBs, RBs_all (xs := xs)]
theorem RB_rfr {n : Nat} : ∀ (m : Nat) (t : T), rfr m t = true → RB n t
  | 0, t, h => by cases t <;> first | (simp [rfr] at h; done) | simp [RB]
  | m + 1, t, h => by
    cases t <;> first | (simp [rfr] at h; done) | (simp [RB]; done) | skip
    · simp only [rfr, List.all_eq_true] at h
      exact RBs_all.mpr fun x hx => RB_rfr m x (h x hx)
    · simp only [rfr, List.all_eq_true] at h
      exact RBs_all.mpr fun x hx => RB_rfr m x (h x hx)
    · simp only [rfr, List.all_eq_true, Bool.and_eq_true] at h
      exact ⟨RBs_all.mpr fun x hx => RB_rfr m x (h.1 x hx), RBs_all.mpr fun x hx => RB_rfr m x (h.2 x hx)⟩
section
variable {φ φ' ψ : List Addr} {H H' : Hp} {S S' S1 : Mem}
mutual
theorem Rep.rb : ∀ {t : T} {v : V}, Rep M φ H t v → RB φ.length t
  | _, _, .non => trivial
  | _, _, .bl _ => trivial
  | _, _, .int _ => trivial
  | _, _, .str _ => trivial
  | _, _, .tup _ r => Reps.rb r
  | _, _, .lst _ _ r => Reps.rb r
  | _, _, .dct _ _ r s => ⟨Reps.rb r, Reps.rb s⟩
  | _, _, .ref h => (List.getElem?_eq_some_iff.mp h).1
theorem Reps.rb : ∀ {ts : List T} {vs : List V}, Reps M φ H ts vs → RBs φ.length ts
  | _, _, .nil => trivial
  | _, _, .cons r s => ⟨Rep.rb r, Reps.rb s⟩
end
mutual
theorem Rep.sh : ∀ {t : T} {v : V}, RB φ.length t → Rep M (φ ++ ψ) H t v → Rep M φ H t v
  | _, _, _, .non => .non
  | _, _, _, .bl b => .bl b
  | _, _, _, .int i => .int i
  | _, _, _, .str x => .str x
  | _, _, b, .tup h r => .tup h (Reps.sh b r)
  | _, _, b, .lst m h r => .lst (fun z => m (List.mem_append_left _ z)) h (Reps.sh b r)
  | _, _, b, .dct m h r s => .dct (fun z => m (List.mem_append_left _ z)) h (Reps.sh b.1 r) (Reps.sh b.2 s)
  | _, _, b, .ref h => .ref (by rw [List.getElem?_append_left b] at h; exact h)
theorem Reps.sh : ∀ {ts : List T} {vs : List V}, RBs φ.length ts → Reps M (φ ++ ψ) H ts vs → Reps M φ H ts vs
  | _, _, _, .nil => .nil
  | _, _, b, .cons r s => .cons (Rep.sh b.1 r) (Reps.sh b.2 s)
end
theorem Ext.cut (e : Ext φ H φ' H') (n : ∀ a ∈ φ', ∀ ps, H' a ≠ some (.tbl ps)) : Ext φ H φ H' := ⟨⟨[], by simp, by simp⟩, e.keep, e.there, fun a ps h _ => by
  by_cases m : a ∈ φ'
  · exact absurd h (n a m ps)
  · exact e.nt a ps h m⟩
def RBf (n : Nat) (fs : List (Str × T)) : Prop := ∀ p ∈ fs, RB n p.2
theorem RepF.rb : ∀ {fs : List (Str × T)} {gs : List (Str × V)}, RepF M φ H fs gs → RBf φ.length fs
  | _, _, .nil => fun p h => by cases h
  | _, _, .cons r s => fun p h => by
    rcases List.mem_cons.mp h with rfl | h
    · exact r.2.rb
    · exact RepF.rb s p h
theorem RepF.sh : ∀ {fs : List (Str × T)} {gs : List (Str × V)}, RBf φ.length fs → RepF M (φ ++ ψ) H fs gs → RepF M φ H fs gs
  | _, _, _, .nil => .nil
  | _, _, b, .cons r s => .cons ⟨r.1, r.2.sh (b _ List.mem_cons_self)⟩ (RepF.sh (fun p h => b p (List.mem_cons_of_mem _ h)) s)
def RBo (n : Nat) : Ob → Prop
  | .lst xs => RBs n xs
  | .dct ks vs => RBs n ks ∧ RBs n vs
  | .ins _ fs => RBf n fs
  | .fix xs => RBs n xs
theorem ObAt.rb {a : Addr} {o : Ob} (h : ObAt M φ H a o) : RBo φ.length o := by
  cases h with
  | lst _ r => exact r.rb
  | dct _ r s => exact ⟨r.rb, s.rb⟩
  | ins _ _ r => exact r.rb
  | fix _ r => exact r.rb
theorem ObAt.sh {a : Addr} {o : Ob} (b : RBo φ.length o) (h : ObAt M (φ ++ ψ) H a o) : ObAt M φ H a o := by
  cases h with
  | lst h r => exact .lst h (r.sh b)
  | dct h r s => exact .dct h (r.sh b.1) (s.sh b.2)
  | ins c h r => exact .ins c h (RepF.sh b r)
  | fix h r => exact .fix h (r.sh b)
theorem RBo_rfr {n : Nat} {o : Ob} (h : rfrOb o = true) : RBo n o := by
  cases o with
  | lst xs => exact RBs_all.mpr fun x hx => RB_rfr 30 x (List.all_eq_true.mp h x hx)
  | dct ks vs =>
    have h : (ks.all (rfr 30) && vs.all (rfr 30)) = true := h
    rw [Bool.and_eq_true] at h
    exact ⟨RBs_all.mpr fun x hx => RB_rfr 30 x (List.all_eq_true.mp h.1 x hx), RBs_all.mpr fun x hx => RB_rfr 30 x (List.all_eq_true.mp h.2 x hx)⟩
  | ins C fs => cases h
  | fix xs => cases h
theorem Wd.cut (w : Wd M φ S H) (e : Ext φ H φ' H') (w' : Wd M φ' S' H') (c : Cuts S S' S1) : Wd M φ S1 H' := by
  obtain ⟨Mx, rfl, hl, hc⟩ := c
  obtain ⟨ψ, rfl, _⟩ := e.pre
  refine ⟨by rw [w.len, hl], w.nd, fun i o a h1 h2 => ?_, fun p hp => ?_⟩
  rotate_right
  · obtain ⟨n1, ps, h1, h2, h3⟩ := w'.tb p hp
    refine ⟨fun m => n1 (List.mem_append_left _ m), ps, h1, h2, fun pos cv hcv => ?_⟩
    obtain ⟨c, e, nc, hco⟩ := h3 pos cv hcv
    exact ⟨c, e, fun m => nc (List.mem_append_left _ m), hco⟩
  have hi : i < S1.length := (List.getElem?_eq_some_iff.mp h1).1
  have q := w'.at_ i o a (by rw [List.getElem?_append_left hi]; exact h1) (e.get h2)
  refine q.sh ?_
  rcases hc i o h1 with h | h
  · exact (w.at_ i o a h h2).rb
  · exact RBo_rfr h
theorem fin_back {QT : Wv} {Q : VK} (f : Fin M φ H QT Q) (w : Wd M φ S H) : Fin M φ H (Back S QT) Q := by
  intro t S' φ' v H' e w' r q
  cases q with
  | keep q => exact f t S' φ' v H' e w' r q
  | drop c hr q =>
    obtain ⟨ψ, rfl, _⟩ := id e.pre
    exact f t _ φ v H' (e.cut fun a m ps => w'.noTbl m) (w.cut e w' c) (r.sh (RB_rfr 30 t hr)) q
  | @dropL i xs S' S1 c hi hS hr q =>
    obtain ⟨a, rfl, ha, oa⟩ := r.refAt w' hS
    obtain ⟨ψ, rfl, _⟩ := id e.pre
    cases oa with
    | lst hH rr =>
      have hn : a ∉ φ := fun m => by
        obtain ⟨j, hj, ej⟩ := List.mem_iff_getElem.mp m
        have h2 : (φ ++ ψ)[j]? = some a := by rw [List.getElem?_append_left hj]; simp [hj, ej]
        have := nodup_get w'.nd ha h2
        rw [← w.len] at hi
        omega
      refine f (.lst xs) _ φ _ H' (e.cut fun a m ps => w'.noTbl m) (w.cut e w' c) (.lst hn hH (rr.sh (RBs_all.mpr fun x hx => RB_rfr 30 x (List.all_eq_true.mp hr x hx)))) q
  | @dropD i ks vs S' S1 c hi hS hr hr' q =>
    obtain ⟨a, rfl, ha, oa⟩ := r.refAt w' hS
    obtain ⟨ψ, rfl, _⟩ := id e.pre
    cases oa with
    | dct hH rr rs =>
      have hn : a ∉ φ := fun m => by
        obtain ⟨j, hj, ej⟩ := List.mem_iff_getElem.mp m
        have h2 : (φ ++ ψ)[j]? = some a := by rw [List.getElem?_append_left hj]; simp [hj, ej]
        have := nodup_get w'.nd ha h2
        rw [← w.len] at hi
        omega
      refine f (.dct ks vs) _ φ _ H' (e.cut fun a m ps => w'.noTbl m) (w.cut e w' c) (.dct hn hH (rr.sh (RBs_all.mpr fun x hx => RB_rfr 30 x (List.all_eq_true.mp hr x hx))) (rs.sh (RBs_all.mpr fun x hx => RB_rfr 30 x (List.all_eq_true.mp hr' x hx)))) q
theorem finx_back {XT : Wx} {E : XK} (f : FinX M φ H XT E) (w : Wd M φ S H) : FinX M φ H (BackX S XT) E := by
  intro c Ca S' φ' H' hc e w' q
  cases q with
  | keep q => exact f c Ca S' φ' H' hc e w' q
  | drop ct q => exact f c Ca _ φ H' hc (e.cut fun a m ps => w'.noTbl m) (w.cut e w' ct) q
end
/-! ### the defs -/
def seOf (d : Def) (sc : Scope) (fl : List Str) (fns : List (Str × Str)) (xs : List Str) (lam : Bool) : SE := ⟨d.N, sc, (sc.names.filter fun y => isLoc (some y.2)).map (·.1), fl, fns, xs, lam⟩
def scChk (N ps : List Str) (sc : Scope) : Bool := (match sc.kind with | .function => true | _ => false) && !sc.isCoroutine && !sc.isGenerator && decide N.Nodup && decide (N.take ps.length = ps) && (ps.all fun x => isLoc (sc.names.lookup x)) &&
  (sc.names.all fun y => !(y.2 == .free) && decide (sc.names.lookup y.1 = some y.2))
def fnChk (lam : Bool) (d : Def) (ps : List Str) (st : Stmt) (fl : List Str) (fns : List (Str × Str)) (xs : List Str) : Bool :=
  scChk d.N ps (defScope st) && decide (ps.length = d.ar) && chkSs (seOf d (defScope st) fl fns xs lam) d.body (defBody st)
/-- a def that makes lambdas: its code object, the table -/
def LamOk (M : Mo) (fd : FuncData) (qual : Str) : Prop := ToldT M ∧ ∃ c P, fd.code = .ref c ∧ LamX.TabB M.base M.mg c P ∧ (P, qual ++ ".<locals>." ++ "<lambda>") ∈ M.tabs ∧ ∀ p ∈ M.tabs, p.1 = P → p.2 = qual ++ ".<locals>." ++ "<lambda>"
theorem scChk_of {N ps : List Str} {sc : Scope} (h : scChk N ps sc = true) : FnScope N ps sc ∧ ∀ y ∈ sc.names, sc.names.lookup y.1 = some y.2 := by
  unfold scChk at h
  simp only [Bool.and_eq_true, Bool.not_eq_true', decide_eq_true_eq, List.all_eq_true] at h
  obtain ⟨⟨⟨⟨⟨⟨h1, h2⟩, h3⟩, h4⟩, h5⟩, h6⟩, h7⟩ := h
  refine ⟨⟨?_, h2, h3, h4, h5, fun x hx => loc_of (h6 x hx), fun y hy z => ?_⟩, fun y hy => (h7 y hy).2⟩
  · cases e : sc.kind <;> rw [e] at h1 <;> first | rfl | cases h1
  · have := (h7 y hy).1
    rw [z] at this
    cases this
theorem slots_start {φ : List Addr} {H : Hp} {args : List T} {vs : List V} (r : Reps M φ H args vs) (n : Nat) : Slots M φ H (args.map some ++ List.replicate n none) (vs.map some ++ List.replicate n none) := by
  induction r using Reps.rec (motive_1 := fun _ _ _ => True) with
  | nil =>
    induction n with
    | zero => exact .nil
    | succ n ih => exact .cons trivial ih
  | cons a b _ ih => exact .cons a ih
  | _ => trivial
theorem fn_ok {C g qual : Str} {d : Def} {st : Stmt} {f : Addr} {fd : FuncData} {ps : List Str} {x : Str} (L : Lib M D k) {fns : List (Str × Str)} {xs : List Str} (hfns : ∀ p, fns.contains p = true → ∃ d, D.fn p.1 p.2 = some d) (hxs : ∀ c, xs.contains c = true → ∃ Ca, M.exc c = some Ca)
    (hd : D.fn C g = some d) (F : Fun M.K x qual st f fd) {lam : Bool} (hlam : lam = true → LamOk M fd qual) (hc : fnChk lam d ps st M.flds fns xs = true) :
    FnOk M.P M.w M.K M.mg M.base (L2N.CX M.P M.w) (5 * (k + 1)) f fd ps (spOf M D (k + 1) C g) := by
  unfold fnChk at hc
  simp only [Bool.and_eq_true, decide_eq_true_eq] at hc
  obtain ⟨⟨h1, h2⟩, h3⟩ := hc
  obtain ⟨S, uq⟩ := scChk_of h1
  show FnOk M.P M.w M.K M.mg M.base (L2N.CX M.P M.w) ((5 * k + 4) + 1) f fd ps (spOf M D (k + 1) C g)
  obtain ⟨oc, od, kV, doc, pm, an, cdv, ct, osl, rfl, lk, hcd⟩ := F.ex
  refine fn_of lk hcd S (fun vs H Q E h => ?_) fun A outer s H vs Q E hr h => ?_
  · obtain ⟨φ, S, args, QT, XT, w, r, hw, _⟩ := h
    have hw : okO (D.fn C g) _ := hw
    rw [hd] at hw
    rw [← r.length, hw.1, h2]
  · obtain ⟨φ, Sm, args, QT, XT, w, r, hw, f1, f2⟩ := h
    have hw : okO (D.fn C g) _ := hw
    rw [hd] at hw
    obtain ⟨ha, hw⟩ := hw
    have tk : L2N.Takes (cxOf (L2N.CX M.P M.w) M.P M.w M.K M.mg M.base d.N qual (defScope st) f cdv A outer s H E) (fun c dd _ H => E c dd H) := L2N.takes_of rfl rfl rfl rfl
    have ok : SOk M D k (seOf d (defScope st) M.flds fns xs lam) E (cxOf (L2N.CX M.P M.w) M.P M.w M.K M.mg M.base d.N qual (defScope st) f cdv A outer s H E) :=
      { m := ⟨rfl, rfl, rfl, rfl, rfl⟩, lib := L, N := rfl, sc := rfl, fl := rfl, fns := hfns, xs := hxs, nd := S.nd, calm := rfl, room := hr.mono (by omega)
        px := L2N.passes_call tk fun _ _ _ _ h => h
        lam := fun z => ⟨hr, hlam z⟩
        ow := fun y hy => by
          have hm : y ∈ ((defScope st).names.filter fun y => isLoc (some y.2)).map (·.1) := List.contains_iff_mem.mp hy
          obtain ⟨z, hz, rfl⟩ := List.mem_map.mp hm
          obtain ⟨hz, hl⟩ := List.mem_filter.mp hz
          have hu := uq z hz
          exact ⟨(loc_of hl).imp (fun e => hu.trans e) fun e => hu.trans e, .inl rfl⟩
        kind := S.kind, tk := tk, hp := passes_of rfl }
    refine ⟨_, (sndSs M D k d.body _ _ h3).pss _ E (BackX Sm XT) ok, φ, startT d args, Sm, _, ⟨w, ?_⟩, finx_back f2 w, hw, fun σT' S' φ' σ' H' e a q => ?_, fin_back f1 w⟩
    · unfold startT L2.start
      rw [← r.length, ha]
      exact slots_start r _
    · exact fin_back f1 w .non S' φ' .non H' e a.wd .non q
/-! ### all defs -/
def ent (C g : Str) (d : Def) : (Str × Str) × Def := ((C, g), d)
structure Base (M : Mo) (D : Tab) (fns : List (Str × Str)) (xs : List Str) : Prop where
  hf : ∀ p, fns.contains p = true → ∃ d, D.fn p.1 p.2 = some d
  hx : ∀ c, xs.contains c = true → ∃ Ca, M.exc c = some Ca
  glob : ∀ x t, D.G x = some t → ∃ u v, M.mg x = some u ∧ RelV v u ∧ ∀ φ H, Rep M φ H t v
  blt : ∀ x ∈ bltNames, M.mg x = none
  fn : ∀ g d, D.fn "" g = some d → ∃ f fd ps x qual st, M.mg g = some (.ref f) ∧ PySem.W.keepIn M.K (.ref f) = true ∧ Binds M.K fd ps [] ∧ Fun M.K x qual st f fd ∧ ∃ lam, fnChk lam d ps st M.flds fns xs = true ∧ (lam = true → LamOk M fd qual)
  meth : ∀ C m d, D.fn C m = some d → C ≠ "" → ∃ Ca f fd ps x qual st, M.cls C = some Ca ∧ Meth M.K Ca m f ∧ (m = "__init__" → M.mg C = some (.ref Ca) ∧ Mk M.K Ca f) ∧ Binds M.K fd ps [] ∧ Fun M.K x qual st f fd ∧ ∃ lam, fnChk lam d ps st M.flds fns xs = true ∧ (lam = true → LamOk M fd qual)
  cls : ∀ C Ca, M.cls C = some Ca → Cls M.K Ca ∧ ∀ f ∈ M.flds, NoAttr M.K Ca f
  exc : ∀ C Ca, M.exc C = some Ca → M.mg C = some (.ref Ca) ∧ PySem.W.keepIn M.K (.ref Ca) = true ∧ PySem.W.excIn M.K Ca [.type "ValueError", .type "Exception", .type "BaseException", .type "object"] "ValueError.__new__" = true ∧ PySem.W.subIn M.K (.ref Ca) (.type "BaseException") = some true ∧ PySem.W.typeIn M.K (.ref Ca) = some (.type "type")
  inj : ∀ C C' Ca, M.cls C = some Ca → M.cls C' = some Ca → C = C'
theorem sp0 {C g : Str} {f : Addr} {fd : FuncData} {ps : List Str} : FnOk M.P M.w M.K M.mg M.base (L2N.CX M.P M.w) (5 * 0) f fd ps (spOf M D 0 C g) :=
  ⟨fun vs H Q E h => by obtain ⟨_, _, _, _, _, _, _, h, _⟩ := h; exact h.elim, fun A outer s H args us vs Q E _ _ _ _ h => by obtain ⟨_, _, _, _, _, _, _, h, _⟩ := h; exact h.elim⟩
theorem lib_of {fns : List (Str × Str)} {xs : List Str} (B : Base M D fns xs) : ∀ k, Lib M D k
  | 0 => ⟨B.glob, B.blt, fun g d h => let ⟨f, fd, ps, _, _, _, h1, h2, h3, _⟩ := B.fn g d h; ⟨f, fd, ps, h1, h2, h3, sp0⟩, fun C m d h n => let ⟨Ca, f, fd, ps, _, _, _, h1, h2, _, h4, _⟩ := B.meth C m d h n; ⟨Ca, f, fd, ps, h1, h2, h4, sp0⟩,
    fun C d h n => let ⟨Ca, f, fd, ps, _, _, _, h1, _, h3, h4, _⟩ := B.meth C _ d h n; ⟨Ca, f, fd, ps, h1, (h3 rfl).1, (h3 rfl).2, h4, sp0⟩, B.cls, B.exc, B.inj⟩
  | k + 1 => by
    have L := lib_of B k
    exact ⟨B.glob, B.blt, fun g d h => let ⟨f, fd, ps, _, _, _, h1, h2, h3, F, _, hc, hl⟩ := B.fn g d h; ⟨f, fd, ps, h1, h2, h3, fn_ok L B.hf B.hx h F hl hc⟩,
      fun C m d h n => let ⟨Ca, f, fd, ps, _, _, _, h1, h2, _, h4, F, _, hc, hl⟩ := B.meth C m d h n; ⟨Ca, f, fd, ps, h1, h2, h4, fn_ok L B.hf B.hx h F hl hc⟩,
      fun C d h n => let ⟨Ca, f, fd, ps, _, _, _, h1, _, h3, h4, F, _, hc, hl⟩ := B.meth C _ d h n; ⟨Ca, f, fd, ps, h1, (h3 rfl).1, (h3 rfl).2, h4, fn_ok L B.hf B.hx h F hl hc⟩, B.cls, B.exc, B.inj⟩
end PC
/-! K05T: the law's table. -/
namespace K05
open PySem L2 PC
def top (i : Nat) : Stmt := PySem.Challenge.pw_crossmail_k05_whole_standings.main.body.getD i (.Pass ⟨0, 0, 0, 0⟩)
/-- _law_drawn -/
def d_law_drawn : Def := ⟨["_law_cell_here", "_law_k", "_law_more"], 2,
    (.cons (.asg 2 (.bin .Mod (.bin .Add (.bin .Mult (.var 0) (.int 6364136223846793005)) (.bin .Mult (.bin .Add (.var 1) (.int 1)) (.int 1442695040888963407))) (.int 340282366920938463463374607431768211507)))
    (.cons (.asg 2 (.bin .Mod (.bin .Mult (.var 2) (.var 2)) (.int 340282366920938463463374607431768211297)))
    (.cons (.asg 2 (.bin .Mult (.bin .Mult (.bin .Add (.bin .Mod (.var 2) (.int 18446744073709551557)) (.int 1)) (.bin .Add (.bin .FloorDiv (.var 2) (.int 18446744073709551557)) (.int 1))) (.var 2)))
    (.cons (.ret (.bin .Mod (.var 2) (.int 340282366920938463463374607431768211507)))
    .nil))))⟩
/-- _law_roll -/
def d_law_roll : Def := ⟨["_law_dice", "_law_many", "_law_told_here"], 2,
    (.cons (.ifs (.cmp .GtE (.idx (.var 0) (.int 0)) (.bin .Pow (.int 10) (.int 18))) (.cons (.asg 2 (.bin .Mod (.idx (.var 0) (.int 0)) (.var 1)))
    (.cons (.setIdx (.var 0) (.int 0) (.bin .FloorDiv (.idx (.var 0) (.int 0)) (.var 1)))
    (.cons (.ret (.var 2))
    .nil))) .nil)
    (.cons (.setIdx (.var 0) (.int 1) (.bin .Add (.idx (.var 0) (.int 1)) (.int 1)))
    (.cons (.ret (.bin .Mod (.bin .FloorDiv (.call "_law_drawn" (.cons (.idx (.var 0) (.int 0)) (.cons (.idx (.var 0) (.int 1)) .nil))) (.int 8)) (.var 1)))
    .nil)))⟩
/-- _law_written -/
def d_law_written : Def := ⟨["_law_dice", "_law_first", "_law_second", "_law_tops", "_law_rows", "_law_turns_here", "_law_side", "_law_low_here"], 3,
    (.cons (.par (.three 3 4 5) (.cons (.tup (.cons (.call "_law_roll" (.cons (.var 0) (.cons (.bin .Add (.var 1) (.int 1)) .nil))) (.cons (.call "_law_roll" (.cons (.var 0) (.cons (.bin .Add (.var 2) (.int 1)) .nil))) .nil))) (.cons (.lst (.cons (.track (.lst .nil)) (.cons (.track (.lst .nil)) .nil))) (.cons (.track (.lst .nil)) .nil))))
    (.cons (.whiles (.or (.cmp .Lt (.bi .len (.cons (.idx (.var 4) (.int 0)) .nil)) (.idx (.var 3) (.int 0))) (.cmp .Lt (.bi .len (.cons (.idx (.var 4) (.int 1)) .nil)) (.idx (.var 3) (.int 1)))) (.cons (.asg 6 (.call "_law_roll" (.cons (.var 0) (.cons (.int 2) .nil))))
    (.cons (.asg 6 (.ife (.cmp .Lt (.bi .len (.cons (.idx (.var 4) (.var 6)) .nil)) (.idx (.var 3) (.var 6))) (.var 6) (.bin .Sub (.int 1) (.var 6))))
    (.cons (.asg 7 (.ife (.cmp .NotEq (.idx (.var 4) (.var 6)) (.lst .nil)) (.idx (.idx (.var 4) (.var 6)) (.neg (.int 1))) (.int 0)))
    (.cons (.append (.idx (.var 4) (.var 6)) (.bin .Add (.var 7) (.call "_law_roll" (.cons (.var 0) (.cons (.bin .Add (.bin .Sub (.bi .len (.cons (.idx (.var 4) (.bin .Sub (.int 1) (.var 6))) .nil)) (.var 7)) (.int 1)) .nil)))))
    (.cons (.append (.var 5) (.var 6))
    .nil))))))
    (.cons (.ret (.tup (.cons (.tup (.cons (.bi .tuple (.cons (.idx (.var 4) (.int 0)) .nil)) (.cons (.bi .tuple (.cons (.idx (.var 4) (.int 1)) .nil)) .nil))) (.cons (.bi .tuple (.cons (.var 5) .nil)) .nil))))
    .nil)))⟩
/-- _law_any_mail -/
def d_law_any_mail : Def := ⟨["_law_dice", "_law_first", "_law_second", "_law_rows", "_law_side", "_law_mail", "_law_turns_here", "_law_read"], 3,
    (.cons (.asgT (.two 5 6) (.call "_law_written" (.cons (.var 0) (.cons (.var 1) (.cons (.var 2) .nil)))))
    (.cons (.ifs (.cmp .Gt (.call "_law_roll" (.cons (.var 0) (.cons (.int 3) .nil))) (.int 0)) (.cons (.ret (.var 5))
    .nil) .nil)
    (.cons (.asg 3 (.track (.lst .nil)))
    (.cons (.fors (.one 4) (.rng1 (.int 2)) (.cons (.append (.var 3) (.bi .tuple (.cons (.bi .sorted (.cons (.comp (.call "_law_roll" (.cons (.var 0) (.cons (.bin .Add (.bi .len (.cons (.idx (.var 5) (.bin .Sub (.int 1) (.var 4))) .nil)) (.int 1)) .nil))) [7] (.one 7) (.live (.idx (.var 5) (.var 4))) .none) .nil)) .nil)))
    .nil))
    (.cons (.ret (.tup (.cons (.idx (.var 3) (.int 0)) (.cons (.idx (.var 3) (.int 1)) .nil))))
    .nil)))))⟩
/-- _law_low -/
def d_law_low : Def := ⟨["_law_top", "_law_below", "_law_one", "_law_other"], 2,
    (.cons (.par (.two 2 3) (.cons (.var 0) (.cons (.var 1) .nil)))
    (.cons (.whiles (.cmp .NotEq (.var 3) (.int 0)) (.cons (.par (.two 2 3) (.cons (.var 3) (.cons (.bin .Mod (.var 2) (.var 3)) .nil)))
    .nil))
    (.cons (.ret (.tup (.cons (.bin .FloorDiv (.var 0) (.var 2)) (.cons (.bin .FloorDiv (.var 1) (.var 2)) .nil))))
    .nil)))⟩
/-- _law_lets -/
def d_law_lets : Def := ⟨["_law_mail", "_law_turns_here", "_law_many", "_law_side"], 2,
    (.cons (.asg 2 (.lst (.cons (.int 0) (.cons (.int 0) .nil))))
    (.cons (.fors (.one 3) (.live (.var 1)) (.cons (.ifs (.cmp .Gt (.idx (.idx (.var 0) (.var 3)) (.idx (.var 2) (.var 3))) (.idx (.var 2) (.bin .Sub (.int 1) (.var 3)))) (.cons (.ret (.bl false))
    .nil) .nil)
    (.cons (.asg 2 (.lst (.cons (.bin .Add (.idx (.var 2) (.int 0)) (.bi .int (.cons (.cmp .Eq (.var 3) (.int 0)) .nil))) (.cons (.bin .Add (.idx (.var 2) (.int 1)) (.bi .int (.cons (.cmp .Eq (.var 3) (.int 1)) .nil))) .nil))))
    .nil)))
    (.cons (.ret (.bl true))
    .nil)))⟩
/-- _law_turns -/
def d_law_turns : Def := ⟨["_law_first", "_law_second", "_law_rows", "_law_turn", "_law_longer", "_law_row", "_law_side"], 2,
    (.cons (.asg 2 (.lst (.cons (.tup .nil) .nil)))
    (.cons (.fors (.one 3) (.rng1 (.bin .Add (.var 0) (.var 1))) (.cons (.asg 4 (.lst .nil))
    (.cons (.fors (.one 5) (.live (.var 2)) (.cons (.asg 4 (.bin .Add (.var 4) (.comp (.bin .Add (.var 5) (.tup (.cons (.var 6) .nil))) [6] (.one 6) (.live (.tup (.cons (.int 0) (.cons (.int 1) .nil)))) (.some (.cmp .Lt (.bm (.var 5) .count (.cons (.var 6) .nil)) (.idx (.tup (.cons (.var 0) (.cons (.var 1) .nil))) (.var 6)))))))
    .nil))
    (.cons (.asg 2 (.var 4))
    .nil))))
    (.cons (.ret (.var 2))
    .nil)))⟩
/-- _law_orders -/
def d_law_orders : Def := ⟨["_law_mail", "_law_turns_here"], 1,
    (.cons (.ret (.comp (.var 1) [1] (.one 1) (.live (.call "_law_turns" (.cons (.bi .len (.cons (.idx (.var 0) (.int 0)) .nil)) (.cons (.bi .len (.cons (.idx (.var 0) (.int 1)) .nil)) .nil)))) (.some (.call "_law_lets" (.cons (.var 0) (.cons (.var 1) .nil))))))
    .nil)⟩
/-- _law_cell -/
def d_law_cell : Def := ⟨["_law_script", "_law_k"], 2,
    (.cons (.ifs (.cmp .Eq (.var 0) (.lst .nil)) (.cons (.ret (.bin .Mult (.var 1) (.int 7919)))
    .nil) .nil)
    (.cons (.ret (.bin .Add (.idx (.var 0) (.bin .Mod (.var 1) (.bi .len (.cons (.var 0) .nil)))) (.bin .Mult (.bin .FloorDiv (.var 1) (.bi .len (.cons (.var 0) .nil))) (.int 104729))))
    .nil))⟩
/-- _law_rounds -/
def d_law_rounds : Def := ⟨["_law_script", "_law_high", "_law_k"], 2,
    (.cons (.ret (.comp (.track (.lst (.cons (.call "_law_cell" (.cons (.var 0) (.cons (.var 2) .nil))) (.cons (.int 0) .nil)))) [2] (.one 2) (.rng1 (.bi .max2 (.cons (.int 1) (.cons (.bi .min2 (.cons (.var 1) (.cons (.bi .len (.cons (.var 0) .nil)) .nil))) .nil)))) .none))
    .nil)⟩
/-- is_whole -/
def d_is_whole : Def := ⟨["thing", "low", "high"], 3,
    (.cons (.ret (.and (.isi (.var 0) .int) (.and (.not (.isi (.var 0) .bool)) (.chain .LtE .LtE (.var 1) (.var 0) (.var 2)))))
    .nil)⟩
/-- is_bundle -/
def d_is_bundle : Def := ⟨["thing", "most", "one", "other"], 2,
    (.cons (.ifs (.or (.not (.isi (.var 0) .tuple)) (.or (.cmp .Gt (.bi .len (.cons (.var 0) .nil)) (.glob "MOST")) (.not (.bi .all (.cons (.comp (.call "is_whole" (.cons (.var 2) (.cons (.int 0) (.cons (.var 1) .nil)))) [2] (.one 2) (.live (.var 0)) .none) .nil))))) (.cons (.ret (.bl false))
    .nil) .nil)
    (.cons (.ret (.bi .all (.cons (.comp (.cmp .LtE (.var 2) (.var 3)) [2, 3] (.two 2 3) (.zip (.var 0) (.slc (.var 0) (.some (.int 1)) .none)) .none) .nil)))
    .nil))⟩
/-- is_mail -/
def d_is_mail : Def := ⟨["thing", "one"], 1,
    (.cons (.ifs (.or (.not (.isi (.var 0) .tuple)) (.or (.cmp .NotEq (.bi .len (.cons (.var 0) .nil)) (.int 2)) (.not (.bi .all (.cons (.comp (.isi (.var 1) .tuple) [1] (.one 1) (.live (.var 0)) .none) .nil))))) (.cons (.ret (.bl false))
    .nil) .nil)
    (.cons (.ret (.and (.call "is_bundle" (.cons (.idx (.var 0) (.int 0)) (.cons (.bi .len (.cons (.idx (.var 0) (.int 1)) .nil)) .nil))) (.call "is_bundle" (.cons (.idx (.var 0) (.int 1)) (.cons (.bi .len (.cons (.idx (.var 0) (.int 0)) .nil)) .nil)))))
    .nil))⟩
/-- need_mail -/
def d_need_mail : Def := ⟨["thing"], 1,
    (.cons (.ifs (.not (.call "is_mail" (.cons (.var 0) .nil))) (.cons (.raise "BadMail")
    .nil) .nil)
    .nil)⟩
/-- all_pairs -/
def d_all_pairs : Def := ⟨["mail", "found", "first", "second"], 1,
    (.cons (.asg 1 (.lst .nil))
    (.cons (.fors (.one 2) (.rng1 (.bi .len (.cons (.idx (.var 0) (.int 0)) .nil))) (.cons (.asg 1 (.bin .Add (.var 1) (.comp (.tup (.cons (.var 2) (.cons (.var 3) .nil))) [3] (.one 3) (.rng1 (.bi .len (.cons (.idx (.var 0) (.int 1)) .nil))) .none)))
    .nil))
    (.cons (.ret (.var 1))
    .nil)))⟩
/-- all_barring -/
def d_all_barring : Def := ⟨["mail", "some", "one", "other"], 1,
    (.cons (.asg 1 (.call "all_pairs" (.cons (.var 0) .nil)))
    (.cons (.ret (.comp (.tup (.cons (.var 2) (.cons (.var 3) .nil))) [2, 3] (.two 2 3) (.live (.var 1)) (.some (.and (.cmp .Gt (.idx (.idx (.var 0) (.int 0)) (.var 2)) (.var 3)) (.cmp .Gt (.idx (.idx (.var 0) (.int 1)) (.var 3)) (.var 2))))))
    .nil))⟩
/-- is_there -/
def d_is_there : Def := ⟨["mail"], 1,
    (.cons (.ret (.cmp .Eq (.call "all_barring" (.cons (.var 0) .nil)) (.lst .nil)))
    .nil)⟩
/-- need_there -/
def d_need_there : Def := ⟨["mail"], 1,
    (.cons (.ifs (.not (.call "is_there" (.cons (.var 0) .nil))) (.cons (.raise "Nothing")
    .nil) .nil)
    .nil)⟩
/-- after -/
def d_after : Def := ⟨["here", "side"], 2,
    (.cons (.ret (.ife (.cmp .Eq (.var 1) (.int 0)) (.tup (.cons (.bin .Add (.idx (.var 0) (.int 0)) (.int 1)) (.cons (.idx (.var 0) (.int 1)) .nil))) (.tup (.cons (.idx (.var 0) (.int 0)) (.cons (.bin .Add (.idx (.var 0) (.int 1)) (.int 1)) .nil)))))
    .nil)⟩
/-- all_standings -/
def d_all_standings : Def := ⟨["mail", "found", "first", "second"], 1,
    (.cons (.asg 1 (.lst .nil))
    (.cons (.fors (.one 2) (.rng1 (.bin .Add (.bi .len (.cons (.idx (.var 0) (.int 0)) .nil)) (.int 1))) (.cons (.asg 1 (.bin .Add (.var 1) (.comp (.tup (.cons (.var 2) (.cons (.var 3) .nil))) [3] (.one 3) (.rng1 (.bin .Add (.bi .len (.cons (.idx (.var 0) (.int 1)) .nil)) (.int 1))) .none)))
    .nil))
    (.cons (.ret (.var 1))
    .nil)))⟩
/-- may_write -/
def d_may_write : Def := ⟨["mail", "here", "side"], 3,
    (.cons (.ret (.and (.cmp .Lt (.idx (.var 1) (.var 2)) (.bi .len (.cons (.idx (.var 0) (.var 2)) .nil))) (.cmp .LtE (.idx (.idx (.var 0) (.var 2)) (.idx (.var 1) (.var 2))) (.idx (.var 1) (.bin .Sub (.int 1) (.var 2))))))
    .nil)⟩
/-- leading -/
def d_leading : Def := ⟨["mail", "found", "here", "side"], 1,
    (.cons (.asg 1 (.track (.dcomp (.var 2) (.int 0) [2] (.one 2) (.live (.call "all_standings" (.cons (.var 0) .nil))))))
    (.cons (.setIdx (.var 1) (.tup (.cons (.int 0) (.cons (.int 0) .nil))) (.int 1))
    (.cons (.fors (.one 2) (.live (.call "all_standings" (.cons (.var 0) .nil))) (.cons (.fors (.one 3) (.live (.tup (.cons (.int 0) (.cons (.int 1) .nil)))) (.cons (.ifs (.call "may_write" (.cons (.var 0) (.cons (.var 2) (.cons (.var 3) .nil)))) (.cons (.setIdx (.var 1) (.call "after" (.cons (.var 2) (.cons (.var 3) .nil))) (.bin .Add (.idx (.var 1) (.call "after" (.cons (.var 2) (.cons (.var 3) .nil)))) (.idx (.var 1) (.var 2))))
    .nil) .nil)
    .nil))
    .nil))
    (.cons (.ret (.var 1))
    .nil))))⟩
/-- Ways.__init__ -/
def d_Ways_init : Def := ⟨["self", "mail"], 2,
    (.cons (.setAttr (.var 0) "held" (.var 1))
    (.cons (.setAttr (.var 0) "known" (.track .dct0))
    .nil))⟩
/-- end_of -/
def d_end_of : Def := ⟨["mail"], 1,
    (.cons (.ret (.tup (.cons (.bi .len (.cons (.idx (.var 0) (.int 0)) .nil)) (.cons (.bi .len (.cons (.idx (.var 0) (.int 1)) .nil)) .nil))))
    .nil)⟩
/-- Ways.count -/
def d_Ways_count : Def := ⟨["self", "here", "sides", "side"], 2,
    (.cons (.ifs (.cmp .Eq (.var 1) (.call "end_of" (.cons (.attr (.var 0) "held") .nil))) (.cons (.ret (.int 1))
    .nil) .nil)
    (.cons (.ifs (.cmp .NotIn (.var 1) (.attr (.var 0) "known")) (.cons (.asg 2 (.comp (.var 3) [3] (.one 3) (.live (.tup (.cons (.int 0) (.cons (.int 1) .nil)))) (.some (.call "may_write" (.cons (.attr (.var 0) "held") (.cons (.var 1) (.cons (.var 3) .nil)))))))
    (.cons (.setIdx (.attr (.var 0) "known") (.var 1) (.bi .sum (.cons (.comp (.meth (.var 0) "Ways" "count" (.cons (.call "after" (.cons (.var 1) (.cons (.var 3) .nil))) .nil)) [3] (.one 3) (.live (.var 2)) .none) .nil)))
    .nil)) .nil)
    (.cons (.ret (.idx (.attr (.var 0) "known") (.var 1)))
    .nil)))⟩
/-- passing -/
def d_passing : Def := ⟨["mail", "ways", "ahead", "here"], 1,
    (.cons (.asgT (.two 1 2) (.tup (.cons (.mk "Ways" (.cons (.var 0) .nil)) (.cons (.call "leading" (.cons (.var 0) .nil)) .nil))))
    (.cons (.ret (.dcomp (.var 3) (.bin .Mult (.idx (.var 2) (.var 3)) (.meth (.var 1) "Ways" "count" (.cons (.var 3) .nil))) [3] (.one 3) (.live (.var 2))))
    .nil))⟩
/-- leads -/
def d_leads : Def := ⟨["mail", "table", "some", "here"], 1,
    (.cons (.expr (.call "need_mail" (.cons (.var 0) .nil)))
    (.cons (.expr (.call "need_there" (.cons (.var 0) .nil)))
    (.cons (.asg 1 (.call "passing" (.cons (.var 0) .nil)))
    (.cons (.asg 2 (.comp (.bin .Sub (.idx (.var 3) (.int 0)) (.idx (.var 3) (.int 1))) [3] (.one 3) (.live (.var 1)) (.some (.cmp .Gt (.idx (.var 1) (.var 3)) (.int 0)))))
    (.cons (.ret (.tup (.cons (.bi .maxL (.cons (.var 2) .nil)) (.cons (.neg (.bi .minL (.cons (.var 2) .nil))) .nil))))
    .nil)))))⟩
/-- count_of -/
def d_count_of : Def := ⟨["mail"], 1,
    (.cons (.ret (.meth (.mk "Ways" (.cons (.var 0) .nil)) "Ways" "count" (.cons (.tup (.cons (.int 0) (.cons (.int 0) .nil))) .nil)))
    .nil)⟩
/-- lowest -/
def d_lowest : Def := ⟨["top", "below", "one", "other"], 2,
    (.cons (.par (.two 2 3) (.cons (.var 0) (.cons (.var 1) .nil)))
    (.cons (.whiles (.cmp .NotEq (.var 3) (.int 0)) (.cons (.par (.two 2 3) (.cons (.var 3) (.cons (.bin .Mod (.var 2) (.var 3)) .nil)))
    .nil))
    (.cons (.ret (.tup (.cons (.bin .FloorDiv (.var 0) (.var 2)) (.cons (.bin .FloorDiv (.var 1) (.var 2)) .nil))))
    .nil)))⟩
/-- share_at -/
def d_share_at : Def := ⟨["mail", "standing", "many", "bundle"], 2,
    (.cons (.expr (.call "need_mail" (.cons (.var 0) .nil)))
    (.cons (.ifs (.or (.not (.isi (.var 1) .tuple)) (.cmp .NotEq (.bi .len (.cons (.var 1) .nil)) (.int 2))) (.cons (.raise "BadNumber")
    .nil) .nil)
    (.cons (.ifs (.not (.bi .all (.cons (.comp (.call "is_whole" (.cons (.var 2) (.cons (.int 0) (.cons (.bi .len (.cons (.var 3) .nil)) .nil)))) [2, 3] (.two 2 3) (.zip (.var 1) (.var 0)) .none) .nil))) (.cons (.raise "BadNumber")
    .nil) .nil)
    (.cons (.expr (.call "need_there" (.cons (.var 0) .nil)))
    (.cons (.ret (.call "lowest" (.cons (.idx (.call "passing" (.cons (.var 0) .nil)) (.var 1)) (.cons (.call "count_of" (.cons (.var 0) .nil)) .nil))))
    .nil)))))⟩
/-- standings -/
def d_standings : Def := ⟨["mail", "table", "here"], 1,
    (.cons (.expr (.call "need_mail" (.cons (.var 0) .nil)))
    (.cons (.expr (.call "need_there" (.cons (.var 0) .nil)))
    (.cons (.asg 1 (.call "passing" (.cons (.var 0) .nil)))
    (.cons (.ret (.comp (.var 2) [2] (.one 2) (.live (.call "all_standings" (.cons (.var 0) .nil))) (.some (.cmp .Gt (.idx (.var 1) (.var 2)) (.int 0)))))
    .nil))))⟩
/-- sure_standings -/
def d_sure_standings : Def := ⟨["mail", "table", "here"], 1,
    (.cons (.expr (.call "need_mail" (.cons (.var 0) .nil)))
    (.cons (.expr (.call "need_there" (.cons (.var 0) .nil)))
    (.cons (.asg 1 (.call "passing" (.cons (.var 0) .nil)))
    (.cons (.ret (.comp (.var 2) [2] (.one 2) (.live (.call "all_standings" (.cons (.var 0) .nil))) (.some (.cmp .Eq (.idx (.var 1) (.var 2)) (.call "count_of" (.cons (.var 0) .nil))))))
    .nil))))⟩
/-- law -/
def d_law : Def := ⟨["_law_script", "_law_dice", "_law_mail", "_law_first", "_law_bad", "_law_every", "_law_spots", "_law_made", "_law_table", "_law_turns_here", "_law_some", "_law_spot", "_law_at", "_law_second"], 1,
    (.cons (.fors (.one 1) (.live (.call "_law_rounds" (.cons (.var 0) (.cons (.int 2) .nil)))) (.cons (.asg 2 (.call "_law_any_mail" (.cons (.var 1) (.cons (.int 5) (.cons (.int 5) .nil)))))
    (.cons (.asgT (.two 5 6) (.tup (.cons (.call "_law_orders" (.cons (.var 2) .nil)) (.cons (.lst .nil) .nil))))
    (.cons (.fors (.one 3) (.rng1 (.bin .Add (.bi .len (.cons (.idx (.var 2) (.int 0)) .nil)) (.int 1))) (.cons (.asg 6 (.bin .Add (.var 6) (.comp (.tup (.cons (.var 3) (.cons (.var 13) .nil))) [13] (.one 13) (.rng1 (.bin .Add (.bi .len (.cons (.idx (.var 2) (.int 1)) .nil)) (.int 1))) .none)))
    .nil))
    (.cons (.ifs (.cmp .Eq (.var 5) (.lst .nil)) (.cons (.asg 7 (.track (.lst (.cons (.told (.call "standings" (.cons (.var 2) .nil))) .nil))))
    (.cons (.append (.var 7) (.told (.call "sure_standings" (.cons (.var 2) .nil))))
    (.cons (.append (.var 7) (.told (.call "leads" (.cons (.var 2) .nil))))
    (.cons (.ifs (.cmp .NotEq (.bin .Add (.var 7) (.lst (.cons (.told (.call "share_at" (.cons (.var 2) (.cons (.tup (.cons (.int 0) (.cons (.int 0) .nil))) .nil)))) .nil))) (.bin .Mult (.lst (.cons (.tup (.cons (.str "refused") (.cons (.str "Nothing") .nil))) .nil)) (.int 4))) (.cons (.ret (.bl false))
    .nil) .nil)
    .nil)))) (.cons (.asg 8 (.track (.bi .dict (.cons (.comp (.tup (.cons (.var 11) (.cons (.int 0) .nil))) [11] (.one 11) (.live (.var 6)) .none) .nil))))
    (.cons (.fors (.one 9) (.live (.var 5)) (.cons (.fors (.one 12) (.rng1 (.bin .Add (.bi .len (.cons (.var 9) .nil)) (.int 1))) (.cons (.asg 11 (.tup (.cons (.bm (.slc (.var 9) .none (.some (.var 12))) .count (.cons (.int 0) .nil)) (.cons (.bm (.slc (.var 9) .none (.some (.var 12))) .count (.cons (.int 1) .nil)) .nil))))
    (.cons (.setIdx (.var 8) (.var 11) (.bin .Add (.idx (.var 8) (.var 11)) (.int 1)))
    .nil)))
    .nil))
    (.cons (.ifs (.cmp .NotEq (.call "standings" (.cons (.var 2) .nil)) (.comp (.var 11) [11] (.one 11) (.live (.var 6)) (.some (.cmp .Gt (.idx (.var 8) (.var 11)) (.int 0))))) (.cons (.ret (.bl false))
    .nil) .nil)
    (.cons (.ifs (.cmp .NotEq (.call "sure_standings" (.cons (.var 2) .nil)) (.comp (.var 11) [11] (.one 11) (.live (.var 6)) (.some (.cmp .Eq (.idx (.var 8) (.var 11)) (.bi .len (.cons (.var 5) .nil)))))) (.cons (.ret (.bl false))
    .nil) .nil)
    (.cons (.asg 10 (.comp (.bin .Sub (.idx (.var 11) (.int 0)) (.idx (.var 11) (.int 1))) [11] (.one 11) (.live (.var 6)) (.some (.cmp .Gt (.idx (.var 8) (.var 11)) (.int 0)))))
    (.cons (.ifs (.cmp .NotEq (.call "leads" (.cons (.var 2) .nil)) (.tup (.cons (.bi .maxL (.cons (.var 10) .nil)) (.cons (.bin .Sub (.int 0) (.bi .minL (.cons (.var 10) .nil))) .nil)))) (.cons (.ret (.bl false))
    .nil) .nil)
    (.cons (.fors (.one 11) (.live (.var 6)) (.cons (.ifs (.cmp .NotEq (.call "share_at" (.cons (.var 2) (.cons (.var 11) .nil))) (.call "_law_low" (.cons (.idx (.var 8) (.var 11)) (.cons (.bi .len (.cons (.var 5) .nil)) .nil)))) (.cons (.ret (.bl false))
    .nil) .nil)
    .nil))
    .nil))))))))
    (.cons (.fors (.one 4) (.live (.lst (.cons .non (.cons (.int 5) (.cons (.tup .nil) (.cons (.tup (.cons (.int 0) .nil)) (.cons (.lst (.cons (.int 0) (.cons (.int 0) .nil))) (.cons (.tup (.cons (.int 0) (.cons (.bin .Add (.bi .len (.cons (.idx (.var 2) (.int 1)) .nil)) (.int 1)) .nil))) (.cons (.tup (.cons (.neg (.int 1)) (.cons (.int 0) .nil))) (.cons (.tup (.cons (.bl true) (.cons (.int 0) .nil))) (.cons (.tup (.cons (.int 0) (.cons (.int 0) (.cons (.int 0) .nil)))) .nil))))))))))) (.cons (.ifs (.cmp .NotEq (.told (.call "share_at" (.cons (.var 2) (.cons (.var 4) .nil)))) (.tup (.cons (.str "refused") (.cons (.str "BadNumber") .nil)))) (.cons (.ret (.bl false))
    .nil) .nil)
    .nil))
    .nil))))))
    (.cons (.ret (.bl true))
    .nil))⟩
def table : List ((Str × Str) × Def) := [ent "" "_law_drawn" d_law_drawn, ent "" "_law_roll" d_law_roll, ent "" "_law_written" d_law_written, ent "" "_law_any_mail" d_law_any_mail, ent "" "_law_low" d_law_low, ent "" "_law_lets" d_law_lets, ent "" "_law_turns" d_law_turns, ent "" "_law_orders" d_law_orders, ent "" "_law_cell" d_law_cell, ent "" "_law_rounds" d_law_rounds, ent "" "is_whole" d_is_whole, ent "" "is_bundle" d_is_bundle, ent "" "is_mail" d_is_mail, ent "" "need_mail" d_need_mail, ent "" "all_pairs" d_all_pairs, ent "" "all_barring" d_all_barring, ent "" "is_there" d_is_there, ent "" "need_there" d_need_there, ent "" "after" d_after, ent "" "all_standings" d_all_standings, ent "" "may_write" d_may_write, ent "" "leading" d_leading, ent "Ways" "__init__" d_Ways_init, ent "" "end_of" d_end_of, ent "Ways" "count" d_Ways_count, ent "" "passing" d_passing, ent "" "leads" d_leads, ent "" "count_of" d_count_of, ent "" "lowest" d_lowest, ent "" "share_at" d_share_at, ent "" "standings" d_standings, ent "" "sure_standings" d_sure_standings, ent "" "law" d_law]
def fns : List (Str × Str) := table.map (·.1)
def flds : List Str := ["held", "known"]
def excs : List Str := ["BadMail", "BadNumber", "Nothing"]
abbrev s_is_whole : Stmt := top 16
abbrev s_is_bundle : Stmt := top 17
abbrev s_is_mail : Stmt := top 18
abbrev s_need_mail : Stmt := top 19
abbrev s_all_pairs : Stmt := top 20
abbrev s_all_barring : Stmt := top 21
abbrev s_is_there : Stmt := top 22
abbrev s_may_write : Stmt := top 24
abbrev s_after : Stmt := top 25
abbrev s_end_of : Stmt := top 26
abbrev s_Ways_init : Stmt := inClass (top 27) 0
abbrev s_Ways_count : Stmt := inClass (top 27) 1
abbrev s_count_of : Stmt := top 28
abbrev s_need_there : Stmt := top 30
abbrev s_lowest : Stmt := top 31
abbrev s_all_standings : Stmt := top 32
abbrev s_leading : Stmt := top 33
abbrev s_passing : Stmt := top 34
abbrev s_standings : Stmt := top 35
abbrev s_sure_standings : Stmt := top 36
abbrev s_leads : Stmt := top 37
abbrev s_share_at : Stmt := top 38
abbrev s_law_cell : Stmt := top 40
abbrev s_law_drawn : Stmt := top 41
abbrev s_law_roll : Stmt := top 42
abbrev s_law_rounds : Stmt := top 43
abbrev s_law_written : Stmt := top 46
abbrev s_law_any_mail : Stmt := top 47
abbrev s_law_lets : Stmt := top 48
abbrev s_law_turns : Stmt := top 49
abbrev s_law_orders : Stmt := top 50
abbrev s_law_low : Stmt := top 51
abbrev s_law : Stmt := top 52
abbrev s_law_told : Stmt := top 45
abbrev s_law_term : Stmt := top 44
theorem c_is_whole : fnChk false d_is_whole (d_is_whole.N.take d_is_whole.ar) s_is_whole flds fns excs = true := by decide +kernel
theorem c_is_bundle : fnChk false d_is_bundle (d_is_bundle.N.take d_is_bundle.ar) s_is_bundle flds fns excs = true := by decide +kernel
theorem c_is_mail : fnChk false d_is_mail (d_is_mail.N.take d_is_mail.ar) s_is_mail flds fns excs = true := by decide +kernel
theorem c_need_mail : fnChk false d_need_mail (d_need_mail.N.take d_need_mail.ar) s_need_mail flds fns excs = true := by decide +kernel
theorem c_all_pairs : fnChk false d_all_pairs (d_all_pairs.N.take d_all_pairs.ar) s_all_pairs flds fns excs = true := by decide +kernel
theorem c_all_barring : fnChk false d_all_barring (d_all_barring.N.take d_all_barring.ar) s_all_barring flds fns excs = true := by decide +kernel
theorem c_is_there : fnChk false d_is_there (d_is_there.N.take d_is_there.ar) s_is_there flds fns excs = true := by decide +kernel
theorem c_may_write : fnChk false d_may_write (d_may_write.N.take d_may_write.ar) s_may_write flds fns excs = true := by decide +kernel
theorem c_after : fnChk false d_after (d_after.N.take d_after.ar) s_after flds fns excs = true := by decide +kernel
theorem c_end_of : fnChk false d_end_of (d_end_of.N.take d_end_of.ar) s_end_of flds fns excs = true := by decide +kernel
theorem c_Ways_init : fnChk false d_Ways_init (d_Ways_init.N.take d_Ways_init.ar) s_Ways_init flds fns excs = true := by decide +kernel
theorem c_Ways_count : fnChk false d_Ways_count (d_Ways_count.N.take d_Ways_count.ar) s_Ways_count flds fns excs = true := by decide +kernel
theorem c_count_of : fnChk false d_count_of (d_count_of.N.take d_count_of.ar) s_count_of flds fns excs = true := by decide +kernel
theorem c_need_there : fnChk false d_need_there (d_need_there.N.take d_need_there.ar) s_need_there flds fns excs = true := by decide +kernel
theorem c_lowest : fnChk false d_lowest (d_lowest.N.take d_lowest.ar) s_lowest flds fns excs = true := by decide +kernel
theorem c_all_standings : fnChk false d_all_standings (d_all_standings.N.take d_all_standings.ar) s_all_standings flds fns excs = true := by decide +kernel
theorem c_leading : fnChk false d_leading (d_leading.N.take d_leading.ar) s_leading flds fns excs = true := by decide +kernel
theorem c_passing : fnChk false d_passing (d_passing.N.take d_passing.ar) s_passing flds fns excs = true := by decide +kernel
theorem c_standings : fnChk false d_standings (d_standings.N.take d_standings.ar) s_standings flds fns excs = true := by decide +kernel
theorem c_sure_standings : fnChk false d_sure_standings (d_sure_standings.N.take d_sure_standings.ar) s_sure_standings flds fns excs = true := by decide +kernel
theorem c_leads : fnChk false d_leads (d_leads.N.take d_leads.ar) s_leads flds fns excs = true := by decide +kernel
theorem c_share_at : fnChk false d_share_at (d_share_at.N.take d_share_at.ar) s_share_at flds fns excs = true := by decide +kernel
theorem c_law_cell : fnChk false d_law_cell (d_law_cell.N.take d_law_cell.ar) s_law_cell flds fns excs = true := by decide +kernel
theorem c_law_drawn : fnChk false d_law_drawn (d_law_drawn.N.take d_law_drawn.ar) s_law_drawn flds fns excs = true := by decide +kernel
theorem c_law_roll : fnChk false d_law_roll (d_law_roll.N.take d_law_roll.ar) s_law_roll flds fns excs = true := by decide +kernel
theorem c_law_rounds : fnChk false d_law_rounds (d_law_rounds.N.take d_law_rounds.ar) s_law_rounds flds fns excs = true := by decide +kernel
theorem c_law_written : fnChk false d_law_written (d_law_written.N.take d_law_written.ar) s_law_written flds fns excs = true := by decide +kernel
theorem c_law_any_mail : fnChk false d_law_any_mail (d_law_any_mail.N.take d_law_any_mail.ar) s_law_any_mail flds fns excs = true := by decide +kernel
theorem c_law_lets : fnChk false d_law_lets (d_law_lets.N.take d_law_lets.ar) s_law_lets flds fns excs = true := by decide +kernel
theorem c_law_turns : fnChk false d_law_turns (d_law_turns.N.take d_law_turns.ar) s_law_turns flds fns excs = true := by decide +kernel
theorem c_law_orders : fnChk false d_law_orders (d_law_orders.N.take d_law_orders.ar) s_law_orders flds fns excs = true := by decide +kernel
theorem c_law_low : fnChk false d_law_low (d_law_low.N.take d_law_low.ar) s_law_low flds fns excs = true := by decide +kernel
theorem c_law : fnChk true d_law (d_law.N.take d_law.ar) s_law flds fns excs = true := by decide +kernel
end K05
/-! PcEnd: from the top's facts to the law's promise. -/
namespace PC
open PySem L2
/-- what the top has written of a def -/
structure FnT (K : PySem.W.Frag) (x qual : Str) (st : Stmt) (f : Addr) : Prop where
  ex : ∃ (oc : Value) (od : Option Addr) (kV doc pm : Value) (an : Option Addr) (cdv ct : Value) (osl : Array (Option Value)),
    K.lookup f = some ⟨oc, od, .func (PySem.W.fnOf x qual (defArgs st) (defBody st) (defScope st) .none kV doc pm an cdv ct), osl⟩ ∧ PySem.W.codeIn K cdv qual = true
  kp : PySem.W.keepIn K (.ref f) = true
theorem fnT {K : PySem.W.Frag} {x qual : Str} {st : Stmt} {f : Addr} {oc : Value} {od : Option Addr} {kV doc pm : Value} {an : Option Addr} {cdv ct : Value} {osl : Array (Option Value)}
    (l : K.lookup f = some ⟨oc, od, .func (PySem.W.fnOf x qual (defArgs st) (defBody st) (defScope st) .none kV doc pm an cdv ct), osl⟩) (c : PySem.W.codeIn K cdv qual = true) (k : PySem.W.keepIn K (.ref f) = true) : FnT K x qual st f :=
  ⟨⟨oc, od, kV, doc, pm, an, cdv, ct, osl, l, c⟩, k⟩
theorem FnT.fn {K : PySem.W.Frag} {x qual : Str} {st : Stmt} {f : Addr} {ps : List Str} (T : FnT K x qual st f)
    (hb : ∀ (kV doc pm : Value) (an : Option Addr) (cdv ct : Value) (us : List Value), us.length = ps.length → bindArgs (PySem.W.fnOf x qual (defArgs st) (defBody st) (defScope st) .none kV doc pm an cdv ct) ⟨us, []⟩ = pure (ps.zip us)) :
    ∃ fd, PySem.W.keepIn K (.ref f) = true ∧ Binds K fd ps [] ∧ Fun K x qual st f fd := by
  obtain ⟨⟨oc, od, kV, doc, pm, an, cdv, ct, osl, l, c⟩, k⟩ := T
  have F := fun_mk l c k
  exact ⟨_, k, F.binds hb, F⟩
/-- the law's own promise -/
def spLaw (K : PySem.W.Frag) (tabs : List (Addr × Str)) : Sp := fun vs H Q E => ∃ (a : Addr) (ns : List Int), vs = [.ref a] ∧ (∀ p ∈ tabs, H p.1 = some (.tbl #[])) ∧ SqL K H a (ns.map V.int) ∧ ns.length ≤ 63 ∧ ∀ H', Q (.bl true) H'
def noList (K : PySem.W.Frag) : Bool := List.all K fun p => !(p.2.cls == Value.type "list")
theorem mem_lk {a : Addr} {o : Obj} : ∀ {K : List (Addr × Obj)}, K.lookup a = some o → (a, o) ∈ K
  | (b, u) :: r, h => by
    rw [List.lookup_cons] at h
    cases e : a == b with
    | true =>
      rw [e] at h
      cases h
      rw [show a = b from eq_of_beq e]
      exact List.mem_cons_self
    | false =>
      rw [e] at h
      exact List.mem_cons_of_mem _ (mem_lk h)
theorem noList_of {K : PySem.W.Frag} (h : noList K = true) {a : Addr} {o : Obj} (e : K.lookup a = some o) : o.cls ≠ .type "list" := by
  unfold noList at h
  rw [List.all_eq_true] at h
  have hm : (a, o) ∈ K := mem_lk e
  have := h _ hm
  intro z
  rw [z] at this
  simp at this
theorem reps_ints {M : Mo} {φ : List Addr} {H : Hp} : ∀ ns : List Int, Reps M φ H (ns.map T.int) (ns.map V.int)
  | [] => .nil
  | n :: ns => .cons (.int n) (reps_ints ns)
theorem law_sp {M : Mo} {D : Tab} {k : Nat} (hn : noList M.K = true) (h : ∀ ns : List Int, ns.length ≤ 63 → CallWP D k "" "law" [.ref 0] [.fix (ns.map .int)] (fun v _ => v = T.bl true) noX) (vs : List V) (H : Hp) (Q : VK) (E : XK) (q : spLaw M.K M.tabs vs H Q E) : spOf M D k "" "law" vs H Q E := by
  obtain ⟨a, ns, rfl, hO, hS, hl, hQ⟩ := q
  have hf : Rd H a (.lst (ns.map V.int)) := by
    rcases hS with h | ⟨o, its, n, h1, h2, _⟩
    · exact h
    · exact absurd h2 (noList_of hn h1)
  refine ⟨[a], [.fix (ns.map .int)], [.ref 0], _, noX, ⟨rfl, by simp, fun i o b h1 h2 => ?_, fun p hp => ⟨fun m => ?_, #[], hO p hp, trivial, fun pos cv hc => by simp [codeAmong] at hc⟩⟩, .cons (.ref rfl) .nil, h ns hl, fun t S φ' v H' e w r q => ?_, fun _ _ _ _ _ _ _ _ q => q.elim⟩
  · cases i with
    | zero =>
      cases h1
      cases h2
      exact .fix hf (reps_ints ns)
    | succ i => simp at h1
  · have e : p.1 = a := by simpa using m
    have := hO p hp
    rw [e] at this
    rcases hf with h | ⟨o, h⟩ <;> (rw [this] at h; cases h)
  · subst q
    cases r
    exact hQ H'
/-! ### a finite table -/
theorem lk_mem {α : Type} {β : Type} [BEq α] [LawfulBEq α] {a : α} {b : β} : ∀ {l : List (α × β)}, l.lookup a = some b → (a, b) ∈ l
  | (c, u) :: r, h => by
    rw [List.lookup_cons] at h
    cases e : a == c with
    | true =>
      rw [e] at h
      cases h
      rw [show a = c from eq_of_beq e]
      exact List.mem_cons_self
    | false =>
      rw [e] at h
      exact List.mem_cons_of_mem _ (lk_mem h)
theorem lk_has {α : Type} {β : Type} [BEq α] [LawfulBEq α] {a : α} : ∀ {l : List (α × β)}, (l.map (·.1)).contains a = true → ∃ b, l.lookup a = some b
  | (c, u) :: r, h => by
    rw [List.lookup_cons]
    cases e : a == c with
    | true => exact ⟨u, rfl⟩
    | false =>
      rw [List.map_cons, List.contains_cons, e, Bool.false_or] at h
      exact lk_has h
def DefOk (M : Mo) (fns : List (Str × Str)) (xs : List Str) (e : (Str × Str) × Def) : Prop := ∃ f fd ps x qual st, PySem.W.keepIn M.K (.ref f) = true ∧ Binds M.K fd ps [] ∧ Fun M.K x qual st f fd ∧ (∃ lam, fnChk lam e.2 ps st M.flds fns xs = true ∧ (lam = true → LamOk M fd qual)) ∧
  ((e.1.1 = "" ∧ M.mg e.1.2 = some (.ref f)) ∨ (e.1.1 ≠ "" ∧ ∃ Ca, M.cls e.1.1 = some Ca ∧ Meth M.K Ca e.1.2 f ∧ (e.1.2 = "__init__" → M.mg e.1.1 = some (.ref Ca) ∧ Mk M.K Ca f)))
def ClsOk (M : Mo) (p : Str × Addr) : Prop := Cls M.K p.2 ∧ ∀ f ∈ M.flds, NoAttr M.K p.2 f
def ExcOk (M : Mo) (p : Str × Addr) : Prop := M.mg p.1 = some (.ref p.2) ∧ PySem.W.keepIn M.K (.ref p.2) = true ∧ PySem.W.excIn M.K p.2 [.type "ValueError", .type "Exception", .type "BaseException", .type "object"] "ValueError.__new__" = true ∧ PySem.W.subIn M.K (.ref p.2) (.type "BaseException") = some true ∧ PySem.W.typeIn M.K (.ref p.2) = some (.type "type")
def GlbOk (M : Mo) (p : Str × T) : Prop := match p.2 with
  | .int i => ∃ t, M.mg p.1 = some (.int i t)
  | .str z => ∃ t, M.mg p.1 = some (.str z t)
  | _ => False
theorem glb_int {M : Mo} {x : Str} {i : Int} {t : Tok} (h : M.mg x = some (.int i t)) : GlbOk M (x, .int i) := ⟨t, h⟩
theorem glb_str {M : Mo} {x z : Str} {t : Tok} (h : M.mg x = some (.str z t)) : GlbOk M (x, .str z) := ⟨t, h⟩
def tabOf (table : List ((Str × Str) × Def)) (gl : List (Str × T)) : Tab := ⟨fun C g => table.lookup (C, g), fun x => gl.lookup x⟩
theorem mkBase {M : Mo} {table : List ((Str × Str) × Def)} {gl : List (Str × T)} {cl xl : List (Str × Addr)} (hc : M.cls = fun x => cl.lookup x) (hx : M.exc = fun x => xl.lookup x)
    (h1 : ∀ e ∈ table, DefOk M (table.map (·.1)) (xl.map (·.1)) e) (h2 : ∀ p ∈ cl, ClsOk M p) (h3 : ∀ p ∈ xl, ExcOk M p) (h4 : ∀ p ∈ gl, GlbOk M p) (h5 : ∀ x ∈ bltNames, M.mg x = none) (hi : ∀ p ∈ cl, ∀ q ∈ cl, p.2 = q.2 → p.1 = q.1) :
    Base M (tabOf table gl) (table.map (·.1)) (xl.map (·.1)) where
  hf := fun p hp => lk_has hp
  hx := fun c h => by rw [hx]; exact lk_has h
  glob := fun x t h => by
    have g := h4 _ (lk_mem (show gl.lookup x = some t from h))
    cases t <;> first | exact g.elim | skip
    · obtain ⟨tk, e2⟩ := g
      exact ⟨_, .int _, e2, ⟨tk, rfl⟩, fun _ _ => .int _⟩
    · obtain ⟨tk, e2⟩ := g
      exact ⟨_, .str _, e2, ⟨tk, rfl⟩, fun _ _ => .str _⟩
  blt := h5
  fn := fun g d h => by
    obtain ⟨f, fd, ps, x, qual, st, g1, g2, g3, g4, g5⟩ := h1 _ (lk_mem (show table.lookup (("" : Str), g) = some d from h))
    rcases g5 with ⟨_, g5⟩ | ⟨g5, _⟩
    · exact ⟨f, fd, ps, x, qual, st, g5, g1, g2, g3, g4⟩
    · exact absurd rfl g5
  meth := fun C m d h hC => by
    obtain ⟨f, fd, ps, x, qual, st, g1, g2, g3, g4, g5⟩ := h1 _ (lk_mem (show table.lookup (C, m) = some d from h))
    rcases g5 with ⟨g5, _⟩ | ⟨_, Ca, g5, g6, g7⟩
    · exact absurd g5 hC
    · exact ⟨Ca, f, fd, ps, x, qual, st, g5, g6, g7, g2, g3, g4⟩
  cls := fun C Ca h => by
    rw [hc] at h
    exact h2 _ (lk_mem h)
  exc := fun C Ca h => by
    rw [hx] at h
    exact h3 _ (lk_mem h)
  inj := fun C C' Ca e1 e2 => by
    rw [hc] at e1 e2
    exact hi _ (lk_mem e1) _ (lk_mem e2) rfl
/-- the law's def keeps the law's promise -/
theorem law_fn {M : Mo} {table : List ((Str × Str) × Def)} {gl : List (Str × T)} {fns : List (Str × Str)} {xs : List Str} {k : Nat} {f : Addr} {fd : FuncData} {ps : List Str} {d : Def} {x qual : Str} {st : Stmt} (B : Base M (tabOf table gl) fns xs) (hn : noList M.K = true)
    (hd : table.lookup (("" : Str), ("law" : Str)) = some d) (F : Fun M.K x qual st f fd) {lam : Bool} (hlam : lam = true → LamOk M fd qual) (hc : fnChk lam d ps st M.flds fns xs = true)
    (h : ∀ ns : List Int, ns.length ≤ 63 → CallWP (tabOf table gl) (k + 1) "" "law" [.ref 0] [.fix (ns.map .int)] (fun v _ => v = T.bl true) noX) : FnOk M.P M.w M.K M.mg M.base (L2N.CX M.P M.w) (5 * (k + 1)) f fd ps (spLaw M.K M.tabs) :=
  (fn_ok (lib_of B k) B.hf B.hx hd F hlam hc).imp fun vs H Q E q => law_sp hn h vs H Q E q
def isAll (K : PySem.W.Frag) (D : Addr) (c0 : Str) (al : List (Str × Addr)) : Bool := al.all fun p => decide (PySem.W.kitOne K (.ref D) (.ref p.2) = some (decide (p.1 = c0)))
theorem isAll_of {K : PySem.W.Frag} {mg : Str → Option Value} {D : Addr} {c0 c : Str} {al : List (Str × Addr)} (h : isAll K D c0 al = true) (hc : c ∈ excN) (hn : al.map (·.1) = excN) (hm : ∀ p ∈ al, mg p.1 = some (.ref p.2)) : ∃ a, mg c = some (.ref a) ∧ PySem.W.kitOne K (.ref D) (.ref a) = some (decide (c = c0)) := by
  rw [← hn] at hc
  obtain ⟨p, hp, rfl⟩ := List.mem_map.mp hc
  exact ⟨p.2, hm p hp, of_decide_eq_true (List.all_eq_true.mp h p hp)⟩
theorem tabs_un {tabs : List (Addr × Str)} (hu : ∀ p ∈ tabs, ∀ r ∈ tabs, p.1 = r.1 → p.2 = r.2) {P : Addr} {q : Str} (hm : (P, q) ∈ tabs) : ∀ p ∈ tabs, p.1 = P → p.2 = q := fun p hp e => hu p hp _ hm e
/-! ### the tables of code objects at the top's end -/
theorem tab_in {K : PySem.W.Frag} {x : Str} {f c P : Addr} {o1 o2 : Value} {d1 d2 : Option Addr} {fd : FuncData} {s1 s2 : Array (Option Value)} {vs : Array Value} (a : PySem.W.nsIn K mainGlobals x = some (some (.ref f))) (l : K.lookup f = some ⟨o1, d1, .func fd, s1⟩) (hc : fd.code = .ref c) (co : K.lookup c = some ⟨o2, d2, .fields vs, s2⟩) (p : vs[11]? = some (.ref P)) : PySem.W.tabIn K x = some (c, P) := by
  unfold PySem.W.tabIn
  simp only [a, l, hc, co, p]
theorem walk_tabs {l : PySem.W.OpenLaw} {n k : Nat} {q : Program} {loose : List Str} {XP : (Str → Option Value) → Heap → Prop} {YP : World → Heap → Prop} {d : DefRec} {K : Params → PySem.W.Frag} {CX : World → CXT} {x : Str} (names : List Str)
    (hn : l.most = some n) (hn2 : n ≤ sizeLine) (hdf : d.params.defaults = []) (hr : Room k PySem.callerA) (hrec : (names.all fun x => (PyProof.Rows.recsOf q).any fun e => e.name == x) = true) (hY : ∀ (w : World) (h : Heap), YP w h → (K w.params).In h)
    (F : ∀ (w : World) (mg : Str → Option Value) (fa : Addr) (h : Heap), YP w h → (K w.params).In h → h.Ns mainGlobals mg → mg d.name = some (.ref fa) → (∀ x ∈ names, ∀ c P, PySem.W.tabIn (K w.params) x = some (c, P) → PySem.W.CodeHd h c P ∧ h.get? P = some { cls := .none, data := .fields #[] }) → LamX.LawAtS l w (K w.params) (CX w) k n x mg fa h)
    (hCX : ∀ (w : World) (H : Hp) (s : Shared) (e : Value) (s' : Shared), CX w [] H s (fun _ _ _ => False) e s' → False) :
    PySem.W.WalkO q loose XP YP l.row.toRowW d [] (fun f vs => PySem.call f vs) := by
  refine Att.attach_callB hn hdf fun w s₀ s₁ mg mb fa o pm cd doc a vs ns G Y ho hd hcd hmg hobj hints hlen hbits hg => ?_
  have KX := hY w _ Y
  have own : ∀ x ∈ names, ∀ c P, PySem.W.tabIn (K w.params) x = some (c, P) → PySem.W.CodeHd s₁.heap c P ∧ s₁.heap.get? P = some { cls := .none, data := .fields #[] } := fun x hx c P ht => by
    have h1 := List.all_eq_true.mp hrec x hx
    cases e : (PyProof.Rows.recsOf q).find? (fun e => e.name == x) with
    | none =>
      have h2 := List.find?_eq_none.mp e
      obtain ⟨dL, hm, hn1⟩ := List.any_eq_true.mp h1
      exact absurd hn1 (h2 dL hm)
    | some dL => exact PySem.W.tab_of G.T KX e ht
  obtain ⟨fd, cs, sp, hT, nT, C, hb, hsp, hF⟩ := F w mg fa _ Y KX G.T.g hmg own
  exact LamX.law_callTs KX G.T.g G.T.b G.T.builtins G.T.nolimit hg hT nT C G.T.bmain hobj hints (Nat.le_trans hlen hn2) hr hF hb (fun H hH hS => hsp H a ns hlen hbits hH hS) fun H e s' => hCX w H s₁ e s'
end PC
namespace K05
open PySem L2 PC
theorem tab_law : table.lookup (("" : Str), ("law" : Str)) = some d_law := by rfl
def gl : List (Str × T) := [("MOST", .int 7)]
def tab : Tab := tabOf table gl
def lamNames : List Str := ["law"]
theorem all_mk (LAW : ∀ ns : List Int, ns.length ≤ 63 → CallWP tab 30 "" "law" [.ref 0] [.fix (ns.map .int)] (fun v _ => v = T.bl true) noX) {l : PySem.W.OpenLaw} {w : World} {K : PySem.W.Frag} {h : Heap} {mg : Str → Option Value} {fa C_Ways E_BadMail E_BadLetter E_BadNumber E_BadOrder E_BadPart E_BadRough E_BadDates E_Nothing E_Full E_BadText E_BadFound f0 f1 f2 f3 f4 f5 f6 f7 f8 f9 f10 f11 f12 f13 f14 f15 f16 f17 f18 f19 f20 f21 f22 f23 f24 f25 f26 f27 f28 f29 f30 f31 f32 g_told g_term E_MailError : Addr} (X : K.In h) (G : h.Ns mainGlobals mg) (hfa : mg "law" = some (.ref fa)) (own : ∀ x ∈ lamNames, ∀ c P, PySem.W.tabIn K x = some (c, P) → PySem.W.CodeHd h c P ∧ h.get? P = some { cls := .none, data := .fields #[] })
    {od0 an0 : Option Addr} {sl0 : Array (Option Value)} {oc0 kV0 dc0 pm0 cd0 ct0 : Value}
    {od1 an1 : Option Addr} {sl1 : Array (Option Value)} {oc1 kV1 dc1 pm1 cd1 ct1 : Value}
    {od2 an2 : Option Addr} {sl2 : Array (Option Value)} {oc2 kV2 dc2 pm2 cd2 ct2 : Value}
    {od3 an3 : Option Addr} {sl3 : Array (Option Value)} {oc3 kV3 dc3 pm3 cd3 ct3 : Value}
    {od4 an4 : Option Addr} {sl4 : Array (Option Value)} {oc4 kV4 dc4 pm4 cd4 ct4 : Value}
    {od5 an5 : Option Addr} {sl5 : Array (Option Value)} {oc5 kV5 dc5 pm5 cd5 ct5 : Value}
    {od6 an6 : Option Addr} {sl6 : Array (Option Value)} {oc6 kV6 dc6 pm6 cd6 ct6 : Value}
    {od7 an7 : Option Addr} {sl7 : Array (Option Value)} {oc7 kV7 dc7 pm7 cd7 ct7 : Value}
    {od8 an8 : Option Addr} {sl8 : Array (Option Value)} {oc8 kV8 dc8 pm8 cd8 ct8 : Value}
    {od9 an9 : Option Addr} {sl9 : Array (Option Value)} {oc9 kV9 dc9 pm9 cd9 ct9 : Value}
    {od10 an10 : Option Addr} {sl10 : Array (Option Value)} {oc10 kV10 dc10 pm10 cd10 ct10 : Value}
    {od11 an11 : Option Addr} {sl11 : Array (Option Value)} {oc11 kV11 dc11 pm11 cd11 ct11 : Value}
    {od12 an12 : Option Addr} {sl12 : Array (Option Value)} {oc12 kV12 dc12 pm12 cd12 ct12 : Value}
    {od13 an13 : Option Addr} {sl13 : Array (Option Value)} {oc13 kV13 dc13 pm13 cd13 ct13 : Value}
    {od14 an14 : Option Addr} {sl14 : Array (Option Value)} {oc14 kV14 dc14 pm14 cd14 ct14 : Value}
    {od15 an15 : Option Addr} {sl15 : Array (Option Value)} {oc15 kV15 dc15 pm15 cd15 ct15 : Value}
    {od16 an16 : Option Addr} {sl16 : Array (Option Value)} {oc16 kV16 dc16 pm16 cd16 ct16 : Value}
    {od17 an17 : Option Addr} {sl17 : Array (Option Value)} {oc17 kV17 dc17 pm17 cd17 ct17 : Value}
    {od18 an18 : Option Addr} {sl18 : Array (Option Value)} {oc18 kV18 dc18 pm18 cd18 ct18 : Value}
    {od19 an19 : Option Addr} {sl19 : Array (Option Value)} {oc19 kV19 dc19 pm19 cd19 ct19 : Value}
    {od20 an20 : Option Addr} {sl20 : Array (Option Value)} {oc20 kV20 dc20 pm20 cd20 ct20 : Value}
    {od21 an21 : Option Addr} {sl21 : Array (Option Value)} {oc21 kV21 dc21 pm21 cd21 ct21 : Value}
    {od22 an22 : Option Addr} {sl22 : Array (Option Value)} {oc22 kV22 dc22 pm22 cd22 ct22 : Value}
    {od23 an23 : Option Addr} {sl23 : Array (Option Value)} {oc23 kV23 dc23 pm23 cd23 ct23 : Value}
    {od24 an24 : Option Addr} {sl24 : Array (Option Value)} {oc24 kV24 dc24 pm24 cd24 ct24 : Value}
    {od25 an25 : Option Addr} {sl25 : Array (Option Value)} {oc25 kV25 dc25 pm25 cd25 ct25 : Value}
    {od26 an26 : Option Addr} {sl26 : Array (Option Value)} {oc26 kV26 dc26 pm26 cd26 ct26 : Value}
    {od27 an27 : Option Addr} {sl27 : Array (Option Value)} {oc27 kV27 dc27 pm27 cd27 ct27 : Value}
    {od28 an28 : Option Addr} {sl28 : Array (Option Value)} {oc28 kV28 dc28 pm28 cd28 ct28 : Value}
    {od29 an29 : Option Addr} {sl29 : Array (Option Value)} {oc29 kV29 dc29 pm29 cd29 ct29 : Value}
    {od30 an30 : Option Addr} {sl30 : Array (Option Value)} {oc30 kV30 dc30 pm30 cd30 ct30 : Value}
    {od31 an31 : Option Addr} {sl31 : Array (Option Value)} {oc31 kV31 dc31 pm31 cd31 ct31 : Value}
    {od32 an32 : Option Addr} {sl32 : Array (Option Value)} {oc32 kV32 dc32 pm32  ct32 : Value} {co32 P32 : Addr} {eo32 : Value} {eq32 : Option Addr} {ev32 : Array Value} {es32 : Array (Option Value)}
    {odT anT : Option Addr} {slT : Array (Option Value)} {ocT kVT dcT pmT cdT ctT : Value}
    {odM anM : Option Addr} {slM : Array (Option Value)} {ocM kVM dcM pmM cdM ctM : Value}
    {tk_MOST : Tok}
    (Ways_a : PySem.W.nsIn K mainGlobals "Ways" = some (some (.ref C_Ways)))
    (BadMail_a : PySem.W.nsIn K mainGlobals "BadMail" = some (some (.ref E_BadMail)))
    (BadLetter_a : PySem.W.nsIn K mainGlobals "BadLetter" = some (some (.ref E_BadLetter)))
    (BadNumber_a : PySem.W.nsIn K mainGlobals "BadNumber" = some (some (.ref E_BadNumber)))
    (BadOrder_a : PySem.W.nsIn K mainGlobals "BadOrder" = some (some (.ref E_BadOrder)))
    (BadPart_a : PySem.W.nsIn K mainGlobals "BadPart" = some (some (.ref E_BadPart)))
    (BadRough_a : PySem.W.nsIn K mainGlobals "BadRough" = some (some (.ref E_BadRough)))
    (BadDates_a : PySem.W.nsIn K mainGlobals "BadDates" = some (some (.ref E_BadDates)))
    (Nothing_a : PySem.W.nsIn K mainGlobals "Nothing" = some (some (.ref E_Nothing)))
    (Full_a : PySem.W.nsIn K mainGlobals "Full" = some (some (.ref E_Full)))
    (BadText_a : PySem.W.nsIn K mainGlobals "BadText" = some (some (.ref E_BadText)))
    (BadFound_a : PySem.W.nsIn K mainGlobals "BadFound" = some (some (.ref E_BadFound)))
    (mail_a : PySem.W.nsIn K mainGlobals "MailError" = some (some (.ref E_MailError)))
    (a0 : PySem.W.nsIn K mainGlobals "is_whole" = some (some (.ref f0)))
    (l0 : K.lookup f0 = some ⟨oc0, od0, .func (PySem.W.fnOf "is_whole" "is_whole" (defArgs s_is_whole) (defBody s_is_whole) (defScope s_is_whole) .none kV0 dc0 pm0 an0 cd0 ct0), sl0⟩)
    (c0 : PySem.W.codeIn K cd0 "is_whole" = true)
    (k0 : PySem.W.keepIn K (.ref f0) = true)
    (a1 : PySem.W.nsIn K mainGlobals "is_bundle" = some (some (.ref f1)))
    (l1 : K.lookup f1 = some ⟨oc1, od1, .func (PySem.W.fnOf "is_bundle" "is_bundle" (defArgs s_is_bundle) (defBody s_is_bundle) (defScope s_is_bundle) .none kV1 dc1 pm1 an1 cd1 ct1), sl1⟩)
    (c1 : PySem.W.codeIn K cd1 "is_bundle" = true)
    (k1 : PySem.W.keepIn K (.ref f1) = true)
    (a2 : PySem.W.nsIn K mainGlobals "is_mail" = some (some (.ref f2)))
    (l2 : K.lookup f2 = some ⟨oc2, od2, .func (PySem.W.fnOf "is_mail" "is_mail" (defArgs s_is_mail) (defBody s_is_mail) (defScope s_is_mail) .none kV2 dc2 pm2 an2 cd2 ct2), sl2⟩)
    (c2 : PySem.W.codeIn K cd2 "is_mail" = true)
    (k2 : PySem.W.keepIn K (.ref f2) = true)
    (a3 : PySem.W.nsIn K mainGlobals "need_mail" = some (some (.ref f3)))
    (l3 : K.lookup f3 = some ⟨oc3, od3, .func (PySem.W.fnOf "need_mail" "need_mail" (defArgs s_need_mail) (defBody s_need_mail) (defScope s_need_mail) .none kV3 dc3 pm3 an3 cd3 ct3), sl3⟩)
    (c3 : PySem.W.codeIn K cd3 "need_mail" = true)
    (k3 : PySem.W.keepIn K (.ref f3) = true)
    (a4 : PySem.W.nsIn K mainGlobals "all_pairs" = some (some (.ref f4)))
    (l4 : K.lookup f4 = some ⟨oc4, od4, .func (PySem.W.fnOf "all_pairs" "all_pairs" (defArgs s_all_pairs) (defBody s_all_pairs) (defScope s_all_pairs) .none kV4 dc4 pm4 an4 cd4 ct4), sl4⟩)
    (c4 : PySem.W.codeIn K cd4 "all_pairs" = true)
    (k4 : PySem.W.keepIn K (.ref f4) = true)
    (a5 : PySem.W.nsIn K mainGlobals "all_barring" = some (some (.ref f5)))
    (l5 : K.lookup f5 = some ⟨oc5, od5, .func (PySem.W.fnOf "all_barring" "all_barring" (defArgs s_all_barring) (defBody s_all_barring) (defScope s_all_barring) .none kV5 dc5 pm5 an5 cd5 ct5), sl5⟩)
    (c5 : PySem.W.codeIn K cd5 "all_barring" = true)
    (k5 : PySem.W.keepIn K (.ref f5) = true)
    (a6 : PySem.W.nsIn K mainGlobals "is_there" = some (some (.ref f6)))
    (l6 : K.lookup f6 = some ⟨oc6, od6, .func (PySem.W.fnOf "is_there" "is_there" (defArgs s_is_there) (defBody s_is_there) (defScope s_is_there) .none kV6 dc6 pm6 an6 cd6 ct6), sl6⟩)
    (c6 : PySem.W.codeIn K cd6 "is_there" = true)
    (k6 : PySem.W.keepIn K (.ref f6) = true)
    (a7 : PySem.W.nsIn K mainGlobals "may_write" = some (some (.ref f7)))
    (l7 : K.lookup f7 = some ⟨oc7, od7, .func (PySem.W.fnOf "may_write" "may_write" (defArgs s_may_write) (defBody s_may_write) (defScope s_may_write) .none kV7 dc7 pm7 an7 cd7 ct7), sl7⟩)
    (c7 : PySem.W.codeIn K cd7 "may_write" = true)
    (k7 : PySem.W.keepIn K (.ref f7) = true)
    (a8 : PySem.W.nsIn K mainGlobals "after" = some (some (.ref f8)))
    (l8 : K.lookup f8 = some ⟨oc8, od8, .func (PySem.W.fnOf "after" "after" (defArgs s_after) (defBody s_after) (defScope s_after) .none kV8 dc8 pm8 an8 cd8 ct8), sl8⟩)
    (c8 : PySem.W.codeIn K cd8 "after" = true)
    (k8 : PySem.W.keepIn K (.ref f8) = true)
    (a9 : PySem.W.nsIn K mainGlobals "end_of" = some (some (.ref f9)))
    (l9 : K.lookup f9 = some ⟨oc9, od9, .func (PySem.W.fnOf "end_of" "end_of" (defArgs s_end_of) (defBody s_end_of) (defScope s_end_of) .none kV9 dc9 pm9 an9 cd9 ct9), sl9⟩)
    (c9 : PySem.W.codeIn K cd9 "end_of" = true)
    (k9 : PySem.W.keepIn K (.ref f9) = true)
    (a10 : PySem.W.findIn K (.ref C_Ways) "__init__" = some (some (.ref f10)))
    (i10 : PySem.W.isFn K (.ref f10) = true)
    (l10 : K.lookup f10 = some ⟨oc10, od10, .func (PySem.W.fnOf "__init__" "Ways.__init__" (defArgs s_Ways_init) (defBody s_Ways_init) (defScope s_Ways_init) .none kV10 dc10 pm10 an10 cd10 ct10), sl10⟩)
    (c10 : PySem.W.codeIn K cd10 "Ways.__init__" = true)
    (k10 : PySem.W.keepIn K (.ref f10) = true)
    (a11 : PySem.W.findIn K (.ref C_Ways) "count" = some (some (.ref f11)))
    (i11 : PySem.W.isFn K (.ref f11) = true)
    (l11 : K.lookup f11 = some ⟨oc11, od11, .func (PySem.W.fnOf "count" "Ways.count" (defArgs s_Ways_count) (defBody s_Ways_count) (defScope s_Ways_count) .none kV11 dc11 pm11 an11 cd11 ct11), sl11⟩)
    (c11 : PySem.W.codeIn K cd11 "Ways.count" = true)
    (k11 : PySem.W.keepIn K (.ref f11) = true)
    (a12 : PySem.W.nsIn K mainGlobals "count_of" = some (some (.ref f12)))
    (l12 : K.lookup f12 = some ⟨oc12, od12, .func (PySem.W.fnOf "count_of" "count_of" (defArgs s_count_of) (defBody s_count_of) (defScope s_count_of) .none kV12 dc12 pm12 an12 cd12 ct12), sl12⟩)
    (c12 : PySem.W.codeIn K cd12 "count_of" = true)
    (k12 : PySem.W.keepIn K (.ref f12) = true)
    (a13 : PySem.W.nsIn K mainGlobals "need_there" = some (some (.ref f13)))
    (l13 : K.lookup f13 = some ⟨oc13, od13, .func (PySem.W.fnOf "need_there" "need_there" (defArgs s_need_there) (defBody s_need_there) (defScope s_need_there) .none kV13 dc13 pm13 an13 cd13 ct13), sl13⟩)
    (c13 : PySem.W.codeIn K cd13 "need_there" = true)
    (k13 : PySem.W.keepIn K (.ref f13) = true)
    (a14 : PySem.W.nsIn K mainGlobals "lowest" = some (some (.ref f14)))
    (l14 : K.lookup f14 = some ⟨oc14, od14, .func (PySem.W.fnOf "lowest" "lowest" (defArgs s_lowest) (defBody s_lowest) (defScope s_lowest) .none kV14 dc14 pm14 an14 cd14 ct14), sl14⟩)
    (c14 : PySem.W.codeIn K cd14 "lowest" = true)
    (k14 : PySem.W.keepIn K (.ref f14) = true)
    (a15 : PySem.W.nsIn K mainGlobals "all_standings" = some (some (.ref f15)))
    (l15 : K.lookup f15 = some ⟨oc15, od15, .func (PySem.W.fnOf "all_standings" "all_standings" (defArgs s_all_standings) (defBody s_all_standings) (defScope s_all_standings) .none kV15 dc15 pm15 an15 cd15 ct15), sl15⟩)
    (c15 : PySem.W.codeIn K cd15 "all_standings" = true)
    (k15 : PySem.W.keepIn K (.ref f15) = true)
    (a16 : PySem.W.nsIn K mainGlobals "leading" = some (some (.ref f16)))
    (l16 : K.lookup f16 = some ⟨oc16, od16, .func (PySem.W.fnOf "leading" "leading" (defArgs s_leading) (defBody s_leading) (defScope s_leading) .none kV16 dc16 pm16 an16 cd16 ct16), sl16⟩)
    (c16 : PySem.W.codeIn K cd16 "leading" = true)
    (k16 : PySem.W.keepIn K (.ref f16) = true)
    (a17 : PySem.W.nsIn K mainGlobals "passing" = some (some (.ref f17)))
    (l17 : K.lookup f17 = some ⟨oc17, od17, .func (PySem.W.fnOf "passing" "passing" (defArgs s_passing) (defBody s_passing) (defScope s_passing) .none kV17 dc17 pm17 an17 cd17 ct17), sl17⟩)
    (c17 : PySem.W.codeIn K cd17 "passing" = true)
    (k17 : PySem.W.keepIn K (.ref f17) = true)
    (a18 : PySem.W.nsIn K mainGlobals "standings" = some (some (.ref f18)))
    (l18 : K.lookup f18 = some ⟨oc18, od18, .func (PySem.W.fnOf "standings" "standings" (defArgs s_standings) (defBody s_standings) (defScope s_standings) .none kV18 dc18 pm18 an18 cd18 ct18), sl18⟩)
    (c18 : PySem.W.codeIn K cd18 "standings" = true)
    (k18 : PySem.W.keepIn K (.ref f18) = true)
    (a19 : PySem.W.nsIn K mainGlobals "sure_standings" = some (some (.ref f19)))
    (l19 : K.lookup f19 = some ⟨oc19, od19, .func (PySem.W.fnOf "sure_standings" "sure_standings" (defArgs s_sure_standings) (defBody s_sure_standings) (defScope s_sure_standings) .none kV19 dc19 pm19 an19 cd19 ct19), sl19⟩)
    (c19 : PySem.W.codeIn K cd19 "sure_standings" = true)
    (k19 : PySem.W.keepIn K (.ref f19) = true)
    (a20 : PySem.W.nsIn K mainGlobals "leads" = some (some (.ref f20)))
    (l20 : K.lookup f20 = some ⟨oc20, od20, .func (PySem.W.fnOf "leads" "leads" (defArgs s_leads) (defBody s_leads) (defScope s_leads) .none kV20 dc20 pm20 an20 cd20 ct20), sl20⟩)
    (c20 : PySem.W.codeIn K cd20 "leads" = true)
    (k20 : PySem.W.keepIn K (.ref f20) = true)
    (a21 : PySem.W.nsIn K mainGlobals "share_at" = some (some (.ref f21)))
    (l21 : K.lookup f21 = some ⟨oc21, od21, .func (PySem.W.fnOf "share_at" "share_at" (defArgs s_share_at) (defBody s_share_at) (defScope s_share_at) .none kV21 dc21 pm21 an21 cd21 ct21), sl21⟩)
    (c21 : PySem.W.codeIn K cd21 "share_at" = true)
    (k21 : PySem.W.keepIn K (.ref f21) = true)
    (a22 : PySem.W.nsIn K mainGlobals "_law_cell" = some (some (.ref f22)))
    (l22 : K.lookup f22 = some ⟨oc22, od22, .func (PySem.W.fnOf "_law_cell" "_law_cell" (defArgs s_law_cell) (defBody s_law_cell) (defScope s_law_cell) .none kV22 dc22 pm22 an22 cd22 ct22), sl22⟩)
    (c22 : PySem.W.codeIn K cd22 "_law_cell" = true)
    (k22 : PySem.W.keepIn K (.ref f22) = true)
    (a23 : PySem.W.nsIn K mainGlobals "_law_drawn" = some (some (.ref f23)))
    (l23 : K.lookup f23 = some ⟨oc23, od23, .func (PySem.W.fnOf "_law_drawn" "_law_drawn" (defArgs s_law_drawn) (defBody s_law_drawn) (defScope s_law_drawn) .none kV23 dc23 pm23 an23 cd23 ct23), sl23⟩)
    (c23 : PySem.W.codeIn K cd23 "_law_drawn" = true)
    (k23 : PySem.W.keepIn K (.ref f23) = true)
    (a24 : PySem.W.nsIn K mainGlobals "_law_roll" = some (some (.ref f24)))
    (l24 : K.lookup f24 = some ⟨oc24, od24, .func (PySem.W.fnOf "_law_roll" "_law_roll" (defArgs s_law_roll) (defBody s_law_roll) (defScope s_law_roll) .none kV24 dc24 pm24 an24 cd24 ct24), sl24⟩)
    (c24 : PySem.W.codeIn K cd24 "_law_roll" = true)
    (k24 : PySem.W.keepIn K (.ref f24) = true)
    (a25 : PySem.W.nsIn K mainGlobals "_law_rounds" = some (some (.ref f25)))
    (l25 : K.lookup f25 = some ⟨oc25, od25, .func (PySem.W.fnOf "_law_rounds" "_law_rounds" (defArgs s_law_rounds) (defBody s_law_rounds) (defScope s_law_rounds) .none kV25 dc25 pm25 an25 cd25 ct25), sl25⟩)
    (c25 : PySem.W.codeIn K cd25 "_law_rounds" = true)
    (k25 : PySem.W.keepIn K (.ref f25) = true)
    (a26 : PySem.W.nsIn K mainGlobals "_law_written" = some (some (.ref f26)))
    (l26 : K.lookup f26 = some ⟨oc26, od26, .func (PySem.W.fnOf "_law_written" "_law_written" (defArgs s_law_written) (defBody s_law_written) (defScope s_law_written) .none kV26 dc26 pm26 an26 cd26 ct26), sl26⟩)
    (c26 : PySem.W.codeIn K cd26 "_law_written" = true)
    (k26 : PySem.W.keepIn K (.ref f26) = true)
    (a27 : PySem.W.nsIn K mainGlobals "_law_any_mail" = some (some (.ref f27)))
    (l27 : K.lookup f27 = some ⟨oc27, od27, .func (PySem.W.fnOf "_law_any_mail" "_law_any_mail" (defArgs s_law_any_mail) (defBody s_law_any_mail) (defScope s_law_any_mail) .none kV27 dc27 pm27 an27 cd27 ct27), sl27⟩)
    (c27 : PySem.W.codeIn K cd27 "_law_any_mail" = true)
    (k27 : PySem.W.keepIn K (.ref f27) = true)
    (a28 : PySem.W.nsIn K mainGlobals "_law_lets" = some (some (.ref f28)))
    (l28 : K.lookup f28 = some ⟨oc28, od28, .func (PySem.W.fnOf "_law_lets" "_law_lets" (defArgs s_law_lets) (defBody s_law_lets) (defScope s_law_lets) .none kV28 dc28 pm28 an28 cd28 ct28), sl28⟩)
    (c28 : PySem.W.codeIn K cd28 "_law_lets" = true)
    (k28 : PySem.W.keepIn K (.ref f28) = true)
    (a29 : PySem.W.nsIn K mainGlobals "_law_turns" = some (some (.ref f29)))
    (l29 : K.lookup f29 = some ⟨oc29, od29, .func (PySem.W.fnOf "_law_turns" "_law_turns" (defArgs s_law_turns) (defBody s_law_turns) (defScope s_law_turns) .none kV29 dc29 pm29 an29 cd29 ct29), sl29⟩)
    (c29 : PySem.W.codeIn K cd29 "_law_turns" = true)
    (k29 : PySem.W.keepIn K (.ref f29) = true)
    (a30 : PySem.W.nsIn K mainGlobals "_law_orders" = some (some (.ref f30)))
    (l30 : K.lookup f30 = some ⟨oc30, od30, .func (PySem.W.fnOf "_law_orders" "_law_orders" (defArgs s_law_orders) (defBody s_law_orders) (defScope s_law_orders) .none kV30 dc30 pm30 an30 cd30 ct30), sl30⟩)
    (c30 : PySem.W.codeIn K cd30 "_law_orders" = true)
    (k30 : PySem.W.keepIn K (.ref f30) = true)
    (a31 : PySem.W.nsIn K mainGlobals "_law_low" = some (some (.ref f31)))
    (l31 : K.lookup f31 = some ⟨oc31, od31, .func (PySem.W.fnOf "_law_low" "_law_low" (defArgs s_law_low) (defBody s_law_low) (defScope s_law_low) .none kV31 dc31 pm31 an31 cd31 ct31), sl31⟩)
    (c31 : PySem.W.codeIn K cd31 "_law_low" = true)
    (k31 : PySem.W.keepIn K (.ref f31) = true)
    (a32 : PySem.W.nsIn K mainGlobals "law" = some (some (.ref f32)))
    (l32 : K.lookup f32 = some ⟨oc32, od32, .func (PySem.W.fnOf "law" "law" (defArgs s_law) (defBody s_law) (defScope s_law) .none kV32 dc32 pm32 an32 (.ref co32) ct32), sl32⟩)
    (c32 : PySem.W.codeIn K (.ref co32) "law" = true)
    (k32 : PySem.W.keepIn K (.ref f32) = true)
    (v32 : K.lookup co32 = some ⟨eo32, eq32, .fields ev32, es32⟩)
    (p32 : ev32[11]? = some (.ref P32))
    (n32 : K.lookup P32 = none)
    (aT : PySem.W.nsIn K mainGlobals "_law_told" = some (some (.ref g_told)))
    (lT : K.lookup g_told = some ⟨ocT, odT, .func (PySem.W.fnOf "_law_told" "_law_told" (defArgs s_law_told) (defBody s_law_told) (defScope s_law_told) .none kVT dcT pmT anT cdT ctT), slT⟩)
    (cT : PySem.W.codeIn K cdT "_law_told" = true)
    (kT : PySem.W.keepIn K (.ref g_told) = true)
    (aM : PySem.W.nsIn K mainGlobals "_law_term" = some (some (.ref g_term)))
    (lM : K.lookup g_term = some ⟨ocM, odM, .func (PySem.W.fnOf "_law_term" "_law_term" (defArgs s_law_term) (defBody s_law_term) (defScope s_law_term) .none kVM dcM pmM anM cdM ctM), slM⟩)
    (cM : PySem.W.codeIn K cdM "_law_term" = true)
    (kM : PySem.W.keepIn K (.ref g_term) = true)
    (Ways_pg : PySem.W.plainGet K C_Ways Str.empty = true)
    (Ways_hd : PySem.W.hasDictIn K C_Ways = true)
    (Ways_po : PySem.W.plainOver K C_Ways = true)
    (Ways_sa : PySem.W.findIn K (.ref C_Ways) "__setattr__" = some (some (.builtin "object.__setattr__")))
    (Ways_mk : PySem.W.makesIn K C_Ways = true)
    (Ways_kc : PySem.W.keepIn K (.ref C_Ways) = true)
    (Ways_n_held : PySem.W.findIn K (.ref C_Ways) "held" = some none)
    (Ways_n_known : PySem.W.findIn K (.ref C_Ways) "known" = some none)
    (BadMail_k : PySem.W.keepIn K (.ref E_BadMail) = true)
    (BadMail_x : PySem.W.excIn K E_BadMail [.type "ValueError", .type "Exception", .type "BaseException", .type "object"] "ValueError.__new__" = true)
    (BadMail_s : PySem.W.subIn K (.ref E_BadMail) (.type "BaseException") = some true)
    (BadMail_t : PySem.W.typeIn K (.ref E_BadMail) = some (.type "type"))
    (BadNumber_k : PySem.W.keepIn K (.ref E_BadNumber) = true)
    (BadNumber_x : PySem.W.excIn K E_BadNumber [.type "ValueError", .type "Exception", .type "BaseException", .type "object"] "ValueError.__new__" = true)
    (BadNumber_s : PySem.W.subIn K (.ref E_BadNumber) (.type "BaseException") = some true)
    (BadNumber_t : PySem.W.typeIn K (.ref E_BadNumber) = some (.type "type"))
    (Nothing_k : PySem.W.keepIn K (.ref E_Nothing) = true)
    (Nothing_x : PySem.W.excIn K E_Nothing [.type "ValueError", .type "Exception", .type "BaseException", .type "object"] "ValueError.__new__" = true)
    (Nothing_s : PySem.W.subIn K (.ref E_Nothing) (.type "BaseException") = some true)
    (Nothing_t : PySem.W.typeIn K (.ref E_Nothing) = some (.type "type"))
    (ve_a : PySem.W.nsIn K mainGlobals "ValueError" = some none)
    (dn : PySem.W.specialIn K (.builtin "object.__class__") "__get__" = some (some (.builtin "getset_descriptor.__get__")))
    (dt : PySem.W.takesIn K (.builtin "object.__class__") = some true)
    (BadMail_1 : PySem.W.findIn K (.ref E_BadMail) "__getattribute__" = some (some (.builtin "BaseException.__getattribute__")))
    (BadMail_2 : PySem.W.findIn K (.ref E_BadMail) "__getattr__" = some none)
    (BadMail_3 : PySem.W.hasDictIn K E_BadMail = true)
    (BadMail_4 : PySem.W.findIn K (.ref E_BadMail) "__class__" = some (some (.builtin "object.__class__")))
    (BadMail_5 : PySem.W.mroIn K E_BadMail (.type "object") = some true)
    (BadMail_6 : isAll K E_BadMail "BadMail" [("BadMail", E_BadMail), ("BadLetter", E_BadLetter), ("BadNumber", E_BadNumber), ("BadOrder", E_BadOrder), ("BadPart", E_BadPart), ("BadRough", E_BadRough), ("BadDates", E_BadDates), ("Nothing", E_Nothing), ("Full", E_Full), ("BadText", E_BadText), ("BadFound", E_BadFound)] = true)
    (BadMail_7 : PySem.W.kitOne K (.ref E_BadMail) (.type "ValueError") = some true)
    (BadMail_8 : PySem.W.exmOne K (.ref E_BadMail) (.ref E_MailError) = some true)
    (BadNumber_1 : PySem.W.findIn K (.ref E_BadNumber) "__getattribute__" = some (some (.builtin "BaseException.__getattribute__")))
    (BadNumber_2 : PySem.W.findIn K (.ref E_BadNumber) "__getattr__" = some none)
    (BadNumber_3 : PySem.W.hasDictIn K E_BadNumber = true)
    (BadNumber_4 : PySem.W.findIn K (.ref E_BadNumber) "__class__" = some (some (.builtin "object.__class__")))
    (BadNumber_5 : PySem.W.mroIn K E_BadNumber (.type "object") = some true)
    (BadNumber_6 : isAll K E_BadNumber "BadNumber" [("BadMail", E_BadMail), ("BadLetter", E_BadLetter), ("BadNumber", E_BadNumber), ("BadOrder", E_BadOrder), ("BadPart", E_BadPart), ("BadRough", E_BadRough), ("BadDates", E_BadDates), ("Nothing", E_Nothing), ("Full", E_Full), ("BadText", E_BadText), ("BadFound", E_BadFound)] = true)
    (BadNumber_7 : PySem.W.kitOne K (.ref E_BadNumber) (.type "ValueError") = some true)
    (BadNumber_8 : PySem.W.exmOne K (.ref E_BadNumber) (.ref E_MailError) = some true)
    (Nothing_1 : PySem.W.findIn K (.ref E_Nothing) "__getattribute__" = some (some (.builtin "BaseException.__getattribute__")))
    (Nothing_2 : PySem.W.findIn K (.ref E_Nothing) "__getattr__" = some none)
    (Nothing_3 : PySem.W.hasDictIn K E_Nothing = true)
    (Nothing_4 : PySem.W.findIn K (.ref E_Nothing) "__class__" = some (some (.builtin "object.__class__")))
    (Nothing_5 : PySem.W.mroIn K E_Nothing (.type "object") = some true)
    (Nothing_6 : isAll K E_Nothing "Nothing" [("BadMail", E_BadMail), ("BadLetter", E_BadLetter), ("BadNumber", E_BadNumber), ("BadOrder", E_BadOrder), ("BadPart", E_BadPart), ("BadRough", E_BadRough), ("BadDates", E_BadDates), ("Nothing", E_Nothing), ("Full", E_Full), ("BadText", E_BadText), ("BadFound", E_BadFound)] = true)
    (Nothing_7 : PySem.W.kitOne K (.ref E_Nothing) (.type "ValueError") = some true)
    (Nothing_8 : PySem.W.exmOne K (.ref E_Nothing) (.ref E_MailError) = some true)
    (g_MOST : PySem.W.nsIn K mainGlobals "MOST" = some (some (.int 7 tk_MOST)))
    (b_len : PySem.W.nsIn K mainGlobals "len" = some none)
    (b_max : PySem.W.nsIn K mainGlobals "max" = some none)
    (b_min : PySem.W.nsIn K mainGlobals "min" = some none)
    (b_sum : PySem.W.nsIn K mainGlobals "sum" = some none)
    (b_all : PySem.W.nsIn K mainGlobals "all" = some none)
    (b_any : PySem.W.nsIn K mainGlobals "any" = some none)
    (b_tuple : PySem.W.nsIn K mainGlobals "tuple" = some none)
    (b_list : PySem.W.nsIn K mainGlobals "list" = some none)
    (b_int : PySem.W.nsIn K mainGlobals "int" = some none)
    (b_str : PySem.W.nsIn K mainGlobals "str" = some none)
    (b_sorted : PySem.W.nsIn K mainGlobals "sorted" = some none)
    (b_dict : PySem.W.nsIn K mainGlobals "dict" = some none)
    (b_range : PySem.W.nsIn K mainGlobals "range" = some none)
    (b_enumerate : PySem.W.nsIn K mainGlobals "enumerate" = some none)
    (b_zip : PySem.W.nsIn K mainGlobals "zip" = some none)
    (b_isinstance : PySem.W.nsIn K mainGlobals "isinstance" = some none)
    (b_bool : PySem.W.nsIn K mainGlobals "bool" = some none)
    (nl : noList K = true)
    : LamX.LawAtS l w K (L2N.CX l.prog w) (5 * 30) 63 "_law_script" mg fa h := by
  have e := hfa.symm.trans (PySem.W.mg_of X G a32)
  cases e
  obtain ⟨fd0, hk0, hb0, F0⟩ := (fnT (x := "is_whole") (qual := "is_whole") (st := s_is_whole) l0 c0 k0).fn (ps := ["thing", "low", "high"]) fun _ _ _ _ _ _ us hl => match us, hl with | [_, _, _], _ => rfl
  obtain ⟨fd1, hk1, hb1, F1⟩ := (fnT (x := "is_bundle") (qual := "is_bundle") (st := s_is_bundle) l1 c1 k1).fn (ps := ["thing", "most"]) fun _ _ _ _ _ _ us hl => match us, hl with | [_, _], _ => rfl
  obtain ⟨fd2, hk2, hb2, F2⟩ := (fnT (x := "is_mail") (qual := "is_mail") (st := s_is_mail) l2 c2 k2).fn (ps := ["thing"]) fun _ _ _ _ _ _ us hl => match us, hl with | [_], _ => rfl
  obtain ⟨fd3, hk3, hb3, F3⟩ := (fnT (x := "need_mail") (qual := "need_mail") (st := s_need_mail) l3 c3 k3).fn (ps := ["thing"]) fun _ _ _ _ _ _ us hl => match us, hl with | [_], _ => rfl
  obtain ⟨fd4, hk4, hb4, F4⟩ := (fnT (x := "all_pairs") (qual := "all_pairs") (st := s_all_pairs) l4 c4 k4).fn (ps := ["mail"]) fun _ _ _ _ _ _ us hl => match us, hl with | [_], _ => rfl
  obtain ⟨fd5, hk5, hb5, F5⟩ := (fnT (x := "all_barring") (qual := "all_barring") (st := s_all_barring) l5 c5 k5).fn (ps := ["mail"]) fun _ _ _ _ _ _ us hl => match us, hl with | [_], _ => rfl
  obtain ⟨fd6, hk6, hb6, F6⟩ := (fnT (x := "is_there") (qual := "is_there") (st := s_is_there) l6 c6 k6).fn (ps := ["mail"]) fun _ _ _ _ _ _ us hl => match us, hl with | [_], _ => rfl
  obtain ⟨fd7, hk7, hb7, F7⟩ := (fnT (x := "may_write") (qual := "may_write") (st := s_may_write) l7 c7 k7).fn (ps := ["mail", "here", "side"]) fun _ _ _ _ _ _ us hl => match us, hl with | [_, _, _], _ => rfl
  obtain ⟨fd8, hk8, hb8, F8⟩ := (fnT (x := "after") (qual := "after") (st := s_after) l8 c8 k8).fn (ps := ["here", "side"]) fun _ _ _ _ _ _ us hl => match us, hl with | [_, _], _ => rfl
  obtain ⟨fd9, hk9, hb9, F9⟩ := (fnT (x := "end_of") (qual := "end_of") (st := s_end_of) l9 c9 k9).fn (ps := ["mail"]) fun _ _ _ _ _ _ us hl => match us, hl with | [_], _ => rfl
  obtain ⟨fd10, hk10, hb10, F10⟩ := (fnT (x := "__init__") (qual := "Ways.__init__") (st := s_Ways_init) l10 c10 k10).fn (ps := ["self", "mail"]) fun _ _ _ _ _ _ us hl => match us, hl with | [_, _], _ => rfl
  obtain ⟨fd11, hk11, hb11, F11⟩ := (fnT (x := "count") (qual := "Ways.count") (st := s_Ways_count) l11 c11 k11).fn (ps := ["self", "here"]) fun _ _ _ _ _ _ us hl => match us, hl with | [_, _], _ => rfl
  obtain ⟨fd12, hk12, hb12, F12⟩ := (fnT (x := "count_of") (qual := "count_of") (st := s_count_of) l12 c12 k12).fn (ps := ["mail"]) fun _ _ _ _ _ _ us hl => match us, hl with | [_], _ => rfl
  obtain ⟨fd13, hk13, hb13, F13⟩ := (fnT (x := "need_there") (qual := "need_there") (st := s_need_there) l13 c13 k13).fn (ps := ["mail"]) fun _ _ _ _ _ _ us hl => match us, hl with | [_], _ => rfl
  obtain ⟨fd14, hk14, hb14, F14⟩ := (fnT (x := "lowest") (qual := "lowest") (st := s_lowest) l14 c14 k14).fn (ps := ["top", "below"]) fun _ _ _ _ _ _ us hl => match us, hl with | [_, _], _ => rfl
  obtain ⟨fd15, hk15, hb15, F15⟩ := (fnT (x := "all_standings") (qual := "all_standings") (st := s_all_standings) l15 c15 k15).fn (ps := ["mail"]) fun _ _ _ _ _ _ us hl => match us, hl with | [_], _ => rfl
  obtain ⟨fd16, hk16, hb16, F16⟩ := (fnT (x := "leading") (qual := "leading") (st := s_leading) l16 c16 k16).fn (ps := ["mail"]) fun _ _ _ _ _ _ us hl => match us, hl with | [_], _ => rfl
  obtain ⟨fd17, hk17, hb17, F17⟩ := (fnT (x := "passing") (qual := "passing") (st := s_passing) l17 c17 k17).fn (ps := ["mail"]) fun _ _ _ _ _ _ us hl => match us, hl with | [_], _ => rfl
  obtain ⟨fd18, hk18, hb18, F18⟩ := (fnT (x := "standings") (qual := "standings") (st := s_standings) l18 c18 k18).fn (ps := ["mail"]) fun _ _ _ _ _ _ us hl => match us, hl with | [_], _ => rfl
  obtain ⟨fd19, hk19, hb19, F19⟩ := (fnT (x := "sure_standings") (qual := "sure_standings") (st := s_sure_standings) l19 c19 k19).fn (ps := ["mail"]) fun _ _ _ _ _ _ us hl => match us, hl with | [_], _ => rfl
  obtain ⟨fd20, hk20, hb20, F20⟩ := (fnT (x := "leads") (qual := "leads") (st := s_leads) l20 c20 k20).fn (ps := ["mail"]) fun _ _ _ _ _ _ us hl => match us, hl with | [_], _ => rfl
  obtain ⟨fd21, hk21, hb21, F21⟩ := (fnT (x := "share_at") (qual := "share_at") (st := s_share_at) l21 c21 k21).fn (ps := ["mail", "standing"]) fun _ _ _ _ _ _ us hl => match us, hl with | [_, _], _ => rfl
  obtain ⟨fd22, hk22, hb22, F22⟩ := (fnT (x := "_law_cell") (qual := "_law_cell") (st := s_law_cell) l22 c22 k22).fn (ps := ["_law_script", "_law_k"]) fun _ _ _ _ _ _ us hl => match us, hl with | [_, _], _ => rfl
  obtain ⟨fd23, hk23, hb23, F23⟩ := (fnT (x := "_law_drawn") (qual := "_law_drawn") (st := s_law_drawn) l23 c23 k23).fn (ps := ["_law_cell_here", "_law_k"]) fun _ _ _ _ _ _ us hl => match us, hl with | [_, _], _ => rfl
  obtain ⟨fd24, hk24, hb24, F24⟩ := (fnT (x := "_law_roll") (qual := "_law_roll") (st := s_law_roll) l24 c24 k24).fn (ps := ["_law_dice", "_law_many"]) fun _ _ _ _ _ _ us hl => match us, hl with | [_, _], _ => rfl
  obtain ⟨fd25, hk25, hb25, F25⟩ := (fnT (x := "_law_rounds") (qual := "_law_rounds") (st := s_law_rounds) l25 c25 k25).fn (ps := ["_law_script", "_law_high"]) fun _ _ _ _ _ _ us hl => match us, hl with | [_, _], _ => rfl
  obtain ⟨fd26, hk26, hb26, F26⟩ := (fnT (x := "_law_written") (qual := "_law_written") (st := s_law_written) l26 c26 k26).fn (ps := ["_law_dice", "_law_first", "_law_second"]) fun _ _ _ _ _ _ us hl => match us, hl with | [_, _, _], _ => rfl
  obtain ⟨fd27, hk27, hb27, F27⟩ := (fnT (x := "_law_any_mail") (qual := "_law_any_mail") (st := s_law_any_mail) l27 c27 k27).fn (ps := ["_law_dice", "_law_first", "_law_second"]) fun _ _ _ _ _ _ us hl => match us, hl with | [_, _, _], _ => rfl
  obtain ⟨fd28, hk28, hb28, F28⟩ := (fnT (x := "_law_lets") (qual := "_law_lets") (st := s_law_lets) l28 c28 k28).fn (ps := ["_law_mail", "_law_turns_here"]) fun _ _ _ _ _ _ us hl => match us, hl with | [_, _], _ => rfl
  obtain ⟨fd29, hk29, hb29, F29⟩ := (fnT (x := "_law_turns") (qual := "_law_turns") (st := s_law_turns) l29 c29 k29).fn (ps := ["_law_first", "_law_second"]) fun _ _ _ _ _ _ us hl => match us, hl with | [_, _], _ => rfl
  obtain ⟨fd30, hk30, hb30, F30⟩ := (fnT (x := "_law_orders") (qual := "_law_orders") (st := s_law_orders) l30 c30 k30).fn (ps := ["_law_mail"]) fun _ _ _ _ _ _ us hl => match us, hl with | [_], _ => rfl
  obtain ⟨fd31, hk31, hb31, F31⟩ := (fnT (x := "_law_low") (qual := "_law_low") (st := s_law_low) l31 c31 k31).fn (ps := ["_law_top", "_law_below"]) fun _ _ _ _ _ _ us hl => match us, hl with | [_, _], _ => rfl
  have F32 := fun_mk (st := s_law) l32 c32 k32
  have hb32 := F32.binds (ps := ["_law_script"]) fun _ _ _ _ _ _ us hl => match us, hl with | [_], _ => rfl
  have o32 := own "law" (by decide +kernel) _ _ (tab_in a32 l32 rfl v32 p32)
  obtain ⟨fdT, hkT, hbT, FT⟩ := (fnT (x := "_law_told") (qual := "_law_told") (st := s_law_told) lT cT kT).fn (ps := ["_law_deed"]) fun _ _ _ _ _ _ us hl => match us, hl with | [_], _ => rfl
  obtain ⟨fdM, hkM, hbM, FM⟩ := (fnT (x := "_law_term") (qual := "_law_term") (st := s_law_term) lM cM kM).fn (ps := ["_law_e"]) fun _ _ _ _ _ _ us hl => match us, hl with | [_], _ => rfl
  refine ⟨PySem.W.fnOf "law" "law" (defArgs s_law) (defBody s_law) (defScope s_law) .none kV32 dc32 pm32 an32 (.ref co32) ct32, [(co32, P32)], spLaw K [(P32, "law" ++ ".<locals>." ++ "<lambda>")], ?_, ?_, ?_, fun s v => .of_eq rfl, fun H a ns h1 _ h2 h3 => ⟨a, ns, rfl, ?_, h3, h1, fun _ => rfl⟩, fun base Kb Gb TB => ?_⟩
  · exact List.forall_mem_cons.mpr ⟨o32.2,
        List.forall_mem_nil _⟩
  · exact List.forall_mem_cons.mpr ⟨n32,
        List.forall_mem_nil _⟩
  · exact List.forall_mem_cons.mpr ⟨o32.1,
        List.forall_mem_nil _⟩
  · exact List.forall_mem_cons.mpr ⟨h2 (co32, P32) (List.mem_cons_self),
        List.forall_mem_nil _⟩
  have TT : ToldT ⟨l.prog, w, K, mg, base, fun x => List.lookup x [("Ways", C_Ways)], fun x => List.lookup x [("BadMail", E_BadMail), ("BadNumber", E_BadNumber), ("Nothing", E_Nothing)], flds, [(P32, "law" ++ ".<locals>." ++ "<lambda>")]⟩ := by
    refine ⟨⟨g_told, g_term, E_MailError, fdT, fdM, s_law_told, s_law_term, ⟨FT, (scChk_of (by decide +kernel)).1, PySem.W.mg_of X G aT, hbT⟩, ⟨FM, (scChk_of (by decide +kernel)).1, PySem.W.mg_of X G aM, hbM⟩, by decide +kernel, by decide +kernel, PySem.W.mg_of X G mail_a, fun c D hc => by
      have hm := lk_mem (show List.lookup c [("BadMail", E_BadMail), ("BadNumber", E_BadNumber), ("Nothing", E_Nothing)] = some D from hc)
      simp only [List.mem_cons, Prod.mk.injEq, List.mem_nil_iff, or_false] at hm
      rcases hm with ⟨rfl, rfl⟩ | ⟨rfl, rfl⟩ | ⟨rfl, rfl⟩
      · exact ⟨⟨⟨BadMail_1, BadMail_2, BadMail_s, BadMail_3, BadMail_4, dn, dt, BadMail_5⟩, by decide +kernel, fun c hc => isAll_of BadMail_6 hc rfl (List.forall_mem_cons.mpr ⟨PySem.W.mg_of X G BadMail_a,
        List.forall_mem_cons.mpr ⟨PySem.W.mg_of X G BadLetter_a,
        List.forall_mem_cons.mpr ⟨PySem.W.mg_of X G BadNumber_a,
        List.forall_mem_cons.mpr ⟨PySem.W.mg_of X G BadOrder_a,
        List.forall_mem_cons.mpr ⟨PySem.W.mg_of X G BadPart_a,
        List.forall_mem_cons.mpr ⟨PySem.W.mg_of X G BadRough_a,
        List.forall_mem_cons.mpr ⟨PySem.W.mg_of X G BadDates_a,
        List.forall_mem_cons.mpr ⟨PySem.W.mg_of X G Nothing_a,
        List.forall_mem_cons.mpr ⟨PySem.W.mg_of X G Full_a,
        List.forall_mem_cons.mpr ⟨PySem.W.mg_of X G BadText_a,
        List.forall_mem_cons.mpr ⟨PySem.W.mg_of X G BadFound_a,
        List.forall_mem_nil _⟩⟩⟩⟩⟩⟩⟩⟩⟩⟩⟩), ⟨PySem.W.mg_none_of X G ve_a, BadMail_7⟩⟩, BadMail_8⟩
      · exact ⟨⟨⟨BadNumber_1, BadNumber_2, BadNumber_s, BadNumber_3, BadNumber_4, dn, dt, BadNumber_5⟩, by decide +kernel, fun c hc => isAll_of BadNumber_6 hc rfl (List.forall_mem_cons.mpr ⟨PySem.W.mg_of X G BadMail_a,
        List.forall_mem_cons.mpr ⟨PySem.W.mg_of X G BadLetter_a,
        List.forall_mem_cons.mpr ⟨PySem.W.mg_of X G BadNumber_a,
        List.forall_mem_cons.mpr ⟨PySem.W.mg_of X G BadOrder_a,
        List.forall_mem_cons.mpr ⟨PySem.W.mg_of X G BadPart_a,
        List.forall_mem_cons.mpr ⟨PySem.W.mg_of X G BadRough_a,
        List.forall_mem_cons.mpr ⟨PySem.W.mg_of X G BadDates_a,
        List.forall_mem_cons.mpr ⟨PySem.W.mg_of X G Nothing_a,
        List.forall_mem_cons.mpr ⟨PySem.W.mg_of X G Full_a,
        List.forall_mem_cons.mpr ⟨PySem.W.mg_of X G BadText_a,
        List.forall_mem_cons.mpr ⟨PySem.W.mg_of X G BadFound_a,
        List.forall_mem_nil _⟩⟩⟩⟩⟩⟩⟩⟩⟩⟩⟩), ⟨PySem.W.mg_none_of X G ve_a, BadNumber_7⟩⟩, BadNumber_8⟩
      · exact ⟨⟨⟨Nothing_1, Nothing_2, Nothing_s, Nothing_3, Nothing_4, dn, dt, Nothing_5⟩, by decide +kernel, fun c hc => isAll_of Nothing_6 hc rfl (List.forall_mem_cons.mpr ⟨PySem.W.mg_of X G BadMail_a,
        List.forall_mem_cons.mpr ⟨PySem.W.mg_of X G BadLetter_a,
        List.forall_mem_cons.mpr ⟨PySem.W.mg_of X G BadNumber_a,
        List.forall_mem_cons.mpr ⟨PySem.W.mg_of X G BadOrder_a,
        List.forall_mem_cons.mpr ⟨PySem.W.mg_of X G BadPart_a,
        List.forall_mem_cons.mpr ⟨PySem.W.mg_of X G BadRough_a,
        List.forall_mem_cons.mpr ⟨PySem.W.mg_of X G BadDates_a,
        List.forall_mem_cons.mpr ⟨PySem.W.mg_of X G Nothing_a,
        List.forall_mem_cons.mpr ⟨PySem.W.mg_of X G Full_a,
        List.forall_mem_cons.mpr ⟨PySem.W.mg_of X G BadText_a,
        List.forall_mem_cons.mpr ⟨PySem.W.mg_of X G BadFound_a,
        List.forall_mem_nil _⟩⟩⟩⟩⟩⟩⟩⟩⟩⟩⟩), ⟨PySem.W.mg_none_of X G ve_a, Nothing_7⟩⟩, Nothing_8⟩
      ⟩, PySem.W.mg_none_of X G b_isinstance, PySem.W.mg_none_of X G b_sum, PySem.W.mg_none_of X G b_int⟩
  have hu : ∀ p ∈ ([(P32, "law" ++ ".<locals>." ++ "<lambda>")] : List (Addr × Str)), ∀ r ∈ ([(P32, "law" ++ ".<locals>." ++ "<lambda>")] : List (Addr × Str)), p.1 = r.1 → p.2 = r.2 := by intro p hp r hr e; simp only [List.mem_cons, List.mem_nil_iff, or_false] at hp hr; rw [hp, hr]
  have B : Base ⟨l.prog, w, K, mg, base, fun x => List.lookup x [("Ways", C_Ways)], fun x => List.lookup x [("BadMail", E_BadMail), ("BadNumber", E_BadNumber), ("Nothing", E_Nothing)], flds, [(P32, "law" ++ ".<locals>." ++ "<lambda>")]⟩ tab fns excs := by
    refine mkBase (cl := [("Ways", C_Ways)]) (xl := [("BadMail", E_BadMail), ("BadNumber", E_BadNumber), ("Nothing", E_Nothing)]) rfl rfl ?_ ?_ ?_ ?_ ?_ ?_
    · exact List.forall_mem_cons.mpr ⟨⟨f23, fd23, ["_law_cell_here", "_law_k"], _, _, _, k23, hb23, F23, ⟨false, c_law_drawn, fun z => Bool.noConfusion z⟩, .inl ⟨rfl, PySem.W.mg_of X G a23⟩⟩,
        List.forall_mem_cons.mpr ⟨⟨f24, fd24, ["_law_dice", "_law_many"], _, _, _, k24, hb24, F24, ⟨false, c_law_roll, fun z => Bool.noConfusion z⟩, .inl ⟨rfl, PySem.W.mg_of X G a24⟩⟩,
        List.forall_mem_cons.mpr ⟨⟨f26, fd26, ["_law_dice", "_law_first", "_law_second"], _, _, _, k26, hb26, F26, ⟨false, c_law_written, fun z => Bool.noConfusion z⟩, .inl ⟨rfl, PySem.W.mg_of X G a26⟩⟩,
        List.forall_mem_cons.mpr ⟨⟨f27, fd27, ["_law_dice", "_law_first", "_law_second"], _, _, _, k27, hb27, F27, ⟨false, c_law_any_mail, fun z => Bool.noConfusion z⟩, .inl ⟨rfl, PySem.W.mg_of X G a27⟩⟩,
        List.forall_mem_cons.mpr ⟨⟨f31, fd31, ["_law_top", "_law_below"], _, _, _, k31, hb31, F31, ⟨false, c_law_low, fun z => Bool.noConfusion z⟩, .inl ⟨rfl, PySem.W.mg_of X G a31⟩⟩,
        List.forall_mem_cons.mpr ⟨⟨f28, fd28, ["_law_mail", "_law_turns_here"], _, _, _, k28, hb28, F28, ⟨false, c_law_lets, fun z => Bool.noConfusion z⟩, .inl ⟨rfl, PySem.W.mg_of X G a28⟩⟩,
        List.forall_mem_cons.mpr ⟨⟨f29, fd29, ["_law_first", "_law_second"], _, _, _, k29, hb29, F29, ⟨false, c_law_turns, fun z => Bool.noConfusion z⟩, .inl ⟨rfl, PySem.W.mg_of X G a29⟩⟩,
        List.forall_mem_cons.mpr ⟨⟨f30, fd30, ["_law_mail"], _, _, _, k30, hb30, F30, ⟨false, c_law_orders, fun z => Bool.noConfusion z⟩, .inl ⟨rfl, PySem.W.mg_of X G a30⟩⟩,
        List.forall_mem_cons.mpr ⟨⟨f22, fd22, ["_law_script", "_law_k"], _, _, _, k22, hb22, F22, ⟨false, c_law_cell, fun z => Bool.noConfusion z⟩, .inl ⟨rfl, PySem.W.mg_of X G a22⟩⟩,
        List.forall_mem_cons.mpr ⟨⟨f25, fd25, ["_law_script", "_law_high"], _, _, _, k25, hb25, F25, ⟨false, c_law_rounds, fun z => Bool.noConfusion z⟩, .inl ⟨rfl, PySem.W.mg_of X G a25⟩⟩,
        List.forall_mem_cons.mpr ⟨⟨f0, fd0, ["thing", "low", "high"], _, _, _, k0, hb0, F0, ⟨false, c_is_whole, fun z => Bool.noConfusion z⟩, .inl ⟨rfl, PySem.W.mg_of X G a0⟩⟩,
        List.forall_mem_cons.mpr ⟨⟨f1, fd1, ["thing", "most"], _, _, _, k1, hb1, F1, ⟨false, c_is_bundle, fun z => Bool.noConfusion z⟩, .inl ⟨rfl, PySem.W.mg_of X G a1⟩⟩,
        List.forall_mem_cons.mpr ⟨⟨f2, fd2, ["thing"], _, _, _, k2, hb2, F2, ⟨false, c_is_mail, fun z => Bool.noConfusion z⟩, .inl ⟨rfl, PySem.W.mg_of X G a2⟩⟩,
        List.forall_mem_cons.mpr ⟨⟨f3, fd3, ["thing"], _, _, _, k3, hb3, F3, ⟨false, c_need_mail, fun z => Bool.noConfusion z⟩, .inl ⟨rfl, PySem.W.mg_of X G a3⟩⟩,
        List.forall_mem_cons.mpr ⟨⟨f4, fd4, ["mail"], _, _, _, k4, hb4, F4, ⟨false, c_all_pairs, fun z => Bool.noConfusion z⟩, .inl ⟨rfl, PySem.W.mg_of X G a4⟩⟩,
        List.forall_mem_cons.mpr ⟨⟨f5, fd5, ["mail"], _, _, _, k5, hb5, F5, ⟨false, c_all_barring, fun z => Bool.noConfusion z⟩, .inl ⟨rfl, PySem.W.mg_of X G a5⟩⟩,
        List.forall_mem_cons.mpr ⟨⟨f6, fd6, ["mail"], _, _, _, k6, hb6, F6, ⟨false, c_is_there, fun z => Bool.noConfusion z⟩, .inl ⟨rfl, PySem.W.mg_of X G a6⟩⟩,
        List.forall_mem_cons.mpr ⟨⟨f13, fd13, ["mail"], _, _, _, k13, hb13, F13, ⟨false, c_need_there, fun z => Bool.noConfusion z⟩, .inl ⟨rfl, PySem.W.mg_of X G a13⟩⟩,
        List.forall_mem_cons.mpr ⟨⟨f8, fd8, ["here", "side"], _, _, _, k8, hb8, F8, ⟨false, c_after, fun z => Bool.noConfusion z⟩, .inl ⟨rfl, PySem.W.mg_of X G a8⟩⟩,
        List.forall_mem_cons.mpr ⟨⟨f15, fd15, ["mail"], _, _, _, k15, hb15, F15, ⟨false, c_all_standings, fun z => Bool.noConfusion z⟩, .inl ⟨rfl, PySem.W.mg_of X G a15⟩⟩,
        List.forall_mem_cons.mpr ⟨⟨f7, fd7, ["mail", "here", "side"], _, _, _, k7, hb7, F7, ⟨false, c_may_write, fun z => Bool.noConfusion z⟩, .inl ⟨rfl, PySem.W.mg_of X G a7⟩⟩,
        List.forall_mem_cons.mpr ⟨⟨f16, fd16, ["mail"], _, _, _, k16, hb16, F16, ⟨false, c_leading, fun z => Bool.noConfusion z⟩, .inl ⟨rfl, PySem.W.mg_of X G a16⟩⟩,
        List.forall_mem_cons.mpr ⟨⟨f10, fd10, ["self", "mail"], _, _, _, k10, hb10, F10, ⟨false, c_Ways_init, fun z => Bool.noConfusion z⟩, .inr ⟨by decide +kernel, C_Ways, rfl, ⟨a10, i10, k10⟩, fun _ => ⟨PySem.W.mg_of X G Ways_a, ⟨Ways_mk, a10, i10, Ways_kc⟩⟩⟩⟩,
        List.forall_mem_cons.mpr ⟨⟨f9, fd9, ["mail"], _, _, _, k9, hb9, F9, ⟨false, c_end_of, fun z => Bool.noConfusion z⟩, .inl ⟨rfl, PySem.W.mg_of X G a9⟩⟩,
        List.forall_mem_cons.mpr ⟨⟨f11, fd11, ["self", "here"], _, _, _, k11, hb11, F11, ⟨false, c_Ways_count, fun z => Bool.noConfusion z⟩, .inr ⟨by decide +kernel, C_Ways, rfl, ⟨a11, i11, k11⟩, fun z => absurd z (by decide +kernel)⟩⟩,
        List.forall_mem_cons.mpr ⟨⟨f17, fd17, ["mail"], _, _, _, k17, hb17, F17, ⟨false, c_passing, fun z => Bool.noConfusion z⟩, .inl ⟨rfl, PySem.W.mg_of X G a17⟩⟩,
        List.forall_mem_cons.mpr ⟨⟨f20, fd20, ["mail"], _, _, _, k20, hb20, F20, ⟨false, c_leads, fun z => Bool.noConfusion z⟩, .inl ⟨rfl, PySem.W.mg_of X G a20⟩⟩,
        List.forall_mem_cons.mpr ⟨⟨f12, fd12, ["mail"], _, _, _, k12, hb12, F12, ⟨false, c_count_of, fun z => Bool.noConfusion z⟩, .inl ⟨rfl, PySem.W.mg_of X G a12⟩⟩,
        List.forall_mem_cons.mpr ⟨⟨f14, fd14, ["top", "below"], _, _, _, k14, hb14, F14, ⟨false, c_lowest, fun z => Bool.noConfusion z⟩, .inl ⟨rfl, PySem.W.mg_of X G a14⟩⟩,
        List.forall_mem_cons.mpr ⟨⟨f21, fd21, ["mail", "standing"], _, _, _, k21, hb21, F21, ⟨false, c_share_at, fun z => Bool.noConfusion z⟩, .inl ⟨rfl, PySem.W.mg_of X G a21⟩⟩,
        List.forall_mem_cons.mpr ⟨⟨f18, fd18, ["mail"], _, _, _, k18, hb18, F18, ⟨false, c_standings, fun z => Bool.noConfusion z⟩, .inl ⟨rfl, PySem.W.mg_of X G a18⟩⟩,
        List.forall_mem_cons.mpr ⟨⟨f19, fd19, ["mail"], _, _, _, k19, hb19, F19, ⟨false, c_sure_standings, fun z => Bool.noConfusion z⟩, .inl ⟨rfl, PySem.W.mg_of X G a19⟩⟩,
        List.forall_mem_cons.mpr ⟨⟨_, _, ["_law_script"], _, _, _, k32, hb32, F32, ⟨true, c_law, fun _ => ⟨TT, co32, P32, rfl, TB (co32, P32) (List.mem_cons_self), List.mem_cons_self, tabs_un hu (List.mem_cons_self)⟩⟩, .inl ⟨rfl, PySem.W.mg_of X G a32⟩⟩,
        List.forall_mem_nil _⟩⟩⟩⟩⟩⟩⟩⟩⟩⟩⟩⟩⟩⟩⟩⟩⟩⟩⟩⟩⟩⟩⟩⟩⟩⟩⟩⟩⟩⟩⟩⟩⟩
    · exact List.forall_mem_cons.mpr ⟨⟨⟨Ways_pg, Ways_hd, Ways_po, Ways_sa⟩, List.forall_mem_cons.mpr ⟨Ways_n_held,
        List.forall_mem_cons.mpr ⟨Ways_n_known,
        List.forall_mem_nil _⟩⟩⟩,
        List.forall_mem_nil _⟩
    · exact List.forall_mem_cons.mpr ⟨⟨PySem.W.mg_of X G BadMail_a, BadMail_k, BadMail_x, BadMail_s, BadMail_t⟩,
        List.forall_mem_cons.mpr ⟨⟨PySem.W.mg_of X G BadNumber_a, BadNumber_k, BadNumber_x, BadNumber_s, BadNumber_t⟩,
        List.forall_mem_cons.mpr ⟨⟨PySem.W.mg_of X G Nothing_a, Nothing_k, Nothing_x, Nothing_s, Nothing_t⟩,
        List.forall_mem_nil _⟩⟩⟩
    · exact List.forall_mem_cons.mpr ⟨glb_int (PySem.W.mg_of X G g_MOST),
        List.forall_mem_nil _⟩
    · exact List.forall_mem_cons.mpr ⟨PySem.W.mg_none_of X G b_len,
        List.forall_mem_cons.mpr ⟨PySem.W.mg_none_of X G b_max,
        List.forall_mem_cons.mpr ⟨PySem.W.mg_none_of X G b_min,
        List.forall_mem_cons.mpr ⟨PySem.W.mg_none_of X G b_sum,
        List.forall_mem_cons.mpr ⟨PySem.W.mg_none_of X G b_all,
        List.forall_mem_cons.mpr ⟨PySem.W.mg_none_of X G b_any,
        List.forall_mem_cons.mpr ⟨PySem.W.mg_none_of X G b_tuple,
        List.forall_mem_cons.mpr ⟨PySem.W.mg_none_of X G b_list,
        List.forall_mem_cons.mpr ⟨PySem.W.mg_none_of X G b_int,
        List.forall_mem_cons.mpr ⟨PySem.W.mg_none_of X G b_str,
        List.forall_mem_cons.mpr ⟨PySem.W.mg_none_of X G b_sorted,
        List.forall_mem_cons.mpr ⟨PySem.W.mg_none_of X G b_dict,
        List.forall_mem_cons.mpr ⟨PySem.W.mg_none_of X G b_range,
        List.forall_mem_cons.mpr ⟨PySem.W.mg_none_of X G b_enumerate,
        List.forall_mem_cons.mpr ⟨PySem.W.mg_none_of X G b_zip,
        List.forall_mem_cons.mpr ⟨PySem.W.mg_none_of X G b_isinstance,
        List.forall_mem_cons.mpr ⟨PySem.W.mg_none_of X G b_bool,
        List.forall_mem_nil _⟩⟩⟩⟩⟩⟩⟩⟩⟩⟩⟩⟩⟩⟩⟩⟩⟩
    · intro p hp q hq _
      simp only [List.mem_singleton] at hp hq
      rw [hp, hq]
  exact law_fn B nl tab_law F32 (lam := true) (fun _ => ⟨TT, co32, P32, rfl, TB (co32, P32) (List.mem_cons_self), List.mem_cons_self, tabs_un hu (List.mem_cons_self)⟩) c_law LAW
theorem walk {l : PySem.W.OpenLaw} {q : Program} {loose : List Str} {XP : (Str → Option Value) → Heap → Prop} {YP : World → Heap → Prop} {d : DefRec} {K : Params → PySem.W.Frag} (hn : l.most = some 63) (hdf : d.params.defaults = []) (hrec : (lamNames.all fun x => (PyProof.Rows.recsOf q).any fun e => e.name == x) = true)
    (hY : ∀ (w : World) (h : Heap), YP w h → (K w.params).In h)
    (F : ∀ (w : World) (mg : Str → Option Value) (fa : Addr) (h : Heap), YP w h → (K w.params).In h → h.Ns mainGlobals mg → mg d.name = some (.ref fa) → (∀ x ∈ lamNames, ∀ c P, PySem.W.tabIn (K w.params) x = some (c, P) → PySem.W.CodeHd h c P ∧ h.get? P = some { cls := .none, data := .fields #[] }) → LamX.LawAtS l w (K w.params) (L2N.CX l.prog w) (5 * 30) 63 "_law_script" mg fa h) :
    PySem.W.WalkO q loose XP YP l.row.toRowW d [] (fun f vs => PySem.call f vs) :=
  walk_tabs (CX := fun w => L2N.CX l.prog w) lamNames hn (by decide) hdf ⟨rfl, by decide, by decide⟩ hrec hY F fun _ _ _ _ _ h => by
    obtain ⟨_, _, _, _, _, _, _, _, _, _, _, _, z⟩ := h
    exact z.elim
end K05
/-! PlEq: the equations of wp, printed by eqs.py. -/
namespace PC
open PySem
variable {G : Str → Option T} {CW : Cal}
theorem ofRfl {α : Sort _} {a b : α} (h : a = b) : a = b := h
@[simp] theorem wpE_e1 {i} {X : Wx} {σ : Sl} {S : Mem} {Q : Wv} : wpE G CW (E.var i) X σ S Q = (okO (slot σ i) fun t => Q t S) := ofRfl rfl
@[simp] theorem wpE_e2 {x} {X : Wx} {σ : Sl} {S : Mem} {Q : Wv} : wpE G CW (E.glob x) X σ S Q = (okO (G x) fun t => Q t S) := ofRfl rfl
@[simp] theorem wpE_e3 {i} {X : Wx} {σ : Sl} {S : Mem} {Q : Wv} : wpE G CW (E.int i) X σ S Q = (Q (.int i) S) := ofRfl rfl
@[simp] theorem wpE_e4 {b} {X : Wx} {σ : Sl} {S : Mem} {Q : Wv} : wpE G CW (E.bl b) X σ S Q = (Q (.bl b) S) := ofRfl rfl
@[simp] theorem wpE_e5  {X : Wx} {σ : Sl} {S : Mem} {Q : Wv} : wpE G CW (E.non ) X σ S Q = (Q .non S) := ofRfl rfl
@[simp] theorem wpE_e6 {x} {X : Wx} {σ : Sl} {S : Mem} {Q : Wv} : wpE G CW (E.str x) X σ S Q = (Q (.str x) S) := ofRfl rfl
@[simp] theorem wpE_e7 {op} {a} {b} {X : Wx} {σ : Sl} {S : Mem} {Q : Wv} : wpE G CW (E.bin op a b) X σ S Q = (wpE G CW a X σ S fun x S1 => wpE G CW b X σ S1 fun y S2 => okO (binT op (vw S2 x) (vw S2 y)) fun z => Q z S2) := ofRfl rfl
@[simp] theorem wpE_e8 {a} {X : Wx} {σ : Sl} {S : Mem} {Q : Wv} : wpE G CW (E.neg a) X σ S Q = (wpE G CW a X σ S fun x S1 => match x with
    | .int i => Q (.int (-i)) S1
    | _ => False) := ofRfl rfl
@[simp] theorem wpE_e9 {op} {a} {b} {X : Wx} {σ : Sl} {S : Mem} {Q : Wv} : wpE G CW (E.cmp op a b) X σ S Q = (wpE G CW a X σ S fun x S1 => wpE G CW b X σ S1 fun y S2 => okO (cmpT op (vw S2 x) (vw S2 y)) fun z => Q (.bl z) S2) := ofRfl rfl
@[simp] theorem wpE_e10 {o1} {o2} {a} {b} {c} {X : Wx} {σ : Sl} {S : Mem} {Q : Wv} : wpE G CW (E.chain o1 o2 a b c) X σ S Q = (wpE G CW a X σ S fun x S1 => wpE G CW b X σ S1 fun y S2 => okO (cmpT o1 (vw S2 x) (vw S2 y)) fun z =>
      if z = true then wpE G CW c X σ S2 fun u S3 => okO (cmpT o2 (vw S3 y) (vw S3 u)) fun z => Q (.bl z) S3 else Q (.bl false) S2) := ofRfl rfl
@[simp] theorem wpE_e11 {a} {b} {X : Wx} {σ : Sl} {S : Mem} {Q : Wv} : wpE G CW (E.and a b) X σ S Q = (wpE G CW a X σ S (bt fun c S1 => if c = true then wpE G CW b X σ S1 Q else Q (.bl false) S1)) := ofRfl rfl
@[simp] theorem wpE_e12 {a} {b} {X : Wx} {σ : Sl} {S : Mem} {Q : Wv} : wpE G CW (E.or a b) X σ S Q = (wpE G CW a X σ S (bt fun c S1 => if c = true then Q (.bl true) S1 else wpE G CW b X σ S1 Q)) := ofRfl rfl
@[simp] theorem wpE_e13 {a} {X : Wx} {σ : Sl} {S : Mem} {Q : Wv} : wpE G CW (E.not a) X σ S Q = (wpE G CW a X σ S (bt fun c S1 => Q (.bl (!c)) S1)) := ofRfl rfl
@[simp] theorem wpE_e14 {c} {a} {b} {X : Wx} {σ : Sl} {S : Mem} {Q : Wv} : wpE G CW (E.ife c a b) X σ S Q = (wpE G CW c X σ S (bt fun d S1 => if d = true then wpE G CW a X σ S1 Q else wpE G CW b X σ S1 Q)) := ofRfl rfl
@[simp] theorem wpE_e15 {es} {X : Wx} {σ : Sl} {S : Mem} {Q : Wv} : wpE G CW (E.tup es) X σ S Q = (wpEs G CW es X σ S fun xs S1 => Q (.tup xs) S1) := ofRfl rfl
@[simp] theorem wpE_e16 {es} {X : Wx} {σ : Sl} {S : Mem} {Q : Wv} : wpE G CW (E.lst es) X σ S Q = (wpEs G CW es X σ S fun xs S1 => Q (.lst xs) S1) := ofRfl rfl
@[simp] theorem wpE_e17  {X : Wx} {σ : Sl} {S : Mem} {Q : Wv} : wpE G CW (E.dct0 ) X σ S Q = (Q (.dct [] []) S) := ofRfl rfl
@[simp] theorem wpE_e18 {k} {v} {X : Wx} {σ : Sl} {S : Mem} {Q : Wv} : wpE G CW (E.dct1 k v) X σ S Q = (wpE G CW k X σ S fun x S1 => wpE G CW v X σ S1 fun y S2 => okO (disp1 x y) fun d => Q d S2) := ofRfl rfl
@[simp] theorem wpE_e19 {a} {b} {X : Wx} {σ : Sl} {S : Mem} {Q : Wv} : wpE G CW (E.idx a b) X σ S Q = (wpE G CW a X σ S fun x S1 => wpE G CW b X σ S1 fun y S2 => okO (idxT (vw S2 x) y) fun z => Q z S2) := ofRfl rfl
@[simp] theorem wpE_e20 {a} {lo} {hi} {X : Wx} {σ : Sl} {S : Mem} {Q : Wv} : wpE G CW (E.slc a lo hi) X σ S Q = (wpE G CW a X σ S fun x S1 => wpO G CW lo X σ S1 fun l S2 => wpO G CW hi X σ S2 fun h S3 => okO (slcT (vw S3 x) l h) fun z => Q z S3) := ofRfl rfl
@[simp] theorem wpE_e21 {a} {X : Wx} {σ : Sl} {S : Mem} {Q : Wv} : wpE G CW (E.rev a) X σ S Q = (wpE G CW a X σ S fun x S1 => match x with
    | .tup xs => Q (.tup xs.reverse) S1
    | _ => False) := ofRfl rfl
@[simp] theorem wpE_e22 {a} {f} {X : Wx} {σ : Sl} {S : Mem} {Q : Wv} : wpE G CW (E.attr a f) X σ S Q = (wpE G CW a X σ S fun x S1 => match ob? S1 x with
    | some (_, .ins _ fs) => okO (fs.lookup f) fun v => Q v S1
    | _ => False) := ofRfl rfl
@[simp] theorem wpE_e23 {g} {es} {X : Wx} {σ : Sl} {S : Mem} {Q : Wv} : wpE G CW (E.call g es) X σ S Q = (wpEs G CW es X σ S fun xs S1 => CW "" g xs S1 Q X) := ofRfl rfl
@[simp] theorem wpE_e24 {a} {C} {m} {es} {X : Wx} {σ : Sl} {S : Mem} {Q : Wv} : wpE G CW (E.meth a C m es) X σ S Q = (wpE G CW a X σ S fun x S1 => match ob? S1 x with
    | some (_, .ins C' fs) => (C' = C ∧ fs.lookup m = none) ∧ wpEs G CW es X σ S1 fun xs S2 => CW C m (x :: xs) S2 Q X
    | _ => False) := ofRfl rfl
@[simp] theorem wpE_e25 {C} {es} {X : Wx} {σ : Sl} {S : Mem} {Q : Wv} : wpE G CW (E.mk C es) X σ S Q = (wpEs G CW es X σ S fun xs S1 => CW C "__init__" (.ref S1.length :: xs) (S1 ++ [.ins C []]) (fun v S2 => v = .non ∧ Q (.ref S1.length) S2) X) := ofRfl rfl
@[simp] theorem wpE_e26 {f} {es} {X : Wx} {σ : Sl} {S : Mem} {Q : Wv} : wpE G CW (E.bi f es) X σ S Q = (wpEs G CW es X σ S fun xs S1 => okO (biT f (xs.map (vw S1))) fun z => Q z S1) := ofRfl rfl
@[simp] theorem wpE_e27 {f} {a} {d} {X : Wx} {σ : Sl} {S : Mem} {Q : Wv} : wpE G CW (E.bid f a d) X σ S Q = (wpE G CW a X σ S fun x S1 => wpE G CW d X σ S1 fun y S2 => okO (bidT f (vw S2 x) y) fun z => Q z S2) := ofRfl rfl
@[simp] theorem wpE_e28 {a} {m} {es} {X : Wx} {σ : Sl} {S : Mem} {Q : Wv} : wpE G CW (E.bm a m es) X σ S Q = (wpE G CW a X σ S fun x S1 => bmK m (kindT (vw S1 x)) = true ∧ wpEs G CW es X σ S1 fun xs S2 => kindT (vw S1 x) = kindT (vw S2 x) ∧ okO (bmT m (vw S2 x) xs) fun z => Q z S2) := ofRfl rfl
@[simp] theorem wpE_e29 {a} {t} {X : Wx} {σ : Sl} {S : Mem} {Q : Wv} : wpE G CW (E.isi a t) X σ S Q = (wpE G CW a X σ S fun x S1 => okO (isiT (vw S1 x) t) fun z => Q (.bl z) S1) := ofRfl rfl
@[simp] theorem wpE_e30 {e} {vs} {tg} {it} {c} {X : Wx} {σ : Sl} {S : Mem} {Q : Wv} : wpE G CW (E.comp e vs tg it c) X σ S Q = (wpI G CW it X σ S fun g xs S1 =>
      wpL g (fun x S k => asgTg tg x (wipe σ vs) fun σ1 => wpT G CW c noX σ1 S fun b S2 => if b = true then wpE G CW e noX σ1 S2 fun y S3 => k [y] S3 else k [] S2) xs [] S1 fun ys S2 => Q (.lst ys) S2) := ofRfl rfl
@[simp] theorem wpE_e31 {e} {vs} {tg} {it} {c} {vs1} {tg1} {it1} {c1} {X : Wx} {σ : Sl} {S : Mem} {Q : Wv} : wpE G CW (E.comp2 e vs tg it c vs1 tg1 it1 c1) X σ S Q = (wpI G CW it X σ S fun g xs S1 => xs.length ≤ 1000 ∧
      wpL g (fun x S k => asgTg tg x (wipe σ vs) fun σ1 => wpT G CW c noX σ1 S fun b S2 => if b = true then wpI G CW it1 noX σ1 S2 fun g1 xs1 S3 => xs1.length ≤ 1000 ∧
        wpL g1 (fun x S k => asgTg tg1 x (wipe σ1 vs1) fun σ2 => wpT G CW c1 noX σ2 S fun b S2 => if b = true then wpE G CW e noX σ2 S2 fun y S3 => k [y] S3 else k [] S2) xs1 [] S3 k else k [] S2) xs [] S1 fun ys S2 => Q (.lst ys) S2) := ofRfl rfl
@[simp] theorem wpE_e32 {ke} {ve} {vs} {tg} {it} {X : Wx} {σ : Sl} {S : Mem} {Q : Wv} : wpE G CW (E.dcomp ke ve vs tg it) X σ S Q = (wpI G CW it X σ S fun g xs S1 =>
      wpL g (fun x S k => asgTg tg x (wipe σ vs) fun σ1 => wpE G CW ke noX σ1 S fun y S2 => wpE G CW ve noX σ1 S2 fun z S3 => kt y = true ∧ k [.tup [y, z]] S3) xs [] S1 fun ys S2 =>
        Q (.dct (dofL ys ([], [])).1 (dofL ys ([], [])).2) S2) := ofRfl rfl
@[simp] theorem wpE_e33 {e} {X : Wx} {σ : Sl} {S : Mem} {Q : Wv} : wpE G CW (E.track e) X σ S Q = (wpE G CW e X σ S fun x S1 => match x with
    | .lst xs => Q (.ref S1.length) (S1 ++ [.lst xs])
    | .dct ks vs => Q (.ref S1.length) (S1 ++ [.dct ks vs])
    | _ => False) := ofRfl rfl
@[simp] theorem wpE_e34 {e} {X : Wx} {σ : Sl} {S : Mem} {Q : Wv} : wpE G CW (E.told e) X σ S Q = (wpE G CW e (fun c S1 => Q (.tup [.str "refused", .str c]) S1) σ S Q) := ofRfl rfl
@[simp] theorem wpEs_e35  {X : Wx} {σ : Sl} {S : Mem} {Q : List T → Mem → Prop} : wpEs G CW (Es.nil ) X σ S Q = (Q [] S) := ofRfl rfl
@[simp] theorem wpEs_e36 {e} {es} {X : Wx} {σ : Sl} {S : Mem} {Q : List T → Mem → Prop} : wpEs G CW (Es.cons e es) X σ S Q = (wpE G CW e X σ S fun x S1 => wpEs G CW es X σ S1 fun xs S2 => Q (x :: xs) S2) := ofRfl rfl
@[simp] theorem wpO_e37  {X : Wx} {σ : Sl} {S : Mem} {Q : Option Int → Mem → Prop} : wpO G CW (Eo.none ) X σ S Q = (Q none S) := ofRfl rfl
@[simp] theorem wpO_e38 {e} {X : Wx} {σ : Sl} {S : Mem} {Q : Option Int → Mem → Prop} : wpO G CW (Eo.some e) X σ S Q = (wpE G CW e X σ S fun x S1 => match x with
    | .int i => Q (some i) S1
    | _ => False) := ofRfl rfl
@[simp] theorem wpT_e39  {X : Wx} {σ : Sl} {S : Mem} {Q : Bool → Mem → Prop} : wpT G CW (Eo.none ) X σ S Q = (Q true S) := ofRfl rfl
@[simp] theorem wpT_e40 {e} {X : Wx} {σ : Sl} {S : Mem} {Q : Bool → Mem → Prop} : wpT G CW (Eo.some e) X σ S Q = (wpE G CW e X σ S (bt Q)) := ofRfl rfl
@[simp] theorem wpI_e41 {e} {X : Wx} {σ : Sl} {S : Mem} {Q : (Mem → Prop) → List T → Mem → Prop} : wpI G CW (I.val e) X σ S Q = (wpE G CW e X σ S fun x S1 => okO (items? x) fun xs => Q gT xs S1) := ofRfl rfl
@[simp] theorem wpI_e42 {e} {X : Wx} {σ : Sl} {S : Mem} {Q : (Mem → Prop) → List T → Mem → Prop} : wpI G CW (I.live e) X σ S Q = (wpE G CW e X σ S fun x S1 => match vw S1 x with
    | .lst xs => Q (fun S2 => vw S2 x = .lst xs) xs S1
    | .tup xs => Q gT xs S1
    | .str z => z.length ≤ line ∧ Q gT (signs z) S1
    | .dct ks _ => (isDct x = true ∧ ks.all kt = true) ∧ Q gT ks S1
    | _ => False) := ofRfl rfl
@[simp] theorem wpI_e43 {a} {X : Wx} {σ : Sl} {S : Mem} {Q : (Mem → Prop) → List T → Mem → Prop} : wpI G CW (I.rng1 a) X σ S Q = (wpE G CW a X σ S fun x S1 => match x with
    | .int n => (-(line : Int) ≤ n ∧ n ≤ line) ∧ Q gT (rangeT 0 n.toNat) S1
    | _ => False) := ofRfl rfl
@[simp] theorem wpI_e44 {a} {b} {X : Wx} {σ : Sl} {S : Mem} {Q : (Mem → Prop) → List T → Mem → Prop} : wpI G CW (I.rng2 a b) X σ S Q = (wpE G CW a X σ S fun x S1 => wpE G CW b X σ S1 fun y S2 => match x, y with
    | .int m, .int n => (-(line : Int) ≤ n ∧ n ≤ line ∧ -(line : Int) ≤ m ∧ m ≤ line ∧ n - m ≤ line) ∧ Q gT (rangeT m (n - m).toNat) S2
    | _, _ => False) := ofRfl rfl
@[simp] theorem wpI_e45 {a} {X : Wx} {σ : Sl} {S : Mem} {Q : (Mem → Prop) → List T → Mem → Prop} : wpI G CW (I.enum a) X σ S Q = (wpE G CW a X σ S fun x S1 => okO (seq? x) fun xs => Q gT (enumT 0 xs) S1) := ofRfl rfl
@[simp] theorem wpI_e46 {a} {b} {X : Wx} {σ : Sl} {S : Mem} {Q : (Mem → Prop) → List T → Mem → Prop} : wpI G CW (I.zip a b) X σ S Q = (wpE G CW a X σ S fun x S1 => wpE G CW b X σ S1 fun y S2 => match x, y with
    | .lst xs, .lst ys => Q gT (zipT xs ys) S2
    | .tup xs, .tup ys => Q gT (zipT xs ys) S2
    | _, _ => False) := ofRfl rfl
@[simp] theorem wpS_e47 {i} {e} {X : Wx} {σ : Sl} {S : Mem} {D : K} : wpS G CW (Sm.asg i e) X σ S D = (wpE G CW e X σ S fun x S1 => D.nx (σ.set i (some x)) S1) := ofRfl rfl
@[simp] theorem wpS_e48 {tg} {e} {X : Wx} {σ : Sl} {S : Mem} {D : K} : wpS G CW (Sm.asgT tg e) X σ S D = (wpE G CW e X σ S fun x S1 => asgTg tg x σ fun σ1 => D.nx σ1 S1) := ofRfl rfl
@[simp] theorem wpS_e49 {tg} {es} {X : Wx} {σ : Sl} {S : Mem} {D : K} : wpS G CW (Sm.par tg es) X σ S D = (wpEs G CW es X σ S fun xs S1 => asgTg tg (.tup xs) σ fun σ1 => D.nx σ1 S1) := ofRfl rfl
@[simp] theorem wpS_e50 {a} {b} {e} {X : Wx} {σ : Sl} {S : Mem} {D : K} : wpS G CW (Sm.setIdx a b e) X σ S D = (wpE G CW e X σ S fun v S1 => wpE G CW a X σ S1 fun x S2 => wpE G CW b X σ S2 fun y S3 => match ob? S3 x, y with
    | some (i, .lst xs), .int k => okO (L2.ixN xs.length k) fun j => D.nx σ (S3.set i (.lst (xs.set j v)))
    | some (i, .dct ks vs), y => (kt y = true ∧ ks.all kt = true ∧ ks.length < line) ∧ D.nx σ (S3.set i (.dct (dputK ks y) (dputV ks vs y v)))
    | _, _ => False) := ofRfl rfl
@[simp] theorem wpS_e51 {a} {f} {e} {X : Wx} {σ : Sl} {S : Mem} {D : K} : wpS G CW (Sm.setAttr a f e) X σ S D = (wpE G CW e X σ S fun v S1 => wpE G CW a X σ S1 fun x S2 => match ob? S2 x with
    | some (i, .ins C fs) => fs.length < 100 ∧ D.nx σ (S2.set i (.ins C (putF f v fs)))
    | _ => False) := ofRfl rfl
@[simp] theorem wpS_e52 {a} {f} {b} {g} {e} {X : Wx} {σ : Sl} {S : Mem} {D : K} : wpS G CW (Sm.setAttr2 a f b g e) X σ S D = (wpE G CW e X σ S fun u S1 => match u with
    | .tup [v, w] => wpE G CW a X σ S1 fun x S2 => match ob? S2 x with
      | some (i, .ins C fs) => fs.length < 100 ∧ wpE G CW b X σ (S2.set i (.ins C (putF f v fs))) fun x S3 => match ob? S3 x with
        | some (i, .ins C fs) => fs.length < 100 ∧ D.nx σ (S3.set i (.ins C (putF g w fs)))
        | _ => False
      | _ => False
    | _ => False) := ofRfl rfl
@[simp] theorem wpS_e53 {e} {X : Wx} {σ : Sl} {S : Mem} {D : K} : wpS G CW (Sm.expr e) X σ S D = (wpE G CW e X σ S fun _ S1 => D.nx σ S1) := ofRfl rfl
@[simp] theorem wpS_e54 {a} {e} {X : Wx} {σ : Sl} {S : Mem} {D : K} : wpS G CW (Sm.append a e) X σ S D = (wpE G CW a X σ S fun x S1 => lref S1 x = true ∧ wpE G CW e X σ S1 fun v S2 => match ob? S2 x with
    | some (i, .lst xs) => xs.length < line ∧ D.nx σ (S2.set i (.lst (xs ++ [v])))
    | _ => False) := ofRfl rfl
@[simp] theorem wpS_e55 {a} {X : Wx} {σ : Sl} {S : Mem} {D : K} : wpS G CW (Sm.pop a) X σ S D = (wpE G CW a X σ S fun x S1 => match ob? S1 x with
    | some (i, .lst xs) => xs ≠ [] ∧ D.nx σ (S1.set i (.lst xs.dropLast))
    | _ => False) := ofRfl rfl
@[simp] theorem wpS_e56 {e} {X : Wx} {σ : Sl} {S : Mem} {D : K} : wpS G CW (Sm.ret e) X σ S D = (wpE G CW e X σ S D.rt) := ofRfl rfl
@[simp] theorem wpS_e57 {c} {A} {B} {X : Wx} {σ : Sl} {S : Mem} {D : K} : wpS G CW (Sm.ifs c A B) X σ S D = (wpE G CW c X σ S (bt fun b S1 => if b = true then wpSs G CW A X σ S1 D else wpSs G CW B X σ S1 D)) := ofRfl rfl
@[simp] theorem wpS_e58 {tg} {it} {body} {X : Wx} {σ : Sl} {S : Mem} {D : K} : wpS G CW (Sm.fors tg it body) X σ S D = (wpI G CW it X σ S fun g xs S1 => wpFor g (fun x σ S k => asgTg tg x σ fun σ1 => wpSs G CW body X σ1 S ⟨k, D.rt⟩) xs σ S1 D.nx) := ofRfl rfl
@[simp] theorem wpS_e59 {c} {body} {X : Wx} {σ : Sl} {S : Mem} {D : K} : wpS G CW (Sm.whiles c body) X σ S D = (∃ n, wpWh (fun σ S k => wpE G CW c X σ S (bt k)) (fun σ S k => wpSs G CW body X σ S ⟨k, D.rt⟩) n σ S D.nx) := ofRfl rfl
@[simp] theorem wpS_e60 {C} {X : Wx} {σ : Sl} {S : Mem} {D : K} : wpS G CW (Sm.raise C) X σ S D = (X C S) := ofRfl rfl
@[simp] theorem wpS_e61 {body} {C} {X : Wx} {σ : Sl} {S : Mem} {D : K} : wpS G CW (Sm.tryw body C) X σ S D = (wpSs G CW body (fun _ S1 => X C S1) σ S D) := ofRfl rfl
@[simp] theorem wpSs_e62  {X : Wx} {σ : Sl} {S : Mem} {D : K} : wpSs G CW (Ss.nil ) X σ S D = (D.nx σ S) := ofRfl rfl
@[simp] theorem wpSs_e63 {s} {r} {X : Wx} {σ : Sl} {S : Mem} {D : K} : wpSs G CW (Ss.cons s r) X σ S D = (wpS G CW s X σ S ⟨fun σ1 S1 => wpSs G CW r X σ1 S1 D, D.rt⟩) := ofRfl rfl
@[simp] theorem wpL_nil {g : Mem → Prop} {b : T → Mem → (List T → Mem → Prop) → Prop} {acc : List T} {S : Mem} {k : List T → Mem → Prop} : wpL g b [] acc S k = (g S ∧ k acc S) := ofRfl rfl
@[simp] theorem slot_0 {a : Option T} {r : Sl} : slot (a :: r) 0 = a := ofRfl rfl
@[simp] theorem slot_S {a : Option T} {r : Sl} {i : Nat} : slot (a :: r) (i + 1) = slot r i := ofRfl rfl
@[simp] theorem okO_some {α : Type} {a : α} {k : α → Prop} : okO (some a) k = k a := ofRfl rfl
@[simp] theorem bt_bl {Q : Bool → Mem → Prop} {b : Bool} {S : Mem} : bt Q (.bl b) S = Q b S := ofRfl rfl
end PC
/-! PlBase: how CallWP is shown of a def; loops. -/
namespace PC
open PySem
variable {D : Tab} {k : Nat} {C g : Str} {d : Def} {args : List T} {S : Mem} {Q : Wv} {X : Wx}
theorem call_of (h : D.fn C g = some d) (ha : args.length = d.ar) (hb : wpSs D.G (cw D k) d.body (BackX S X) (startT d args) S ⟨fun _ S' => Back S Q .non S', Back S Q⟩) : CallWP D (k + 1) C g args S Q X := by
  show okO (D.fn C g) _
  rw [h]
  exact ⟨ha, hb⟩
/-- a def of the table, by its body; its names may be others -/
structure FnB (D : Tab) (C g : Str) (d : Def) : Prop where
  ex : ∃ N, D.fn C g = some ⟨N, d.ar, d.body⟩ ∧ N.length = d.N.length
theorem call_ofB (h : FnB D C g d) (ha : args.length = d.ar) (hb : wpSs D.G (cw D k) d.body (BackX S X) (startT d args) S ⟨fun _ S' => Back S Q .non S', Back S Q⟩) : CallWP D (k + 1) C g args S Q X := by
  obtain ⟨N, h1, h2⟩ := h.ex
  have e : startT ⟨N, d.ar, d.body⟩ args = startT d args := by
    unfold startT
    rw [h2]
  refine call_of h1 ha ?_
  rw [e]
  exact hb
/-- a comprehension whose parts touch no memory -/
theorem wpL_pure {g : Mem → Prop} {body : T → Mem → (List T → Mem → Prop) → Prop} {f : T → List T} {K : List T → Mem → Prop} : ∀ {xs acc : List T} {S : Mem}, (∀ x ∈ xs, ∀ k : List T → Mem → Prop, k (f x) S → body x S k) → g S → K (acc ++ xs.flatMap f) S → wpL g body xs acc S K
  | [], acc, S, _, hg, hk => ⟨hg, by simpa using hk⟩
  | x :: xs, acc, S, hb, hg, hk => ⟨hg, hb x List.mem_cons_self _ (wpL_pure (fun y hy => hb y (List.mem_cons_of_mem _ hy)) hg (by simpa using hk))⟩
/-- a for's loop by an invariant over what is left -/
theorem wpFor_inv {g : Mem → Prop} {body : T → Sl → Mem → (Sl → Mem → Prop) → Prop} {K : Sl → Mem → Prop} (P : List T → Sl → Mem → Prop) (hg : ∀ r σ S, P r σ S → g S) (hs : ∀ x r σ S, P (x :: r) σ S → ∀ KK : Sl → Mem → Prop, (∀ σ S, P r σ S → KK σ S) → body x σ S KK)
    (hd : ∀ σ S, P [] σ S → K σ S) : ∀ {xs : List T} {σ : Sl} {S : Mem}, P xs σ S → wpFor g body xs σ S K
  | [], σ, S, p => ⟨hg _ _ _ p, hd _ _ p⟩
  | x :: xs, σ, S, p => ⟨hg _ _ _ p, hs x xs σ S p _ fun σ' S' p' => wpFor_inv P hg hs hd p'⟩
/-- a comprehension's loop by an invariant over what is left and what has come -/
theorem wpL_inv {g : Mem → Prop} {body : T → Mem → (List T → Mem → Prop) → Prop} {K : List T → Mem → Prop} (P : List T → List T → Mem → Prop) (hg : ∀ r acc S, P r acc S → g S) (hs : ∀ x r acc S, P (x :: r) acc S → ∀ KK : List T → Mem → Prop, (∀ ys S, P r (acc ++ ys) S → KK ys S) → body x S KK)
    (hd : ∀ acc S, P [] acc S → K acc S) : ∀ {xs acc : List T} {S : Mem}, P xs acc S → wpL g body xs acc S K
  | [], acc, S, p => ⟨hg _ _ _ p, hd _ _ p⟩
  | x :: xs, acc, S, p => ⟨hg _ _ _ p, hs x xs acc S p _ fun ys S' p' => wpL_inv P hg hs hd p'⟩
/-- a while by a measure -/
theorem wpWh_inv {c : Sl → Mem → (Bool → Mem → Prop) → Prop} {body : Sl → Mem → (Sl → Mem → Prop) → Prop} {K : Sl → Mem → Prop} (P : Nat → Sl → Mem → Prop)
    (hs : ∀ n σ S, P n σ S → ∀ KK : Sl → Mem → Prop, (∀ m, m < n → ∀ σ2 S2, P m σ2 S2 → KK σ2 S2) → c σ S fun b S1 => if b = true then body σ S1 KK else K σ S1) : ∀ (N n : Nat) {σ : Sl} {S : Mem}, n < N → P n σ S → wpWh c body N σ S K
  | 0, n, _, _, h, _ => absurd h (Nat.not_lt_zero n)
  | N + 1, n, σ, S, h, p => hs n σ S p _ fun m hm σ2 S2 p2 => wpWh_inv P hs N m (Nat.lt_of_lt_of_le hm (Nat.le_of_lt_succ h)) p2
/-- the same, the test's value told -/
theorem wpWh_inv2 {c : Sl → Mem → (Bool → Mem → Prop) → Prop} {body : Sl → Mem → (Sl → Mem → Prop) → Prop} {K : Sl → Mem → Prop} (P : Nat → Sl → Mem → Prop)
    (hs : ∀ n σ S, P n σ S → ∃ v, (∀ KK : Bool → Mem → Prop, KK v S → c σ S KK) ∧ (v = true → ∀ KK : Sl → Mem → Prop, (∀ m, m < n → ∀ σ2 S2, P m σ2 S2 → KK σ2 S2) → body σ S KK) ∧ (v = false → K σ S)) (N n : Nat) {σ : Sl} {S : Mem} (h : n < N) (p : P n σ S) : wpWh c body N σ S K :=
  wpWh_inv P (fun n σ S p KK hK => by
    obtain ⟨v, h1, h2, h3⟩ := hs n σ S p
    refine h1 _ ?_
    cases v with
    | true => exact h2 rfl KK hK
    | false => exact h3 rfl) N n h p
/-! ### operators on known values -/
section
variable {i j : Int} {x y z : Str} {xs ys : List T} {b c : Bool} {f : T → T} {σ : Sl} {KT : Sl → Prop} {u v w : T}
@[simp] theorem vw_int : vw S (.int i) = .int i := rfl
@[simp] theorem vw_str : vw S (.str x) = .str x := rfl
@[simp] theorem vw_bl : vw S (.bl b) = .bl b := rfl
@[simp] theorem vw_non : vw S .non = .non := rfl
@[simp] theorem vw_tup : vw S (.tup xs) = .tup xs := rfl
@[simp] theorem vw_lst : vw S (.lst xs) = .lst xs := rfl
@[simp] theorem vw_dct : vw S (.dct xs ys) = .dct xs ys := rfl
@[simp] theorem cmp_lt : cmpT .Lt (.int i) (.int j) = some (decide (i < j)) := rfl
@[simp] theorem cmp_le : cmpT .LtE (.int i) (.int j) = some (decide (i ≤ j)) := rfl
@[simp] theorem cmp_gt : cmpT .Gt (.int i) (.int j) = some (decide (j < i)) := rfl
@[simp] theorem cmp_ge : cmpT .GtE (.int i) (.int j) = some (decide (j ≤ i)) := rfl
@[simp] theorem cmp_eqi : cmpT .Eq (.int i) (.int j) = some (decide (i = j)) := by simp [cmpT, pln, eqT]; rfl
@[simp] theorem cmp_nei : cmpT .NotEq (.int i) (.int j) = some (!decide (i = j)) := by simp [cmpT, pln, eqT]; rfl
theorem cmp_eqp (h1 : pln 60 u = true) (h2 : pln 60 v = true) : cmpT .Eq u v = some (eqT u v) := by unfold cmpT; simp [h1, h2]
theorem cmp_nep (h1 : pln 60 u = true) (h2 : pln 60 v = true) : cmpT .NotEq u v = some (!eqT u v) := by unfold cmpT; simp [h1, h2]
@[simp] theorem cmp_isb : cmpT .Is (.bl b) (.bl c) = some (b == c) := rfl
@[simp] theorem cmp_isnb : cmpT .IsNot (.bl b) (.bl c) = some (!(b == c)) := rfl
@[simp] theorem bin_addi : binT .Add (.int i) (.int j) = some (.int (i + j)) := rfl
@[simp] theorem bin_subi : binT .Sub (.int i) (.int j) = some (.int (i - j)) := rfl
theorem bin_muli (h : mulOk i j = true) : binT .Mult (.int i) (.int j) = some (.int (i * j)) := by simp [binT, h]
theorem bin_modi (h : 0 < j) : binT .Mod (.int i) (.int j) = some (.int (i % j)) := by simp [binT, h]
theorem bin_divi (h : divOk i j = true) : binT .FloorDiv (.int i) (.int j) = some (.int (i / j)) := by simp [binT, h]
theorem bin_addl (h : xs.length + ys.length ≤ line) : binT .Add (.lst xs) (.lst ys) = some (.lst (xs ++ ys)) := by simp [binT, h]
theorem bin_addt (h : xs.length + ys.length ≤ line) : binT .Add (.tup xs) (.tup ys) = some (.tup (xs ++ ys)) := by simp [binT, h]
@[simp] theorem idx_tup : idxT (.tup xs) (.int i) = L2.atI xs i := rfl
@[simp] theorem idx_lst : idxT (.lst xs) (.int i) = L2.atI xs i := rfl
@[simp] theorem at0 : L2.atI (u :: xs) 0 = some u := by simp [L2.atI, L2.ixN]
theorem at_nat {α : Type} {l : List α} {n : Nat} : L2.atI l (n : Int) = l[n]? := by
  unfold L2.atI L2.ixN
  by_cases h : n < l.length
  · rw [if_pos (by omega), if_pos (by omega)]; simp
  · rw [if_pos (by omega), if_neg (by omega), List.getElem?_eq_none (by omega)]; rfl
@[simp] theorem at1 : L2.atI (u :: v :: xs) 1 = some v := by
  have := at_nat (l := u :: v :: xs) (n := 1)
  simpa using this
@[simp] theorem bi_lenl : biT .len [.lst xs] = some (.int xs.length) := rfl
@[simp] theorem bi_lent : biT .len [.tup xs] = some (.int xs.length) := rfl
@[simp] theorem bi_max2 : biT .max2 [.int i, .int j] = some (.int (if j > i then j else i)) := rfl
@[simp] theorem bi_min2 : biT .min2 [.int i, .int j] = some (.int (if j < i then j else i)) := rfl
@[simp] theorem bi_tupl : biT .tuple [.lst xs] = some (.tup xs) := rfl
@[simp] theorem bi_tupt : biT .tuple [.tup xs] = some (.tup xs) := rfl
@[simp] theorem bi_all : biT .all [.lst xs] = (bls? xs).map fun l => .bl (l.all id) := rfl
@[simp] theorem bi_sum : biT .sum [.lst xs] = (ints? xs).map fun l => .int l.sum := rfl
@[simp] theorem isi_int : isiT (.int i) .int = some true := rfl
@[simp] theorem isi_intb : isiT (.int i) .bool = some false := rfl
@[simp] theorem isi_tup : isiT (.tup xs) .tuple = some true := rfl
@[simp] theorem slc_tup {lo hi : Option Int} : slcT (.tup xs) lo hi = some (.tup (cut xs lo hi)) := rfl
@[simp] theorem asg_1 {n : Nat} : asgTg (.one n) u σ KT = KT (σ.set n (some u)) := rfl
@[simp] theorem asg_2 {n m : Nat} : asgTg (.two n m) (.tup [u, v]) σ KT = KT ((σ.set n (some u)).set m (some v)) := rfl
@[simp] theorem asg_3 {n m l : Nat} : asgTg (.three n m l) (.tup [u, v, w]) σ KT = KT (((σ.set n (some u)).set m (some v)).set l (some w)) := rfl
@[simp] theorem wipe_0 : wipe σ [] = σ := rfl
@[simp] theorem wipe_S {n : Nat} {l : List Nat} : wipe σ (n :: l) = (wipe σ l).set n none := rfl
@[simp] theorem cw_eq {D : Tab} {k : Nat} {C g : Str} {args : List T} {Q : Wv} {X : Wx} : cw D k C g args S Q X = CallWP D k C g args S Q X := rfl
end
theorem fm_single {f : T → T} : ∀ xs : List T, xs.flatMap (fun x => [f x]) = xs.map f
  | [] => rfl
  | x :: xs => by simp [fm_single xs]
/-- a list comprehension that maps -/
theorem wpL_map {g : Mem → Prop} {body : T → Mem → (List T → Mem → Prop) → Prop} {f : T → T} {K : List T → Mem → Prop} {xs : List T} {S : Mem} (hb : ∀ x ∈ xs, ∀ k : List T → Mem → Prop, k [f x] S → body x S k) (hg : g S) (hk : K (xs.map f) S) : wpL g body xs [] S K :=
  wpL_pure (f := fun x => [f x]) hb hg (by rw [List.nil_append, fm_single]; exact hk)
theorem bls_map (l : List Bool) : bls? (l.map .bl) = some l := by
  induction l with
  | nil => rfl
  | cons b l ih => simp [bls?, ih]
theorem ints_map (l : List Int) : ints? (l.map .int) = some l := by
  induction l with
  | nil => rfl
  | cons b l ih => simp [ints?, ih]
theorem startT_eq {d : Def} {args : List T} : startT d args = args.map some ++ List.replicate (d.N.length - d.ar) none := rfl
/-! ### whole numbers, bundles, mails, letters -/
def d_is_whole : Def := ⟨["thing", "low", "high"], 3,
    (.cons (.ret (.and (.isi (.var 0) .int) (.and (.not (.isi (.var 0) .bool)) (.chain .LtE .LtE (.var 1) (.var 0) (.var 2)))))
    .nil)⟩
theorem is_whole_ok (h : D.fn "" "is_whole" = some d_is_whole) {x lo hi : Int} (q : Q (.bl (decide (lo ≤ x ∧ x ≤ hi))) S) : CallWP D (k + 1) "" "is_whole" [.int x, .int lo, .int hi] S Q X := by
  refine call_of h rfl ?_
  simp [d_is_whole, startT_eq]
  by_cases h1 : lo ≤ x
  · simp only [h1, if_true, true_and] at q ⊢
    exact .keep q
  · simp only [h1, if_false, false_and, decide_false] at q ⊢
    exact .keep q
def d_is_bundle : Def := ⟨["thing", "most", "one", "other"], 2,
    (.cons (.ifs (.or (.not (.isi (.var 0) .tuple)) (.or (.cmp .Gt (.bi .len (.cons (.var 0) .nil)) (.glob "MOST")) (.not (.bi .all (.cons (.comp (.call "is_whole" (.cons (.var 2) (.cons (.int 0) (.cons (.var 1) .nil)))) [2] (.one 2) (.live (.var 0)) .none) .nil))))) (.cons (.ret (.bl false))
    .nil) .nil)
    (.cons (.ret (.bi .all (.cons (.comp (.cmp .LtE (.var 2) (.var 3)) [2, 3] (.two 2 3) (.zip (.var 0) (.slc (.var 0) (.some (.int 1)) .none)) .none) .nil)))
    .nil))⟩
theorem cut_1 {α : Type} (xs : List α) : cut xs (some 1) none = xs.drop 1 := by
  unfold cut HT.sIx
  cases xs with
  | nil => simp
  | cons x r => simp
theorem zip_tail {xs : List Int} (hs : xs.Pairwise (· ≤ ·)) : ∀ p ∈ zipT (xs.map T.int) ((xs.map T.int).drop 1), ∃ a b : Int, p = .tup [.int a, .int b] ∧ a ≤ b := by
  induction xs with
  | nil => intro p hp; cases hp
  | cons x r ih =>
    cases r with
    | nil => intro p hp; simp [zipT] at hp
    | cons y r =>
      intro p hp
      have hp : p ∈ T.tup [.int x, .int y] :: zipT ((y :: r).map T.int) (((y :: r).map T.int).drop 1) := hp
      rcases List.mem_cons.mp hp with rfl | hp
      · exact ⟨x, y, rfl, (List.pairwise_cons.mp hs).1 y List.mem_cons_self⟩
      · exact ih (List.pairwise_cons.mp hs).2 p hp
@[simp] theorem all_tt {α : Type} (xs : List α) : (xs.all fun _ => true) = true := by induction xs <;> simp_all
theorem bls_const {α : Type} (xs : List α) : bls? (xs.map fun _ => T.bl true) = some (xs.map fun _ => true) := by
  have := bls_map (xs.map fun _ => true)
  rwa [List.map_map] at this
theorem is_bundle_ok (h : D.fn "" "is_bundle" = some d_is_bundle) (h1 : D.fn "" "is_whole" = some d_is_whole) (hm : D.G "MOST" = some (.int 7)) {xs : List Int} {n : Int} (hl : xs.length ≤ 7) (hx : ∀ x ∈ xs, 0 ≤ x ∧ x ≤ n) (hs : xs.Pairwise (· ≤ ·)) (q : Q (.bl true) S) :
    CallWP D (k + 2) "" "is_bundle" [.tup (xs.map .int), .int n] S Q X := by
  refine call_of h rfl ?_
  simp [d_is_bundle, startT_eq, hm]
  rw [if_neg (by omega)]
  refine wpL_map (f := fun _ => .bl true) (fun x hx' k' hk => ?_) trivial ?_
  · obtain ⟨y, hy, rfl⟩ := List.mem_map.mp hx'
    refine is_whole_ok h1 ?_
    rw [decide_eq_true (hx y hy)]
    exact hk
  · rw [bls_const]
    simp
    refine wpL_map (f := fun _ => .bl true) (fun x hx' k' hk => ?_) trivial ?_
    · rw [cut_1] at hx'
      obtain ⟨a, b, rfl, hab⟩ := zip_tail hs x hx'
      simp [hab]
      exact hk
    · rw [bls_const]
      simp
      exact .keep q
/-! mails -/
def mailT (a b : List Int) : T := .tup [.tup (a.map .int), .tup (b.map .int)]
/-- a pair of bundles as it should be -/
structure OkM (a b : List Int) : Prop where
  la : a.length ≤ 7
  lb : b.length ≤ 7
  ra : ∀ x ∈ a, 0 ≤ x ∧ x ≤ b.length
  rb : ∀ x ∈ b, 0 ≤ x ∧ x ≤ a.length
  sa : a.Pairwise (· ≤ ·)
  sb : b.Pairwise (· ≤ ·)
def d_is_mail : Def := ⟨["thing", "one"], 1,
    (.cons (.ifs (.or (.not (.isi (.var 0) .tuple)) (.or (.cmp .NotEq (.bi .len (.cons (.var 0) .nil)) (.int 2)) (.not (.bi .all (.cons (.comp (.isi (.var 1) .tuple) [1] (.one 1) (.live (.var 0)) .none) .nil))))) (.cons (.ret (.bl false))
    .nil) .nil)
    (.cons (.ret (.and (.call "is_bundle" (.cons (.idx (.var 0) (.int 0)) (.cons (.bi .len (.cons (.idx (.var 0) (.int 1)) .nil)) .nil))) (.call "is_bundle" (.cons (.idx (.var 0) (.int 1)) (.cons (.bi .len (.cons (.idx (.var 0) (.int 0)) .nil)) .nil)))))
    .nil))⟩
structure HasMail (D : Tab) : Prop where
  whole : D.fn "" "is_whole" = some d_is_whole
  bundle : D.fn "" "is_bundle" = some d_is_bundle
  mail : D.fn "" "is_mail" = some d_is_mail
  most : D.G "MOST" = some (.int 7)
theorem is_mail_ok (h : HasMail D) {a b : List Int} (ok : OkM a b) (q : Q (.bl true) S) : CallWP D (k + 3) "" "is_mail" [mailT a b] S Q X := by
  refine call_of h.mail rfl ?_
  simp [d_is_mail, startT_eq, mailT]
  refine wpL_map (f := fun _ => .bl true) (fun x hx' k' hk => ?_) trivial ?_
  · simp at hx'
    rcases hx' with rfl | rfl <;> simpa using hk
  · simp [bls?]
    refine is_bundle_ok h.bundle h.whole h.most ok.la ok.ra ok.sa ?_
    simp
    exact is_bundle_ok h.bundle h.whole h.most ok.lb ok.rb ok.sb (.keep q)
def d_need_mail : Def := ⟨["thing"], 1,
    (.cons (.ifs (.not (.call "is_mail" (.cons (.var 0) .nil))) (.cons (.raise "BadMail")
    .nil) .nil)
    .nil)⟩
theorem need_mail_ok (hn : D.fn "" "need_mail" = some d_need_mail) (h : HasMail D) {a b : List Int} (ok : OkM a b) (q : Q .non S) : CallWP D (k + 4) "" "need_mail" [mailT a b] S Q X := by
  refine call_of hn rfl ?_
  simp [d_need_mail, startT_eq]
  refine is_mail_ok h ok ?_
  simp
  exact .keep q
end PC
/-! PlRoll: the law's dice; mails that are written. -/
namespace PC
open PySem
variable {D : Tab} {k : Nat} {C g : Str} {d : Def} {args : List T} {S : Mem} {Q : Wv} {X : Wx}
def d_law_drawn : Def := ⟨["_law_cell_here", "_law_k", "_law_more"], 2,
    (.cons (.asg 2 (.bin .Mod (.bin .Add (.bin .Mult (.var 0) (.int 6364136223846793005)) (.bin .Mult (.bin .Add (.var 1) (.int 1)) (.int 1442695040888963407))) (.int 340282366920938463463374607431768211507)))
    (.cons (.asg 2 (.bin .Mod (.bin .Mult (.var 2) (.var 2)) (.int 340282366920938463463374607431768211297)))
    (.cons (.asg 2 (.bin .Mult (.bin .Mult (.bin .Add (.bin .Mod (.var 2) (.int 18446744073709551557)) (.int 1)) (.bin .Add (.bin .FloorDiv (.var 2) (.int 18446744073709551557)) (.int 1))) (.var 2)))
    (.cons (.ret (.bin .Mod (.var 2) (.int 340282366920938463463374607431768211507)))
    .nil))))⟩
theorem mulOk_r {i j : Int} (h : j.natAbs < 2 ^ 64) : mulOk i j = true := by
  unfold mulOk
  rw [decide_eq_true h, Bool.or_true, Bool.true_or]
theorem mulOk_b {i j : Int} (h1 : i.natAbs < 2 ^ 250) (h2 : j.natAbs < 2 ^ 250) : mulOk i j = true := by
  unfold mulOk
  have e : (2 : Nat) ^ 250 < 2 ^ 2000 := Nat.pow_lt_pow_right (by decide) (by decide)
  rw [decide_eq_true (show i.natAbs < 2 ^ 2000 by omega), decide_eq_true (show j.natAbs < 2 ^ 2000 by omega)]
  simp
theorem abs_mul {i j : Int} (h1 : i.natAbs < 2 ^ 100) (h2 : j.natAbs < 2 ^ 100) : (i * j).natAbs < 2 ^ 200 := by
  rw [Int.natAbs_mul, show (2 : Nat) ^ 200 = 2 ^ 100 * 2 ^ 100 by decide]
  exact Nat.mul_lt_mul'' h1 h2
theorem divOk_s {i j : Int} (h1 : 0 < j) (h2 : j < 1073741824) : divOk i j = true := by
  unfold divOk
  rw [decide_eq_true h1, decide_eq_true h2]
  rfl
theorem divOk_b {i j : Int} (h1 : 0 < j) (h2 : i.natAbs < 2 ^ 250) (h3 : j < 2 ^ 250) : divOk i j = true := by
  unfold divOk
  have e : (2 : Nat) ^ 250 < 2 ^ 4000 := Nat.pow_lt_pow_right (by decide) (by decide)
  have e2 : (2 : Int) ^ 250 < 2 ^ 2000 := by
    have : (2 : Nat) ^ 250 < 2 ^ 2000 := Nat.pow_lt_pow_right (by decide) (by decide)
    exact_mod_cast this
  rw [decide_eq_true h1, decide_eq_true (Nat.lt_trans h2 e), decide_eq_true (Int.lt_trans h3 e2), Bool.and_self, Bool.or_true, Bool.and_self]
theorem drawn_ok (h : D.fn "" "_law_drawn" = some d_law_drawn) {c n : Int} (q : ∀ r : Int, Q (.int r) S) : CallWP D (k + 1) "" "_law_drawn" [.int c, .int n] S Q X := by
  refine call_of h rfl ?_
  simp [d_law_drawn, startT_eq]
  rw [bin_muli (mulOk_r (by decide))]
  simp
  rw [bin_muli (mulOk_r (by decide))]
  simp
  rw [bin_modi (by decide)]
  simp
  generalize hm : (c * 6364136223846793005 + (n + 1) * 1442695040888963407) % 340282366920938463463374607431768211507 = m
  have b1 : 0 ≤ m := by rw [← hm]; exact Int.emod_nonneg _ (by decide)
  have b2 : m < 340282366920938463463374607431768211507 := by rw [← hm]; exact Int.emod_lt_of_pos _ (by decide)
  rw [bin_muli (mulOk_b (by omega) (by omega))]
  simp
  rw [bin_modi (by decide)]
  simp
  generalize hm2 : m * m % 340282366920938463463374607431768211297 = m2
  have c1 : 0 ≤ m2 := by rw [← hm2]; exact Int.emod_nonneg _ (by decide)
  have c2 : m2 < 340282366920938463463374607431768211297 := by rw [← hm2]; exact Int.emod_lt_of_pos _ (by decide)
  rw [bin_modi (by decide)]
  simp
  rw [bin_divi (divOk_b (by decide) (by omega) (by decide))]
  simp
  have g1 : 0 ≤ m2 % 18446744073709551557 := Int.emod_nonneg _ (by decide)
  have g2 : m2 % 18446744073709551557 < 18446744073709551557 := Int.emod_lt_of_pos _ (by decide)
  have g3 : 0 ≤ m2 / 18446744073709551557 := by omega
  have g4 : m2 / 18446744073709551557 < 18446744073709551557000 := by omega
  have hu : (m2 % 18446744073709551557 + 1).natAbs < 2 ^ 100 := by omega
  have hv : (m2 / 18446744073709551557 + 1).natAbs < 2 ^ 100 := by omega
  rw [bin_muli (mulOk_b (by omega) (by omega))]
  simp
  have hw := abs_mul hu hv
  rw [bin_muli (mulOk_b (Nat.lt_trans hw (by decide)) (by omega))]
  simp
  rw [bin_modi (by decide)]
  exact .keep (q _)
/-! the dice -/
def diceT (c n : Int) : Ob := .lst [.int c, .int n]
def d_law_roll : Def := ⟨["_law_dice", "_law_many", "_law_told"], 2,
    (.cons (.ifs (.cmp .GtE (.idx (.var 0) (.int 0)) (.bin .Pow (.int 10) (.int 18))) (.cons (.asg 2 (.bin .Mod (.idx (.var 0) (.int 0)) (.var 1)))
    (.cons (.setIdx (.var 0) (.int 0) (.bin .FloorDiv (.idx (.var 0) (.int 0)) (.var 1)))
    (.cons (.ret (.var 2))
    .nil))) .nil)
    (.cons (.setIdx (.var 0) (.int 1) (.bin .Add (.idx (.var 0) (.int 1)) (.int 1)))
    (.cons (.ret (.bin .Mod (.bin .FloorDiv (.call "_law_drawn" (.cons (.idx (.var 0) (.int 0)) (.cons (.idx (.var 0) (.int 1)) .nil))) (.int 8)) (.var 1)))
    .nil)))⟩
structure HasRoll (D : Tab) : Prop where
  drawn : D.fn "" "_law_drawn" = some d_law_drawn
  roll : FnB D "" "_law_roll" d_law_roll
theorem vw_ref {i : Nat} {xs : List T} (h : S[i]? = some (.lst xs)) : vw S (.ref i) = .lst xs := by simp [vw, h]
theorem vw_fix {i : Nat} {xs : List T} (h : S[i]? = some (.fix xs)) : vw S (.ref i) = .lst xs := by simp [vw, h]
theorem ob_ref {i : Nat} {o : Ob} (h : S[i]? = some o) : ob? S (.ref i) = some (i, o) := by simp [ob?, h]
theorem bin_pow : binT .Pow (.int 10) (.int 18) = some (.int 1000000000000000000) := by
  have : (0 : Int) ≤ 18 ∧ (18 : Int) ≤ 1000 ∧ (10 : Int).natAbs < 2 ^ 64 := by decide
  show (if 0 ≤ (18 : Int) ∧ (18 : Int) ≤ 1000 ∧ (10 : Int).natAbs < 2 ^ 64 then some (T.int (10 ^ (18 : Int).toNat)) else none) = _
  rw [if_pos this]
  rfl
theorem get_set {i : Nat} {o o' : Ob} (h : S[i]? = some o') : (S.set i o)[i]? = some o := by
  rw [List.getElem?_set_self']
  rw [h]
  rfl
theorem roll_ok (h : HasRoll D) {i : Nat} {c m n : Int} (hS : S[i]? = some (diceT c m)) (hn : 0 < n) (hn2 : n < 1073741824) (q : ∀ r c' m' : Int, 0 ≤ r → r < n → Q (.int r) (S.set i (diceT c' m'))) : CallWP D (k + 2) "" "_law_roll" [.ref i, .int n] S Q X := by
  refine call_ofB h.roll rfl ?_
  have e := vw_ref (show S[i]? = some (.lst [.int c, .int m]) from hS)
  simp [d_law_roll, startT_eq, e, bin_pow]
  by_cases hc : (1000000000000000000 : Int) ≤ c
  · rw [if_pos hc, bin_modi hn]
    simp
    rw [bin_divi (divOk_s hn hn2), ob_ref (show S[i]? = some (.lst [.int c, .int m]) from hS)]
    simp [L2.ixN]
    exact .keep (q _ _ _ (Int.emod_nonneg _ (by omega)) (Int.emod_lt_of_pos _ hn))
  · rw [if_neg hc, ob_ref (show S[i]? = some (.lst [.int c, .int m]) from hS)]
    simp [L2.ixN]
    have e2 : vw (S.set i (.lst [.int c, .int (m + 1)])) (.ref i) = .lst [.int c, .int (m + 1)] := vw_ref (get_set hS)
    rw [e2]
    simp
    refine drawn_ok h.drawn fun r => ?_
    simp
    rw [bin_divi (divOk_s (by decide) (by decide))]
    simp
    rw [bin_modi hn]
    exact .keep (q _ _ _ (Int.emod_nonneg _ (by omega)) (Int.emod_lt_of_pos _ hn))
/-! mails that are written, letter by letter -/
/-- a and b: what each letter had read; t: who wrote -/
inductive Wr : List Int → List Int → List Int → Prop
  | nil : Wr [] [] []
  | zero {a b t : List Int} {x : Int} : Wr a b t → (∀ y ∈ a, y ≤ x) → 0 ≤ x → x ≤ b.length → Wr (a ++ [x]) b (t ++ [0])
  | one {a b t : List Int} {x : Int} : Wr a b t → (∀ y ∈ b, y ≤ x) → 0 ≤ x → x ≤ a.length → Wr a (b ++ [x]) (t ++ [1])
theorem sorted_snoc {a : List Int} {x : Int} (h : a.Pairwise (· ≤ ·)) (hx : ∀ y ∈ a, y ≤ x) : (a ++ [x]).Pairwise (· ≤ ·) := by
  rw [List.pairwise_append]
  exact ⟨h, List.pairwise_singleton _ _, fun y hy z hz => by rw [List.mem_singleton.mp hz]; exact hx y hy⟩
theorem Wr.ok {a b t : List Int} (h : Wr a b t) : a.Pairwise (· ≤ ·) ∧ b.Pairwise (· ≤ ·) ∧ (∀ x ∈ a, 0 ≤ x ∧ x ≤ b.length) ∧ (∀ x ∈ b, 0 ≤ x ∧ x ≤ a.length) := by
  induction h with
  | nil => simp
  | @zero a b t x _ h1 h2 h3 ih =>
    obtain ⟨i1, i2, i3, i4⟩ := ih
    refine ⟨sorted_snoc i1 h1, i2, fun y hy => ?_, fun y hy => ?_⟩
    · rcases List.mem_append.mp hy with hy | hy
      · exact i3 y hy
      · rw [List.mem_singleton.mp hy]; exact ⟨h2, h3⟩
    · have := i4 y hy
      rw [List.length_append, List.length_singleton]
      omega
  | @one a b t x _ h1 h2 h3 ih =>
    obtain ⟨i1, i2, i3, i4⟩ := ih
    refine ⟨i1, sorted_snoc i2 h1, fun y hy => ?_, fun y hy => ?_⟩
    · have := i3 y hy
      rw [List.length_append, List.length_singleton]
      omega
    · rcases List.mem_append.mp hy with hy | hy
      · exact i4 y hy
      · rw [List.mem_singleton.mp hy]; exact ⟨h2, h3⟩
def d_law_written : Def := ⟨["_law_dice", "_law_first", "_law_second", "_law_tops", "_law_rows", "_law_turns", "_law_side", "_law_low"], 3,
    (.cons (.par (.three 3 4 5) (.cons (.tup (.cons (.call "_law_roll" (.cons (.var 0) (.cons (.bin .Add (.var 1) (.int 1)) .nil))) (.cons (.call "_law_roll" (.cons (.var 0) (.cons (.bin .Add (.var 2) (.int 1)) .nil))) .nil))) (.cons (.lst (.cons (.track (.lst .nil)) (.cons (.track (.lst .nil)) .nil))) (.cons (.track (.lst .nil)) .nil))))
    (.cons (.whiles (.or (.cmp .Lt (.bi .len (.cons (.idx (.var 4) (.int 0)) .nil)) (.idx (.var 3) (.int 0))) (.cmp .Lt (.bi .len (.cons (.idx (.var 4) (.int 1)) .nil)) (.idx (.var 3) (.int 1)))) (.cons (.asg 6 (.call "_law_roll" (.cons (.var 0) (.cons (.int 2) .nil))))
    (.cons (.asg 6 (.ife (.cmp .Lt (.bi .len (.cons (.idx (.var 4) (.var 6)) .nil)) (.idx (.var 3) (.var 6))) (.var 6) (.bin .Sub (.int 1) (.var 6))))
    (.cons (.asg 7 (.ife (.cmp .NotEq (.idx (.var 4) (.var 6)) (.lst .nil)) (.idx (.idx (.var 4) (.var 6)) (.neg (.int 1))) (.int 0)))
    (.cons (.append (.idx (.var 4) (.var 6)) (.bin .Add (.var 7) (.call "_law_roll" (.cons (.var 0) (.cons (.bin .Add (.bin .Sub (.bi .len (.cons (.idx (.var 4) (.bin .Sub (.int 1) (.var 6))) .nil)) (.var 7)) (.int 1)) .nil)))))
    (.cons (.append (.var 5) (.var 6))
    .nil))))))
    (.cons (.ret (.tup (.cons (.tup (.cons (.bi .tuple (.cons (.idx (.var 4) (.int 0)) .nil)) (.cons (.bi .tuple (.cons (.idx (.var 4) (.int 1)) .nil)) .nil))) (.cons (.bi .tuple (.cons (.var 5) .nil)) .nil))))
    .nil)))⟩
/-- the memory while a mail is written -/
abbrev wrM (S0 : Mem) (a b t : List Int) : Mem := S0 ++ [.lst (a.map .int), .lst (b.map .int), .lst (t.map .int)]
section
variable {S0 : Mem} {a b t : List Int}
theorem wrM0 : (wrM S0 a b t)[S0.length]? = some (.lst (a.map .int)) := by simp [wrM]
theorem wrM1 : (wrM S0 a b t)[S0.length + 1]? = some (.lst (b.map .int)) := by simp [wrM]
theorem wrM2 : (wrM S0 a b t)[S0.length + 2]? = some (.lst (t.map .int)) := by simp [wrM]
theorem wrMd {i : Nat} {o : Ob} (h : S0[i]? = some o) : (wrM S0 a b t)[i]? = some o := by
  unfold wrM
  rw [List.getElem?_append_left (List.getElem?_eq_some_iff.mp h).1]
  exact h
theorem wrMs {i : Nat} {o o' : Ob} (h : S0[i]? = some o) : (wrM S0 a b t).set i o' = wrM (S0.set i o') a b t := by
  unfold wrM
  rw [List.set_append_left _ _ (List.getElem?_eq_some_iff.mp h).1]
theorem wrMs0 {x : Int} : (wrM S0 a b t).set S0.length (.lst (a.map .int ++ [.int x])) = wrM S0 (a ++ [x]) b t := by
  unfold wrM
  rw [List.set_append_right _ _ (Nat.le_refl _)]
  simp
theorem wrMs1 {x : Int} : (wrM S0 a b t).set (S0.length + 1) (.lst (b.map .int ++ [.int x])) = wrM S0 a (b ++ [x]) t := by
  unfold wrM
  rw [List.set_append_right _ _ (Nat.le_add_right _ _)]
  simp
theorem wrMs2 {x : Int} : (wrM S0 a b t).set (S0.length + 2) (.lst (t.map .int ++ [.int x])) = wrM S0 a b (t ++ [x]) := by
  unfold wrM
  rw [List.set_append_right _ _ (Nat.le_add_right _ _)]
  simp
end
theorem last_ok {l : List Int} (h : l ≠ []) : L2.atI (l.map T.int) (-1) = some (.int (l.getLast h)) := by
  have hl : 0 < l.length := List.length_pos_iff.mpr h
  unfold L2.atI L2.ixN
  rw [if_neg (by decide), List.length_map, if_pos (by omega)]
  simp only [Option.bind_some]
  rw [List.getElem?_map, show ((-1 : Int) + (l.length : Int)).toNat = l.length - 1 by omega, ← List.getLast?_eq_getElem?, List.getLast?_eq_some_getLast h]
  rfl
theorem le_last {l : List Int} (h : l ≠ []) (hs : l.Pairwise (· ≤ ·)) : ∀ y ∈ l, y ≤ l.getLast h := by
  intro y hy
  rw [← List.dropLast_concat_getLast h] at hs hy
  rw [List.pairwise_append] at hs
  rcases List.mem_append.mp hy with hy | hy
  · exact hs.2.2 y hy _ List.mem_cons_self
  · rw [List.mem_singleton.mp hy]; exact Int.le_refl _
end PC
/-! PlWr: a written mail. -/
namespace PC
open PySem
variable {D : Tab} {k : Nat} {C g : Str} {d : Def} {args : List T} {S : Mem} {Q : Wv} {X : Wx}
theorem set_set {i : Nat} {o o' : Ob} : (S.set i o).set i o' = S.set i o' := List.set_set ..
theorem pln_ints (n : Nat) (a : List Int) : pln (n + 1) (.lst (a.map .int)) = true := by
  simp only [pln, List.all_eq_true]
  intro x hx
  obtain ⟨y, _, rfl⟩ := List.mem_map.mp hx
  simp [pln]
theorem ne_nil (a : List Int) : cmpT .NotEq (.lst (a.map .int)) (.lst []) = some (decide (a ≠ [])) := by
  rw [cmp_nep (pln_ints 59 a) (show pln 60 (.lst []) = true from pln_ints 59 [])]
  cases a <;> simp [eqT, eqTs]
theorem lref_of {i : Nat} {xs : List T} (h : S[i]? = some (.lst xs)) : lref S (.ref i) = true := by simp [lref, ob_ref h]
section
variable {S0 : Mem} {a b t : List Int} {σ : Sl} {KK : Sl → Mem → Prop}
/-- a letter of the first bundle is put down -/
theorem put0 {L : Nat} (hL : S0.length = L) {x : Int} (ha : a.length < line) (ht : t.length < line) (h : KK (σ) (wrM S0 (a ++ [x]) b (t ++ [0]))) :
    (match ob? (wrM S0 a b t) (.ref L) with
      | some (i1, Ob.lst xs) => xs.length < line ∧ lref ((wrM S0 a b t).set i1 (.lst (xs ++ [.int x]))) (.ref (L + 1 + 1)) = true ∧
          match ob? ((wrM S0 a b t).set i1 (.lst (xs ++ [.int x]))) (.ref (L + 1 + 1)) with
          | some (i2, Ob.lst ys) => ys.length < line ∧ KK (σ) (((wrM S0 a b t).set i1 (.lst (xs ++ [.int x]))).set i2 (.lst (ys ++ [.int 0])))
          | _ => False
      | _ => False) := by
  subst hL
  rw [ob_ref wrM0]
  refine ⟨by simpa using ha, ?_⟩
  rw [wrMs0]
  refine ⟨lref_of wrM2, ?_⟩
  rw [ob_ref wrM2]
  refine ⟨by simpa using ht, ?_⟩
  rw [wrMs2]
  exact h
theorem put1 {L : Nat} (hL : S0.length = L) {x : Int} (ha : b.length < line) (ht : t.length < line) (h : KK (σ) (wrM S0 a (b ++ [x]) (t ++ [1]))) :
    (match ob? (wrM S0 a b t) (.ref (L + 1)) with
      | some (i1, Ob.lst xs) => xs.length < line ∧ lref ((wrM S0 a b t).set i1 (.lst (xs ++ [.int x]))) (.ref (L + 1 + 1)) = true ∧
          match ob? ((wrM S0 a b t).set i1 (.lst (xs ++ [.int x]))) (.ref (L + 1 + 1)) with
          | some (i2, Ob.lst ys) => ys.length < line ∧ KK (σ) (((wrM S0 a b t).set i1 (.lst (xs ++ [.int x]))).set i2 (.lst (ys ++ [.int 1])))
          | _ => False
      | _ => False) := by
  subst hL
  rw [ob_ref wrM1]
  refine ⟨by simpa using ha, ?_⟩
  rw [wrMs1]
  refine ⟨lref_of wrM2, ?_⟩
  rw [ob_ref wrM2]
  refine ⟨by simpa using ht, ?_⟩
  rw [wrMs2]
  exact h
end
theorem Wr.len {a b t : List Int} (h : Wr a b t) : t.length = a.length + b.length := by
  induction h with
  | nil => rfl
  | zero _ _ _ _ ih => simp [ih]; omega
  | one _ _ _ _ ih => simp [ih]; omega
theorem written_ok (hr : HasRoll D) (hw : FnB D "" "_law_written" d_law_written) {i : Nat} {c m f g : Int} (hS : S[i]? = some (diceT c m)) (hf : 0 ≤ f ∧ f < 1000) (hg : 0 ≤ g ∧ g < 1000)
    (q : ∀ (a b t : List Int) (c' m' : Int), Wr a b t → (a.length : Int) ≤ f → (b.length : Int) ≤ g → Q (.tup [mailT a b, .tup (t.map .int)]) (S.set i (diceT c' m'))) : CallWP D (k + 3) "" "_law_written" [.ref i, .int f, .int g] S Q X := by
  refine call_ofB hw rfl ?_
  simp [d_law_written, startT_eq]
  refine roll_ok hr hS (by omega) (by omega) fun t0 c1 m1 h1 h2 => ?_
  refine roll_ok hr (get_set hS) (by omega) (by omega) fun t1 c2 m2 h3 h4 => ?_
  rw [set_set]
  simp
  refine ⟨(t0 + t1).toNat + 1, wpWh_inv2 (P := fun n σ S1 => ∃ (a b t : List Int) (c m : Int) (x6 x7 : Option T), σ = [some (.ref i), some (.int f), some (.int g), some (.tup [.int t0, .int t1]), some (.lst [.ref S.length, .ref (S.length + 1)]), some (.ref (S.length + 1 + 1)), x6, x7] ∧
    S1 = wrM (S.set i (diceT c m)) a b t ∧ Wr a b t ∧ (a.length : Int) ≤ t0 ∧ (b.length : Int) ≤ t1 ∧ n = (t0 - a.length).toNat + (t1 - b.length).toNat) ?_ _ (t0 + t1).toNat (Nat.lt_succ_self _) ⟨[], [], [], c2, m2, none, none, rfl, rfl, .nil, by simpa using h1, by simpa using h3, by (try simp) <;> omega⟩⟩
  rintro n σ S1 ⟨a, b, t, c, m, x6, x7, rfl, rfl, W, l0, l1, rfl⟩
  have hlen : (S.set i (diceT c m)).length = S.length := List.length_set ..
  have v0 : vw (wrM (S.set i (diceT c m)) a b t) (.ref S.length) = .lst (a.map .int) := vw_ref (by rw [← hlen]; exact wrM0)
  have v1 : vw (wrM (S.set i (diceT c m)) a b t) (.ref (S.length + 1)) = .lst (b.map .int) := vw_ref (by rw [← hlen]; exact wrM1)
  have v2 : vw (wrM (S.set i (diceT c m)) a b t) (.ref (S.length + 1 + 1)) = .lst (t.map .int) := vw_ref (by rw [← hlen]; exact wrM2)
  have hd : (wrM (S.set i (diceT c m)) a b t)[i]? = some (diceT c m) := wrMd (get_set hS)
  refine ⟨decide ((a.length : Int) < t0 ∨ (b.length : Int) < t1), fun KK h => ?_, fun hv KK hK => ?_, fun hv => ?_⟩
  · simp [v0, v1]
    by_cases h0 : (a.length : Int) < t0
    · rw [if_pos h0]
      rw [decide_eq_true (.inl h0)] at h
      exact h
    · rw [if_neg h0]
      simp only [h0, false_or] at h
      exact h
  · have hv := of_decide_eq_true hv
    simp
    refine roll_ok hr hd (by decide) (by decide) fun side c3 m3 s1 s2 => ?_
    rw [wrMs (get_set hS), set_set]
    have hlen : (S.set i (diceT c3 m3)).length = S.length := List.length_set ..
    have v0 : vw (wrM (S.set i (diceT c3 m3)) a b t) (.ref S.length) = .lst (a.map .int) := vw_ref (by rw [← hlen]; exact wrM0)
    have v1 : vw (wrM (S.set i (diceT c3 m3)) a b t) (.ref (S.length + 1)) = .lst (b.map .int) := vw_ref (by rw [← hlen]; exact wrM1)
    have v2 : vw (wrM (S.set i (diceT c3 m3)) a b t) (.ref (S.length + 1 + 1)) = .lst (t.map .int) := vw_ref (by rw [← hlen]; exact wrM2)
    have hd : (wrM (S.set i (diceT c3 m3)) a b t)[i]? = some (diceT c3 m3) := wrMd (get_set hS)
    obtain rfl | rfl : side = 0 ∨ side = 1 := by omega
    · simp [v0, v1]
      by_cases h0 : (a.length : Int) < t0
      · rw [if_pos h0]
        rw [ne_nil]
        by_cases ha : a = []
        · subst ha
          simp
          refine ⟨lref_of (by rw [← hlen]; exact wrM0), roll_ok hr hd (by omega) (by omega) fun r c4 m4 r1 r2 => ?_⟩
          rw [wrMs (get_set hS), set_set]
          simp
          refine put0 (by simp) (by simp [line]) (by have := W.len; simp at this; have e : line = 16777216 := rfl; omega) (hK _ (by (try simp) <;> omega) _ _ ⟨_, _, _, c4, m4, _, _, rfl, rfl, .zero W (by simp) r1 (by omega), by (try simp) <;> omega, by (try simp) <;> omega, rfl⟩)
        · simp only [ha, ne_eq, not_false_eq_true, decide_true, okO_some, if_true]
          rw [last_ok ha]
          simp
          have z1 := W.ok.2.2.1 _ (List.getLast_mem ha)
          refine ⟨lref_of (by rw [← hlen]; exact wrM0), roll_ok hr hd (by omega) (by omega) fun r c4 m4 r1 r2 => ?_⟩
          rw [wrMs (get_set hS), set_set]
          simp
          have z2 := W.len
          have e : line = 16777216 := rfl
          refine put0 (by simp) (by omega) (by omega) (hK _ (by (try simp) <;> omega) _ _ ⟨_, _, _, c4, m4, _, _, rfl, rfl, .zero W (fun y hy => Int.le_trans (le_last ha W.ok.1 y hy) (by omega)) (by omega) (by omega), by (try simp) <;> omega, by (try simp) <;> omega, rfl⟩)
      · rw [if_neg h0]
        have h1' : (b.length : Int) < t1 := by omega
        rw [ne_nil]
        by_cases ha : b = []
        · subst ha
          simp
          refine ⟨lref_of (by rw [← hlen]; exact wrM1), roll_ok hr hd (by omega) (by omega) fun r c4 m4 r1 r2 => ?_⟩
          rw [wrMs (get_set hS), set_set]
          simp
          refine put1 (by simp) (by simp [line]) (by have := W.len; simp at this; have e : line = 16777216 := rfl; omega) (hK _ (by (try simp) <;> omega) _ _ ⟨_, _, _, c4, m4, _, _, rfl, rfl, .one W (by simp) r1 (by omega), by (try simp) <;> omega, by (try simp) <;> omega, rfl⟩)
        · simp only [ha, ne_eq, not_false_eq_true, decide_true, okO_some, if_true]
          rw [last_ok ha]
          simp
          have z1 := W.ok.2.2.2 _ (List.getLast_mem ha)
          refine ⟨lref_of (by rw [← hlen]; exact wrM1), roll_ok hr hd (by omega) (by omega) fun r c4 m4 r1 r2 => ?_⟩
          rw [wrMs (get_set hS), set_set]
          simp
          have z2 := W.len
          have e : line = 16777216 := rfl
          refine put1 (by simp) (by omega) (by omega) (hK _ (by (try simp) <;> omega) _ _ ⟨_, _, _, c4, m4, _, _, rfl, rfl, .one W (fun y hy => Int.le_trans (le_last ha W.ok.2.1 y hy) (by omega)) (by omega) (by omega), by (try simp) <;> omega, by (try simp) <;> omega, rfl⟩)
    · simp [v0, v1]
      by_cases h0 : (b.length : Int) < t1
      · rw [if_pos h0]
        rw [ne_nil]
        by_cases ha : b = []
        · subst ha
          simp
          refine ⟨lref_of (by rw [← hlen]; exact wrM1), roll_ok hr hd (by omega) (by omega) fun r c4 m4 r1 r2 => ?_⟩
          rw [wrMs (get_set hS), set_set]
          simp
          refine put1 (by simp) (by simp [line]) (by have := W.len; simp at this; have e : line = 16777216 := rfl; omega) (hK _ (by (try simp) <;> omega) _ _ ⟨_, _, _, c4, m4, _, _, rfl, rfl, .one W (by simp) r1 (by omega), by (try simp) <;> omega, by (try simp) <;> omega, rfl⟩)
        · simp only [ha, ne_eq, not_false_eq_true, decide_true, okO_some, if_true]
          rw [last_ok ha]
          simp
          have z1 := W.ok.2.2.2 _ (List.getLast_mem ha)
          refine ⟨lref_of (by rw [← hlen]; exact wrM1), roll_ok hr hd (by omega) (by omega) fun r c4 m4 r1 r2 => ?_⟩
          rw [wrMs (get_set hS), set_set]
          simp
          have z2 := W.len
          have e : line = 16777216 := rfl
          refine put1 (by simp) (by omega) (by omega) (hK _ (by (try simp) <;> omega) _ _ ⟨_, _, _, c4, m4, _, _, rfl, rfl, .one W (fun y hy => Int.le_trans (le_last ha W.ok.2.1 y hy) (by omega)) (by omega) (by omega), by (try simp) <;> omega, by (try simp) <;> omega, rfl⟩)
      · rw [if_neg h0]
        have h1' : (a.length : Int) < t0 := by omega
        rw [ne_nil]
        by_cases ha : a = []
        · subst ha
          simp
          refine ⟨lref_of (by rw [← hlen]; exact wrM0), roll_ok hr hd (by omega) (by omega) fun r c4 m4 r1 r2 => ?_⟩
          rw [wrMs (get_set hS), set_set]
          simp
          refine put0 (by simp) (by simp [line]) (by have := W.len; simp at this; have e : line = 16777216 := rfl; omega) (hK _ (by (try simp) <;> omega) _ _ ⟨_, _, _, c4, m4, _, _, rfl, rfl, .zero W (by simp) r1 (by omega), by (try simp) <;> omega, by (try simp) <;> omega, rfl⟩)
        · simp only [ha, ne_eq, not_false_eq_true, decide_true, okO_some, if_true]
          rw [last_ok ha]
          simp
          have z1 := W.ok.2.2.1 _ (List.getLast_mem ha)
          refine ⟨lref_of (by rw [← hlen]; exact wrM0), roll_ok hr hd (by omega) (by omega) fun r c4 m4 r1 r2 => ?_⟩
          rw [wrMs (get_set hS), set_set]
          simp
          have z2 := W.len
          have e : line = 16777216 := rfl
          refine put0 (by simp) (by omega) (by omega) (hK _ (by (try simp) <;> omega) _ _ ⟨_, _, _, c4, m4, _, _, rfl, rfl, .zero W (fun y hy => Int.le_trans (le_last ha W.ok.1 y hy) (by omega)) (by omega) (by omega), by (try simp) <;> omega, by (try simp) <;> omega, rfl⟩)
  · have hv : ¬((a.length : Int) < t0 ∨ (b.length : Int) < t1) := of_decide_eq_false hv
    simp [v0, v1, v2]
    refine .drop (S1 := S.set i (diceT c m)) ⟨_, rfl, by simp, fun j o hj => ?_⟩ ?_ ?_
    · by_cases e : i = j
      · subst e
        rw [get_set hS] at hj
        cases hj
        exact .inr rfl
      · rw [List.getElem?_set_ne e] at hj
        exact .inl hj
    · simp [rfr]
    · exact q a b t c m W (by omega) (by omega)
end PC
/-! PlAny: any mail that the law draws. -/
namespace PC
open PySem
variable {D : Tab} {k : Nat} {C g : Str} {d : Def} {args : List T} {S : Mem} {Q : Wv} {X : Wx}
theorem set_same {i : Nat} {o : Ob} (h : S[i]? = some o) : S.set i o = S := by
  obtain ⟨hl, e⟩ := List.getElem?_eq_some_iff.mp h
  rw [← e]
  exact List.set_getElem_self hl
theorem rolls_ok (hr : HasRoll D) {i : Nat} {c m n : Int} {xs : List T} {K : List T → Mem → Prop} (hS : S[i]? = some (diceT c m)) (hn : 0 < n) (hn2 : n < 1073741824)
    (q : ∀ (l : List Int) (c' m' : Int), l.length = xs.length → (∀ y ∈ l, 0 ≤ y ∧ y < n) → K (l.map .int) (S.set i (diceT c' m'))) :
    wpL gT (fun x S k1 => CallWP D (k + 2) "" "_law_roll" [.ref i, .int n] S (fun y S3 => k1 [y] S3) noX) xs [] S K := by
  refine wpL_inv (P := fun r acc S1 => ∃ (l : List Int) (c m : Int), acc = l.map .int ∧ l.length + r.length = xs.length ∧ (∀ y ∈ l, 0 ≤ y ∧ y < n) ∧ S1 = S.set i (diceT c m)) (fun _ _ _ _ => trivial) ?_ ?_ ⟨[], c, m, rfl, by simp, by simp, (set_same hS).symm⟩
  · rintro x r acc S1 ⟨l, c, m, rfl, hl, hb, rfl⟩ KK hK
    refine roll_ok hr (get_set hS) hn hn2 fun y c' m' h1 h2 => ?_
    rw [set_set]
    refine hK _ _ ⟨l ++ [y], c', m', by simp, by simp at hl ⊢; omega, fun z hz => ?_, rfl⟩
    rcases List.mem_append.mp hz with hz | hz
    · exact hb z hz
    · rw [List.mem_singleton.mp hz]; exact ⟨h1, h2⟩
  · rintro acc S1 ⟨l, c, m, rfl, hl, hb, rfl⟩
    exact q l c m (by simpa using hl) hb
@[simp] theorem wpFor_0 {g : Mem → Prop} {body : T → Sl → Mem → (Sl → Mem → Prop) → Prop} {σ : Sl} {K : Sl → Mem → Prop} : wpFor g body [] σ S K = (g S ∧ K σ S) := rfl
theorem wpFor_S {g : Mem → Prop} {body : T → Sl → Mem → (Sl → Mem → Prop) → Prop} {σ : Sl} {K : Sl → Mem → Prop} {x : T} {xs : List T} : wpFor g body (x :: xs) σ S K = (g S ∧ body x σ S fun σ1 S1 => wpFor g body xs σ1 S1 K) := rfl
theorem range2 : rangeT 0 2 = [.int 0, .int 1] := rfl
def d_law_any_mail : Def := ⟨["_law_dice", "_law_first", "_law_second", "_law_rows", "_law_side", "_law_mail", "_law_turns", "_law_read"], 3,
    (.cons (.asgT (.two 5 6) (.call "_law_written" (.cons (.var 0) (.cons (.var 1) (.cons (.var 2) .nil)))))
    (.cons (.ifs (.cmp .Gt (.call "_law_roll" (.cons (.var 0) (.cons (.int 3) .nil))) (.int 0)) (.cons (.ret (.var 5))
    .nil) .nil)
    (.cons (.asg 3 (.track (.lst .nil)))
    (.cons (.fors (.one 4) (.rng1 (.int 2)) (.cons (.append (.var 3) (.bi .tuple (.cons (.bi .sorted (.cons (.comp (.call "_law_roll" (.cons (.var 0) (.cons (.bin .Add (.bi .len (.cons (.idx (.var 5) (.bin .Sub (.int 1) (.var 4))) .nil)) (.int 1)) .nil))) [7] (.one 7) (.live (.idx (.var 5) (.var 4))) .none) .nil)) .nil)))
    .nil))
    (.cons (.ret (.tup (.cons (.idx (.var 3) (.int 0)) (.cons (.idx (.var 3) (.int 1)) .nil))))
    .nil)))))⟩
theorem bi_sorted {l : List Int} (h : l.length < 64) : biT .sorted [.lst (l.map .int)] = some (.lst ((sortI l).map .int)) := by
  show (ints? (l.map .int)).bind _ = _
  rw [ints_map]
  simp [h]
theorem Wr.okM {a b t : List Int} (h : Wr a b t) (ha : a.length ≤ 7) (hb : b.length ≤ 7) : OkM a b := ⟨ha, hb, h.ok.2.2.1, h.ok.2.2.2, h.ok.1, h.ok.2.1⟩
theorem any_mail_ok (hr : HasRoll D) (hw : FnB D "" "_law_written" d_law_written) (ha : FnB D "" "_law_any_mail" d_law_any_mail) {i : Nat} {c m f g : Int} (hS : S[i]? = some (diceT c m)) (hf : 0 ≤ f ∧ f ≤ 7) (hg : 0 ≤ g ∧ g ≤ 7)
    (q : ∀ (a b : List Int) (c' m' : Int), OkM a b → (a.length : Int) ≤ f → (b.length : Int) ≤ g → Q (mailT a b) (S.set i (diceT c' m'))) : CallWP D (k + 4) "" "_law_any_mail" [.ref i, .int f, .int g] S Q X := by
  refine call_ofB ha rfl ?_
  simp [d_law_any_mail, startT_eq]
  refine written_ok hr hw hS (by omega) (by omega) fun a b t c1 m1 W la lb => ?_
  have ok := W.okM (by omega) (by omega)
  simp
  refine roll_ok hr (get_set hS) (by decide) (by decide) fun r c2 m2 r1 r2 => ?_
  rw [set_set]
  simp
  by_cases h0 : 0 < r
  · rw [if_pos h0]
    exact .keep (q a b c2 m2 ok la lb)
  · rw [if_neg h0]
    simp [line, range2, wpFor_S, mailT]
    have iL : i < S.length := (List.getElem?_eq_some_iff.mp hS).1
    have gd : ∀ (c m : Int) (o : Ob), (S.set i (diceT c m) ++ [o])[i]? = some (diceT c m) := fun c m o => by
      rw [List.getElem?_append_left (by simpa using iL)]
      exact get_set hS
    have sd : ∀ (c m c' m' : Int) (o : Ob), (S.set i (diceT c m) ++ [o]).set i (diceT c' m') = S.set i (diceT c' m') ++ [o] := fun c m c' m' o => by
      rw [List.set_append_left _ _ (by simpa using iL), set_set]
    have gl : ∀ (c m : Int) (o : Ob), (S.set i (diceT c m) ++ [o])[S.length]? = some o := fun c m o => by simp
    have sl : ∀ (c m : Int) (o o' : Ob), (S.set i (diceT c m) ++ [o]).set S.length o' = S.set i (diceT c m) ++ [o'] := fun c m o o' => by
      rw [List.set_append_right _ _ (by simp)]
      simp
    refine ⟨trivial, lref_of (gl _ _ _), ?_⟩
    refine rolls_ok (k := k + 1) hr (gd _ _ _) (by omega) (by omega) fun l1 c3 m3 hl1 hb1 => ?_
    rw [sd, bi_sorted (by simp at hl1; omega)]
    simp only [okO_some, vw_lst, bi_tupl]
    rw [ob_ref (gl _ _ _)]
    refine ⟨by simp, trivial, ?_⟩
    rw [sl]
    refine ⟨lref_of (gl _ _ _), ?_⟩
    refine rolls_ok (k := k + 1) hr (gd _ _ _) (by omega) (by omega) fun l2 c4 m4 hl2 hb2 => ?_
    rw [sd, bi_sorted (by simp at hl2; omega)]
    simp only [okO_some, vw_lst, bi_tupl]
    rw [ob_ref (gl _ _ _)]
    refine ⟨by simp, trivial, ?_⟩
    rw [sl, vw_ref (gl _ _ _)]
    simp
    have n1 : (sortI l1).length = a.length := by rw [(sortI_perm l1).length_eq]; simpa using hl1
    have n2 : (sortI l2).length = b.length := by rw [(sortI_perm l2).length_eq]; simpa using hl2
    have ok2 : OkM (sortI l1) (sortI l2) := ⟨by omega, by omega, fun x hx => by have := hb1 x ((sortI_perm l1).mem_iff.mp hx); omega, fun x hx => by have := hb2 x ((sortI_perm l2).mem_iff.mp hx); omega, sortI_le l1, sortI_le l2⟩
    refine .drop (S1 := S.set i (diceT c4 m4)) ⟨_, rfl, by simp, fun j o hj => ?_⟩ ?_ (q _ _ c4 m4 ok2 (by omega) (by omega))
    · by_cases e : i = j
      · subst e
        rw [get_set hS] at hj
        cases hj
        exact .inr rfl
      · rw [List.getElem?_set_ne e] at hj
        exact .inl hj
    · simp [rfr]
end PC
/-! PlLet: letters, what had been read, the rounds of a law, pairs. -/
namespace PC
open PySem
variable {D : Tab} {k : Nat} {C g : Str} {d : Def} {args : List T} {S : Mem} {Q : Wv} {X : Wx}
def d_is_letter : Def := ⟨["mail", "thing"], 2,
    (.cons (.ifs (.or (.not (.isi (.var 1) .tuple)) (.or (.cmp .NotEq (.bi .len (.cons (.var 1) .nil)) (.int 2)) (.not (.call "is_whole" (.cons (.idx (.var 1) (.int 0)) (.cons (.int 0) (.cons (.int 1) .nil))))))) (.cons (.ret (.bl false))
    .nil) .nil)
    (.cons (.ret (.call "is_whole" (.cons (.idx (.var 1) (.int 1)) (.cons (.int 0) (.cons (.bin .Sub (.bi .len (.cons (.idx (.var 0) (.idx (.var 1) (.int 0))) .nil)) (.int 1)) .nil)))))
    .nil))⟩
def d_need_letter : Def := ⟨["mail", "letter"], 2,
    (.cons (.ifs (.not (.call "is_letter" (.cons (.var 0) (.cons (.var 1) .nil)))) (.cons (.raise "BadLetter")
    .nil) .nil)
    .nil)⟩
def d_has_read : Def := ⟨["mail", "one", "other"], 3,
    (.cons (.ret (.and (.cmp .NotEq (.idx (.var 1) (.int 0)) (.idx (.var 2) (.int 0))) (.cmp .Gt (.idx (.idx (.var 0) (.idx (.var 1) (.int 0))) (.idx (.var 1) (.int 1))) (.idx (.var 2) (.int 1)))))
    .nil)⟩
def d_had_read : Def := ⟨["mail", "one", "other"], 3,
    (.cons (.expr (.call "need_mail" (.cons (.var 0) .nil)))
    (.cons (.expr (.call "need_letter" (.cons (.var 0) (.cons (.var 1) .nil))))
    (.cons (.expr (.call "need_letter" (.cons (.var 0) (.cons (.var 2) .nil))))
    (.cons (.ret (.call "has_read" (.cons (.var 0) (.cons (.var 1) (.cons (.var 2) .nil)))))
    .nil))))⟩
def d_law_cell : Def := ⟨["_law_script", "_law_k"], 2,
    (.cons (.ifs (.cmp .Eq (.var 0) (.lst .nil)) (.cons (.ret (.bin .Mult (.var 1) (.int 7919)))
    .nil) .nil)
    (.cons (.ret (.bin .Add (.idx (.var 0) (.bin .Mod (.var 1) (.bi .len (.cons (.var 0) .nil)))) (.bin .Mult (.bin .FloorDiv (.var 1) (.bi .len (.cons (.var 0) .nil))) (.int 104729))))
    .nil))⟩
def d_law_rounds : Def := ⟨["_law_script", "_law_high", "_law_k"], 2,
    (.cons (.ret (.comp (.track (.lst (.cons (.call "_law_cell" (.cons (.var 0) (.cons (.var 2) .nil))) (.cons (.int 0) .nil)))) [2] (.one 2) (.rng1 (.bi .max2 (.cons (.int 1) (.cons (.bi .min2 (.cons (.var 1) (.cons (.bi .len (.cons (.var 0) .nil)) .nil))) .nil)))) .none))
    .nil)⟩
def d_law_letters : Def := ⟨["_law_mail", "_law_at"], 1,
    (.cons (.ret (.bin .Add (.comp (.tup (.cons (.int 0) (.cons (.var 1) .nil))) [1] (.one 1) (.rng1 (.bi .len (.cons (.idx (.var 0) (.int 0)) .nil))) .none) (.comp (.tup (.cons (.int 1) (.cons (.var 1) .nil))) [1] (.one 1) (.rng1 (.bi .len (.cons (.idx (.var 0) (.int 1)) .nil))) .none)))
    .nil)⟩
def d_all_pairs : Def := ⟨["mail", "found", "first", "second"], 1,
    (.cons (.asg 1 (.lst .nil))
    (.cons (.fors (.one 2) (.rng1 (.bi .len (.cons (.idx (.var 0) (.int 0)) .nil))) (.cons (.asg 1 (.bin .Add (.var 1) (.comp (.tup (.cons (.var 2) (.cons (.var 3) .nil))) [3] (.one 3) (.rng1 (.bi .len (.cons (.idx (.var 0) (.int 1)) .nil))) .none)))
    .nil))
    (.cons (.ret (.var 1))
    .nil)))⟩
abbrev pairT (i j : Int) : T := .tup [.int i, .int j]
/-- the bundle of a side -/
def bun (a b : List Int) (s : Int) : List Int := if s = 0 then a else b
theorem at_map {l : List Int} {i : Nat} (h : i < l.length) : L2.atI (l.map T.int) (i : Int) = some (.int (l.getD i 0)) := by
  rw [at_nat, List.getElem?_map, List.getElem?_eq_getElem h, List.getD_eq_getElem?_getD, List.getElem?_eq_getElem h]
  rfl
theorem is_letter_ok (hl : D.fn "" "is_letter" = some d_is_letter) (h : HasMail D) {a b : List Int} {s : Int} {i : Nat} (hs : s = 0 ∨ s = 1) (hi : i < (bun a b s).length) (q : Q (.bl true) S) : CallWP D (k + 2) "" "is_letter" [mailT a b, pairT s i] S Q X := by
  refine call_of hl rfl ?_
  simp [d_is_letter, startT_eq]
  refine is_whole_ok h.whole ?_
  rcases hs with rfl | rfl
  · simp [mailT]
    refine is_whole_ok h.whole ?_
    have hi : i < a.length := hi
    rw [decide_eq_true (by omega)]
    exact .keep q
  · simp [mailT]
    refine is_whole_ok h.whole ?_
    have hi : i < b.length := hi
    rw [decide_eq_true (by omega)]
    exact .keep q
theorem need_letter_ok (hn : D.fn "" "need_letter" = some d_need_letter) (hl : D.fn "" "is_letter" = some d_is_letter) (h : HasMail D) {a b : List Int} {s : Int} {i : Nat} (hs : s = 0 ∨ s = 1) (hi : i < (bun a b s).length) (q : Q .non S) : CallWP D (k + 3) "" "need_letter" [mailT a b, pairT s i] S Q X := by
  refine call_of hn rfl ?_
  simp [d_need_letter, startT_eq]
  refine is_letter_ok hl h hs hi ?_
  simp
  exact .keep q
/-- (s, i) had read (s', j) -/
def hadR (a b : List Int) (s : Int) (i : Nat) (s' : Int) (j : Nat) : Bool := !decide (s = s') && decide ((j : Int) < (bun a b s).getD i 0)
theorem has_read_ok (hh : D.fn "" "has_read" = some d_has_read) {a b : List Int} {s s' : Int} {i j : Nat} (hs : s = 0 ∨ s = 1) (hi : i < (bun a b s).length) (q : Q (.bl (hadR a b s i s' j)) S) : CallWP D (k + 1) "" "has_read" [mailT a b, pairT s i, pairT s' j] S Q X := by
  refine call_of hh rfl ?_
  simp [d_has_read, startT_eq]
  by_cases e : s = s'
  · rw [if_pos e]
    unfold hadR at q
    rw [decide_eq_true e] at q
    exact .keep q
  · rw [if_neg e]
    unfold hadR at q
    rw [decide_eq_false e] at q
    rcases hs with rfl | rfl
    · have hi : i < a.length := hi
      simp [mailT, at_map hi]
      exact .keep q
    · have hi : i < b.length := hi
      simp [mailT, at_map hi]
      exact .keep q
structure HasLet0 (D : Tab) : Prop extends HasMail D where
  need : D.fn "" "need_mail" = some d_need_mail
  isl : D.fn "" "is_letter" = some d_is_letter
  needl : D.fn "" "need_letter" = some d_need_letter
structure HasLet (D : Tab) : Prop extends HasLet0 D where
  has : D.fn "" "has_read" = some d_has_read
  had : D.fn "" "had_read" = some d_had_read
theorem had_read_ok (h : HasLet D) {a b : List Int} (ok : OkM a b) {s s' : Int} {i j : Nat} (hs : s = 0 ∨ s = 1) (hi : i < (bun a b s).length) (hs' : s' = 0 ∨ s' = 1) (hj : j < (bun a b s').length) (q : Q (.bl (hadR a b s i s' j)) S) :
    CallWP D (k + 5) "" "had_read" [mailT a b, pairT s i, pairT s' j] S Q X := by
  refine call_of h.had rfl ?_
  simp [d_had_read, startT_eq]
  refine need_mail_ok h.need h.toHasMail ok ?_
  refine need_letter_ok h.needl h.isl h.toHasMail hs hi ?_
  refine need_letter_ok h.needl h.isl h.toHasMail hs' hj ?_
  refine has_read_ok h.has hs hi ?_
  exact .keep q
end PC
/-! PlRnd: the rounds of a law; rows of letters, of pairs. -/
namespace PC
open PySem
variable {D : Tab} {k : Nat} {C g : Str} {d : Def} {args : List T} {S : Mem} {Q : Wv} {X : Wx}
theorem eq_nil (a : List Int) : cmpT .Eq (.lst (a.map .int)) (.lst []) = some (decide (a = [])) := by
  rw [cmp_eqp (pln_ints 59 a) (show pln 60 (.lst []) = true from pln_ints 59 [])]
  cases a <;> simp [eqT, eqTs]
theorem cell_ok (hc : D.fn "" "_law_cell" = some d_law_cell) {s : Nat} {ns : List Int} {n : Int} (hS : S[s]? = some (.fix (ns.map .int))) (hl : ns.length < 1000) (hn : 0 ≤ n) (q : ∀ r : Int, Q (.int r) S) : CallWP D (k + 1) "" "_law_cell" [.ref s, .int n] S Q X := by
  refine call_of hc rfl ?_
  simp [d_law_cell, startT_eq, vw_fix hS, eq_nil]
  by_cases h0 : ns = []
  · rw [if_pos h0, bin_muli (mulOk_r (by decide))]
    exact .keep (q _)
  · rw [if_neg h0]
    have hp : 0 < ns.length := List.length_pos_iff.mpr h0
    rw [bin_modi (by omega)]
    have g1 : 0 ≤ n % (ns.length : Int) := Int.emod_nonneg _ (by omega)
    have g2 : n % (ns.length : Int) < ns.length := Int.emod_lt_of_pos _ (by omega)
    obtain ⟨j, hj⟩ := Int.eq_ofNat_of_zero_le g1
    rw [hj] at g2 ⊢
    simp
    rw [at_map (by omega), bin_divi (divOk_s (by omega) (by omega))]
    simp
    rw [bin_muli (mulOk_r (by decide))]
    exact .keep (q _)
theorem rounds_ok (hr : D.fn "" "_law_rounds" = some d_law_rounds) (hc : D.fn "" "_law_cell" = some d_law_cell) {s : Nat} {ns : List Int} {n : Int} (hS : S[s]? = some (.fix (ns.map .int))) (hl : ns.length < 1000) (hn : 0 ≤ n ∧ n < 1000)
    (q : ∀ cs : List Int, Q (.lst ((List.range cs.length).map fun j => .ref (S.length + j))) (S ++ cs.map fun c => diceT c 0)) : CallWP D (k + 2) "" "_law_rounds" [.ref s, .int n] S Q X := by
  refine call_of hr rfl ?_
  simp [d_law_rounds, startT_eq, vw_fix hS]
  generalize hN : (if 1 < (if (ns.length : Int) < n then (ns.length : Int) else n) then (if (ns.length : Int) < n then (ns.length : Int) else n) else 1) = N
  have b1 : 1 ≤ N ∧ N ≤ 1000 := by rw [← hN]; split <;> split <;> omega
  refine ⟨by have : (line : Int) = 16777216 := rfl; omega, ?_⟩
  refine wpL_inv (P := fun r acc S1 => ∃ cs : List Int, acc = (List.range cs.length).map (fun j => T.ref (S.length + j)) ∧ S1 = S ++ cs.map (fun c => diceT c 0) ∧ ∀ x ∈ r, ∃ i : Nat, x = .int i) (fun _ _ _ _ => trivial) ?_ ?_ ⟨[], rfl, by simp, fun x hx => ?_⟩
  · rintro x r acc S1 ⟨cs, rfl, rfl, hx⟩ KK hK
    obtain ⟨i, rfl⟩ := hx x List.mem_cons_self
    refine cell_ok hc (s := s) (ns := ns) ?_ hl (by omega) fun r1 => ?_
    · rw [List.getElem?_append_left (List.getElem?_eq_some_iff.mp hS).1]; exact hS
    · refine hK _ _ ⟨cs ++ [r1], ?_, ?_, fun y hy => hx y (List.mem_cons_of_mem _ hy)⟩
      · simp [List.range_succ]
      · simp [diceT]
  · rintro acc S1 ⟨cs, rfl, rfl, _⟩
    exact .keep (q cs)
  · unfold rangeT at hx
    obtain ⟨i, _, rfl⟩ := List.mem_map.mp hx
    exact ⟨i, by simp⟩
/-- all letters of a mail -/
def letT (n m : Nat) : List T := (List.range n).map (fun i : Nat => pairT 0 i) ++ (List.range m).map fun i : Nat => pairT 1 i
theorem rangeT_map {n : Nat} {f : T → T} : (rangeT 0 n).map f = (List.range n).map fun i : Nat => f (.int i) := by
  unfold rangeT
  rw [List.map_map]
  apply List.map_congr_left
  intro i _
  simp
theorem letters_ok (hl : D.fn "" "_law_letters" = some d_law_letters) {a b : List Int} (ha : a.length < 1000) (hb : b.length < 1000) (q : Q (.lst (letT a.length b.length)) S) : CallWP D (k + 1) "" "_law_letters" [mailT a b] S Q X := by
  refine call_of hl rfl ?_
  have e : line = 16777216 := rfl
  simp [d_law_letters, startT_eq, mailT]
  refine ⟨by omega, ?_⟩
  refine wpL_map (f := fun x => .tup [.int 0, x]) (fun x _ k' hk => hk) trivial ?_
  refine ⟨by omega, ?_⟩
  refine wpL_map (f := fun x => .tup [.int 1, x]) (fun x _ k' hk => hk) trivial ?_
  rw [bin_addl (by simp [rangeT]; omega), rangeT_map, rangeT_map]
  exact .keep q
/-- all pairs of letters -/
def pairsT (n m : Nat) : List T := (List.range n).flatMap fun i : Nat => (List.range m).map fun j : Nat => pairT i j
theorem pairsT_len (n m : Nat) : (pairsT n m).length = n * m := by
  induction n with
  | zero => simp [pairsT]
  | succ n ih =>
    have : pairsT (n + 1) m = pairsT n m ++ (List.range m).map fun j : Nat => pairT n j := by simp [pairsT, List.range_succ, List.flatMap_append]
    rw [this, List.length_append, ih, Nat.succ_mul]
    simp
theorem all_pairs_ok (hp : D.fn "" "all_pairs" = some d_all_pairs) {a b : List Int} (ha : a.length < 1000) (hb : b.length < 1000) (q : Q (.lst (pairsT a.length b.length)) S) : CallWP D (k + 1) "" "all_pairs" [mailT a b] S Q X := by
  refine call_of hp rfl ?_
  have e : line = 16777216 := rfl
  simp [d_all_pairs, startT_eq, mailT]
  refine ⟨by omega, ?_⟩
  refine wpFor_inv (P := fun r σ S1 => ∃ (i : Nat) (x2 : Option T), i + r.length = a.length ∧ r = (rangeT 0 a.length).drop i ∧ S1 = S ∧ σ = [some (.tup [.tup (a.map .int), .tup (b.map .int)]), some (.lst (pairsT i b.length)), x2, none]) (fun _ _ _ _ => trivial) ?_ ?_ ⟨0, none, by simp [rangeT], by simp, rfl, rfl⟩
  · rintro x r σ S1 ⟨i, x2, hi, hr, rfl, rfl⟩ KK hK
    have hx : x = .int (i : Nat) := by
      have : (rangeT 0 a.length)[i]? = some x := by
        rw [← List.head?_drop, ← hr]
        rfl
      rw [rangeT_get this]
      simp
    subst hx
    have hr2 : r = (rangeT 0 a.length).drop (i + 1) := by
      rw [← List.tail_drop, ← hr]
      rfl
    simp
    refine ⟨by omega, ?_⟩
    refine wpL_map (f := fun x => .tup [.int (i : Nat), x]) (fun x _ k' hk => hk) trivial ?_
    rw [bin_addl (by rw [pairsT_len]; simp [rangeT]; have : i * b.length ≤ 1000 * 1000 := Nat.mul_le_mul (by simp at hi; omega) (by omega); omega), rangeT_map]
    refine hK _ _ ⟨i + 1, some (.int (i : Nat)), by simp at hi ⊢; omega, hr2, rfl, ?_⟩
    simp [pairsT, List.range_succ, List.flatMap_append]
  · rintro σ S1 ⟨i, x2, hi, hr, rfl, rfl⟩
    simp at hi
    subst hi
    simp
    exact .keep q
end PC
/-! PlCross: pairs that crossed, pairs that bar, what is unread. -/
namespace PC
open PySem
variable {D : Tab} {k : Nat} {C g : Str} {d : Def} {args : List T} {S : Mem} {Q : Wv} {X : Wx}
def d_all_barring : Def := ⟨["mail", "some", "one", "other"], 1,
    (.cons (.asg 1 (.call "all_pairs" (.cons (.var 0) .nil)))
    (.cons (.ret (.comp (.tup (.cons (.var 2) (.cons (.var 3) .nil))) [2, 3] (.two 2 3) (.live (.var 1)) (.some (.and (.cmp .Gt (.idx (.idx (.var 0) (.int 0)) (.var 2)) (.var 3)) (.cmp .Gt (.idx (.idx (.var 0) (.int 1)) (.var 3)) (.var 2))))))
    .nil))⟩
def d_is_there : Def := ⟨["mail"], 1,
    (.cons (.ret (.cmp .Eq (.call "all_barring" (.cons (.var 0) .nil)) (.lst .nil)))
    .nil)⟩
def d_can_be : Def := ⟨["mail"], 1,
    (.cons (.expr (.call "need_mail" (.cons (.var 0) .nil)))
    (.cons (.ret (.call "is_there" (.cons (.var 0) .nil)))
    .nil))⟩
def d_all_crossed : Def := ⟨["mail", "one", "other"], 1,
    (.cons (.ret (.comp (.tup (.cons (.var 1) (.cons (.var 2) .nil))) [1, 2] (.two 1 2) (.live (.call "all_pairs" (.cons (.var 0) .nil))) (.some (.and (.cmp .LtE (.idx (.idx (.var 0) (.int 0)) (.var 1)) (.var 2)) (.cmp .LtE (.idx (.idx (.var 0) (.int 1)) (.var 2)) (.var 1))))))
    .nil)⟩
def d_crossed : Def := ⟨["mail"], 1,
    (.cons (.expr (.call "need_mail" (.cons (.var 0) .nil)))
    (.cons (.ret (.call "all_crossed" (.cons (.var 0) .nil)))
    .nil))⟩
def d_crossed_with : Def := ⟨["mail", "letter", "pair"], 2,
    (.cons (.expr (.call "need_mail" (.cons (.var 0) .nil)))
    (.cons (.expr (.call "need_letter" (.cons (.var 0) (.cons (.var 1) .nil))))
    (.cons (.ret (.bi .len (.cons (.comp (.var 2) [2] (.one 2) (.live (.call "all_crossed" (.cons (.var 0) .nil))) (.some (.cmp .Eq (.idx (.var 2) (.idx (.var 1) (.int 0))) (.idx (.var 1) (.int 1))))) .nil)))
    .nil)))⟩
def d_unread : Def := ⟨["mail"], 1,
    (.cons (.expr (.call "need_mail" (.cons (.var 0) .nil)))
    (.cons (.ret (.tup (.cons (.bin .Sub (.bi .len (.cons (.idx (.var 0) (.int 0)) .nil)) (.bid .maxL (.idx (.var 0) (.int 1)) (.int 0))) (.cons (.bin .Sub (.bi .len (.cons (.idx (.var 0) (.int 1)) .nil)) (.bid .maxL (.idx (.var 0) (.int 0)) (.int 0))) .nil))))
    .nil))⟩
theorem wpL_on {α : Type} {g : Mem → Prop} {body : T → Mem → (List T → Mem → Prop) → Prop} {tT : α → T} {f : α → List T} {K : List T → Mem → Prop} : ∀ {l : List α} {acc : List T} {S : Mem}, (∀ x ∈ l, ∀ k : List T → Mem → Prop, k (f x) S → body (tT x) S k) → g S → K (acc ++ l.flatMap f) S → wpL g body (l.map tT) acc S K
  | [], acc, S, _, hg, hk => ⟨hg, by simpa using hk⟩
  | x :: l, acc, S, hb, hg, hk => ⟨hg, hb x List.mem_cons_self _ (wpL_on (fun y hy => hb y (List.mem_cons_of_mem _ hy)) hg (by simpa using hk))⟩
theorem fm_filter {α : Type} {p : α → Bool} {h : α → T} : ∀ l : List α, l.flatMap (fun x => if p x = true then [h x] else []) = (l.filter p).map h
  | [] => rfl
  | x :: l => by
    rw [List.flatMap_cons, fm_filter l, List.filter_cons]
    cases p x <;> simp
/-- a comprehension with a condition -/
theorem wpL_filter {α : Type} {g : Mem → Prop} {body : T → Mem → (List T → Mem → Prop) → Prop} {tT h : α → T} {p : α → Bool} {K : List T → Mem → Prop} {l : List α} (hb : ∀ x ∈ l, ∀ k : List T → Mem → Prop, (if p x = true then k [h x] S else k [] S) → body (tT x) S k) (hg : g S) (hk : K ((l.filter p).map h) S) : wpL g body (l.map tT) [] S K :=
  wpL_on (f := fun x => if p x = true then [h x] else []) (fun x hx k hk => hb x hx k (by by_cases c : p x = true <;> simp_all)) hg (by rw [List.nil_append, fm_filter]; exact hk)
def pairsN (n m : Nat) : List (Nat × Nat) := (List.range n).flatMap fun i => (List.range m).map fun j => (i, j)
abbrev pT (p : Nat × Nat) : T := pairT p.1 p.2
theorem pairsT_eq (n m : Nat) : pairsT n m = (pairsN n m).map pT := by
  unfold pairsT pairsN
  rw [List.map_flatMap]
  simp [Function.comp_def]
theorem mem_pairsN {n m : Nat} {p : Nat × Nat} (h : p ∈ pairsN n m) : p.1 < n ∧ p.2 < m := by
  unfold pairsN at h
  rw [List.mem_flatMap] at h
  obtain ⟨i, hi, h⟩ := h
  obtain ⟨j, hj, rfl⟩ := List.mem_map.mp h
  exact ⟨List.mem_range.mp hi, List.mem_range.mp hj⟩
def barB (a b : List Int) (p : Nat × Nat) : Bool := decide ((p.2 : Int) < a.getD p.1 0) && decide ((p.1 : Int) < b.getD p.2 0)
def crossB (a b : List Int) (p : Nat × Nat) : Bool := decide (a.getD p.1 0 ≤ (p.2 : Int)) && decide (b.getD p.2 0 ≤ (p.1 : Int))
def barL (a b : List Int) : List (Nat × Nat) := (pairsN a.length b.length).filter (barB a b)
def crossL (a b : List Int) : List (Nat × Nat) := (pairsN a.length b.length).filter (crossB a b)
theorem barring_ok (h : D.fn "" "all_barring" = some d_all_barring) (hp : D.fn "" "all_pairs" = some d_all_pairs) {a b : List Int} (ha : a.length < 1000) (hb : b.length < 1000) (q : Q (.lst ((barL a b).map pT)) S) : CallWP D (k + 2) "" "all_barring" [mailT a b] S Q X := by
  refine call_of h rfl ?_
  simp [d_all_barring, startT_eq]
  refine all_pairs_ok hp ha hb ?_
  simp [pairsT_eq]
  refine wpL_filter (p := barB a b) (h := pT) (fun p hp k' hk => ?_) trivial (.keep q)
  obtain ⟨h1, h2⟩ := mem_pairsN hp
  simp [mailT, at_map h1]
  simp [barB] at hk
  by_cases c : (p.2 : Int) < a.getD p.1 0
  · simp at c
    rw [if_pos c, at_map h2]
    simp [c] at hk ⊢
    exact hk
  · simp at c
    rw [if_neg (by omega)]
    rw [if_neg (by omega)] at hk
    exact hk
theorem crossedA_ok (h : D.fn "" "all_crossed" = some d_all_crossed) (hp : D.fn "" "all_pairs" = some d_all_pairs) {a b : List Int} (ha : a.length < 1000) (hb : b.length < 1000) (q : Q (.lst ((crossL a b).map pT)) S) : CallWP D (k + 2) "" "all_crossed" [mailT a b] S Q X := by
  refine call_of h rfl ?_
  simp [d_all_crossed, startT_eq]
  refine all_pairs_ok hp ha hb ?_
  simp [pairsT_eq]
  refine wpL_filter (p := crossB a b) (h := pT) (fun p hp k' hk => ?_) trivial (.keep q)
  obtain ⟨h1, h2⟩ := mem_pairsN hp
  simp [mailT, at_map h1]
  simp [crossB] at hk
  by_cases c : a.getD p.1 0 ≤ (p.2 : Int)
  · simp at c
    rw [if_pos c, at_map h2]
    simp [c] at hk ⊢
    exact hk
  · simp at c
    rw [if_neg (by omega)]
    rw [if_neg (by omega)] at hk
    exact hk
theorem pln_pairs (n : Nat) (l : List (Nat × Nat)) : pln (n + 2) (.lst (l.map pT)) = true := by
  simp only [pln, List.all_eq_true]
  intro x hx
  obtain ⟨y, _, rfl⟩ := List.mem_map.mp hx
  simp [pln]
theorem eq_nilP (l : List (Nat × Nat)) : cmpT .Eq (.lst (l.map pT)) (.lst []) = some (decide (l = [])) := by
  rw [cmp_eqp (pln_pairs 58 l) (show pln 60 (.lst []) = true from pln_ints 59 [])]
  cases l <;> simp [eqT, eqTs]
structure HasCan (D : Tab) : Prop extends HasLet0 D where
  pairs : D.fn "" "all_pairs" = some d_all_pairs
  barring : D.fn "" "all_barring" = some d_all_barring
  there : D.fn "" "is_there" = some d_is_there
  can : D.fn "" "can_be" = some d_can_be
theorem there_ok (h : HasCan D) {a b : List Int} (ha : a.length < 1000) (hb : b.length < 1000) (q : Q (.bl (decide (barL a b = []))) S) : CallWP D (k + 3) "" "is_there" [mailT a b] S Q X := by
  refine call_of h.there rfl ?_
  simp [d_is_there, startT_eq]
  refine barring_ok h.barring h.pairs ha hb ?_
  simp [eq_nilP]
  exact .keep q
theorem can_ok (h : HasCan D) {a b : List Int} (ok : OkM a b) (q : Q (.bl (decide (barL a b = []))) S) : CallWP D (k + 5) "" "can_be" [mailT a b] S Q X := by
  refine call_of h.can rfl ?_
  simp [d_can_be, startT_eq]
  refine need_mail_ok h.need h.toHasMail ok ?_
  have := ok.la
  have := ok.lb
  exact there_ok (k := k + 1) h (by omega) (by omega) (.keep q)
structure HasCross (D : Tab) : Prop extends HasCan D where
  allc : D.fn "" "all_crossed" = some d_all_crossed
  cross : D.fn "" "crossed" = some d_crossed
  crossw : D.fn "" "crossed_with" = some d_crossed_with
  unrd : D.fn "" "unread" = some d_unread
theorem crossed_ok (h : HasCross D) {a b : List Int} (ok : OkM a b) (q : Q (.lst ((crossL a b).map pT)) S) : CallWP D (k + 5) "" "crossed" [mailT a b] S Q X := by
  refine call_of h.cross rfl ?_
  simp [d_crossed, startT_eq]
  refine need_mail_ok h.need h.toHasMail ok ?_
  have := ok.la
  have := ok.lb
  exact crossedA_ok (k := k + 2) h.allc h.pairs (by omega) (by omega) (.keep q)
/-- a pair's letter of the side s is the i-th -/
def ofB (s : Int) (i : Nat) (p : Nat × Nat) : Bool := if s = 0 then decide (p.1 = i) else decide (p.2 = i)
theorem crossed_with_ok (h : HasCross D) {a b : List Int} (ok : OkM a b) {s : Int} {i : Nat} (hs : s = 0 ∨ s = 1) (hi : i < (bun a b s).length) (q : Q (.int (((crossL a b).filter (ofB s i)).length : Nat)) S) : CallWP D (k + 5) "" "crossed_with" [mailT a b, pairT s i] S Q X := by
  refine call_of h.crossw rfl ?_
  simp [d_crossed_with, startT_eq]
  refine need_mail_ok h.need h.toHasMail ok ?_
  refine need_letter_ok (k := k + 1) h.needl h.isl h.toHasMail hs hi ?_
  have := ok.la
  have := ok.lb
  refine crossedA_ok (k := k + 2) h.allc h.pairs (by omega) (by omega) ?_
  simp
  refine wpL_filter (p := ofB s i) (h := pT) (fun p hp k' hk => ?_) trivial ?_
  · rcases hs with rfl | rfl
    · simp [ofB] at hk ⊢
      by_cases c : p.1 = i
      · simp [c] at hk ⊢; exact hk
      · rw [if_neg c] at hk; rw [if_neg (by omega)]; exact hk
    · simp [ofB] at hk ⊢
      by_cases c : p.2 = i
      · simp [c] at hk ⊢; exact hk
      · rw [if_neg c] at hk; rw [if_neg (by omega)]; exact hk
  · simp
    exact .keep q
end PC
/-! PlWays: the ways to write a mail. -/
namespace PC
open PySem
variable {D : Tab} {k : Nat} {C g : Str} {d : Def} {args : List T} {S : Mem} {Q : Wv} {X : Wx}
def d_after : Def := ⟨["here", "side"], 2,
    (.cons (.ret (.ife (.cmp .Eq (.var 1) (.int 0)) (.tup (.cons (.bin .Add (.idx (.var 0) (.int 0)) (.int 1)) (.cons (.idx (.var 0) (.int 1)) .nil))) (.tup (.cons (.idx (.var 0) (.int 0)) (.cons (.bin .Add (.idx (.var 0) (.int 1)) (.int 1)) .nil)))))
    .nil)⟩
def d_end_of : Def := ⟨["mail"], 1,
    (.cons (.ret (.tup (.cons (.bi .len (.cons (.idx (.var 0) (.int 0)) .nil)) (.cons (.bi .len (.cons (.idx (.var 0) (.int 1)) .nil)) .nil))))
    .nil)⟩
def d_may_write : Def := ⟨["mail", "here", "side"], 3,
    (.cons (.ret (.and (.cmp .Lt (.idx (.var 1) (.var 2)) (.bi .len (.cons (.idx (.var 0) (.var 2)) .nil))) (.cmp .LtE (.idx (.idx (.var 0) (.var 2)) (.idx (.var 1) (.var 2))) (.idx (.var 1) (.bin .Sub (.int 1) (.var 2))))))
    .nil)⟩
def d_Ways_init : Def := ⟨["self", "mail"], 2,
    (.cons (.setAttr (.var 0) "held" (.var 1))
    (.cons (.setAttr (.var 0) "known" (.track .dct0))
    .nil))⟩
def d_Ways_count : Def := ⟨["self", "here", "sides", "side"], 2,
    (.cons (.ifs (.cmp .Eq (.var 1) (.call "end_of" (.cons (.attr (.var 0) "held") .nil))) (.cons (.ret (.int 1))
    .nil) .nil)
    (.cons (.ifs (.cmp .NotIn (.var 1) (.attr (.var 0) "known")) (.cons (.asg 2 (.comp (.var 3) [3] (.one 3) (.live (.tup (.cons (.int 0) (.cons (.int 1) .nil)))) (.some (.call "may_write" (.cons (.attr (.var 0) "held") (.cons (.var 1) (.cons (.var 3) .nil)))))))
    (.cons (.setIdx (.attr (.var 0) "known") (.var 1) (.bi .sum (.cons (.comp (.meth (.var 0) "Ways" "count" (.cons (.call "after" (.cons (.var 1) (.cons (.var 3) .nil))) .nil)) [3] (.one 3) (.live (.var 2)) .none) .nil)))
    .nil)) .nil)
    (.cons (.ret (.idx (.attr (.var 0) "known") (.var 1)))
    .nil)))⟩
def d_Ways_at : Def := ⟨["self", "number", "here", "found", "many", "side"], 2,
    (.cons (.asgT (.two 2 3) (.tup (.cons (.tup (.cons (.int 0) (.cons (.int 0) .nil))) (.cons (.tup .nil) .nil))))
    (.cons (.whiles (.cmp .NotEq (.var 2) (.call "end_of" (.cons (.attr (.var 0) "held") .nil))) (.cons (.asg 4 (.ife (.call "may_write" (.cons (.attr (.var 0) "held") (.cons (.var 2) (.cons (.int 0) .nil)))) (.meth (.var 0) "Ways" "count" (.cons (.call "after" (.cons (.var 2) (.cons (.int 0) .nil))) .nil)) (.int 0)))
    (.cons (.asg 5 (.ife (.cmp .Lt (.var 1) (.var 4)) (.int 0) (.int 1)))
    (.cons (.asg 1 (.ife (.cmp .Eq (.var 5) (.int 1)) (.bin .Sub (.var 1) (.var 4)) (.var 1)))
    (.cons (.par (.two 2 3) (.cons (.call "after" (.cons (.var 2) (.cons (.var 5) .nil))) (.cons (.bin .Add (.var 3) (.tup (.cons (.var 5) .nil))) .nil)))
    .nil)))))
    (.cons (.ret (.var 3))
    .nil)))⟩
def d_count_of : Def := ⟨["mail"], 1,
    (.cons (.ret (.meth (.mk "Ways" (.cons (.var 0) .nil)) "Ways" "count" (.cons (.tup (.cons (.int 0) (.cons (.int 0) .nil))) .nil)))
    .nil)⟩
def d_first_order : Def := ⟨["mail"], 1,
    (.cons (.expr (.call "need_mail" (.cons (.var 0) .nil)))
    (.cons (.ret (.ife (.cmp .Gt (.call "count_of" (.cons (.var 0) .nil)) (.int 0)) (.meth (.mk "Ways" (.cons (.var 0) .nil)) "Ways" "at" (.cons (.int 0) .nil)) .non))
    .nil))⟩
/-- the next letter may be of the side s -/
def mayB (a b : List Int) (i j : Nat) (s : Int) : Bool := if s = 0 then decide (i < a.length) && decide (a.getD i 0 ≤ (j : Int)) else decide (j < b.length) && decide (b.getD j 0 ≤ (i : Int))
/-- how many ways lead on -/
def cnt (a b : List Int) : Nat → Nat → Nat → Nat
  | 0, _, _ => 1
  | r + 1, i, j => (if mayB a b i j 0 = true then cnt a b r (i + 1) j else 0) + (if mayB a b i j 1 = true then cnt a b r i (j + 1) else 0)
structure HasWays (D : Tab) : Prop where
  aft : D.fn "" "after" = some d_after
  end_ : D.fn "" "end_of" = some d_end_of
  may : D.fn "" "may_write" = some d_may_write
  init : D.fn "Ways" "__init__" = some d_Ways_init
  count : D.fn "Ways" "count" = some d_Ways_count
theorem after_ok (h : HasWays D) {i j : Nat} {s : Int} (q : Q (if s = 0 then pairT (i + 1 : Nat) j else pairT i (j + 1 : Nat)) S) : CallWP D (k + 1) "" "after" [pairT i j, .int s] S Q X := by
  refine call_of h.aft rfl ?_
  simp [d_after, startT_eq]
  by_cases e : s = 0
  · rw [if_pos e] at q ⊢
    exact .keep (by simpa using q)
  · rw [if_neg e] at q ⊢
    exact .keep (by simpa using q)
theorem end_ok (h : HasWays D) {a b : List Int} (q : Q (pairT (a.length : Nat) (b.length : Nat)) S) : CallWP D (k + 1) "" "end_of" [mailT a b] S Q X := by
  refine call_of h.end_ rfl ?_
  simp [d_end_of, startT_eq, mailT]
  exact .keep q
theorem may_ok (h : HasWays D) {a b : List Int} {i j : Nat} {s : Int} (hs : s = 0 ∨ s = 1) (q : Q (.bl (mayB a b i j s)) S) : CallWP D (k + 1) "" "may_write" [mailT a b, pairT i j, .int s] S Q X := by
  refine call_of h.may rfl ?_
  rcases hs with rfl | rfl
  · simp [d_may_write, startT_eq, mailT]
    by_cases e : i < a.length
    · rw [if_pos e, at_map e]
      simp [mayB, e] at q ⊢
      exact .keep q
    · rw [if_neg e]
      simp [mayB, e] at q
      exact .keep q
  · simp [d_may_write, startT_eq, mailT]
    by_cases e : j < b.length
    · rw [if_pos e, at_map e]
      simp [mayB, e] at q ⊢
      exact .keep q
    · rw [if_neg e]
      simp [mayB, e] at q
      exact .keep q
/-! the known ways -/
def knT (a b : List Int) (l : List (Nat × Nat)) : Ob := .dct (l.map pT) (l.map fun p => .int (cnt a b (a.length - p.1 + (b.length - p.2)) p.1 p.2 : Nat))
def waysT (a b : List Int) (w : Nat) : Ob := .ins "Ways" [("held", mailT a b), ("known", .ref (w + 1))]
structure WaysAt (S : Mem) (a b : List Int) (w : Nat) (l : List (Nat × Nat)) : Prop where
  ins : S[w]? = some (waysT a b w)
  dct : S[w + 1]? = some (knT a b l)
  nd : l.Nodup
  sub : ∀ p ∈ l, p.1 ≤ a.length ∧ p.2 ≤ b.length
theorem nd_len : ∀ (N : Nat) (l : List Nat), l.Nodup → (∀ x ∈ l, x < N) → l.length ≤ N
  | 0, l, _, h => by
    cases l with
    | nil => simp
    | cons x r => exact absurd (h x List.mem_cons_self) (Nat.not_lt_zero _)
  | N + 1, l, nd, h => by
    have := nd_len N (l.erase N) (nd.erase _) (fun x hx => by
      have h1 := h x (List.mem_of_mem_erase hx)
      have h2 : x ≠ N := fun e => by
        subst e
        exact (List.Nodup.mem_erase_iff nd).mp hx |>.1 rfl
      omega)
    have h2 := List.length_erase_le (l := l) (a := N)
    by_cases hm : N ∈ l
    · rw [List.length_erase_of_mem hm] at this
      omega
    · rw [List.erase_of_not_mem hm] at this
      omega
theorem kn_len {a b : List Int} {l : List (Nat × Nat)} (ha : a.length ≤ 9) (hb : b.length ≤ 9) (nd : l.Nodup) (h : ∀ p ∈ l, p.1 ≤ a.length ∧ p.2 ≤ b.length) : l.length < 1000 := by
  have := nd_len 1000 (l.map fun p => p.1 * 20 + p.2) (by
    refine List.Pairwise.map _ (fun p q h => ?_) (List.Pairwise.imp_of_mem (S := fun p q => p.1 * 20 + p.2 ≠ q.1 * 20 + q.2) (fun {p q} hp hq hne e => ?_) nd) <;> first | exact h | skip
    have h1 := h p hp
    have h2 := h q hq
    apply hne
    have e1 : p.1 = q.1 := by omega
    have e2 : p.2 = q.2 := by omega
    exact Prod.ext e1 e2) (fun x hx => by
    obtain ⟨p, hp, rfl⟩ := List.mem_map.mp hx
    have := h p hp
    show p.1 * 20 + p.2 < 1000
    omega)
  have h0 : (l.map fun p => p.1 * 20 + p.2).length ≤ 200 := nd_len 200 _ (by
    refine List.Pairwise.map _ (fun p q h => ?_) (List.Pairwise.imp_of_mem (S := fun p q => p.1 * 20 + p.2 ≠ q.1 * 20 + q.2) (fun {p q} hp hq hne e => ?_) nd) <;> first | exact h | skip
    have h1 := h p hp
    have h2 := h q hq
    apply hne
    have e1 : p.1 = q.1 := by omega
    have e2 : p.2 = q.2 := by omega
    exact Prod.ext e1 e2) (fun x hx => by
    obtain ⟨p, hp, rfl⟩ := List.mem_map.mp hx
    have := h p hp
    show p.1 * 20 + p.2 < 200
    omega)
  rw [List.length_map] at h0
  omega
theorem eq_pT (p q : Nat × Nat) : eqT (pT p) (pT q) = decide (p = q) := by
  obtain ⟨i, j⟩ := p
  obtain ⟨i', j'⟩ := q
  have h : ∀ x y : Nat, ((x : Int) == (y : Int)) = decide (x = y) := fun x y => by
    rw [Bool.eq_iff_iff]
    simp
    omega
  simp [eqT, eqTs, h]
theorem inT_pT (p : Nat × Nat) : ∀ l : List (Nat × Nat), inT (pT p) (l.map pT) = decide (p ∈ l)
  | [] => rfl
  | q :: l => by
    have := inT_pT p l
    unfold inT at this ⊢
    rw [List.map_cons, List.any_cons, this, eq_pT]
    by_cases e : q = p
    · subst e; simp
    · have : p ≠ q := fun z => e z.symm
      simp [e, this]
theorem kt_pT (p : Nat × Nat) : kt (pT p) = true := rfl
theorem kt_all (l : List (Nat × Nat)) : (l.map pT).all kt = true := by simp [kt_pT]
theorem dget_pT {f : Nat × Nat → T} (p : Nat × Nat) : ∀ l : List (Nat × Nat), p ∈ l → dget (l.map pT) (l.map f) (pT p) = some (f p)
  | q :: l, h => by
    rw [List.map_cons, List.map_cons]
    unfold dget
    rw [eq_pT]
    by_cases e : q = p
    · subst e; simp
    · rw [if_neg (by simpa using e)]
      exact dget_pT p l ((List.mem_cons.mp h).resolve_left fun z => e z.symm)
theorem dput_pT {f : Nat × Nat → T} (p : Nat × Nat) : ∀ l : List (Nat × Nat), p ∉ l → dputK (l.map pT) (pT p) = (l ++ [p]).map pT ∧ dputV (l.map pT) (l.map f) (pT p) (f p) = (l ++ [p]).map f
  | [], _ => ⟨rfl, rfl⟩
  | q :: l, h => by
    have e : q ≠ p := fun z => h (z ▸ List.mem_cons_self)
    obtain ⟨h1, h2⟩ := dput_pT (f := f) p l fun z => h (List.mem_cons_of_mem _ z)
    rw [List.map_cons, List.map_cons]
    unfold dputK dputV
    rw [eq_pT, decide_eq_false e]
    simp only [Bool.false_eq_true, if_false]
    rw [h1, h2]
    exact ⟨rfl, rfl⟩
theorem idx_dct {ks vs xs : List T} (h : kt (.tup xs) = true) (h2 : ks.all kt = true) : idxT (.dct ks vs) (.tup xs) = dget ks vs (.tup xs) := by
  show (if (kt (.tup xs) && ks.all kt) = true then dget ks vs (.tup xs) else none) = _
  rw [h, h2]
  rfl
theorem nin_dct {ks vs xs : List T} (h : kt (.tup xs) = true) (h2 : ks.all kt = true) : cmpT .NotIn (.tup xs) (.dct ks vs) = some (!inT (.tup xs) ks) := by
  show (if (kt (.tup xs) && ks.all kt) = true then some (!inT (.tup xs) ks) else none) = _
  rw [h, h2]
  rfl
theorem held_at {a b : List Int} {w : Nat} : List.lookup ("held" : Str) [(("held" : Str), mailT a b), ("known", T.ref (w + 1))] = some (mailT a b) := by
  rw [List.lookup_cons, show (("held" : Str) == ("held" : Str)) = true by decide +kernel]
theorem known_at {a b : List Int} {w : Nat} : List.lookup ("known" : Str) [(("held" : Str), mailT a b), ("known", T.ref (w + 1))] = some (.ref (w + 1)) := by
  rw [List.lookup_cons, show (("known" : Str) == ("held" : Str)) = false by decide +kernel]
  simp only []
  rw [List.lookup_cons, show (("known" : Str) == ("known" : Str)) = true by decide +kernel]
theorem noCount_at {a b : List Int} {w : Nat} {m : Str} (h1 : (m == ("held" : Str)) = false) (h2 : (m == ("known" : Str)) = false) : List.lookup m [(("held" : Str), mailT a b), ("known", T.ref (w + 1))] = none := by
  rw [List.lookup_cons, h1]
  simp only []
  rw [List.lookup_cons, h2]
  rfl
theorem vw_dctR {i : Nat} {ks vs : List T} (h : S[i]? = some (.dct ks vs)) : vw S (.ref i) = .dct ks vs := by simp [vw, h]
theorem cnt_of {a b : List Int} {i j : Nat} : cnt a b 0 i j = 1 := rfl
/-- count leaves more known ways -/
theorem count_ok (h : HasWays D) {a b : List Int} (ha : a.length ≤ 9) (hb : b.length ≤ 9) : ∀ (r : Nat) {k : Nat} {S : Mem} {Q : Wv} {X : Wx} {w i j : Nat} {l : List (Nat × Nat)}, WaysAt S a b w l → i ≤ a.length → j ≤ b.length → a.length - i + (b.length - j) = r →
    (∀ l' : List (Nat × Nat), l'.Nodup → (∀ p ∈ l', p.1 ≤ a.length ∧ p.2 ≤ b.length) → (∀ p ∈ l, p ∈ l') → Q (.int (cnt a b r i j : Nat)) (S.set (w + 1) (knT a b l'))) → CallWP D (k + 2 + r) "Ways" "count" [.ref w, pairT i j] S Q X := by
  intro r
  induction r with
  | zero =>
    intro k S Q X w i j l W hi hj hr q
    refine call_of h.count rfl ?_
    simp [d_Ways_count, startT_eq, ob_ref W.ins, waysT, held_at]
    refine end_ok h ?_
    have e : (i : Int) = a.length ∧ (j : Int) = b.length := by omega
    have e1 : i = a.length := by omega
    have e2 : j = b.length := by omega
    subst e1 e2
    rw [cmp_eqp (by simp [pln]) (by simp [pln])]
    have e3 := eq_pT (a.length, b.length) (a.length, b.length)
    simp at e3
    simp [e3]
    have := q l W.nd W.sub fun p hp => hp
    rw [set_same W.dct] at this
    exact .keep this
  | succ r ih =>
    intro k S Q X w i j l W hi hj hr q
    obtain ⟨n, hn⟩ : ∃ n, k + 2 + r = n + 1 := ⟨k + 1 + r, by omega⟩
    have ih' : ∀ {S : Mem} {Q : Wv} {X : Wx} {i j : Nat} {l : List (Nat × Nat)}, WaysAt S a b w l → i ≤ a.length → j ≤ b.length → a.length - i + (b.length - j) = r →
        (∀ l' : List (Nat × Nat), l'.Nodup → (∀ p ∈ l', p.1 ≤ a.length ∧ p.2 ≤ b.length) → (∀ p ∈ l, p ∈ l') → Q (.int (cnt a b r i j : Nat)) (S.set (w + 1) (knT a b l'))) → CallWP D (n + 1) "Ways" "count" [.ref w, pairT i j] S Q X := by
      intro S Q X i j l h1 h2 h3 h4 h5
      have := ih (k := k) (X := X) h1 h2 h3 h4 h5
      rwa [hn] at this
    show CallWP D ((k + 2 + r) + 1) "Ways" "count" [.ref w, pairT i j] S Q X
    rw [hn]
    refine call_of h.count rfl ?_
    simp [d_Ways_count, startT_eq, ob_ref W.ins, waysT, held_at, known_at]
    refine end_ok h ?_
    rw [cmp_eqp (by simp [pln]) (by simp [pln])]
    have e3 := eq_pT (i, j) (a.length, b.length)
    have hne : ¬((i, j) = (a.length, b.length)) := by
      intro z
      cases z
      omega
    rw [decide_eq_false hne] at e3
    simp only [vw_tup, e3, okO_some, Bool.false_eq_true, if_false]
    have insAt : ∀ {S' : Mem} {l' : List (Nat × Nat)}, WaysAt S' a b w l' → ob? S' (.ref w) = some (w, .ins "Ways" [("held", mailT a b), ("known", .ref (w + 1))]) := fun W' => ob_ref W'.ins
    have dctAt : ∀ {S' : Mem} {l' : List (Nat × Nat)}, WaysAt S' a b w l' → vw S' (.ref (w + 1)) = .dct (l'.map pT) (l'.map fun p => .int (cnt a b (a.length - p.1 + (b.length - p.2)) p.1 p.2 : Nat)) := fun W' => vw_dctR W'.dct
    have fin : ∀ {l' : List (Nat × Nat)}, WaysAt (S.set (w + 1) (knT a b l')) a b w l' → (∀ p ∈ l, p ∈ l') → (i, j) ∈ l' →
        (match ob? (S.set (w + 1) (knT a b l')) (.ref w) with
          | some (_, .ins C fs) => okO (List.lookup ("known" : Str) fs) fun v => okO (idxT (vw (S.set (w + 1) (knT a b l')) v) (pairT i j)) fun z => Back S Q z (S.set (w + 1) (knT a b l'))
          | _ => False) := by
      intro l' W' hs hm
      rw [insAt W']
      show okO (List.lookup ("known" : Str) _) _
      rw [known_at]
      simp only [okO_some]
      rw [dctAt W']
      have hk : idxT (.dct (l'.map pT) (l'.map fun p => .int (cnt a b (a.length - p.1 + (b.length - p.2)) p.1 p.2 : Nat))) (pairT i j) = some (.int (cnt a b (a.length - i + (b.length - j)) i j : Nat)) := by
        rw [idx_dct rfl (kt_all l')]
        exact dget_pT (i, j) l' hm
      rw [hk, hr]
      exact .keep (q l' W'.nd W'.sub hs)
    have setW : ∀ {S' : Mem} {l0 l' : List (Nat × Nat)}, WaysAt S' a b w l0 → l'.Nodup → (∀ p ∈ l', p.1 ≤ a.length ∧ p.2 ≤ b.length) → WaysAt (S'.set (w + 1) (knT a b l')) a b w l' := fun W0 h1 h2 =>
      ⟨by rw [List.getElem?_set_ne (by omega)]; exact W0.ins, get_set W0.dct, h1, h2⟩
    rw [insAt W]
    show okO (List.lookup ("known" : Str) _) _
    rw [known_at]
    simp only [okO_some]
    rw [dctAt W]
    have hin : cmpT .NotIn (pairT i j) (.dct (l.map pT) (l.map fun p => .int (cnt a b (a.length - p.1 + (b.length - p.2)) p.1 p.2 : Nat))) = some (!decide ((i, j) ∈ l)) := by
      rw [nin_dct rfl (kt_all l)]
      exact congrArg (fun b => some (!b)) (inT_pT (i, j) l)
    rw [show (T.tup [T.int (i : Int), T.int (j : Int)]) = pairT i j from rfl, hin]
    simp only [okO_some]
    by_cases hm : (i, j) ∈ l
    · rw [decide_eq_true hm, if_neg (by decide)]
      have := fin (l' := l) (by rw [set_same W.dct]; exact W) (fun p hp => hp) hm
      rw [set_same W.dct, insAt W] at this
      exact this
    · rw [decide_eq_false hm, if_pos (by decide)]
      show wpL gT _ (([0, 1] : List Int).map T.int) [] S _
      refine wpL_filter (p := fun s => mayB a b i j s) (h := T.int) (fun s hs k' hk => ?_) trivial ?_
      · rw [insAt W]
        show okO (List.lookup ("held" : Str) _) _
        rw [held_at]
        refine may_ok h (by simpa using hs) ?_
        simpa using hk
      have step : ∀ (s : Int) (S0 : Mem) (l0 : List (Nat × Nat)) (KK : List T → Mem → Prop), s = 0 ∨ s = 1 → mayB a b i j s = true → WaysAt S0 a b w l0 →
          (∀ l1 : List (Nat × Nat), l1.Nodup → (∀ p ∈ l1, p.1 ≤ a.length ∧ p.2 ≤ b.length) → (∀ p ∈ l0, p ∈ l1) → KK [.int (if s = 0 then cnt a b r (i + 1) j else cnt a b r i (j + 1) : Nat)] (S0.set (w + 1) (knT a b l1))) →
          (match ob? S0 (.ref w) with
            | some (_, .ins C' fs) => (C' = ("Ways" : Str) ∧ ∀ (a : Str) (b : T), (a, b) ∈ fs → ¬("count" : Str) = a) ∧ CallWP D (n + 1) "" "after" [pairT i j, .int s] S0 (fun x S1 => CallWP D (n + 1) "Ways" "count" [.ref w, x] S1 (fun y S3 => KK [y] S3) noX) noX
            | _ => False) := by
        intro s S0 l0 KK hs hmay W0 hK
        rw [insAt W0]
        refine ⟨⟨rfl, fun x y hxy => ?_⟩, after_ok h ?_⟩
        · simp at hxy
          rcases hxy with ⟨rfl, _⟩ | ⟨rfl, _⟩ <;> decide +kernel
        · rcases hs with rfl | rfl
          · simp only [mayB, if_true, Bool.and_eq_true, decide_eq_true_eq] at hmay
            simp only [if_true] at hK ⊢
            exact ih' W0 (by omega) hj (by omega) fun l1 g1 g2 g3 => hK l1 g1 g2 g3
          · simp only [mayB, show ¬((1 : Int) = 0) by decide, if_false, Bool.and_eq_true, decide_eq_true_eq] at hmay
            simp only [show ¬((1 : Int) = 0) by decide, if_false] at hK ⊢
            exact ih' W0 hi (by omega) (by omega) fun l1 g1 g2 g3 => hK l1 g1 g2 g3
      have hv : ∀ l2 : List (Nat × Nat), l2.Nodup → (∀ p ∈ l2, p.1 ≤ a.length ∧ p.2 ≤ b.length) → (∀ p ∈ l, p ∈ l2) → ∀ z : Int, z = (cnt a b (r + 1) i j : Nat) →
          (match ob? (S.set (w + 1) (knT a b l2)) (.ref w) with
            | some (_, .ins C fs) => okO (List.lookup ("known" : Str) fs) fun v => match ob? (S.set (w + 1) (knT a b l2)) v, pairT i j with
              | some (i1, .lst xs), .int k => okO (L2.ixN xs.length k) fun j1 => (match ob? (List.set (S.set (w + 1) (knT a b l2)) i1 (.lst (xs.set j1 (.int z)))) (.ref w) with
                | some (_, .ins C fs) => okO (List.lookup ("known" : Str) fs) fun v => okO (idxT (vw (List.set (S.set (w + 1) (knT a b l2)) i1 (.lst (xs.set j1 (.int z)))) v) (pairT i j)) fun z1 => Back S Q z1 (List.set (S.set (w + 1) (knT a b l2)) i1 (.lst (xs.set j1 (.int z))))
                | _ => False)
              | some (i1, .dct ks vs), y => (kt y = true ∧ (∀ x, x ∈ ks → kt x = true) ∧ ks.length < line) ∧ (match ob? (List.set (S.set (w + 1) (knT a b l2)) i1 (.dct (dputK ks y) (dputV ks vs y (.int z)))) (.ref w) with
                | some (_, .ins C fs) => okO (List.lookup ("known" : Str) fs) fun v => okO (idxT (vw (List.set (S.set (w + 1) (knT a b l2)) i1 (.dct (dputK ks y) (dputV ks vs y (.int z)))) v) (pairT i j)) fun z1 => Back S Q z1 (List.set (S.set (w + 1) (knT a b l2)) i1 (.dct (dputK ks y) (dputV ks vs y (.int z))))
                | _ => False)
              | _, _ => False
            | _ => False) := by
        intro l2 n2 s2 u2 z hz
        have W2 := setW W n2 s2
        rw [insAt W2]
        show okO (List.lookup ("known" : Str) _) _
        rw [known_at]
        simp only [okO_some]
        rw [ob_ref W2.dct]
        have key : ∀ l3 : List (Nat × Nat), l3.Nodup → (∀ p ∈ l3, p.1 ≤ a.length ∧ p.2 ≤ b.length) → (∀ p ∈ l, p ∈ l3) → (i, j) ∈ l3 → dputK (l2.map pT) (pairT i j) = l3.map pT →
            dputV (l2.map pT) (l2.map fun p => T.int (cnt a b (a.length - p.1 + (b.length - p.2)) p.1 p.2 : Nat)) (pairT i j) (.int z) = (l3.map fun p => T.int (cnt a b (a.length - p.1 + (b.length - p.2)) p.1 p.2 : Nat)) →
            (kt (pairT i j) = true ∧ (∀ x, x ∈ l2.map pT → kt x = true) ∧ (l2.map pT).length < line) ∧ (match ob? (List.set (S.set (w + 1) (knT a b l2)) (w + 1) (.dct (dputK (l2.map pT) (pairT i j)) (dputV (l2.map pT) (l2.map fun p => T.int (cnt a b (a.length - p.1 + (b.length - p.2)) p.1 p.2 : Nat)) (pairT i j) (.int z)))) (.ref w) with
                | some (_, .ins C fs) => okO (List.lookup ("known" : Str) fs) fun v => okO (idxT (vw (List.set (S.set (w + 1) (knT a b l2)) (w + 1) (.dct (dputK (l2.map pT) (pairT i j)) (dputV (l2.map pT) (l2.map fun p => T.int (cnt a b (a.length - p.1 + (b.length - p.2)) p.1 p.2 : Nat)) (pairT i j) (.int z)))) v) (pairT i j)) fun z1 => Back S Q z1 (List.set (S.set (w + 1) (knT a b l2)) (w + 1) (.dct (dputK (l2.map pT) (pairT i j)) (dputV (l2.map pT) (l2.map fun p => T.int (cnt a b (a.length - p.1 + (b.length - p.2)) p.1 p.2 : Nat)) (pairT i j) (.int z))))
                | _ => False) := by
          intro l3 n3 s3 u3 m3 e1 e2
          rw [e1, e2]
          refine ⟨⟨rfl, fun x hx => List.all_eq_true.mp (kt_all l2) x hx, ?_⟩, ?_⟩
          · rw [List.length_map]
            have := kn_len ha hb n2 s2
            have e : line = 16777216 := rfl
            omega
          · rw [set_set]
            exact fin (setW W n3 s3) u3 m3
        by_cases hm2 : (i, j) ∈ l2
        · have hdp : ∀ l0 : List (Nat × Nat), (i, j) ∈ l0 → dputK (l0.map pT) (pairT i j) = l0.map pT ∧ dputV (l0.map pT) (l0.map fun p => T.int (cnt a b (a.length - p.1 + (b.length - p.2)) p.1 p.2 : Nat)) (pairT i j) (.int z) = (l0.map fun p => T.int (cnt a b (a.length - p.1 + (b.length - p.2)) p.1 p.2 : Nat)) := by
            intro l0
            induction l0 with
            | nil => intro h; cases h
            | cons p0 l0 ih0 =>
              intro h0
              rw [List.map_cons, List.map_cons]
              unfold dputK dputV
              rw [show pairT (i : Int) (j : Int) = pT (i, j) from rfl, eq_pT]
              by_cases e : p0 = (i, j)
              · subst e
                simp only [decide_true, if_true]
                rw [hz, ← hr]
                exact ⟨trivial, rfl⟩
              · rw [decide_eq_false e]
                simp only [Bool.false_eq_true, if_false]
                obtain ⟨g1, g2⟩ := ih0 ((List.mem_cons.mp h0).resolve_left fun z => e z.symm)
                exact ⟨congrArg _ g1, congrArg _ g2⟩
          obtain ⟨g1, g2⟩ := hdp l2 hm2
          exact key l2 n2 s2 u2 hm2 g1 g2
        · have hf := dput_pT (f := fun p => T.int (cnt a b (a.length - p.1 + (b.length - p.2)) p.1 p.2 : Nat)) (i, j) l2 hm2
          refine key (l2 ++ [(i, j)]) ?_ ?_ ?_ (by simp) hf.1 (by rw [hz, ← hr]; exact hf.2)
          · rw [List.nodup_append]
            exact ⟨n2, by simp, fun x hx y hy z => hm2 (by rw [List.mem_singleton.mp hy] at z; exact z ▸ hx)⟩
          · intro p hp
            rcases List.mem_append.mp hp with hp | hp
            · exact s2 p hp
            · rw [List.mem_singleton.mp hp]; exact ⟨hi, hj⟩
          · intro p hp
            exact List.mem_append_left _ (u2 p hp)
      have cntS : cnt a b (r + 1) i j = (if mayB a b i j 0 = true then cnt a b r (i + 1) j else 0) + (if mayB a b i j 1 = true then cnt a b r i (j + 1) else 0) := rfl
      have nxt : ∀ {S' : Mem} {l1 l2 : List (Nat × Nat)}, (S'.set (w + 1) (knT a b l1)).set (w + 1) (knT a b l2) = S'.set (w + 1) (knT a b l2) := set_set
      refine wpL_inv (P := fun rr acc S1 => ∃ (rs vals : List Int) (l1 : List (Nat × Nat)), rr = rs.map .int ∧ acc = vals.map .int ∧ vals.sum + (rs.map fun s => ((if s = 0 then cnt a b r (i + 1) j else cnt a b r i (j + 1) : Nat) : Int)).sum = (cnt a b (r + 1) i j : Nat) ∧ (∀ s ∈ rs, (s = 0 ∨ s = 1) ∧ mayB a b i j s = true) ∧
        l1.Nodup ∧ (∀ p ∈ l1, p.1 ≤ a.length ∧ p.2 ≤ b.length) ∧ (∀ p ∈ l, p ∈ l1) ∧ S1 = S.set (w + 1) (knT a b l1)) (fun _ _ _ _ => trivial) ?_ ?_ ⟨_, [], l, rfl, rfl, ?_, fun s hs => ?_, W.nd, W.sub, fun p hp => hp, (set_same W.dct).symm⟩
      · rintro x rr acc S1 ⟨rs, vals, l1, hx, rfl, hsum, hrs, n1, s1, u1, rfl⟩ KK hK
        cases rs with
        | nil => cases hx
        | cons s rs =>
          rw [List.map_cons] at hx
          injection hx with e1 e2
          subst e1 e2
          obtain ⟨g1, g2⟩ := hrs s List.mem_cons_self
          refine step s _ l1 KK g1 g2 (setW W n1 s1) fun l2 n2 s2 u2 => ?_
          rw [nxt]
          refine hK _ _ ⟨rs, vals ++ [((if s = 0 then cnt a b r (i + 1) j else cnt a b r i (j + 1) : Nat) : Int)], l2, rfl, by simp, ?_, fun y hy => hrs y (List.mem_cons_of_mem _ hy), n2, s2, fun p hp => u2 p (u1 p hp), rfl⟩
          rw [← hsum, List.map_cons, List.sum_cons, List.sum_append, List.sum_singleton]
          omega
      · rintro acc S1 ⟨rs, vals, l1, hx, rfl, hsum, hrs, n1, s1, u1, rfl⟩
        have : rs = [] := List.map_eq_nil_iff.mp hx.symm
        subst this
        rw [ints_map]
        simp only [Option.map_some, okO_some]
        exact hv l1 n1 s1 u1 _ (by simpa using hsum)
      · rw [cntS]
        by_cases m0 : mayB a b i j 0 = true <;> by_cases m1 : mayB a b i j 1 = true <;> simp [List.filter, m0, m1]
      · obtain ⟨h1, h2⟩ := List.mem_filter.mp hs
        exact ⟨by simpa using h1, h2⟩
end PC
/-! PlFirst: how many orders, the first of them. -/
namespace PC
open PySem
variable {D : Tab} {k : Nat} {C g : Str} {d : Def} {args : List T} {S : Mem} {Q : Wv} {X : Wx}
theorem putF_held {a b : List Int} {w : Nat} : putF "known" (.ref (w + 1)) (putF "held" (mailT a b) []) = [(("held" : Str), mailT a b), ("known", T.ref (w + 1))] := by
  show (if ("held" : Str) = "known" then _ else _) = _
  rw [if_neg (by decide +kernel)]
  rfl
theorem init_ok (h : HasWays D) {a b : List Int} (q : Q .non (S ++ [waysT a b S.length, .dct [] []])) : CallWP D (k + 1) "Ways" "__init__" [.ref S.length, mailT a b] (S ++ [.ins "Ways" []]) Q X := by
  refine call_of h.init rfl ?_
  have g0 : (S ++ [Ob.ins "Ways" []])[S.length]? = some (.ins "Ways" []) := by simp
  simp [d_Ways_init, startT_eq]
  rw [ob_ref g0]
  refine ⟨by decide, ?_⟩
  have e1 : (S ++ [Ob.ins "Ways" []]).set S.length (.ins "Ways" (putF "held" (mailT a b) [])) = S ++ [.ins "Ways" (putF "held" (mailT a b) [])] := by
    rw [List.set_append_right _ _ (Nat.le_refl _)]
    simp
  rw [e1]
  have g1 : ∀ o : Ob, (S ++ [o, .dct [] []])[S.length]? = some o := fun o => by simp
  simp only [List.append_assoc, List.cons_append, List.nil_append]
  rw [ob_ref (g1 _)]
  refine ⟨(by decide : 1 < 100), ?_⟩
  have e2 : ∀ o o' : Ob, (S ++ [o, .dct [] []]).set S.length o' = S ++ [o', .dct [] []] := fun o o' => by
    rw [List.set_append_right _ _ (Nat.le_refl _)]
    simp
  rw [e2]
  have e3 : (S ++ [Ob.ins "Ways" (putF "held" (mailT a b) [])]).length = S.length + 1 := by simp
  first
    | (rw [e3, putF_held]; exact .keep q)
    | (simp only [List.length_append, List.length_singleton, putF_held]; exact .keep q)
    | (rw [putF_held]; exact .keep q)
theorem ways0 {a b : List Int} : WaysAt (S ++ [waysT a b S.length, .dct [] []]) a b S.length [] := ⟨by simp, by simp [knT], .nil, fun p hp => by cases hp⟩
theorem count_lev (h : HasWays D) {a b : List Int} (ha : a.length ≤ 9) (hb : b.length ≤ 9) {n r : Nat} (hn : 2 + r ≤ n) {w i j : Nat} {l : List (Nat × Nat)} (W : WaysAt S a b w l) (hi : i ≤ a.length) (hj : j ≤ b.length) (hr : a.length - i + (b.length - j) = r)
    (q : ∀ l' : List (Nat × Nat), l'.Nodup → (∀ p ∈ l', p.1 ≤ a.length ∧ p.2 ≤ b.length) → Q (.int (cnt a b r i j : Nat)) (S.set (w + 1) (knT a b l'))) : CallWP D n "Ways" "count" [.ref w, pairT i j] S Q X := by
  have e : n = (n - 2 - r) + 2 + r := by omega
  rw [e]
  exact count_ok h ha hb r W hi hj hr fun l' h1 h2 _ => q l' h1 h2
structure HasFirst (D : Tab) : Prop extends HasWays D where
  cof : D.fn "" "count_of" = some d_count_of
  atm : D.fn "Ways" "at" = some d_Ways_at
  first : D.fn "" "first_order" = some d_first_order
theorem count_of_ok (h : HasFirst D) {a b : List Int} (ha : a.length ≤ 9) (hb : b.length ≤ 9) (q : Q (.int (cnt a b (a.length + b.length) 0 0 : Nat)) S) : CallWP D (k + 22) "" "count_of" [mailT a b] S Q X := by
  refine call_of h.cof rfl ?_
  simp [d_count_of, startT_eq]
  refine init_ok h.toHasWays ⟨rfl, ?_⟩
  rw [ob_ref ways0.ins]
  refine ⟨⟨rfl, fun x y hxy => ?_⟩, ?_⟩
  · simp at hxy
    rcases hxy with ⟨rfl, _⟩ | ⟨rfl, _⟩ <;> decide +kernel
  refine count_lev (i := 0) (j := 0) h.toHasWays ha hb (by omega) ways0 (Nat.zero_le _) (Nat.zero_le _) rfl fun l' h1 h2 => ?_
  have e : (S ++ [waysT a b S.length, .dct [] []]).set (S.length + 1) (knT a b l') = S ++ [waysT a b S.length, knT a b l'] := by
    rw [List.set_append_right _ _ (Nat.le_add_right _ _)]
    simp
  rw [e]
  exact .drop ⟨_, rfl, rfl, fun i o hi => .inl hi⟩ rfl (by simpa using q)
/-- the writers so far: t, having come to (i, j) -/
inductive Pth (a b : List Int) : List Int → Nat → Nat → Prop
  | nil : Pth a b [] 0 0
  | z {t : List Int} {i j : Nat} : Pth a b t i j → mayB a b i j 0 = true → Pth a b (t ++ [0]) (i + 1) j
  | o {t : List Int} {i j : Nat} : Pth a b t i j → mayB a b i j 1 = true → Pth a b (t ++ [1]) i (j + 1)
theorem lev1 {n : Nat} {C g : Str} {args : List T} (hn : 1 ≤ n) (h : ∀ k, CallWP D (k + 1) C g args S Q X) : CallWP D n C g args S Q X := by
  rw [show n = (n - 1) + 1 by omega]
  exact h _
/-- the order of that number, from (i, j) on -/
def ordAt (a b : List Int) : Nat → Nat → Nat → Nat → List Int
  | 0, _, _, _ => []
  | r + 1, i, j, n => if n < (if mayB a b i j 0 = true then cnt a b r (i + 1) j else 0) then 0 :: ordAt a b r (i + 1) j n else 1 :: ordAt a b r i (j + 1) (n - (if mayB a b i j 0 = true then cnt a b r (i + 1) j else 0))
theorem atn_ok (h : HasFirst D) {a b : List Int} (ha : a.length ≤ 9) (hb : b.length ≤ 9) {w : Nat} {l : List (Nat × Nat)} (W : WaysAt S a b w l) {n : Nat} (hc : n < cnt a b (a.length + b.length) 0 0)
    (q : ∀ (t : List Int) (l' : List (Nat × Nat)), Pth a b t a.length b.length → t = ordAt a b (a.length + b.length) 0 0 n → Q (.tup (t.map .int)) (S.set (w + 1) (knT a b l'))) : CallWP D (k + 22) "Ways" "at" [.ref w, .int n] S Q X := by
  refine call_of h.atm rfl ?_
  simp [d_Ways_at, startT_eq]
  refine ⟨a.length + b.length + 1, wpWh_inv (P := fun N σ S1 => ∃ (i j m : Nat) (t : List Int) (l : List (Nat × Nat)) (x4 x5 : Option T), σ = [some (.ref w), some (.int m), some (pairT i j), some (.tup (t.map .int)), x4, x5] ∧ Pth a b t i j ∧ i ≤ a.length ∧ j ≤ b.length ∧
    N = a.length - i + (b.length - j) ∧ t ++ ordAt a b N i j m = ordAt a b (a.length + b.length) 0 0 n ∧ m < cnt a b N i j ∧ l.Nodup ∧ (∀ p ∈ l, p.1 ≤ a.length ∧ p.2 ≤ b.length) ∧ t.length ≤ 18 ∧ t.length = i + j ∧ S1 = S.set (w + 1) (knT a b l)) ?_ _ (a.length + b.length) (Nat.lt_succ_self _)
    ⟨0, 0, n, [], l, none, none, rfl, .nil, Nat.zero_le _, Nat.zero_le _, rfl, rfl, hc, W.nd, W.sub, by simp, rfl, (set_same W.dct).symm⟩⟩
  rintro N σ S1 ⟨i, j, m, t, l1, x4, x5, rfl, hp, hi, hj, rfl, ho, hcnt, n1, s1, ht, htl, rfl⟩ KK hK
  have W1 : WaysAt (S.set (w + 1) (knT a b l1)) a b w l1 := ⟨by rw [List.getElem?_set_ne (by omega)]; exact W.ins, get_set W.dct, n1, s1⟩
  simp
  have noC : ∀ (x : Str) (y : T), (x, y) ∈ [(("held" : Str), mailT a b), ("known", T.ref (w + 1))] → ¬("count" : Str) = x := by
    intro x y hxy
    simp at hxy
    rcases hxy with ⟨rfl, _⟩ | ⟨rfl, _⟩ <;> decide +kernel
  rw [ob_ref W1.ins]
  show okO (List.lookup ("held" : Str) _) _
  rw [held_at]
  simp only [okO_some]
  refine end_ok h.toHasWays ?_
  rw [vw_tup, cmp_nep (by simp [pln]) (by simp [pln]), show eqT (T.tup [T.int (i : Int), T.int (j : Int)]) (pairT (a.length : Nat) (b.length : Nat)) = _ from eq_pT (i, j) (a.length, b.length)]
  simp only [okO_some]
  by_cases he : (i, j) = (a.length, b.length)
  · rw [decide_eq_true he, if_neg (by decide)]
    cases he
    rw [Nat.sub_self, Nat.sub_self] at ho
    have ho : t ++ [] = _ := ho
    rw [List.append_nil] at ho
    exact .keep (q t l1 hp ho)
  · rw [decide_eq_false he, if_pos (by decide), ob_ref W1.ins]
    show okO (List.lookup ("held" : Str) _) _
    rw [held_at]
    simp only [okO_some]
    have hlt : i < a.length ∨ j < b.length := by
      by_cases c : i < a.length
      · exact .inl c
      · refine .inr ?_
        by_cases c2 : j < b.length
        · exact c2
        · exact absurd (by rw [show i = a.length by omega, show j = b.length by omega]) he
    obtain ⟨r, hr⟩ : ∃ r, a.length - i + (b.length - j) = r + 1 := ⟨a.length - i + (b.length - j) - 1, by omega⟩
    rw [hr] at hcnt ho
    have hcnt : m < (if mayB a b i j 0 = true then cnt a b r (i + 1) j else 0) + (if mayB a b i j 1 = true then cnt a b r i (j + 1) else 0) := hcnt
    have line_t : (t.map T.int).length + 1 ≤ line := by
      have : line = 16777216 := rfl
      rw [List.length_map]
      omega
    have ho : t ++ (if m < (if mayB a b i j 0 = true then cnt a b r (i + 1) j else 0) then 0 :: ordAt a b r (i + 1) j m else 1 :: ordAt a b r i (j + 1) (m - (if mayB a b i j 0 = true then cnt a b r (i + 1) j else 0))) = _ := ho
    -- one step of side 1
    have go1 : ∀ (S2 : Mem) (l2 : List (Nat × Nat)) (x y : T) (m2 : Nat), S2 = S.set (w + 1) (knT a b l2) → l2.Nodup → (∀ p ∈ l2, p.1 ≤ a.length ∧ p.2 ≤ b.length) → mayB a b i j 1 = true → m2 < cnt a b r i (j + 1) → t ++ 1 :: ordAt a b r i (j + 1) m2 = ordAt a b (a.length + b.length) 0 0 n →
        CallWP D (k + 21) "" "after" [pairT i j, .int 1] S2 (fun x1 S1 => okO (binT .Add (.tup (t.map .int)) (.tup [.int 1])) fun z => KK [some (.ref w), some (.int m2), some x1, some z, some x, some y] S1) (BackX S X) := by
      intro S2 l2 x y m2 e2 n2 s2 m1 c1 o2
      subst e2
      refine after_ok h.toHasWays ?_
      rw [if_neg (by decide), bin_addt line_t]
      simp only [mayB, show ¬((1 : Int) = 0) by decide, if_false, Bool.and_eq_true, decide_eq_true_eq] at m1
      refine hK r (by omega) _ _ ⟨i, j + 1, m2, t ++ [1], l2, some x, some y, by simp, .o hp ?_, hi, by omega, by omega, by simpa using o2, ?_, n2, s2, by simp; omega, by simp; omega, rfl⟩
      · simp only [mayB, show ¬((1 : Int) = 0) by decide, if_false, Bool.and_eq_true, decide_eq_true_eq]
        exact m1
      · exact c1
    refine may_ok h.toHasWays (.inl rfl) ?_
    simp only [bt_bl]
    by_cases m0 : mayB a b i j 0 = true
    · have m0' := m0
      simp only [mayB, if_true, Bool.and_eq_true, decide_eq_true_eq] at m0'
      rw [if_pos m0] at hcnt ho ⊢
      rw [ob_ref W1.ins]
      refine ⟨⟨rfl, noC⟩, after_ok h.toHasWays ?_⟩
      rw [if_pos rfl]
      refine count_lev (i := i + 1) (j := j) (r := r) h.toHasWays ha hb (by omega) W1 (by omega) hj (by omega) fun l2 n2 s2 => ?_
      rw [set_set]
      simp only [vw_int, cmp_lt, okO_some]
      by_cases c0 : m < cnt a b r (i + 1) j
      · rw [if_pos (by simpa using c0)]
        rw [if_pos c0] at ho
        refine after_ok h.toHasWays ?_
        rw [if_pos rfl, bin_addt line_t]
        refine hK r (by omega) _ _ ⟨i + 1, j, m, t ++ [0], l2, _, _, by simp; exact ⟨rfl, rfl⟩, .z hp m0, by omega, hj, by omega, by simpa using ho, c0, n2, s2, by simp; omega, by simp; omega, rfl⟩
      · rw [if_neg (by simpa using c0)]
        rw [if_neg c0] at ho
        simp only [bin_subi, okO_some]
        by_cases m1 : mayB a b i j 1 = true
        · rw [if_pos m1] at hcnt
          have := go1 _ l2 (.int (cnt a b r (i + 1) j : Nat)) (.int 1) (m - cnt a b r (i + 1) j) rfl n2 s2 m1 (by omega) ho
          rw [show ((m - cnt a b r (i + 1) j : Nat) : Int) = (m : Int) - (cnt a b r (i + 1) j : Nat) by omega] at this
          exact this
        · rw [if_neg m1] at hcnt
          omega
    · rw [if_neg m0] at hcnt ho ⊢
      rw [Nat.zero_add] at hcnt
      rw [if_neg (Nat.not_lt_zero _)] at ho
      by_cases m1 : mayB a b i j 1 = true
      · rw [if_pos m1] at hcnt
        exact go1 _ l1 _ _ _ rfl n1 s1 m1 hcnt ho
      · rw [if_neg m1] at hcnt
        omega
theorem at_ok (h : HasFirst D) {a b : List Int} (ha : a.length ≤ 9) (hb : b.length ≤ 9) {w : Nat} {l : List (Nat × Nat)} (W : WaysAt S a b w l) (hc : 0 < cnt a b (a.length + b.length) 0 0)
    (q : ∀ (t : List Int) (l' : List (Nat × Nat)), Pth a b t a.length b.length → Q (.tup (t.map .int)) (S.set (w + 1) (knT a b l'))) : CallWP D (k + 22) "Ways" "at" [.ref w, .int 0] S Q X :=
  atn_ok (n := 0) h ha hb W hc fun t l' h1 _ => q t l' h1
theorem first_ok (h : HasFirst D) (hn : D.fn "" "need_mail" = some d_need_mail) (hm : HasMail D) {a b : List Int} (ok : OkM a b) (hc : 0 < cnt a b (a.length + b.length) 0 0) (q : ∀ t : List Int, Pth a b t a.length b.length → Q (.tup (t.map .int)) S) : CallWP D (k + 23) "" "first_order" [mailT a b] S Q X := by
  refine call_of h.first rfl ?_
  have ha := ok.la
  have hb := ok.lb
  simp [d_first_order, startT_eq]
  refine need_mail_ok (k := k + 18) hn hm ok ?_
  refine count_of_ok h (by omega) (by omega) ?_
  simp only [vw_int, cmp_gt, okO_some]
  rw [if_pos (by simpa using hc)]
  refine init_ok h.toHasWays ⟨rfl, ?_⟩
  rw [ob_ref ways0.ins]
  refine ⟨⟨rfl, fun x y hxy => ?_⟩, ?_⟩
  · simp at hxy
    rcases hxy with ⟨rfl, _⟩ | ⟨rfl, _⟩ <;> decide +kernel
  refine at_ok h (by omega) (by omega) ways0 hc fun t l' hp => ?_
  have e : (S ++ [waysT a b S.length, .dct [] []]).set (S.length + 1) (knT a b l') = S ++ [waysT a b S.length, knT a b l'] := by
    rw [List.set_append_right _ _ (Nat.le_add_right _ _)]
    simp
  rw [e]
  refine .drop ⟨_, rfl, rfl, fun i o hi => .inl hi⟩ ?_ (q t hp)
  simp [rfr]
end PC
/-! PlSpot: where nothing bars there is an order; where a letter stands in it. -/
namespace PC
open PySem
variable {D : Tab} {k : Nat} {C g : Str} {d : Def} {args : List T} {S : Mem} {Q : Wv} {X : Wx}
theorem bar_free {a b : List Int} (h : barL a b = []) {i j : Nat} (hi : i < a.length) (hj : j < b.length) : ¬((j : Int) < a.getD i 0 ∧ (i : Int) < b.getD j 0) := by
  intro ⟨h1, h2⟩
  have hm : (i, j) ∈ barL a b := by
    unfold barL
    rw [List.mem_filter]
    refine ⟨?_, ?_⟩
    · unfold pairsN
      rw [List.mem_flatMap]
      exact ⟨i, List.mem_range.mpr hi, List.mem_map.mpr ⟨j, List.mem_range.mpr hj, rfl⟩⟩
    · unfold barB
      rw [decide_eq_true h1, decide_eq_true h2]
      rfl
  rw [h] at hm
  cases hm
theorem getD_mem {l : List Int} {i : Nat} (h : i < l.length) : l.getD i 0 ∈ l := by
  rw [List.getD_eq_getElem?_getD, List.getElem?_eq_getElem h]
  exact List.getElem_mem h
theorem cnt_pos {a b : List Int} (ok : OkM a b) (h : barL a b = []) : ∀ (r i j : Nat), i ≤ a.length → j ≤ b.length → a.length - i + (b.length - j) = r → 0 < cnt a b r i j
  | 0, _, _, _, _, _ => Nat.zero_lt_one
  | r + 1, i, j, hi, hj, hr => by
    show 0 < (if mayB a b i j 0 = true then cnt a b r (i + 1) j else 0) + (if mayB a b i j 1 = true then cnt a b r i (j + 1) else 0)
    by_cases c0 : i < a.length ∧ a.getD i 0 ≤ (j : Int)
    · have m0 : mayB a b i j 0 = true := by
        simp only [mayB, if_true, Bool.and_eq_true, decide_eq_true_eq]
        exact c0
      rw [if_pos m0]
      have := cnt_pos ok h r (i + 1) j (by omega) hj (by omega)
      omega
    · have c1 : j < b.length ∧ b.getD j 0 ≤ (i : Int) := by
        by_cases e : i < a.length
        · have e2 : ¬ a.getD i 0 ≤ (j : Int) := fun z => c0 ⟨e, z⟩
          by_cases e3 : j < b.length
          · have := bar_free h e e3
            exact ⟨e3, by omega⟩
          · have := (ok.ra _ (getD_mem e)).2
            omega
        · have e3 : j < b.length := by omega
          have := (ok.rb _ (getD_mem e3)).2
          exact ⟨e3, by omega⟩
      have m1 : mayB a b i j 1 = true := by
        simp only [mayB, show ¬((1 : Int) = 0) by decide, if_false, Bool.and_eq_true, decide_eq_true_eq]
        exact c1
      rw [if_pos m1]
      have := cnt_pos ok h r i (j + 1) hi (by omega) (by omega)
      omega
/-- the places of a side -/
def spots (s : Int) : Nat → List Int → List Nat
  | _, [] => []
  | n, x :: t => if x = s then n :: spots s (n + 1) t else spots s (n + 1) t
theorem spots_snoc (s x : Int) : ∀ (t : List Int) (n : Nat), spots s n (t ++ [x]) = spots s n t ++ (if x = s then [n + t.length] else [])
  | [], n => by
    show spots s n [x] = _
    unfold spots
    split <;> simp [spots]
  | y :: t, n => by
    rw [List.cons_append]
    unfold spots
    rw [spots_snoc s x t (n + 1)]
    have e : n + 1 + t.length = n + (t.length + 1) := by omega
    split <;> simp [e]
theorem spots_lt {s : Int} : ∀ (t : List Int) (n : Nat), ∀ p ∈ spots s n t, p < n + t.length
  | [], n, p, h => by cases h
  | y :: t, n, p, h => by
    unfold spots at h
    split at h
    · rcases List.mem_cons.mp h with rfl | h
      · simp
      · have := spots_lt t (n + 1) p h
        simp; omega
    · have := spots_lt t (n + 1) p h
      simp; omega
structure PthOk (a b : List Int) (t : List Int) (i j : Nat) : Prop where
  li : (spots 0 0 t).length = i
  lj : (spots 1 0 t).length = j
  bi : i ≤ a.length
  bj : j ≤ b.length
  ra : ∀ i', i' < i → a.getD i' 0 ≤ (j : Int)
  rb : ∀ j', j' < j → b.getD j' 0 ≤ (i : Int)
  sep : ∀ i' j', i' < i → j' < j → ((i' : Int) < b.getD j' 0 → (spots 0 0 t).getD i' 0 < (spots 1 0 t).getD j' 0) ∧ ((j' : Int) < a.getD i' 0 → ¬(spots 0 0 t).getD i' 0 < (spots 1 0 t).getD j' 0)
theorem getD_app {l : List Nat} {x i : Nat} : (i < l.length → (l ++ [x]).getD i 0 = l.getD i 0) ∧ (i = l.length → (l ++ [x]).getD i 0 = x) := by
  constructor
  · intro h
    rw [List.getD_eq_getElem?_getD, List.getD_eq_getElem?_getD, List.getElem?_append_left h]
  · intro h
    subst h
    simp
theorem getD_in {l : List Nat} {i : Nat} (h : i < l.length) : l.getD i 0 ∈ l := by
  rw [List.getD_eq_getElem?_getD, List.getElem?_eq_getElem h]
  exact List.getElem_mem h
theorem Pth.ok {a b t : List Int} {i j : Nat} (h : Pth a b t i j) : PthOk a b t i j := by
  induction h with
  | nil => exact ⟨rfl, rfl, Nat.zero_le _, Nat.zero_le _, fun _ h => absurd h (Nat.not_lt_zero _), fun _ h => absurd h (Nat.not_lt_zero _), fun _ _ h => absurd h (Nat.not_lt_zero _)⟩
  | @z t i j _ hm ih =>
    simp only [mayB, if_true, Bool.and_eq_true, decide_eq_true_eq] at hm
    have s0 : spots 0 0 (t ++ [0]) = spots 0 0 t ++ [t.length] := by rw [spots_snoc]; simp
    have s1 : spots 1 0 (t ++ [0]) = spots 1 0 t := by rw [spots_snoc]; simp
    refine ⟨by rw [s0]; simp [ih.li], by rw [s1, ih.lj], by omega, ih.bj, fun i' h => ?_, fun j' h => ?_, fun i' j' h1 h2 => ?_⟩
    · by_cases e : i' < i
      · exact ih.ra i' e
      · rw [show i' = i by omega]; exact hm.2
    · have := ih.rb j' h; omega
    · rw [s0, s1]
      by_cases e : i' < i
      · rw [getD_app.1 (by rw [ih.li]; exact e)]
        exact ih.sep i' j' e h2
      · have e2 : i' = i := by omega
        subst e2
        rw [getD_app.2 ih.li.symm]
        have q1 := ih.rb j' h2
        have q2 := spots_lt t 0 _ (getD_in (l := spots 1 0 t) (i := j') (by rw [ih.lj]; exact h2))
        exact ⟨fun z => by omega, fun _ z => by omega⟩
  | @o t i j _ hm ih =>
    simp only [mayB, show ¬((1 : Int) = 0) by decide, if_false, Bool.and_eq_true, decide_eq_true_eq] at hm
    have s0 : spots 0 0 (t ++ [1]) = spots 0 0 t := by rw [spots_snoc]; simp
    have s1 : spots 1 0 (t ++ [1]) = spots 1 0 t ++ [t.length] := by rw [spots_snoc]; simp
    refine ⟨by rw [s0, ih.li], by rw [s1]; simp [ih.lj], ih.bi, by omega, fun i' h => ?_, fun j' h => ?_, fun i' j' h1 h2 => ?_⟩
    · have := ih.ra i' h; omega
    · by_cases e : j' < j
      · exact ih.rb j' e
      · rw [show j' = j by omega]; exact hm.2
    · rw [s0, s1]
      by_cases e : j' < j
      · rw [getD_app.1 (by rw [ih.lj]; exact e)]
        exact ih.sep i' j' h1 e
      · have e2 : j' = j := by omega
        subst e2
        rw [getD_app.2 ih.lj.symm]
        have q1 := ih.ra i' h1
        have q2 := spots_lt t 0 _ (getD_in (l := spots 0 0 t) (i := i') (by rw [ih.li]; exact h1))
        exact ⟨fun _ => by omega, fun z => by omega⟩
def d_law_spot : Def := ⟨["_law_turns", "_law_letter", "_law_spots", "_law_at", "_law_side"], 2,
    (.cons (.asg 2 (.comp (.var 3) [3, 4] (.two 3 4) (.enum (.var 0)) (.some (.cmp .Eq (.var 4) (.idx (.var 1) (.int 0))))))
    (.cons (.ret (.idx (.var 2) (.idx (.var 1) (.int 1))))
    .nil))⟩
theorem enum_spots {s : Int} : ∀ (t : List Int) (n : Nat), ((enumT n (t.map T.int)).filterMap fun x => match x with | .tup [.int i, .int v] => if v = s then some (T.int i) else none | _ => none) = (spots s n t).map fun i : Nat => T.int i
  | [], n => rfl
  | x :: t, n => by
    show (T.tup [.int (n : Nat), .int x] :: enumT (n + 1) (t.map T.int)).filterMap _ = _
    unfold spots
    by_cases e : x = s
    · rw [List.filterMap_cons_some (b := T.int (n : Nat)) (by simp [e]), enum_spots t (n + 1), if_pos e]
      rfl
    · rw [List.filterMap_cons_none (by simp [e]), enum_spots t (n + 1), if_neg e]
theorem wpL_enum {g : Mem → Prop} {body : T → Mem → (List T → Mem → Prop) → Prop} {K : List T → Mem → Prop} {s : Int} : ∀ {t : List Int} {n : Nat} {acc : List T} {S : Mem}, (∀ (i : Nat) (v : Int) (k : List T → Mem → Prop), (if v = s then k [.int i] S else k [] S) → body (.tup [.int i, .int v]) S k) → g S →
    K (acc ++ (spots s n t).map fun i : Nat => T.int i) S → wpL g body (enumT n (t.map T.int)) acc S K
  | [], n, acc, S, _, hg, hk => ⟨hg, by simpa [spots] using hk⟩
  | x :: t, n, acc, S, hb, hg, hk => by
    refine ⟨hg, hb n x _ ?_⟩
    unfold spots at hk
    by_cases e : x = s
    · rw [if_pos e] at hk ⊢
      exact wpL_enum hb hg (by simpa using hk)
    · rw [if_neg e] at hk ⊢
      exact wpL_enum hb hg (by simpa using hk)
theorem at_mapN {l : List Nat} {i : Nat} (h : i < l.length) : L2.atI (l.map fun i : Nat => T.int i) (i : Int) = some (.int (l.getD i 0 : Nat)) := by
  rw [at_nat, List.getElem?_map, List.getElem?_eq_getElem h, List.getD_eq_getElem?_getD, List.getElem?_eq_getElem h]
  rfl
theorem spot_ok (h : FnB D "" "_law_spot" d_law_spot) {t : List Int} {s : Int} {i : Nat} (hi : i < (spots s 0 t).length) (q : Q (.int ((spots s 0 t).getD i 0 : Nat)) S) : CallWP D (k + 1) "" "_law_spot" [.tup (t.map .int), pairT s i] S Q X := by
  refine call_ofB h rfl ?_
  simp [d_law_spot, startT_eq, seq?]
  refine wpL_enum (s := s) (fun i' v k' hk => ?_) trivial ?_
  · simp
    exact hk
  · simp [at_mapN hi]
    exact .keep (by simpa using q)
end PC
/-! PlUnrd: what is unread; counts. -/
namespace PC
open PySem
variable {D : Tab} {k : Nat} {C g : Str} {d : Def} {args : List T} {S : Mem} {Q : Wv} {X : Wx}
def mx : List Int → Int
  | [] => 0
  | y :: r => r.foldl max y
theorem bid_mx (l : List Int) : bidT .maxL (.tup (l.map .int)) (.int 0) = some (.int (mx l)) := by
  cases l with
  | nil => rfl
  | cons y r =>
    show ((ints? ((y :: r).map T.int)).bind maxL).map T.int = _
    rw [ints_map]
    rfl
theorem unread_ok (h : HasCross D) {a b : List Int} (ok : OkM a b) (q : Q (pairT (a.length - mx b) (b.length - mx a)) S) : CallWP D (k + 5) "" "unread" [mailT a b] S Q X := by
  refine call_of h.unrd rfl ?_
  simp [d_unread, startT_eq]
  refine need_mail_ok h.need h.toHasMail ok ?_
  simp [mailT, bid_mx]
  exact .keep q
theorem mx_le {l : List Int} (h0 : ∀ x ∈ l, 0 ≤ x) {c : Int} (hc : 0 ≤ c) : mx l ≤ c ↔ ∀ x ∈ l, x ≤ c := by
  cases l with
  | nil => simp [mx, hc]
  | cons y r =>
    obtain ⟨h1, h2, h3⟩ := foldl_max r y
    show r.foldl max y ≤ c ↔ _
    constructor
    · intro h x hx
      rcases List.mem_cons.mp hx with rfl | hx
      · omega
      · have := h3 x hx; omega
    · intro h
      rcases h1 with h1 | h1
      · rw [h1]; exact h y List.mem_cons_self
      · exact h _ (List.mem_cons_of_mem _ h1)
theorem mx_nn {l : List Int} (h0 : ∀ x ∈ l, 0 ≤ x) : 0 ≤ mx l := by
  cases l with
  | nil => simp [mx]
  | cons y r =>
    obtain ⟨h1, h2, h3⟩ := foldl_max r y
    have := h0 y List.mem_cons_self
    show 0 ≤ r.foldl max y
    omega
theorem range_ge (c : Nat) : ∀ n : Nat, ((List.range n).filter fun i => decide (c ≤ i)).length = n - c
  | 0 => by simp
  | n + 1 => by
    rw [List.range_succ, List.filter_append, List.length_append, range_ge c n]
    by_cases h : c ≤ n
    · simp [h]; omega
    · simp [h]; omega
/-- how many of the first n had been read by none of l -/
theorem unread_count {l : List Int} {n : Nat} (h : ∀ x ∈ l, 0 ≤ x ∧ x ≤ n) : (((List.range n).filter fun i : Nat => decide (l.filter (fun x => decide ((i : Int) < x)) = [])).length : Int) = n - mx l := by
  have h0 : ∀ x ∈ l, 0 ≤ x := fun x hx => (h x hx).1
  have m0 := mx_nn h0
  have mn : mx l ≤ n := (mx_le h0 (by omega)).mpr fun x hx => (h x hx).2
  obtain ⟨c, hc⟩ := Int.eq_ofNat_of_zero_le m0
  have e : ∀ i : Nat, decide (l.filter (fun x => decide ((i : Int) < x)) = []) = decide (c ≤ i) := fun i => by
    rw [decide_eq_decide, List.filter_eq_nil_iff]
    have := mx_le h0 (c := i) (by omega)
    rw [hc] at this
    constructor
    · intro z
      have := this.mpr fun x hx => by have := z x hx; simp at this; omega
      omega
    · intro z x hx
      have := this.mp (by omega) x hx
      simp; omega
  rw [show (fun i : Nat => decide (l.filter (fun x => decide ((i : Int) < x)) = [])) = fun i => decide (c ≤ i) from funext e, range_ge, hc]
  omega
end PC
/-! PlThing: what is no whole number, no letter; what can't be. -/
namespace PC
open PySem
variable {D : Tab} {k : Nat} {C g : Str} {d : Def} {args : List T} {S : Mem} {Q : Wv} {X : Wx}
def plainT : T → Bool
  | .ref _ => false
  | .exc _ => false
  | _ => true
def wholeT (lo hi : Int) : T → Bool
  | .int i => decide (lo ≤ i ∧ i ≤ hi)
  | _ => false
theorem vw_pl {t : T} (h : plainT t = true) : vw S t = t := by cases t <;> first | rfl | cases h
theorem is_whole_any (h : D.fn "" "is_whole" = some d_is_whole) {t : T} {lo hi : Int} (ht : plainT t = true) (q : Q (.bl (wholeT lo hi t)) S) : CallWP D (k + 1) "" "is_whole" [t, .int lo, .int hi] S Q X := by
  cases t <;> first | (cases ht; done) | skip
  case int i => exact is_whole_ok h q
  all_goals
    refine call_of h rfl ?_
    simp [d_is_whole, startT_eq, isiT]
    exact .keep q
def letterB (a b : List Int) : T → Bool
  | .tup [.int s, y] => decide (0 ≤ s ∧ s ≤ 1) && wholeT 0 ((bun a b s).length - 1) y
  | _ => false
theorem letterB_1 {a b : List Int} {x : T} : letterB a b (.tup [x]) = false := by cases x <;> rfl
theorem letterB_3 {a b : List Int} {x y z : T} {r : List T} : letterB a b (.tup (x :: y :: z :: r)) = false := by cases x <;> rfl
/-- a thing whose parts are plain -/
def plain2 : T → Bool
  | .tup xs => xs.all plainT
  | t => plainT t
theorem is_letter_any (hl : D.fn "" "is_letter" = some d_is_letter) (h : HasMail D) {a b : List Int} {t : T} (ht : plain2 t = true) (q : Q (.bl (letterB a b t)) S) : CallWP D (k + 2) "" "is_letter" [mailT a b, t] S Q X := by
  refine call_of hl rfl ?_
  cases t with
  | ref i => cases ht
  | exc c => cases ht
  | tup xs =>
    have ht : xs.all plainT = true := ht
    rcases xs with _ | ⟨x, _ | ⟨y, _ | ⟨z, r⟩⟩⟩
    · simp [d_is_letter, startT_eq, isiT]; exact .keep q
    · rw [letterB_1] at q; simp [d_is_letter, startT_eq, isiT]; exact .keep q
    · simp at ht
      simp [d_is_letter, startT_eq]
      refine is_whole_any h.whole ht.1 ?_
      cases x with
      | int s => ?_
      | _ => exact .keep q
      by_cases hs : 0 ≤ s ∧ s ≤ 1
      · have hw : wholeT 0 1 (.int s) = true := by simp [wholeT, hs]
        rw [hw]
        have e : letterB a b (.tup [.int s, y]) = wholeT 0 ((bun a b s).length - 1) y := by simp [letterB, hs]
        rw [e] at q
        have h01 : s = 0 ∨ s = 1 := by omega
        rcases h01 with rfl | rfl
        · simp [mailT]
          exact is_whole_any h.whole ht.2 (.keep q)
        · simp [mailT]
          exact is_whole_any h.whole ht.2 (.keep q)
      · have hw : wholeT 0 1 (.int s) = false := by simp only [wholeT]; exact decide_eq_false hs
        rw [hw]
        have e : letterB a b (.tup [.int s, y]) = false := by simp only [letterB]; rw [decide_eq_false hs]; rfl
        rw [e] at q
        exact .keep q
    · simp [d_is_letter, startT_eq, isiT]
      rw [if_neg (by omega)]
      rw [letterB_3] at q
      exact .keep q
  | _ =>
    simp [d_is_letter, startT_eq, isiT]
    exact .keep q
theorem need_letter_any (hn : D.fn "" "need_letter" = some d_need_letter) (hl : D.fn "" "is_letter" = some d_is_letter) (h : HasMail D) {a b : List Int} {t : T} (ht : plain2 t = true) (hf : letterB a b t = false) (q : X "BadLetter" S) : CallWP D (k + 3) "" "need_letter" [mailT a b, t] S Q X := by
  refine call_of hn rfl ?_
  simp [d_need_letter, startT_eq]
  refine is_letter_any hl h ht ?_
  rw [hf]
  exact .keep q
def d_need_there : Def := ⟨["mail"], 1,
    (.cons (.ifs (.not (.call "is_there" (.cons (.var 0) .nil))) (.cons (.raise "Nothing")
    .nil) .nil)
    .nil)⟩
theorem need_there_ok (hn : D.fn "" "need_there" = some d_need_there) (h : HasCan D) {a b : List Int} (ok : OkM a b) (q : if barL a b = [] then Q .non S else X "Nothing" S) : CallWP D (k + 4) "" "need_there" [mailT a b] S Q X := by
  refine call_of hn rfl ?_
  simp [d_need_there, startT_eq]
  have := ok.la
  have := ok.lb
  refine there_ok h (by omega) (by omega) ?_
  by_cases hb : barL a b = []
  · rw [if_pos hb] at q
    simp [hb]
    exact .keep q
  · rw [if_neg hb] at q
    simp [hb]
    exact .keep q
/-- the told pair -/
abbrev refT (c : Str) : T := .tup [.str "refused", .str c]
theorem mul2 (t : T) : binT .Mult (.lst [t]) (.int 2) = some (.lst [t, t]) := by
  simp [binT, repL, line]
theorem ne_ref (c : Str) (h : PyData.strOk c = true) : cmpT .NotEq (refT c) (refT c) = some false := by
  have hr : PyData.strOk ("refused" : Str) = true := by decide +kernel
  simp [cmpT, pln, eqT, eqTs, h, hr]
theorem ne_ref2 (c : Str) (h : PyData.strOk c = true) : cmpT .NotEq (.lst [refT c, refT c]) (.lst [refT c, refT c]) = some false := by
  have hr : PyData.strOk ("refused" : Str) = true := by decide +kernel
  simp [cmpT, pln, eqT, eqTs, h, hr]
end PC
/-! PlSight: what a writer knows. -/
namespace PC
open PySem
variable {D : Tab} {k : Nat} {C g : Str} {d : Def} {args : List T} {S : Mem} {Q : Wv} {X : Wx}
def d_known : Def := ⟨["mail", "letter", "depth", "many", "turn", "side", "number"], 3,
    (.cons (.asgT (.two 5 6) (.var 1))
    (.cons (.asg 3 (.idx (.idx (.var 0) (.var 5)) (.var 6)))
    (.cons (.fors (.one 4) (.rng1 (.var 2)) (.cons (.ifs (.cmp .Eq (.var 3) (.int 0)) (.cons (.ret (.int 0))
    .nil) .nil)
    (.cons (.asg 5 (.bin .Sub (.int 1) (.var 5)))
    (.cons (.asg 3 (.idx (.idx (.var 0) (.var 5)) (.bin .Sub (.var 3) (.int 1))))
    .nil))))
    (.cons (.ret (.var 3))
    .nil))))⟩
def d_deepest : Def := ⟨["mail", "letter", "some", "depth"], 2,
    (.cons (.expr (.call "need_mail" (.cons (.var 0) .nil)))
    (.cons (.expr (.call "need_letter" (.cons (.var 0) (.cons (.var 1) .nil))))
    (.cons (.expr (.call "need_there" (.cons (.var 0) .nil)))
    (.cons (.asg 2 (.comp (.var 3) [3] (.one 3) (.rng1 (.bin .Add (.glob "DEEPEST") (.int 1))) (.some (.cmp .Gt (.call "known" (.cons (.var 0) (.cons (.var 1) (.cons (.var 3) .nil)))) (.int 0)))))
    (.cons (.ret (.bid .maxL (.var 2) .non))
    .nil)))))⟩
def d_knows : Def := ⟨["mail", "letter", "depth"], 3,
    (.cons (.expr (.call "need_mail" (.cons (.var 0) .nil)))
    (.cons (.expr (.call "need_letter" (.cons (.var 0) (.cons (.var 1) .nil))))
    (.cons (.ifs (.not (.call "is_whole" (.cons (.var 2) (.cons (.int 0) (.cons (.glob "DEEPEST") .nil))))) (.cons (.raise "BadNumber")
    .nil) .nil)
    (.cons (.expr (.call "need_there" (.cons (.var 0) .nil)))
    (.cons (.ret (.call "known" (.cons (.var 0) (.cons (.var 1) (.cons (.var 2) .nil)))))
    .nil)))))⟩
@[simp] theorem vw_mail {a b : List Int} : vw S (mailT a b) = mailT a b := rfl
/-- by n depths on, from so many of the other side's letters -/
def kv (a b : List Int) : Nat → Int → Int → Int
  | 0, _, m => m
  | n + 1, s, m => if m = 0 then 0 else kv a b n (1 - s) ((bun a b (1 - s)).getD (m.toNat - 1) 0)
theorem bun_ok {a b : List Int} (ok : OkM a b) {s : Int} (hs : s = 0 ∨ s = 1) : (bun a b s).length ≤ 7 ∧ (∀ x ∈ bun a b s, 0 ≤ x ∧ x ≤ (bun a b (1 - s)).length) ∧ (bun a b s).Pairwise (· ≤ ·) := by
  rcases hs with rfl | rfl
  · exact ⟨ok.la, ok.ra, ok.sa⟩
  · exact ⟨ok.lb, ok.rb, ok.sb⟩
theorem bun_at {a b : List Int} (ok : OkM a b) {s : Int} (hs : s = 0 ∨ s = 1) {i : Nat} (hi : i < (bun a b s).length) : 0 ≤ (bun a b s).getD i 0 ∧ (bun a b s).getD i 0 ≤ (bun a b (1 - s)).length := (bun_ok ok hs).2.1 _ (getD_mem hi)
/-- mail[side][number] -/
theorem idx_mail {a b : List Int} {s : Int} (hs : s = 0 ∨ s = 1) : idxT (mailT a b) (.int s) = some (.tup ((bun a b s).map .int)) := by
  rcases hs with rfl | rfl
  · simp [-List.getD_eq_getElem?_getD, mailT, bun]
  · simp [-List.getD_eq_getElem?_getD, mailT, bun]
theorem idx_bun {a b : List Int} {s : Int} {i : Int} (h0 : 0 ≤ i) (hi : i.toNat < (bun a b s).length) : idxT (.tup ((bun a b s).map .int)) (.int i) = some (.int ((bun a b s).getD i.toNat 0)) := by
  obtain ⟨n, rfl⟩ := Int.eq_ofNat_of_zero_le h0
  simp [-List.getD_eq_getElem?_getD] at hi
  simp [-List.getD_eq_getElem?_getD, at_map hi]
theorem flip01 {s : Int} (hs : s = 0 ∨ s = 1) : 1 - s = 0 ∨ 1 - s = 1 := by omega
theorem known_ok (h : D.fn "" "known" = some d_known) {a b : List Int} (ok : OkM a b) {s : Int} {i n : Nat} (hs : s = 0 ∨ s = 1) (hi : i < (bun a b s).length) (hn : n ≤ 1000) (q : Q (.int (kv a b n s ((bun a b s).getD i 0))) S) :
    CallWP D (k + 1) "" "known" [mailT a b, pairT s i, .int n] S Q X := by
  refine call_of h rfl ?_
  have e : line = 16777216 := rfl
  simp [-List.getD_eq_getElem?_getD, d_known, startT_eq, idx_mail hs]
  rw [show L2.atI ((bun a b s).map T.int) (i : Int) = some (.int ((bun a b s).getD i 0)) from at_map hi]
  simp [-List.getD_eq_getElem?_getD]
  refine ⟨by omega, ?_⟩
  refine wpFor_inv (P := fun r σ S1 => ∃ (s' m : Int) (x4 : Option T), σ = [some (mailT a b), some (pairT s i), some (.int n), some (.int m), x4, some (.int s'), some (.int i)] ∧ S1 = S ∧ (s' = 0 ∨ s' = 1) ∧ 0 ≤ m ∧ m ≤ (bun a b (1 - s')).length ∧ kv a b r.length s' m = kv a b n s ((bun a b s).getD i 0)) (fun _ _ _ _ => trivial) ?_ ?_
    ⟨s, (bun a b s).getD i 0, none, rfl, rfl, hs, (bun_at ok hs hi).1, (bun_at ok hs hi).2, by simp [-List.getD_eq_getElem?_getD, rangeT]⟩
  · rintro x r σ S1 ⟨s', m, x4, rfl, rfl, hs', h0, h1, hk⟩ KK hKK
    have hk : kv a b (r.length + 1) s' m = _ := hk
    simp [-List.getD_eq_getElem?_getD]
    by_cases hm : m = 0
    · rw [if_pos hm]
      rw [kv, if_pos hm] at hk
      rw [← hk] at q
      exact .keep q
    · rw [if_neg hm]
      simp [-List.getD_eq_getElem?_getD, idx_mail (flip01 hs')]
      rw [show L2.atI ((bun a b (1 - s')).map T.int) (m - 1) = some (.int ((bun a b (1 - s')).getD (m.toNat - 1) 0)) from by
        have z := idx_bun (a := a) (b := b) (s := 1 - s') (i := m - 1) (by omega) (by omega)
        rwa [show (m - 1).toNat = m.toNat - 1 by omega] at z]
      simp [-List.getD_eq_getElem?_getD]
      rw [kv, if_neg hm] at hk
      have hb := bun_at ok (flip01 hs') (i := m.toNat - 1) (by omega)
      exact hKK _ _ ⟨1 - s', _, some x, rfl, rfl, flip01 hs', hb.1, hb.2, hk⟩
  · rintro σ S1 ⟨s', m, x4, rfl, rfl, hs', h0, h1, hk⟩
    simp [-List.getD_eq_getElem?_getD]
    rw [← hk] at q
    exact .keep q
structure HasSight (D : Tab) : Prop extends HasCan D where
  there' : D.fn "" "need_there" = some d_need_there
  known : D.fn "" "known" = some d_known
  knows : D.fn "" "knows" = some d_knows
  deepest : D.fn "" "deepest" = some d_deepest
  DEEP : D.G "DEEPEST" = some (.int 20)
theorem knows_ok (h : HasSight D) {a b : List Int} (ok : OkM a b) {s : Int} {i n : Nat} (hs : s = 0 ∨ s = 1) (hi : i < (bun a b s).length) (hn : n ≤ 20) (q : if barL a b = [] then Q (.int (kv a b n s ((bun a b s).getD i 0))) S else X "Nothing" S) :
    CallWP D (k + 5) "" "knows" [mailT a b, pairT s i, .int n] S Q X := by
  refine call_of h.knows rfl ?_
  simp [-List.getD_eq_getElem?_getD, d_knows, startT_eq, h.DEEP]
  refine need_mail_ok h.need h.toHasMail ok ?_
  refine need_letter_ok (k := k + 1) h.needl h.isl h.toHasMail hs hi ?_
  refine is_whole_ok (k := k + 3) h.whole ?_
  rw [decide_eq_true (by omega)]
  simp [-List.getD_eq_getElem?_getD]
  refine need_there_ok h.there' h.toHasCan ok ?_
  by_cases hb : barL a b = []
  · rw [if_pos hb] at q ⊢
    exact known_ok (k := k + 3) h.known ok hs hi (by omega) (.keep q)
  · rw [if_neg hb] at q ⊢
    exact .keep q
theorem knows_bad (h : HasSight D) {a b : List Int} (ok : OkM a b) {t u : T} (ht : plain2 t = true) (hf : letterB a b t = false) (q : X "BadLetter" S) : CallWP D (k + 5) "" "knows" [mailT a b, t, u] S Q X := by
  refine call_of h.knows rfl ?_
  simp [-List.getD_eq_getElem?_getD, d_knows, startT_eq, h.DEEP]
  refine need_mail_ok h.need h.toHasMail ok ?_
  exact need_letter_any (k := k + 1) h.needl h.isl h.toHasMail ht hf (.keep q)
theorem knows_no (h : HasSight D) {a b : List Int} (ok : OkM a b) {s : Int} {i : Nat} (hs : s = 0 ∨ s = 1) (hi : i < (bun a b s).length) {u : T} (hu : plainT u = true) (hf : wholeT 0 20 u = false) (q : X "BadNumber" S) : CallWP D (k + 5) "" "knows" [mailT a b, pairT s i, u] S Q X := by
  refine call_of h.knows rfl ?_
  simp [-List.getD_eq_getElem?_getD, d_knows, startT_eq, h.DEEP]
  refine need_mail_ok h.need h.toHasMail ok ?_
  refine need_letter_ok (k := k + 1) h.needl h.isl h.toHasMail hs hi ?_
  refine is_whole_any (k := k + 3) h.whole hu ?_
  rw [hf]
  exact .keep q
theorem deepest_bad (h : HasSight D) {a b : List Int} (ok : OkM a b) {t : T} (ht : plain2 t = true) (hf : letterB a b t = false) (q : X "BadLetter" S) : CallWP D (k + 5) "" "deepest" [mailT a b, t] S Q X := by
  refine call_of h.deepest rfl ?_
  simp [-List.getD_eq_getElem?_getD, d_deepest, startT_eq, h.DEEP]
  refine need_mail_ok h.need h.toHasMail ok ?_
  exact need_letter_any (k := k + 1) h.needl h.isl h.toHasMail ht hf (.keep q)
/-- the depths above 0 -/
def depths (a b : List Int) (s : Int) (i : Nat) : List Nat := (List.range 21).filter fun n => decide (0 < kv a b n s ((bun a b s).getD i 0))
def lastT : List Nat → T
  | [] => .non
  | x :: r => .int ((r.getLastD x : Nat) : Int)
theorem foldl_up : ∀ (r : List Nat) (x : Nat), (x :: r).Pairwise (· < ·) → (r.map fun n : Nat => (n : Int)).foldl max (x : Int) = ((r.getLastD x : Nat) : Int)
  | [], x, _ => rfl
  | y :: r, x, h => by
    have h1 := (List.pairwise_cons.mp h).1 y List.mem_cons_self
    have h2 := (List.pairwise_cons.mp h).2
    rw [List.map_cons, List.foldl_cons, show max (x : Int) (y : Int) = (y : Int) by omega, foldl_up r y h2, List.getLastD_cons]
theorem bid_last {l : List Nat} (h : l.Pairwise (· < ·)) : bidT .maxL (.lst (l.map fun n : Nat => T.int n)) .non = some (lastT l) := by
  cases l with
  | nil => rfl
  | cons x r =>
    show ((ints? ((x :: r).map fun n : Nat => T.int n)).bind maxL).map T.int = _
    rw [show ((x :: r).map fun n : Nat => T.int n) = ((x :: r).map fun n : Nat => (n : Int)).map T.int by rw [List.map_map]; rfl, ints_map]
    show some (T.int ((r.map fun n : Nat => (n : Int)).foldl max (x : Int))) = _
    rw [foldl_up r x h]
    rfl
theorem depths_up (a b : List Int) (s : Int) (i : Nat) : (depths a b s i).Pairwise (· < ·) := List.Pairwise.filter _ List.pairwise_lt_range
theorem wpL_rng {g : Mem → Prop} {body : T → Mem → (List T → Mem → Prop) → Prop} {h : Nat → T} {p : Nat → Bool} {K : List T → Mem → Prop} {n : Nat} (hb : ∀ i, i < n → ∀ k : List T → Mem → Prop, (if p i = true then k [h i] S else k [] S) → body (.int (i : Nat)) S k) (hg : g S) (hk : K (((List.range n).filter p).map h) S) : wpL g body (rangeT 0 n) [] S K := by
  have e : rangeT 0 n = (List.range n).map fun i : Nat => T.int i := by unfold rangeT; simp [-List.getD_eq_getElem?_getD]
  rw [e]
  exact wpL_filter (p := p) (h := h) (fun x hx k hk => hb x (List.mem_range.mp hx) k hk) hg hk
theorem deepest_ok (h : HasSight D) {a b : List Int} (ok : OkM a b) {s : Int} {i : Nat} (hs : s = 0 ∨ s = 1) (hi : i < (bun a b s).length) (q : if barL a b = [] then Q (lastT (depths a b s i)) S else X "Nothing" S) :
    CallWP D (k + 5) "" "deepest" [mailT a b, pairT s i] S Q X := by
  refine call_of h.deepest rfl ?_
  have e : line = 16777216 := rfl
  simp [-List.getD_eq_getElem?_getD, d_deepest, startT_eq, h.DEEP]
  refine need_mail_ok h.need h.toHasMail ok ?_
  refine need_letter_ok (k := k + 1) h.needl h.isl h.toHasMail hs hi ?_
  refine need_there_ok h.there' h.toHasCan ok ?_
  by_cases hb : barL a b = []
  · rw [if_pos hb] at q ⊢
    refine ⟨by decide, ?_⟩
    refine wpL_rng (n := 21) (p := fun n => decide (0 < kv a b n s ((bun a b s).getD i 0))) (h := fun n : Nat => T.int n) (fun n hn k' hk => ?_) trivial ?_
    · refine known_ok (k := k + 3) h.known ok hs hi (by omega) ?_
      simp [-List.getD_eq_getElem?_getD] at hk ⊢
      exact hk
    · rw [show ((List.range 21).filter fun n => decide (0 < kv a b n s ((bun a b s).getD i 0))) = depths a b s i from rfl, bid_last (depths_up a b s i)]
      exact .keep q
  · rw [if_neg hb] at q ⊢
    exact .keep q
end PC
/-! PlKnow: what is known, in mail that can be. -/
namespace PC
open PySem
/-- a for's loop that leaves the memory -/
theorem wpFor_each {g : Mem → Prop} {body : T → Sl → Mem → (Sl → Mem → Prop) → Prop} {K : Sl → Mem → Prop} {S : Mem} (P : Sl → Prop) : ∀ {xs : List T} {σ : Sl}, (∀ x ∈ xs, ∀ σ, P σ → ∀ KK : Sl → Mem → Prop, (∀ σ', P σ' → KK σ' S) → body x σ S KK) → g S → (∀ σ, P σ → K σ S) → P σ → wpFor g body xs σ S K
  | [], σ, _, hg, hd, p => ⟨hg, hd σ p⟩
  | x :: xs, σ, hs, hg, hd, p => ⟨hg, hs x List.mem_cons_self σ p _ fun σ' p' => wpFor_each P (fun y hy => hs y (List.mem_cons_of_mem _ hy)) hg hd p'⟩
theorem mem_rangeT {lo : Int} {n : Nat} {x : T} (h : x ∈ rangeT lo n) : ∃ i : Nat, i < n ∧ x = .int (lo + i) := by
  unfold rangeT at h
  obtain ⟨i, hi, rfl⟩ := List.mem_map.mp h
  exact ⟨i, List.mem_range.mp hi, rfl⟩
theorem flip2 (s : Int) : 1 - (1 - s) = s := by omega
theorem free_s {a b : List Int} (h : barL a b = []) {s : Int} (hs : s = 0 ∨ s = 1) {i j : Nat} (hi : i < (bun a b s).length) (hj : j < (bun a b (1 - s)).length) : ¬((j : Int) < (bun a b s).getD i 0 ∧ (i : Int) < (bun a b (1 - s)).getD j 0) := by
  rcases hs with rfl | rfl
  · exact bar_free h hi hj
  · have := bar_free h (i := j) (j := i) hj hi
    exact fun z => this ⟨z.2, z.1⟩
theorem pw_mono {l : List Int} (h : l.Pairwise (· ≤ ·)) {i j : Nat} (hij : i ≤ j) (hj : j < l.length) : l.getD i 0 ≤ l.getD j 0 := by
  rw [List.getD_eq_getElem?_getD, List.getD_eq_getElem?_getD, List.getElem?_eq_getElem hj, List.getElem?_eq_getElem (Nat.lt_of_le_of_lt hij hj)]
  show l[i] ≤ l[j]
  rcases Nat.lt_or_eq_of_le hij with h' | rfl
  · exact List.pairwise_iff_getElem.mp h i j _ _ h'
  · exact Int.le_refl _
theorem kv_S {a b : List Int} (n : Nat) (s m : Int) : kv a b (n + 1) s m = if m = 0 then 0 else kv a b n (1 - s) ((bun a b (1 - s)).getD (m.toNat - 1) 0) := rfl
/-- the next number -/
theorem nx_ok {a b : List Int} (ok : OkM a b) {s m : Int} (hs : s = 0 ∨ s = 1) (h0 : 0 ≤ m) (h1 : m ≤ (bun a b (1 - s)).length) (hm : m ≠ 0) :
    0 ≤ (bun a b (1 - s)).getD (m.toNat - 1) 0 ∧ (bun a b (1 - s)).getD (m.toNat - 1) 0 ≤ (bun a b (1 - (1 - s))).length :=
  bun_at ok (flip01 hs) (by omega)
theorem kv_nn {a b : List Int} (ok : OkM a b) : ∀ (n : Nat) (s m : Int), (s = 0 ∨ s = 1) → 0 ≤ m → m ≤ (bun a b (1 - s)).length → 0 ≤ kv a b n s m
  | 0, s, m, hs, h0, h1 => h0
  | n + 1, s, m, hs, h0, h1 => by
    rw [kv_S]
    by_cases hm : m = 0
    · rw [if_pos hm]; exact Int.le_refl _
    · rw [if_neg hm]
      have := nx_ok ok hs h0 h1 hm
      exact kv_nn ok n _ _ (flip01 hs) this.1 this.2
theorem kv_pos {a b : List Int} (ok : OkM a b) : ∀ (n : Nat) (s m : Int), (s = 0 ∨ s = 1) → 0 ≤ m → m ≤ (bun a b (1 - s)).length → 0 < kv a b (n + 1) s m → 0 < kv a b n s m
  | 0, s, m, hs, h0, h1, h => by
    rw [kv_S] at h
    show 0 < m
    split at h <;> omega
  | n + 1, s, m, hs, h0, h1, h => by
    rw [kv_S] at h ⊢
    by_cases hm : m = 0
    · rw [if_pos hm] at h; omega
    · rw [if_neg hm] at h ⊢
      have := nx_ok ok hs h0 h1 hm
      exact kv_pos ok n _ _ (flip01 hs) this.1 this.2 h
theorem kv_drop {a b : List Int} (ok : OkM a b) (hb : barL a b = []) : ∀ (n : Nat) (s m : Int), (s = 0 ∨ s = 1) → 0 ≤ m → m ≤ (bun a b (1 - s)).length → 0 < kv a b (n + 2) s m → kv a b (n + 2) s m < kv a b n s m
  | 0, s, m, hs, h0, h1, h => by
    show kv a b 2 s m < m
    have h : 0 < kv a b 2 s m := h
    rw [kv_S] at h ⊢
    by_cases hm : m = 0
    · rw [if_pos hm] at h; omega
    · rw [if_neg hm] at h ⊢
      have n1 := nx_ok ok hs h0 h1 hm
      rw [kv_S] at h ⊢
      by_cases hm' : (bun a b (1 - s)).getD (m.toNat - 1) 0 = 0
      · rw [if_pos hm'] at h; omega
      · rw [if_neg hm'] at h ⊢
        show (bun a b (1 - (1 - s))).getD _ 0 < m
        rw [flip2] at n1 ⊢
        have := free_s hb hs (i := ((bun a b (1 - s)).getD (m.toNat - 1) 0).toNat - 1) (j := m.toNat - 1) (by omega) (by omega)
        omega
  | n + 1, s, m, hs, h0, h1, h => by
    rw [kv_S] at h ⊢
    rw [kv_S (n := n)]
    by_cases hm : m = 0
    · rw [if_pos hm] at h; omega
    · rw [if_neg hm] at h
      rw [if_neg hm, if_neg hm]
      have := nx_ok ok hs h0 h1 hm
      exact kv_drop ok hb n _ _ (flip01 hs) this.1 this.2 h
/-- what holds of the next holds of this one: a range -/
theorem filter_run {p : Nat → Bool} (hp : ∀ n, p (n + 1) = true → p n = true) : ∀ n : Nat, (List.range n).filter p = List.range ((List.range n).filter p).length
  | 0 => rfl
  | n + 1 => by
    rw [List.range_succ, List.filter_append]
    by_cases h : p n = true
    · have e : (List.range n).filter p = List.range n := List.filter_eq_self.mpr fun x hx => by
        have : ∀ m x, x + m = n → p x = true := by
          intro m
          induction m with
          | zero => intro x hx; rw [← hx] at h; exact h
          | succ m ih => intro x hx; exact hp x (ih (x + 1) (by omega))
        exact this (n - x) x (by have := List.mem_range.mp hx; omega)
      rw [e]
      simp [-List.getD_eq_getElem?_getD, h, List.range_succ]
    · simp [-List.getD_eq_getElem?_getD, h]
      exact filter_run hp n
theorem depths_run {a b : List Int} (ok : OkM a b) {s : Int} {i : Nat} (hs : s = 0 ∨ s = 1) (hi : i < (bun a b s).length) : depths a b s i = List.range (depths a b s i).length :=
  filter_run (fun n h => by
    have := bun_at ok hs hi
    simp only [decide_eq_true_eq] at h ⊢
    exact kv_pos ok n s _ hs this.1 this.2 h) 21
/-! mail with one letter more -/
theorem bar_none {a b : List Int} (h : ∀ i j : Nat, i < a.length → j < b.length → ¬((j : Int) < a.getD i 0 ∧ (i : Int) < b.getD j 0)) : barL a b = [] := by
  unfold barL
  refine List.filter_eq_nil_iff.mpr fun p hp => ?_
  obtain ⟨h1, h2⟩ := mem_pairsN hp
  simp only [barB, Bool.and_eq_true, decide_eq_true_eq]
  exact h p.1 p.2 h1 h2
theorem ok_flip {a b : List Int} (h : OkM a b) : OkM b a := ⟨h.lb, h.la, h.rb, h.ra, h.sb, h.sa⟩
theorem free_flip {a b : List Int} (h : barL a b = []) : barL b a = [] := bar_none fun i j hi hj z => bar_free h hj hi ⟨z.2, z.1⟩
theorem ok_s {a b : List Int} (h : OkM a b) {s : Int} (hs : s = 0 ∨ s = 1) : OkM (bun a b s) (bun a b (1 - s)) := by
  rcases hs with rfl | rfl
  · exact h
  · exact ok_flip h
theorem free_ss {a b : List Int} (h : barL a b = []) {s : Int} (hs : s = 0 ∨ s = 1) : barL (bun a b s) (bun a b (1 - s)) = [] := by
  rcases hs with rfl | rfl
  · exact h
  · exact free_flip h
theorem mem_take_at {l : List Int} {n : Nat} {x : Int} (h : x ∈ l.take n) : ∃ j : Nat, j < n ∧ j < l.length ∧ x = l.getD j 0 := by
  obtain ⟨j, hj, rfl⟩ := List.mem_iff_getElem.mp h
  have hj' : j < n ∧ j < l.length := by rw [List.length_take] at hj; omega
  refine ⟨j, hj'.1, hj'.2, ?_⟩
  rw [List.getD_eq_getElem?_getD, List.getElem?_eq_getElem hj'.2]
  simp [-List.getD_eq_getElem?_getD]
theorem getD_take {l : List Int} {n j : Nat} (h : j < n) : (l.take n).getD j 0 = l.getD j 0 := by
  rw [List.getD_eq_getElem?_getD, List.getD_eq_getElem?_getD, List.getElem?_take_of_lt h]
theorem getD_snoc {l : List Int} {x : Int} {j : Nat} (h : j < l.length) : (l ++ [x]).getD j 0 = l.getD j 0 := by
  rw [List.getD_eq_getElem?_getD, List.getD_eq_getElem?_getD, List.getElem?_append_left h]
/-- own up to letter i; the other's letters that it had read, and one more -/
theorem wide_ok {a b : List Int} (ok : OkM a b) (hb : barL a b = []) {i : Nat} (hi : i < a.length) {x : Int} (h7 : a.getD i 0 < 7) (hx0 : kv a b 1 0 (a.getD i 0) ≤ x) (hx1 : x ≤ i) :
    OkM (a.take (i + 1)) (b.take (a.getD i 0).toNat ++ [x]) ∧ barL (a.take (i + 1)) (b.take (a.getD i 0).toNat ++ [x]) = [] := by
  have hr := ok.ra _ (getD_mem hi)
  generalize hm : a.getD i 0 = m at *
  have hla : (a.take (i + 1)).length = i + 1 := by rw [List.length_take]; omega
  have hlb : (b.take m.toNat).length = m.toNat := by rw [List.length_take]; omega
  have hown : ∀ j : Nat, j < i + 1 → a.getD j 0 ≤ m := fun j hj => by
    have := pw_mono ok.sa (i := j) (j := i) (by omega) hi
    omega
  have hlow : 0 ≤ kv a b 1 0 m := kv_nn ok 1 0 m (Or.inl rfl) hr.1 hr.2
  have hoth : ∀ j : Nat, j < m.toNat → b.getD j 0 ≤ x := fun j hj => by
    have h1 := pw_mono ok.sb (i := j) (j := m.toNat - 1) (by omega) (by omega)
    rw [kv_S, if_neg (by omega)] at hx0
    have hx0 : b.getD (m.toNat - 1) 0 ≤ x := hx0
    omega
  refine ⟨⟨?_, ?_, ?_, ?_, ?_, ?_⟩, bar_none fun u v hu hv z => ?_⟩
  · have := ok.la; omega
  · rw [List.length_append, hlb]; simp [-List.getD_eq_getElem?_getD]; omega
  · intro y hy
    obtain ⟨j, h1, h2, rfl⟩ := mem_take_at hy
    have := ok.ra _ (getD_mem h2)
    have := hown j h1
    rw [List.length_append, hlb]
    simp [-List.getD_eq_getElem?_getD]
    omega
  · intro y hy
    rw [hla]
    rcases List.mem_append.mp hy with hy | hy
    · obtain ⟨j, h1, h2, rfl⟩ := mem_take_at hy
      have := ok.rb _ (getD_mem h2)
      have := hoth j h1
      omega
    · rw [List.mem_singleton.mp hy]
      omega
  · exact ok.sa.sublist (List.take_sublist ..)
  · refine sorted_snoc (ok.sb.sublist (List.take_sublist ..)) fun y hy => ?_
    obtain ⟨j, h1, h2, rfl⟩ := mem_take_at hy
    exact hoth j h1
  · rw [hla] at hu
    rw [getD_take hu] at z
    rw [List.length_append, hlb] at hv
    simp [-List.getD_eq_getElem?_getD] at hv
    by_cases hv' : v < m.toNat
    · rw [getD_snoc (by omega), getD_take hv'] at z
      exact bar_free hb (by omega) (by omega) z
    · have := hown u hu
      omega
end PC
/-! PlMore: loops over memory that grows; letters; beginnings. -/
namespace PC
open PySem
variable {D : Tab} {k : Nat} {C g : Str} {d : Def} {args : List T} {S : Mem} {Q : Wv} {X : Wx}
theorem wpL_rngm {g : Mem → Prop} {body : T → Mem → (List T → Mem → Prop) → Prop} {h : Nat → T} {K : List T → Mem → Prop} {n : Nat} (hb : ∀ i, i < n → ∀ k : List T → Mem → Prop, k [h i] S → body (.int (i : Nat)) S k) (hg : g S) (hk : K ((List.range n).map h) S) : wpL g body (rangeT 0 n) [] S K := by
  have e : rangeT 0 n = (List.range n).map fun i : Nat => T.int i := by unfold rangeT; simp [-List.getD_eq_getElem?_getD, -List.map_take]
  rw [e]
  refine wpL_on (f := fun n => [h n]) (fun x hx k hk => hb x (List.mem_range.mp hx) k hk) hg ?_
  rw [List.nil_append]
  have : ∀ l : List Nat, l.flatMap (fun n => [h n]) = l.map h := fun l => by induction l <;> simp_all [-List.getD_eq_getElem?_getD, -List.map_take]
  rw [this]
  exact hk
theorem cut_to {α : Type} (xs : List α) (n : Nat) : cut xs none (some (n : Int)) = xs.take n := by
  unfold cut
  rw [HT.sIx_nat]
  show ((xs.drop 0).take (min n xs.length - 0)) = _
  rw [List.drop_zero, Nat.sub_zero, List.take_eq_take_min (i := n)]
theorem mem_let {a b : List Int} {x : T} (h : x ∈ letT a.length b.length) : ∃ (s : Int) (i : Nat), (s = 0 ∨ s = 1) ∧ i < (bun a b s).length ∧ x = pairT s i := by
  rcases List.mem_append.mp h with h | h
  · obtain ⟨i, hi, rfl⟩ := List.mem_map.mp h
    exact ⟨0, i, Or.inl rfl, List.mem_range.mp hi, rfl⟩
  · obtain ⟨i, hi, rfl⟩ := List.mem_map.mp h
    exact ⟨1, i, Or.inr rfl, List.mem_range.mp hi, rfl⟩
theorem wpFor_gro {g : Mem → Prop} {body : T → Sl → Mem → (Sl → Mem → Prop) → Prop} {K : Sl → Mem → Prop} {S0 : Mem} (P : Sl → Prop) (hg : ∀ S, g S) : ∀ {xs : List T} {σ : Sl} {S : Mem}, (∀ x ∈ xs, ∀ σ M, P σ → ∀ KK : Sl → Mem → Prop, (∀ σ' M', P σ' → KK σ' (S0 ++ M')) → body x σ (S0 ++ M) KK) → (∀ σ M, P σ → K σ (S0 ++ M)) → P σ → (∃ M, S = S0 ++ M) → wpFor g body xs σ S K
  | [], σ, S, _, hd, p, ⟨M, e⟩ => ⟨hg _, e ▸ hd σ M p⟩
  | x :: xs, σ, S, hs, hd, p, ⟨M, e⟩ => ⟨hg _, e ▸ hs x List.mem_cons_self σ M p _ fun σ' M' p' => wpFor_gro P hg (fun y hy => hs y (List.mem_cons_of_mem _ hy)) hd p' ⟨M', rfl⟩⟩
theorem eq_ints : ∀ l : List Int, eqTs (l.map T.int) (l.map T.int) = true
  | [] => rfl
  | x :: r => by simp [-List.getD_eq_getElem?_getD, -List.map_take, eqTs, eqT, eq_ints r]
theorem eq_mailT (a b : List Int) : eqT (mailT a b) (mailT a b) = true := by
  simp [-List.getD_eq_getElem?_getD, -List.map_take, mailT, eqT, eqTs, eq_ints]
theorem pln_tints (n : Nat) (a : List Int) : pln (n + 1) (.tup (a.map .int)) = true := by
  induction a <;> simp_all [-List.getD_eq_getElem?_getD, -List.map_take, pln]
theorem pln_mail (n : Nat) (a b : List Int) : pln (n + 2) (mailT a b) = true := by
  have h1 := pln_tints n a
  have h2 := pln_tints n b
  simp_all [-List.getD_eq_getElem?_getD, -List.map_take, mailT, pln]
theorem ne_mailT (a b : List Int) : cmpT .NotEq (mailT a b) (mailT a b) = some false := by
  rw [cmp_nep (pln_mail 58 a b) (pln_mail 58 a b), eq_mailT]
  rfl
/-- a letter of mail, or none -/
theorem idx_letter {a b : List Int} {s : Int} (hs : s = 0 ∨ s = 1) {i : Nat} (hi : i < (bun a b s).length) : L2.atI ((bun a b s).map T.int) (i : Int) = some (.int ((bun a b s).getD i 0)) := at_map hi
end PC
/-! PlSeen: what a writer had seen; orders by number. -/
namespace PC
open PySem
variable {D : Tab} {k : Nat} {C g : Str} {d : Def} {args : List T} {S : Mem} {Q : Wv} {X : Wx}
def d_how_many : Def := ⟨["mail"], 1,
    (.cons (.expr (.call "need_mail" (.cons (.var 0) .nil)))
    (.cons (.ret (.call "count_of" (.cons (.var 0) .nil)))
    .nil))⟩
def d_order_at : Def := ⟨["mail", "number"], 2,
    (.cons (.expr (.call "need_mail" (.cons (.var 0) .nil)))
    (.cons (.ifs (.not (.call "is_whole" (.cons (.var 1) (.cons (.int 0) (.cons (.bin .Sub (.call "count_of" (.cons (.var 0) .nil)) (.int 1)) .nil))))) (.cons (.raise "BadNumber")
    .nil) .nil)
    (.cons (.ret (.meth (.mk "Ways" (.cons (.var 0) .nil)) "Ways" "at" (.cons (.var 1) .nil)))
    .nil)))⟩
def d_seen_at : Def := ⟨["mail", "letter", "side", "number", "own", "other"], 2,
    (.cons (.expr (.call "need_mail" (.cons (.var 0) .nil)))
    (.cons (.expr (.call "need_letter" (.cons (.var 0) (.cons (.var 1) .nil))))
    (.cons (.expr (.call "need_there" (.cons (.var 0) .nil)))
    (.cons (.asgT (.two 2 3) (.var 1))
    (.cons (.par (.two 4 5) (.cons (.slc (.idx (.var 0) (.var 2)) .none (.some (.bin .Add (.var 3) (.int 1)))) (.cons (.slc (.idx (.var 0) (.bin .Sub (.int 1) (.var 2))) .none (.some (.idx (.idx (.var 0) (.var 2)) (.var 3)))) .nil)))
    (.cons (.ret (.ife (.cmp .Eq (.var 2) (.int 0)) (.tup (.cons (.var 4) (.cons (.var 5) .nil))) (.tup (.cons (.var 5) (.cons (.var 4) .nil)))))
    .nil))))))⟩
structure HasOrd (D : Tab) : Prop extends HasFirst D, HasMail D where
  need : D.fn "" "need_mail" = some d_need_mail
  many : D.fn "" "how_many" = some d_how_many
  oat : D.fn "" "order_at" = some d_order_at
/-- how many orders there are -/
def cntA (a b : List Int) : Nat := cnt a b (a.length + b.length) 0 0
def ordA (a b : List Int) (n : Nat) : List Int := ordAt a b (a.length + b.length) 0 0 n
theorem how_many_ok (h : HasOrd D) {a b : List Int} (ok : OkM a b) (q : Q (.int (cntA a b : Nat)) S) : CallWP D (k + 23) "" "how_many" [mailT a b] S Q X := by
  refine call_of h.many rfl ?_
  have ha := ok.la
  have hb := ok.lb
  simp [-List.getD_eq_getElem?_getD, -List.map_take, d_how_many, startT_eq]
  refine need_mail_ok (k := k + 18) h.need h.toHasMail ok ?_
  refine count_of_ok h.toHasFirst (by omega) (by omega) ?_
  exact .keep q
theorem order_at_ok (h : HasOrd D) {a b : List Int} (ok : OkM a b) {n : Nat} (hn : n < cntA a b) (q : Pth a b (ordA a b n) a.length b.length → Q (.tup ((ordA a b n).map .int)) S) : CallWP D (k + 23) "" "order_at" [mailT a b, .int n] S Q X := by
  refine call_of h.oat rfl ?_
  have ha := ok.la
  have hb := ok.lb
  simp [-List.getD_eq_getElem?_getD, -List.map_take, d_order_at, startT_eq]
  refine need_mail_ok (k := k + 18) h.need h.toHasMail ok ?_
  refine count_of_ok h.toHasFirst (by omega) (by omega) ?_
  simp [-List.getD_eq_getElem?_getD, -List.map_take]
  refine is_whole_ok (k := k + 21) h.whole ?_
  rw [decide_eq_true (by unfold cntA at hn; omega)]
  simp [-List.getD_eq_getElem?_getD, -List.map_take]
  refine init_ok h.toHasWays ⟨rfl, ?_⟩
  rw [ob_ref ways0.ins]
  refine ⟨⟨rfl, fun x y hxy => ?_⟩, ?_⟩
  · simp [-List.getD_eq_getElem?_getD, -List.map_take] at hxy
    rcases hxy with ⟨rfl, _⟩ | ⟨rfl, _⟩ <;> decide +kernel
  refine atn_ok h.toHasFirst (by omega) (by omega) ways0 hn fun t l' hp ht => ?_
  have e : (S ++ [waysT a b S.length, .dct [] []]).set (S.length + 1) (knT a b l') = S ++ [waysT a b S.length, knT a b l'] := by
    rw [List.set_append_right _ _ (Nat.le_add_right _ _)]
    simp [-List.getD_eq_getElem?_getD, -List.map_take]
  rw [e]
  subst ht
  refine .drop ⟨_, rfl, rfl, fun i o hi => .inl hi⟩ ?_ (q hp)
  simp [-List.getD_eq_getElem?_getD, -List.map_take, rfr]
/-! what was seen -/
def seenT (a b : List Int) (s : Int) (i : Nat) : T := if s = 0 then mailT ((bun a b s).take (i + 1)) ((bun a b (1 - s)).take ((bun a b s).getD i 0).toNat) else mailT ((bun a b (1 - s)).take ((bun a b s).getD i 0).toNat) ((bun a b s).take (i + 1))
structure HasSeen (D : Tab) : Prop extends HasCan D where
  there' : D.fn "" "need_there" = some d_need_there
  seen : D.fn "" "seen_at" = some d_seen_at
theorem cut_i {α : Type} (xs : List α) {n : Int} (h : 0 ≤ n) : cut xs none (some n) = xs.take n.toNat := by
  have := cut_to xs n.toNat
  rwa [Int.toNat_of_nonneg h] at this
theorem seen_ok (h : HasSeen D) {a b : List Int} (ok : OkM a b) {s : Int} {i : Nat} (hs : s = 0 ∨ s = 1) (hi : i < (bun a b s).length) (q : if barL a b = [] then Q (seenT a b s i) S else X "Nothing" S) :
    CallWP D (k + 5) "" "seen_at" [mailT a b, pairT s i] S Q X := by
  refine call_of h.seen rfl ?_
  simp [-List.getD_eq_getElem?_getD, -List.map_take, d_seen_at, startT_eq]
  refine need_mail_ok h.need h.toHasMail ok ?_
  refine need_letter_ok (k := k + 1) h.needl h.isl h.toHasMail hs hi ?_
  refine need_there_ok h.there' h.toHasCan ok ?_
  by_cases hb : barL a b = []
  · rw [if_pos hb] at q ⊢
    have hm := bun_at ok hs hi
    simp [-List.getD_eq_getElem?_getD, -List.map_take, idx_mail hs, idx_mail (flip01 hs), idx_letter hs hi]
    rw [cut_i _ (by omega), cut_i _ hm.1, ← List.map_take, ← List.map_take, show ((i : Int) + 1).toNat = i + 1 by omega]
    unfold seenT at q
    by_cases h0 : s = 0
    · rw [if_pos h0] at q ⊢
      exact .keep q
    · rw [if_neg h0] at q ⊢
      exact .keep q
  · rw [if_neg hb] at q ⊢
    exact .keep q
theorem seen_bad (h : HasSeen D) {a b : List Int} (ok : OkM a b) {t : T} (ht : plain2 t = true) (hf : letterB a b t = false) (q : X "BadLetter" S) : CallWP D (k + 5) "" "seen_at" [mailT a b, t] S Q X := by
  refine call_of h.seen rfl ?_
  simp [-List.getD_eq_getElem?_getD, -List.map_take, d_seen_at, startT_eq]
  refine need_mail_ok h.need h.toHasMail ok ?_
  exact need_letter_any (k := k + 1) h.needl h.isl h.toHasMail ht hf (.keep q)
/-- how many letters of either side it had seen -/
def seenP (a b : List Int) (s : Int) (i : Nat) : Nat := if s = 0 then i + 1 else (b.getD i 0).toNat
def seenQ (a b : List Int) (s : Int) (i : Nat) : Nat := if s = 0 then (a.getD i 0).toNat else i + 1
theorem seenT_eq (a b : List Int) {s : Int} {i : Nat} (hs : s = 0 ∨ s = 1) : seenT a b s i = mailT (a.take (seenP a b s i)) (b.take (seenQ a b s i)) := by
  rcases hs with rfl | rfl <;> rfl
/-- beginnings of mail that can be -/
theorem part_ok {a b : List Int} (ok : OkM a b) (hb : barL a b = []) {p q : Nat} (hp : p ≤ a.length) (hq : q ≤ b.length) (h1 : ∀ x : Nat, x < p → a.getD x 0 ≤ q) (h2 : ∀ y : Nat, y < q → b.getD y 0 ≤ p) : OkM (a.take p) (b.take q) ∧ barL (a.take p) (b.take q) = [] := by
  have la : (a.take p).length = p := by rw [List.length_take]; omega
  have lb : (b.take q).length = q := by rw [List.length_take]; omega
  refine ⟨⟨?_, ?_, ?_, ?_, ok.sa.sublist (List.take_sublist ..), ok.sb.sublist (List.take_sublist ..)⟩, bar_none fun u v hu hv z => ?_⟩
  · have := ok.la; omega
  · have := ok.lb; omega
  · intro y hy
    obtain ⟨j, g1, g2, rfl⟩ := mem_take_at hy
    have := ok.ra _ (getD_mem g2)
    have := h1 j g1
    omega
  · intro y hy
    obtain ⟨j, g1, g2, rfl⟩ := mem_take_at hy
    have := ok.rb _ (getD_mem g2)
    have := h2 j g1
    omega
  · rw [la] at hu
    rw [lb] at hv
    rw [getD_take hu, getD_take hv] at z
    exact bar_free hb (by omega) (by omega) z
structure SeenOk (a b : List Int) (s : Int) (p q : Nat) : Prop where
  hp : p ≤ a.length
  hq : q ≤ b.length
  ok : OkM (a.take p) (b.take q)
  fr : barL (a.take p) (b.take q) = []
  last : ∀ t : List Int, Pth (a.take p) (b.take q) t (a.take p).length (b.take q).length → ∃ t', t = t' ++ [s]
theorem pth_last0 {a b t : List Int} {i j : Nat} (h : Pth a b t i j) (hi : 1 ≤ i) (hj : (j : Int) ≤ a.getD (i - 1) 0) : ∃ t', t = t' ++ [0] := by
  cases h with
  | nil => omega
  | z h' hm => exact ⟨_, rfl⟩
  | o h' hm =>
    have := h'.ok.ra (i - 1) (by omega)
    omega
theorem pth_last1 {a b t : List Int} {i j : Nat} (h : Pth a b t i j) (hj : 1 ≤ j) (hi : (i : Int) ≤ b.getD (j - 1) 0) : ∃ t', t = t' ++ [1] := by
  cases h with
  | nil => omega
  | o h' hm => exact ⟨_, rfl⟩
  | z h' hm =>
    have := h'.ok.rb (j - 1) (by omega)
    omega
theorem seenOk {a b : List Int} (ok : OkM a b) (hb : barL a b = []) {s : Int} {i : Nat} (hs : s = 0 ∨ s = 1) (hi : i < (bun a b s).length) : SeenOk a b s (seenP a b s i) (seenQ a b s i) := by
  rcases hs with rfl | rfl
  · have hi : i < a.length := hi
    have hm := ok.ra _ (getD_mem hi)
    have hp : seenP a b 0 i = i + 1 := rfl
    have hq : seenQ a b 0 i = (a.getD i 0).toNat := rfl
    rw [hp, hq]
    have z := part_ok ok hb (p := i + 1) (q := (a.getD i 0).toNat) (by omega) (by omega) (fun x hx => by have := pw_mono ok.sa (i := x) (j := i) (by omega) hi; omega) (fun y hy => by have := bar_free hb (i := i) (j := y) hi (by omega); omega)
    refine ⟨by omega, by omega, z.1, z.2, fun t ht => pth_last0 ht ?_ ?_⟩
    · rw [List.length_take]; omega
    · rw [List.length_take, List.length_take, getD_take (by omega)]
      rw [show min (i + 1) a.length - 1 = i by omega]
      omega
  · have hi : i < b.length := hi
    have hm := ok.rb _ (getD_mem hi)
    have hp : seenP a b 1 i = (b.getD i 0).toNat := rfl
    have hq : seenQ a b 1 i = i + 1 := rfl
    rw [hp, hq]
    have z := part_ok ok hb (p := (b.getD i 0).toNat) (q := i + 1) (by omega) (by omega) (fun x hx => by have := bar_free hb (i := x) (j := i) (by omega) hi; omega) (fun y hy => by have := pw_mono ok.sb (i := y) (j := i) (by omega) hi; omega)
    refine ⟨by omega, by omega, z.1, z.2, fun t ht => pth_last1 ht ?_ ?_⟩
    · rw [List.length_take]; omega
    · rw [List.length_take, List.length_take, getD_take (by omega)]
      rw [show min (i + 1) b.length - 1 = i by omega]
      omega
/-- what a writer ahead had seen is within it -/
theorem seen_in {a b : List Int} (ok : OkM a b) (hb : barL a b = []) {s s' : Int} {i j : Nat} (hs : s = 0 ∨ s = 1) (hi : i < (bun a b s).length) (hs' : s' = 0 ∨ s' = 1) (hj : j < (bun a b s').length) (h : hadR a b s i s' j = true ∨ s' = s ∧ j < i) :
    seenP a b s' j ≤ seenP a b s i ∧ seenQ a b s' j ≤ seenQ a b s i := by
  rcases hs with rfl | rfl <;> rcases hs' with rfl | rfl
  · have hi : i < a.length := hi
    have h : j < i := by simpa [-List.getD_eq_getElem?_getD, -List.map_take, hadR] using h
    have := pw_mono ok.sa (i := j) (j := i) (by omega) hi
    show j + 1 ≤ i + 1 ∧ (a.getD j 0).toNat ≤ (a.getD i 0).toNat
    omega
  · have hi : i < a.length := hi
    have hj : j < b.length := hj
    have h : (j : Int) < a.getD i 0 := by simpa [-List.getD_eq_getElem?_getD, -List.map_take, hadR, bun] using h
    have := bar_free hb hi hj
    have := ok.rb _ (getD_mem hj)
    show (b.getD j 0).toNat ≤ i + 1 ∧ j + 1 ≤ (a.getD i 0).toNat
    omega
  · have hi : i < b.length := hi
    have hj : j < a.length := hj
    have h : (j : Int) < b.getD i 0 := by simpa [-List.getD_eq_getElem?_getD, -List.map_take, hadR, bun] using h
    have := bar_free hb hj hi
    have := ok.ra _ (getD_mem hj)
    show j + 1 ≤ (b.getD i 0).toNat ∧ (a.getD j 0).toNat ≤ i + 1
    omega
  · have hi : i < b.length := hi
    have h : j < i := by simpa [-List.getD_eq_getElem?_getD, -List.map_take, hadR] using h
    have := pw_mono ok.sb (i := j) (j := i) (by omega) hi
    show (b.getD j 0).toNat ≤ (b.getD i 0).toNat ∧ j + 1 ≤ i + 1
    omega
theorem last_snoc (t : List Int) (x : Int) : L2.atI ((t ++ [x]).map T.int) (-1) = some (.int x) := by
  have := last_ok (l := t ++ [x]) (by simp)
  rw [this]
  simp
end PC
/-! PlStd: standings, how many ways lead to them, how many orders pass them. -/
namespace PC
open PySem
variable {D : Tab} {k : Nat} {C g : Str} {d : Def} {args : List T} {S : Mem} {Q : Wv} {X : Wx}
def as3 : Ss := .cons (.asg 1 (.bin .Add (.var 1) (.comp (.tup (.cons (.var 2) (.cons (.var 3) .nil))) [3] (.one 3) (.rng1 (.bin .Add (.bi .len (.cons (.idx (.var 0) (.int 1)) .nil)) (.int 1))) .none))) .nil
def as2 : Ss := .cons (.fors (.one 2) (.rng1 (.bin .Add (.bi .len (.cons (.idx (.var 0) (.int 0)) .nil)) (.int 1))) as3) (.cons (.ret (.var 1)) .nil)
def as1 : Ss := .cons (.asg 1 (.lst .nil)) as2
def d_all_standings : Def := ⟨["mail", "found", "first", "second"], 1, as1⟩
def ld6 : Ss := .cons (.setIdx (.var 1) (.call "after" (.cons (.var 2) (.cons (.var 3) .nil))) (.bin .Add (.idx (.var 1) (.call "after" (.cons (.var 2) (.cons (.var 3) .nil)))) (.idx (.var 1) (.var 2)))) .nil
def ld5 : Ss := .cons (.ifs (.call "may_write" (.cons (.var 0) (.cons (.var 2) (.cons (.var 3) .nil)))) ld6 .nil) .nil
def ld4 : Ss := .cons (.fors (.one 3) (.live (.tup (.cons (.int 0) (.cons (.int 1) .nil)))) ld5) .nil
def ld3 : Ss := .cons (.fors (.one 2) (.live (.call "all_standings" (.cons (.var 0) .nil))) ld4) (.cons (.ret (.var 1)) .nil)
def ld2 : Ss := .cons (.setIdx (.var 1) (.tup (.cons (.int 0) (.cons (.int 0) .nil))) (.int 1)) ld3
def ld1 : Ss := .cons (.asg 1 (.track (.dcomp (.var 2) (.int 0) [2] (.one 2) (.live (.call "all_standings" (.cons (.var 0) .nil)))))) ld2
def d_leading : Def := ⟨["mail", "found", "here", "side"], 1, ld1⟩
def ps1 : Ss := .cons (.asgT (.two 1 2) (.tup (.cons (.mk "Ways" (.cons (.var 0) .nil)) (.cons (.call "leading" (.cons (.var 0) .nil)) .nil)))) (.cons (.ret (.dcomp (.var 3) (.bin .Mult (.idx (.var 2) (.var 3)) (.meth (.var 1) "Ways" "count" (.cons (.var 3) .nil))) [3] (.one 3) (.live (.var 2)))) .nil)
def d_passing : Def := ⟨["mail", "ways", "ahead", "here"], 1, ps1⟩
/-- all standings, rising -/
def stdL (a b : List Int) : List (Nat × Nat) := pairsN (a.length + 1) (b.length + 1)
theorem mem_std {a b : List Int} {p : Nat × Nat} : p ∈ stdL a b ↔ p.1 ≤ a.length ∧ p.2 ≤ b.length := by
  constructor
  · intro h
    have := mem_pairsN h
    omega
  · rintro ⟨h1, h2⟩
    unfold stdL pairsN
    rw [List.mem_flatMap]
    exact ⟨p.1, List.mem_range.mpr (by omega), List.mem_map.mpr ⟨p.2, List.mem_range.mpr (by omega), rfl⟩⟩
def lexlt (p q : Nat × Nat) : Prop := p.1 < q.1 ∨ p.1 = q.1 ∧ p.2 < q.2
theorem pairsN_S (n m : Nat) : pairsN (n + 1) m = pairsN n m ++ (List.range m).map fun j => (n, j) := by simp [pairsN, List.range_succ, List.flatMap_append]
theorem pairsN_lex (m : Nat) : ∀ n : Nat, (pairsN n m).Pairwise lexlt
  | 0 => .nil
  | n + 1 => by
    rw [pairsN_S]
    refine List.pairwise_append.mpr ⟨pairsN_lex m n, ?_, fun p hp q hq => ?_⟩
    · refine List.Pairwise.map _ (fun x y h => ?_) List.pairwise_lt_range
      exact .inr ⟨rfl, h⟩
    · obtain ⟨j, hj, rfl⟩ := List.mem_map.mp hq
      exact .inl (mem_pairsN hp).1
theorem std_lex (a b : List Int) : (stdL a b).Pairwise lexlt := pairsN_lex _ _
theorem std_nd (a b : List Int) : (stdL a b).Nodup := (std_lex a b).imp fun h z => by subst z; rcases h with h | ⟨_, h⟩ <;> omega
theorem std_len {a b : List Int} (ha : a.length ≤ 9) (hb : b.length ≤ 9) : (stdL a b).length ≤ 100 := by
  have h1 : (stdL a b).length = (a.length + 1) * (b.length + 1) := by
    have := pairsT_len (a.length + 1) (b.length + 1)
    rw [pairsT_eq, List.length_map] at this
    exact this
  rw [h1]
  exact Nat.mul_le_mul (by omega : a.length + 1 ≤ 10) (by omega : b.length + 1 ≤ 10)
theorem standings_all (hp : D.fn "" "all_standings" = some d_all_standings) {a b : List Int} (ha : a.length ≤ 9) (hb : b.length ≤ 9) (q : Q (.lst ((stdL a b).map pT)) S) : CallWP D (k + 1) "" "all_standings" [mailT a b] S Q X := by
  refine call_of hp rfl ?_
  have e : line = 16777216 := rfl
  simp [d_all_standings, startT_eq]
  unfold as1
  simp
  unfold as2
  simp [mailT]
  refine ⟨by omega, ?_⟩
  refine wpFor_inv (P := fun r σ S1 => ∃ (i : Nat) (x2 : Option T), i + r.length = a.length + 1 ∧ r = (rangeT 0 (a.length + 1)).drop i ∧ S1 = S ∧ σ = [some (.tup [.tup (a.map .int), .tup (b.map .int)]), some (.lst (pairsT i (b.length + 1))), x2, none]) (fun _ _ _ _ => trivial) ?_ ?_ ⟨0, none, by simp [rangeT], by simp, rfl, rfl⟩
  · rintro x r σ S1 ⟨i, x2, hi, hr, rfl, rfl⟩ KK hK
    have hx : x = .int (i : Nat) := by
      have : (rangeT 0 (a.length + 1))[i]? = some x := by
        rw [← List.head?_drop, ← hr]
        rfl
      rw [rangeT_get this]
      simp
    subst hx
    have hr2 : r = (rangeT 0 (a.length + 1)).drop (i + 1) := by
      rw [← List.tail_drop, ← hr]
      rfl
    unfold as3
    simp
    refine ⟨by omega, ?_⟩
    refine wpL_map (f := fun x => .tup [.int (i : Nat), x]) (fun x _ k' hk => hk) trivial ?_
    have hl := pairsT_len i (b.length + 1)
    rw [bin_addl (by rw [hl]; simp [rangeT]; have : i * (b.length + 1) ≤ 1000 * 1000 := Nat.mul_le_mul (by simp at hi; omega) (by omega); omega), rangeT_map]
    refine hK _ _ ⟨i + 1, some (.int (i : Nat)), by simp at hi ⊢; omega, hr2, rfl, ?_⟩
    simp [pairsT, List.range_succ, List.flatMap_append]
  · rintro σ S1 ⟨i, x2, hi, hr, rfl, rfl⟩
    simp at hi
    subst hi
    simp
    unfold stdL at q
    rw [← pairsT_eq] at q
    exact .keep q
/-! dicts over standings -/
theorem dset_pT {f : Nat × Nat → T} {v : T} (p : Nat × Nat) : ∀ l : List (Nat × Nat), l.Nodup → p ∈ l → dputK (l.map pT) (pT p) = l.map pT ∧ dputV (l.map pT) (l.map f) (pT p) v = l.map fun q => if q = p then v else f q
  | q :: l, hn, h => by
    rw [List.nodup_cons] at hn
    rw [List.map_cons, List.map_cons]
    unfold dputK dputV
    rw [eq_pT]
    by_cases e : q = p
    · subst e
      simp
      intro x y hxy z
      exact absurd (z ▸ hxy) hn.1
    · have hp := (List.mem_cons.mp h).resolve_left fun z => e z.symm
      obtain ⟨h1, h2⟩ := dset_pT (f := f) (v := v) p l hn.2 hp
      rw [decide_eq_false e]
      simp only [Bool.false_eq_true, if_false]
      rw [h1, h2]
      simp [e]
theorem dofL_pT {f : Nat × Nat → T} : ∀ (l pre : List (Nat × Nat)), (pre ++ l).Nodup → dofL (l.map fun p => .tup [pT p, f p]) (pre.map pT, pre.map f) = ((pre ++ l).map pT, (pre ++ l).map f)
  | [], pre, _ => by simp [dofL]
  | p :: l, pre, h => by
    have hp : p ∉ pre := fun z => (List.nodup_append.mp h).2.2 p z p List.mem_cons_self rfl
    obtain ⟨h1, h2⟩ := dput_pT (f := f) p pre hp
    rw [List.map_cons]
    unfold dofL
    show dofL _ (dputK (pre.map pT) (pT p), dputV (pre.map pT) (pre.map f) (pT p) (f p)) = _
    rw [h1, h2, dofL_pT l (pre ++ [p]) (by simpa using h)]
    simp
/-! how many ways lead to a standing -/
def lead (a b : List Int) : Nat → Nat → Nat
  | 0, 0 => 1
  | i + 1, 0 => if mayB a b i 0 0 = true then lead a b i 0 else 0
  | 0, j + 1 => if mayB a b 0 j 1 = true then lead a b 0 j else 0
  | i + 1, j + 1 => (if mayB a b i (j + 1) 0 = true then lead a b i (j + 1) else 0) + (if mayB a b (i + 1) j 1 = true then lead a b (i + 1) j else 0)
termination_by i j => i + j
/-- what has come to a standing, from those of p0 by a letter of the first, from those of p1 by one of the second -/
def val2 (a b : List Int) (p0 p1 : List (Nat × Nat)) (p : Nat × Nat) : Nat := (if p = (0, 0) then 1 else 0) + (if 1 ≤ p.1 ∧ (p.1 - 1, p.2) ∈ p0 ∧ mayB a b (p.1 - 1) p.2 0 = true then lead a b (p.1 - 1) p.2 else 0) + (if 1 ≤ p.2 ∧ (p.1, p.2 - 1) ∈ p1 ∧ mayB a b p.1 (p.2 - 1) 1 = true then lead a b p.1 (p.2 - 1) else 0)
theorem val_full {a b : List Int} {p0 p1 : List (Nat × Nat)} {p : Nat × Nat} (h0 : 1 ≤ p.1 → (p.1 - 1, p.2) ∈ p0) (h1 : 1 ≤ p.2 → (p.1, p.2 - 1) ∈ p1) : val2 a b p0 p1 p = lead a b p.1 p.2 := by
  obtain ⟨i, j⟩ := p
  cases i with
  | zero =>
    cases j with
    | zero => simp [val2, lead]
    | succ j =>
      have := h1 (by simp)
      simp only [Nat.add_sub_cancel] at this
      simp [val2, lead, this]
  | succ i =>
    have g0 := h0 (by simp)
    simp only [Nat.add_sub_cancel] at g0
    cases j with
    | zero => simp [val2, lead, g0]
    | succ j =>
      have g1 := h1 (by simp)
      simp only [Nat.add_sub_cancel] at g1
      simp [val2, lead, g0, g1]
theorem val_put0 {a b : List Int} {p0 p1 : List (Nat × Nat)} {h : Nat × Nat} (hm : mayB a b h.1 h.2 0 = true) (hn : h ∉ p0) (q : Nat × Nat) : val2 a b (p0 ++ [h]) p1 q = if q = (h.1 + 1, h.2) then val2 a b p0 p1 q + lead a b h.1 h.2 else val2 a b p0 p1 q := by
  obtain ⟨i, j⟩ := h
  obtain ⟨x, y⟩ := q
  by_cases e : (x, y) = (i + 1, j)
  · cases e
    rw [if_pos rfl]
    have hm : mayB a b i j 0 = true := hm
    simp [val2, hm, hn]
    omega
  · rw [if_neg e]
    unfold val2
    have : (1 ≤ x ∧ (x - 1, y) ∈ p0 ++ [(i, j)] ∧ mayB a b (x - 1) y 0 = true) ↔ (1 ≤ x ∧ (x - 1, y) ∈ p0 ∧ mayB a b (x - 1) y 0 = true) := by
      constructor
      · rintro ⟨h1, h2, h3⟩
        refine ⟨h1, ?_, h3⟩
        rcases List.mem_append.mp h2 with h2 | h2
        · exact h2
        · exfalso
          simp at h2
          exact e (by rw [← h2.1, ← h2.2]; simp; omega)
      · rintro ⟨h1, h2, h3⟩
        exact ⟨h1, List.mem_append_left _ h2, h3⟩
    simp only [this]
theorem val_no0 {a b : List Int} {p0 p1 : List (Nat × Nat)} {h : Nat × Nat} (hm : ¬mayB a b h.1 h.2 0 = true) (q : Nat × Nat) : val2 a b (p0 ++ [h]) p1 q = val2 a b p0 p1 q := by
  obtain ⟨i, j⟩ := h
  obtain ⟨x, y⟩ := q
  unfold val2
  have : (1 ≤ x ∧ (x - 1, y) ∈ p0 ++ [(i, j)] ∧ mayB a b (x - 1) y 0 = true) ↔ (1 ≤ x ∧ (x - 1, y) ∈ p0 ∧ mayB a b (x - 1) y 0 = true) := by
    constructor
    · rintro ⟨h1, h2, h3⟩
      refine ⟨h1, ?_, h3⟩
      rcases List.mem_append.mp h2 with h2 | h2
      · exact h2
      · exfalso
        simp at h2
        rw [h2.1, h2.2] at h3
        exact hm h3
    · rintro ⟨h1, h2, h3⟩
      exact ⟨h1, List.mem_append_left _ h2, h3⟩
  simp only [this]
theorem val_put1 {a b : List Int} {p0 p1 : List (Nat × Nat)} {h : Nat × Nat} (hm : mayB a b h.1 h.2 1 = true) (hn : h ∉ p1) (q : Nat × Nat) : val2 a b p0 (p1 ++ [h]) q = if q = (h.1, h.2 + 1) then val2 a b p0 p1 q + lead a b h.1 h.2 else val2 a b p0 p1 q := by
  obtain ⟨i, j⟩ := h
  obtain ⟨x, y⟩ := q
  by_cases e : (x, y) = (i, j + 1)
  · cases e
    rw [if_pos rfl]
    have hm : mayB a b i j 1 = true := hm
    simp [val2, hm, hn]
  · rw [if_neg e]
    unfold val2
    have : (1 ≤ y ∧ (x, y - 1) ∈ p1 ++ [(i, j)] ∧ mayB a b x (y - 1) 1 = true) ↔ (1 ≤ y ∧ (x, y - 1) ∈ p1 ∧ mayB a b x (y - 1) 1 = true) := by
      constructor
      · rintro ⟨h1, h2, h3⟩
        refine ⟨h1, ?_, h3⟩
        rcases List.mem_append.mp h2 with h2 | h2
        · exact h2
        · exfalso
          simp at h2
          exact e (by rw [← h2.1, ← h2.2]; simp; omega)
      · rintro ⟨h1, h2, h3⟩
        exact ⟨h1, List.mem_append_left _ h2, h3⟩
    simp only [this]
theorem val_no1 {a b : List Int} {p0 p1 : List (Nat × Nat)} {h : Nat × Nat} (hm : ¬mayB a b h.1 h.2 1 = true) (q : Nat × Nat) : val2 a b p0 (p1 ++ [h]) q = val2 a b p0 p1 q := by
  obtain ⟨i, j⟩ := h
  obtain ⟨x, y⟩ := q
  unfold val2
  have : (1 ≤ y ∧ (x, y - 1) ∈ p1 ++ [(i, j)] ∧ mayB a b x (y - 1) 1 = true) ↔ (1 ≤ y ∧ (x, y - 1) ∈ p1 ∧ mayB a b x (y - 1) 1 = true) := by
    constructor
    · rintro ⟨h1, h2, h3⟩
      refine ⟨h1, ?_, h3⟩
      rcases List.mem_append.mp h2 with h2 | h2
      · exact h2
      · exfalso
        simp at h2
        rw [h2.1, h2.2] at h3
        exact hm h3
    · rintro ⟨h1, h2, h3⟩
      exact ⟨h1, List.mem_append_left _ h2, h3⟩
  simp only [this]
/-- those ahead stand ahead -/
theorem std_pre {a b : List Int} {pre post : List (Nat × Nat)} {h q : Nat × Nat} (e : stdL a b = pre ++ h :: post) (hq : q ∈ stdL a b) (hl : lexlt q h) : q ∈ pre := by
  rw [e] at hq
  rcases List.mem_append.mp hq with z | z
  · exact z
  · exfalso
    have hp := std_lex a b
    rw [e] at hp
    have := (List.pairwise_append.mp hp).2.1
    rcases List.mem_cons.mp z with rfl | z
    · rcases hl with hl | ⟨_, hl⟩ <;> omega
    · have := (List.pairwise_cons.mp this).1 q z
      rcases hl with hl | ⟨_, hl⟩ <;> rcases this with this | ⟨_, this⟩ <;> omega
/-- a dict over the standings -/
abbrev stO (a b : List Int) (f : Nat × Nat → Nat) : Ob := .dct ((stdL a b).map pT) ((stdL a b).map fun p => T.int (f p : Nat))
theorem vw_stO {a b : List Int} {f : Nat × Nat → Nat} {i : Nat} (h : S[i]? = some (stO a b f)) : vw S (.ref i) = .dct ((stdL a b).map pT) ((stdL a b).map fun p => T.int (f p : Nat)) := vw_dctR h
theorem idx_std {a b : List Int} {f : Nat × Nat → Nat} {p : Nat × Nat} (hp : p ∈ stdL a b) : idxT (.dct ((stdL a b).map pT) ((stdL a b).map fun p => T.int (f p : Nat))) (pT p) = some (.int (f p : Nat)) := by
  rw [show pT p = .tup [.int p.1, .int p.2] from rfl, idx_dct rfl (kt_all _)]
  exact dget_pT (f := fun p => T.int (f p : Nat)) p _ hp
theorem put_std {a b : List Int} {f : Nat × Nat → Nat} {v : Nat} {p : Nat × Nat} (hp : p ∈ stdL a b) : (Ob.dct (dputK ((stdL a b).map pT) (pT p)) (dputV ((stdL a b).map pT) ((stdL a b).map fun p => T.int (f p : Nat)) (pT p) (.int (v : Nat)))) = stO a b fun q => if q = p then v else f q := by
  obtain ⟨h1, h2⟩ := dset_pT (f := fun p => T.int (f p : Nat)) (v := .int (v : Nat)) p _ (std_nd a b) hp
  rw [h1, h2]
  congr 1
  refine List.map_congr_left fun q hq => ?_
  by_cases e : q = p
  · simp [e]
  · simp [e]
theorem set_last {o o' : Ob} : (S ++ [o]).set S.length o' = S ++ [o'] := by
  rw [List.set_append_right _ _ (Nat.le_refl _)]
  simp
theorem get_last {o : Ob} : (S ++ [o])[S.length]? = some o := by simp
/-- the standing behind -/
def aft (p : Nat × Nat) (s : Int) : Nat × Nat := if s = 0 then (p.1 + 1, p.2) else (p.1, p.2 + 1)
theorem aft_in {a b : List Int} {p : Nat × Nat} {s : Int} (hs : s = 0 ∨ s = 1) (hm : mayB a b p.1 p.2 s = true) (hp : p ∈ stdL a b) : aft p s ∈ stdL a b := by
  have := mem_std.mp hp
  rcases hs with rfl | rfl
  · simp [mayB] at hm
    exact mem_std.mpr ⟨by show p.1 + 1 ≤ _; omega, by show p.2 ≤ _; omega⟩
  · simp [mayB] at hm
    exact mem_std.mpr ⟨by show p.1 ≤ _; omega, by show p.2 + 1 ≤ _; omega⟩
theorem after_p (h : HasWays D) {p : Nat × Nat} {s : Int} (q : Q (pT (aft p s)) S) : CallWP D (k + 1) "" "after" [pT p, .int s] S Q X := by
  refine after_ok h ?_
  unfold aft at q
  by_cases e : s = 0
  · rw [if_pos e] at q ⊢; exact q
  · rw [if_neg e] at q ⊢; exact q
theorem push_ok (h : HasWays D) {a b : List Int} (ha : a.length ≤ 9) (hb : b.length ≤ 9) {f : Nat × Nat → Nat} {p : Nat × Nat} (hp : p ∈ stdL a b) {s : Int} (hs : s = 0 ∨ s = 1) {K : K} (hK : K.nx [some (mailT a b), some (.ref S.length), some (pT p), some (.int s)] (S ++ [stO a b (if mayB a b p.1 p.2 s = true then fun q => if q = aft p s then f q + f p else f q else f)])) :
    wpSs D.G (cw D (k + 1)) ld5 X [some (mailT a b), some (.ref S.length), some (pT p), some (.int s)] (S ++ [stO a b f]) K := by
  have hL : (stdL a b).length < line := Nat.lt_of_le_of_lt (std_len ha hb) (by decide)
  have kal : ∀ x ∈ (stdL a b).map pT, kt x = true := fun x hx => by
    obtain ⟨p, _, rfl⟩ := List.mem_map.mp hx
    rfl
  unfold ld5
  simp
  refine may_ok h hs ?_
  simp only [bt_bl]
  by_cases hm : mayB a b p.1 p.2 s = true
  · rw [if_pos hm] at hK ⊢
    have hin := aft_in hs hm hp
    unfold ld6
    simp
    refine after_p h ?_
    rw [vw_stO get_last, idx_std hin]
    simp
    rw [idx_std hp]
    simp
    refine after_p h ?_
    rw [ob_ref get_last]
    refine ⟨⟨kt_pT _, kal, by rw [List.length_map]; exact hL⟩, ?_⟩
    rw [set_last, ← Int.natCast_add, put_std hin]
    have e : (fun q => if q = aft p s then f (aft p s) + f p else f q) = fun q => if q = aft p s then f q + f p else f q := by
      funext q
      split
      · rename_i z; rw [z]
      · rfl
    rw [e]
    exact hK
  · rw [if_neg hm] at hK ⊢
    exact hK
theorem leading_ok (hl : D.fn "" "leading" = some d_leading) (hs : D.fn "" "all_standings" = some d_all_standings) (h : HasWays D) {a b : List Int} (ha : a.length ≤ 9) (hb : b.length ≤ 9) (q : Q (.dct ((stdL a b).map pT) ((stdL a b).map fun p => T.int (lead a b p.1 p.2 : Nat))) S) : CallWP D (k + 2) "" "leading" [mailT a b] S Q X := by
  refine call_of hl rfl ?_
  simp [d_leading, startT_eq]
  unfold ld1
  simp
  refine standings_all hs ha hb ?_
  simp
  refine wpL_on (tT := pT) (f := fun p => [.tup [pT p, .int 0]]) (fun p hp k' hk => ?_) (by simp) ?_
  · exact ⟨kt_pT p, hk⟩
  have e0 := dofL_pT (f := fun _ => T.int 0) (stdL a b) [] (by simpa using std_nd a b)
  have efm : ∀ l : List (Nat × Nat), l.flatMap (fun p => [T.tup [pT p, .int 0]]) = l.map fun p => .tup [pT p, .int 0] := fun l => by induction l <;> simp_all
  rw [List.nil_append, efm, show dofL ((stdL a b).map fun p => .tup [pT p, .int 0]) ([], []) = _ from e0]
  simp only [List.nil_append]
  have hL : (stdL a b).length < line := Nat.lt_of_le_of_lt (std_len ha hb) (by decide)
  have kal : ∀ x ∈ (stdL a b).map pT, kt x = true := fun x hx => by
    obtain ⟨p, _, rfl⟩ := List.mem_map.mp hx
    rfl
  have m00 : (0, 0) ∈ stdL a b := mem_std.mpr ⟨Nat.zero_le _, Nat.zero_le _⟩
  unfold ld2
  simp
  rw [ob_ref get_last]
  refine ⟨⟨rfl, kal, by rw [List.length_map]; exact hL⟩, ?_⟩
  have e1 := put_std (a := a) (b := b) (f := fun _ => 0) (v := 1) m00
  rw [set_last, show (T.tup [.int 0, .int 0]) = pT (0, 0) from rfl]
  rw [show (Ob.dct (dputK ((stdL a b).map pT) (pT (0, 0))) (dputV ((stdL a b).map pT) ((stdL a b).map fun _ => T.int 0) (pT (0, 0)) (.int 1))) = _ from e1]
  have e2 : (fun q : Nat × Nat => if q = (0, 0) then 1 else 0) = val2 a b [] [] := by
    funext q
    simp [val2]
  rw [e2]
  unfold ld3
  simp
  refine standings_all hs ha hb ?_
  simp
  refine wpFor_inv (P := fun r σ S1 => ∃ (pre post : List (Nat × Nat)) (x2 x3 : Option T), stdL a b = pre ++ post ∧ r = post.map pT ∧ S1 = S ++ [stO a b (val2 a b pre pre)] ∧ σ = [some (mailT a b), some (.ref S.length), x2, x3]) (fun _ _ _ _ => by simp) ?_ ?_ ⟨[], stdL a b, _, _, rfl, rfl, rfl, rfl⟩
  · rintro x r σ S1 ⟨pre, post, x2, x3, hL2, hr, rfl, rfl⟩ KK hK
    cases post with
    | nil => cases hr
    | cons p post =>
      rw [List.map_cons] at hr
      injection hr with e3 e4
      subst e3 e4
      have hpn : p ∉ pre := fun z => by
        have := std_nd a b
        rw [hL2] at this
        exact (List.nodup_append.mp this).2.2 p z p List.mem_cons_self rfl
      have hp : p ∈ stdL a b := by rw [hL2]; simp
      have hpb := mem_std.mp hp
      have f0 : val2 a b pre pre p = lead a b p.1 p.2 := val_full (fun h1 => std_pre hL2 (mem_std.mpr ⟨by show p.1 - 1 ≤ _; omega, hpb.2⟩) (.inl (by show p.1 - 1 < p.1; omega))) fun h1 => std_pre hL2 (mem_std.mpr ⟨hpb.1, by show p.2 - 1 ≤ _; omega⟩) (.inr ⟨rfl, by show p.2 - 1 < p.2; omega⟩)
      have g0 : (if mayB a b p.1 p.2 0 = true then fun q => if q = aft p 0 then val2 a b pre pre q + val2 a b pre pre p else val2 a b pre pre q else val2 a b pre pre) = val2 a b (pre ++ [p]) pre := by
        funext q
        by_cases hm : mayB a b p.1 p.2 0 = true
        · rw [if_pos hm, f0, val_put0 hm hpn]; rfl
        · rw [if_neg hm, val_no0 hm]
      have f1 : val2 a b (pre ++ [p]) pre p = lead a b p.1 p.2 := by
        by_cases hm : mayB a b p.1 p.2 0 = true
        · rw [val_put0 hm hpn, if_neg (by intro z; have := congrArg Prod.fst z; simp at this), f0]
        · rw [val_no0 hm, f0]
      have g1 : (if mayB a b p.1 p.2 1 = true then fun q => if q = aft p 1 then val2 a b (pre ++ [p]) pre q + val2 a b (pre ++ [p]) pre p else val2 a b (pre ++ [p]) pre q else val2 a b (pre ++ [p]) pre) = val2 a b (pre ++ [p]) (pre ++ [p]) := by
        funext q
        by_cases hm : mayB a b p.1 p.2 1 = true
        · rw [if_pos hm, f1, val_put1 hm hpn]; rfl
        · rw [if_neg hm, val_no1 hm]
      unfold ld4
      simp
      rw [wpFor_S]
      refine ⟨trivial, ?_⟩
      simp only [List.set_cons_succ, List.set_cons_zero]
      refine push_ok h ha hb hp (.inl rfl) ?_
      rw [g0]
      dsimp only
      rw [wpFor_S]
      refine ⟨trivial, ?_⟩
      simp only [List.set_cons_succ, List.set_cons_zero]
      refine push_ok h ha hb hp (.inr rfl) ?_
      rw [g1]
      refine ⟨trivial, ?_⟩
      exact hK _ _ ⟨pre ++ [p], post, _, _, by simp [hL2], rfl, rfl, rfl⟩
  · rintro σ S1 ⟨pre, post, x2, x3, hL2, hr, rfl, rfl⟩
    cases post with
    | cons p post => cases hr
    | nil =>
      rw [List.append_nil] at hL2
      subst hL2
      have e5 : ((stdL a b).map fun p => T.int (val2 a b (stdL a b) (stdL a b) p : Nat)) = (stdL a b).map fun p => T.int (lead a b p.1 p.2 : Nat) := List.map_congr_left fun p hp => by
        have := mem_std.mp hp
        rw [val_full (fun _ => mem_std.mpr ⟨by show p.1 - 1 ≤ _; omega, this.2⟩) fun _ => mem_std.mpr ⟨this.1, by show p.2 - 1 ≤ _; omega⟩]
      unfold stO
      rw [e5]
      refine .dropD ⟨_, rfl, rfl, fun i o hi => .inl hi⟩ (Nat.le_refl _) get_last ?_ ?_ q
      · rw [List.all_eq_true]
        intro x hx
        obtain ⟨p, _, rfl⟩ := List.mem_map.mp hx
        rfl
      · rw [List.all_eq_true]
        intro x hx
        obtain ⟨p, _, rfl⟩ := List.mem_map.mp hx
        rfl
/-- how many orders pass a standing -/
def pass (a b : List Int) (p : Nat × Nat) : Nat := lead a b p.1 p.2 * cnt a b (a.length - p.1 + (b.length - p.2)) p.1 p.2
theorem cnt_le (a b : List Int) : ∀ r i j : Nat, cnt a b r i j ≤ 2 ^ r
  | 0, i, j => Nat.le_refl _
  | r + 1, i, j => by
    have h1 := cnt_le a b r (i + 1) j
    have h2 := cnt_le a b r i (j + 1)
    rw [Nat.pow_succ]
    show (if mayB a b i j 0 = true then cnt a b r (i + 1) j else 0) + (if mayB a b i j 1 = true then cnt a b r i (j + 1) else 0) ≤ _
    split <;> split <;> omega
theorem lead_le (a b : List Int) : ∀ n i j : Nat, i + j = n → lead a b i j ≤ 2 ^ n := by
  intro n
  induction n with
  | zero =>
    intro i j h
    obtain ⟨rfl, rfl⟩ : i = 0 ∧ j = 0 := by omega
    simp [lead]
  | succ n ih =>
    intro i j h
    rw [Nat.pow_succ]
    cases i with
    | zero =>
      cases j with
      | zero => omega
      | succ j =>
        have := ih 0 j (by omega)
        unfold lead
        split <;> omega
    | succ i =>
      cases j with
      | zero =>
        have := ih i 0 (by omega)
        unfold lead
        split <;> omega
      | succ j =>
        have h1 := ih i (j + 1) (by omega)
        have h2 := ih (i + 1) j (by omega)
        unfold lead
        split <;> split <;> omega
theorem noCt {a b : List Int} {w : Nat} : ∀ (x : Str) (y : T), (x, y) ∈ [(("held" : Str), mailT a b), ("known", T.ref (w + 1))] → ¬("count" : Str) = x := by
  intro x y hxy
  simp at hxy
  rcases hxy with ⟨rfl, _⟩ | ⟨rfl, _⟩ <;> decide +kernel
theorem rfr_std {a b : List Int} {f : Nat × Nat → Nat} : rfr 30 (.dct ((stdL a b).map pT) ((stdL a b).map fun p => T.int (f p : Nat))) = true := by
  simp only [rfr, Bool.and_eq_true, List.all_eq_true]
  constructor
  · intro x hx
    obtain ⟨p, _, rfl⟩ := List.mem_map.mp hx
    rfl
  · intro x hx
    obtain ⟨p, _, rfl⟩ := List.mem_map.mp hx
    rfl
structure HasStd (D : Tab) : Prop extends HasWays D where
  all : D.fn "" "all_standings" = some d_all_standings
  lead : D.fn "" "leading" = some d_leading
  pass : D.fn "" "passing" = some d_passing
theorem passing_ok (h : HasStd D) {a b : List Int} (ha : a.length ≤ 9) (hb : b.length ≤ 9) (q : Q (.dct ((stdL a b).map pT) ((stdL a b).map fun p => T.int (pass a b p : Nat))) S) : CallWP D (k + 22) "" "passing" [mailT a b] S Q X := by
  refine call_of h.pass rfl ?_
  simp [d_passing, startT_eq]
  unfold ps1
  simp
  refine init_ok h.toHasWays ⟨rfl, ?_⟩
  refine leading_ok (k := k + 19) h.lead h.all h.toHasWays ha hb ?_
  simp
  refine ⟨⟨rfl, fun x y z _ e => by rw [← e]; rfl⟩, ?_⟩
  refine wpL_inv (P := fun r acc S1 => ∃ (pre post l : List (Nat × Nat)), stdL a b = pre ++ post ∧ r = post.map pT ∧ acc = pre.map (fun p => T.tup [pT p, .int (pass a b p : Nat)]) ∧ l.Nodup ∧ (∀ p ∈ l, p.1 ≤ a.length ∧ p.2 ≤ b.length) ∧ S1 = S ++ [waysT a b S.length, knT a b l]) (fun _ _ _ _ => trivial) ?_ ?_ ⟨[], stdL a b, [], rfl, rfl, rfl, .nil, (fun p hp => by cases hp), rfl⟩
  · rintro x r acc S1 ⟨pre, post, l, hL, hr, rfl, n1, s1, rfl⟩ KK hK
    cases post with
    | nil => cases hr
    | cons p post =>
      rw [List.map_cons] at hr
      injection hr with e1 e2
      subst e1 e2
      have hp : p ∈ stdL a b := by rw [hL]; simp
      have hpb := mem_std.mp hp
      have W : WaysAt (S ++ [waysT a b S.length, knT a b l]) a b S.length l := ⟨by simp, by simp, n1, s1⟩
      rw [idx_std (f := fun p => lead a b p.1 p.2) hp, ob_ref W.ins]
      refine ⟨⟨rfl, noCt⟩, ?_⟩
      refine count_lev h.toHasWays ha hb (by omega) W hpb.1 hpb.2 rfl fun l' n2 s2 => ?_
      have eS : (S ++ [waysT a b S.length, knT a b l]).set (S.length + 1) (knT a b l') = S ++ [waysT a b S.length, knT a b l'] := by
        rw [List.set_append_right _ _ (Nat.le_add_right _ _)]
        simp
      rw [eS]
      have b1 := lead_le a b _ p.1 p.2 rfl
      have b2 := cnt_le a b (a.length - p.1 + (b.length - p.2)) p.1 p.2
      have b3 : 2 ^ (p.1 + p.2) ≤ 2 ^ 18 := Nat.pow_le_pow_right (by decide) (by omega)
      have b4 : 2 ^ (a.length - p.1 + (b.length - p.2)) ≤ 2 ^ 18 := Nat.pow_le_pow_right (by decide) (by omega)
      have b5 : (2 : Nat) ^ 18 < 2 ^ 250 := by decide
      simp only [vw_int]
      rw [bin_muli (mulOk_b (by simp only [Int.natAbs_natCast]; omega) (by simp only [Int.natAbs_natCast]; omega))]
      refine ⟨kt_pT p, ?_⟩
      refine hK _ _ ⟨pre ++ [p], post, l', by simp [hL], rfl, ?_, n2, s2, rfl⟩
      rw [List.map_append]
      simp [pass]
  · rintro acc S1 ⟨pre, post, l, hL, hr, rfl, n1, s1, rfl⟩
    cases post with
    | cons p post => cases hr
    | nil =>
      rw [List.append_nil] at hL
      subst hL
      have e0 := dofL_pT (f := fun p => T.int (pass a b p : Nat)) (stdL a b) [] (by simpa using std_nd a b)
      rw [show dofL ((stdL a b).map fun p => .tup [pT p, .int (pass a b p : Nat)]) ([], []) = _ from e0]
      exact .drop ⟨_, rfl, rfl, fun i o hi => .inl hi⟩ rfr_std q
end PC
/-! PlCut: standings that some order passes; the least and the greatest of them. -/
namespace PC
open PySem
variable {D : Tab} {k : Nat} {C g : Str} {d : Def} {args : List T} {S : Mem} {Q : Wv} {X : Wx}
def st3 : Ss := .cons (.asg 1 (.call "passing" (.cons (.var 0) .nil))) (.cons (.ret (.comp (.var 2) [2] (.one 2) (.live (.call "all_standings" (.cons (.var 0) .nil))) (.some (.cmp .Gt (.idx (.var 1) (.var 2)) (.int 0))))) .nil)
def st2 : Ss := .cons (.expr (.call "need_there" (.cons (.var 0) .nil))) st3
def st1 : Ss := .cons (.expr (.call "need_mail" (.cons (.var 0) .nil))) st2
def d_standings : Def := ⟨["mail", "table", "here"], 1, st1⟩
def pa5 : Ss := .cons (.asg 3 (.comp (.var 4) [4] (.one 4) (.live (.call "all_standings" (.cons (.var 0) .nil))) (.some (.and (.cmp .Gt (.idx (.var 2) (.var 4)) (.int 0)) (.cmp .Gt (.idx (.var 4) (.idx (.var 1) (.int 0))) (.idx (.var 1) (.int 1))))))) (.cons (.ret (.tup (.cons (.bi .minL (.cons (.comp (.idx (.var 4) (.int 0)) [4] (.one 4) (.live (.var 3)) .none) .nil)) (.cons (.bi .minL (.cons (.comp (.idx (.var 4) (.int 1)) [4] (.one 4) (.live (.var 3)) .none) .nil)) .nil)))) .nil)
def pa4 : Ss := .cons (.asg 2 (.call "passing" (.cons (.var 0) .nil))) pa5
def pa3 : Ss := .cons (.expr (.call "need_there" (.cons (.var 0) .nil))) pa4
def pa2 : Ss := .cons (.expr (.call "need_letter" (.cons (.var 0) (.cons (.var 1) .nil)))) pa3
def pa1 : Ss := .cons (.expr (.call "need_mail" (.cons (.var 0) .nil))) pa2
def d_past : Def := ⟨["mail", "letter", "table", "some", "here"], 2, pa1⟩
def tl5 : Ss := .cons (.asg 3 (.comp (.var 4) [4] (.one 4) (.live (.call "all_standings" (.cons (.var 0) .nil))) (.some (.and (.cmp .Gt (.idx (.var 2) (.var 4)) (.int 0)) (.cmp .LtE (.idx (.var 4) (.idx (.var 1) (.int 0))) (.idx (.var 1) (.int 1))))))) (.cons (.ret (.tup (.cons (.bi .maxL (.cons (.comp (.idx (.var 4) (.int 0)) [4] (.one 4) (.live (.var 3)) .none) .nil)) (.cons (.bi .maxL (.cons (.comp (.idx (.var 4) (.int 1)) [4] (.one 4) (.live (.var 3)) .none) .nil)) .nil)))) .nil)
def tl4 : Ss := .cons (.asg 2 (.call "passing" (.cons (.var 0) .nil))) tl5
def tl3 : Ss := .cons (.expr (.call "need_there" (.cons (.var 0) .nil))) tl4
def tl2 : Ss := .cons (.expr (.call "need_letter" (.cons (.var 0) (.cons (.var 1) .nil)))) tl3
def tl1 : Ss := .cons (.expr (.call "need_mail" (.cons (.var 0) .nil))) tl2
def d_till : Def := ⟨["mail", "letter", "table", "some", "here"], 2, tl1⟩
/-- what was read had been written -/
def Dn (a b : List Int) (p : Nat × Nat) : Prop := (∀ x : Nat, x < p.1 → a.getD x 0 ≤ p.2) ∧ ∀ y : Nat, y < p.2 → b.getD y 0 ≤ p.1
theorem may_0 {a b : List Int} {i j : Nat} : mayB a b i j 0 = true ↔ i < a.length ∧ a.getD i 0 ≤ j := by simp [-List.getD_eq_getElem?_getD, -List.map_take, mayB]
theorem may_1 {a b : List Int} {i j : Nat} : mayB a b i j 1 = true ↔ j < b.length ∧ b.getD j 0 ≤ i := by simp [-List.getD_eq_getElem?_getD, -List.map_take, mayB]
theorem dn_z {a b : List Int} {i j : Nat} (h : Dn a b (i, j)) (hm : a.getD i 0 ≤ j) : Dn a b (i + 1, j) := by
  refine ⟨fun x hx => ?_, fun y hy => ?_⟩
  · by_cases e : x < i
    · exact h.1 x e
    · have : x = i := by have : x < i + 1 := hx; omega
      rw [this]; exact hm
  · have := h.2 y hy
    show _ ≤ ((i + 1 : Nat) : Int)
    have : b.getD y 0 ≤ (i : Int) := this
    omega
theorem dn_o {a b : List Int} {i j : Nat} (h : Dn a b (i, j)) (hm : b.getD j 0 ≤ i) : Dn a b (i, j + 1) := by
  refine ⟨fun x hx => ?_, fun y hy => ?_⟩
  · have : a.getD x 0 ≤ (j : Int) := h.1 x hx
    show _ ≤ ((j + 1 : Nat) : Int)
    omega
  · by_cases e : y < j
    · exact h.2 y e
    · have : y = j := by have : y < j + 1 := hy; omega
      rw [this]; exact hm
theorem lead_dn {a b : List Int} : ∀ n i j : Nat, i + j = n → 0 < lead a b i j → Dn a b (i, j) := by
  intro n
  induction n with
  | zero =>
    intro i j h _
    obtain ⟨rfl, rfl⟩ : i = 0 ∧ j = 0 := by omega
    exact ⟨fun x hx => absurd hx (Nat.not_lt_zero _), fun x hx => absurd hx (Nat.not_lt_zero _)⟩
  | succ n ih =>
    intro i j h hl
    cases i with
    | zero =>
      cases j with
      | zero => omega
      | succ j =>
        unfold lead at hl
        split at hl
        · rename_i hm
          exact dn_o (ih 0 j (by omega) hl) (may_1.mp hm).2
        · omega
    | succ i =>
      cases j with
      | zero =>
        unfold lead at hl
        split at hl
        · rename_i hm
          exact dn_z (ih i 0 (by omega) hl) (may_0.mp hm).2
        · omega
      | succ j =>
        unfold lead at hl
        by_cases h0 : mayB a b i (j + 1) 0 = true ∧ 0 < lead a b i (j + 1)
        · exact dn_z (ih i (j + 1) (by omega) h0.2) (may_0.mp h0.1).2
        · have h1 : mayB a b (i + 1) j 1 = true ∧ 0 < lead a b (i + 1) j := by
            by_cases m0 : mayB a b i (j + 1) 0 = true
            · have : ¬0 < lead a b i (j + 1) := fun z => h0 ⟨m0, z⟩
              rw [if_pos m0] at hl
              by_cases m1 : mayB a b (i + 1) j 1 = true
              · rw [if_pos m1] at hl; exact ⟨m1, by omega⟩
              · rw [if_neg m1] at hl; omega
            · rw [if_neg m0] at hl
              by_cases m1 : mayB a b (i + 1) j 1 = true
              · rw [if_pos m1] at hl; exact ⟨m1, by omega⟩
              · rw [if_neg m1] at hl; omega
          exact dn_o (ih (i + 1) j (by omega) h1.2) (may_1.mp h1.1).2
theorem dn_lead {a b : List Int} (ok : OkM a b) (hb : barL a b = []) : ∀ n i j : Nat, i + j = n → i ≤ a.length → j ≤ b.length → Dn a b (i, j) → 0 < lead a b i j := by
  intro n
  induction n with
  | zero =>
    intro i j h _ _ _
    obtain ⟨rfl, rfl⟩ : i = 0 ∧ j = 0 := by omega
    simp [lead]
  | succ n ih =>
    intro i j h hi hj hd
    have z1 : ∀ i', i = i' + 1 → (∀ y : Nat, y < j → b.getD y 0 ≤ i') → 0 < lead a b i' j := fun i' e hy => ih i' j (by omega) (by omega) hj ⟨fun x hx => hd.1 x (by show x < i; have : x < i' := hx; omega), hy⟩
    have z2 : ∀ j', j = j' + 1 → (∀ x : Nat, x < i → a.getD x 0 ≤ j') → 0 < lead a b i j' := fun j' e hx => ih i j' (by omega) hi (by omega) ⟨hx, fun y hy => hd.2 y (by show y < j; have : y < j' := hy; omega)⟩
    cases i with
    | zero =>
      cases j with
      | zero => omega
      | succ j =>
        unfold lead
        rw [if_pos (may_1.mpr ⟨by omega, hd.2 j (Nat.lt_succ_self _)⟩)]
        exact z2 j rfl fun x hx => absurd hx (Nat.not_lt_zero _)
    | succ i =>
      cases j with
      | zero =>
        unfold lead
        rw [if_pos (may_0.mpr ⟨by omega, hd.1 i (Nat.lt_succ_self _)⟩)]
        exact z1 i rfl fun x hx => absurd hx (Nat.not_lt_zero _)
      | succ j =>
        unfold lead
        have ma : a.getD i 0 ≤ ((j + 1 : Nat) : Int) := hd.1 i (Nat.lt_succ_self _)
        have mb : b.getD j 0 ≤ ((i + 1 : Nat) : Int) := hd.2 j (Nat.lt_succ_self _)
        rw [if_pos (may_0.mpr ⟨by omega, ma⟩), if_pos (may_1.mpr ⟨by omega, mb⟩)]
        by_cases e : b.getD j 0 ≤ (i : Int)
        · have := z1 i rfl fun y hy => by
            have := pw_mono ok.sb (i := y) (j := j) (by omega) (by omega)
            omega
          omega
        · have f := bar_free hb (i := i) (j := j) (by omega) (by omega)
          have := z2 j rfl fun x hx => by
            have := pw_mono ok.sa (i := x) (j := i) (by omega) (by omega)
            omega
          omega
/-- an order passes it just where what was read had been written -/
theorem pass_dn {a b : List Int} (ok : OkM a b) (hb : barL a b = []) {p : Nat × Nat} (hp : p ∈ stdL a b) : 0 < pass a b p ↔ Dn a b p := by
  have h := mem_std.mp hp
  have hc := cnt_pos ok hb _ p.1 p.2 h.1 h.2 rfl
  constructor
  · intro z
    refine lead_dn _ p.1 p.2 rfl ?_
    unfold pass at z
    exact Nat.pos_of_ne_zero fun e => by rw [e, Nat.zero_mul] at z; omega
  · intro z
    exact Nat.mul_pos (dn_lead ok hb _ p.1 p.2 rfl h.1 h.2 z) hc
def passL (a b : List Int) : List (Nat × Nat) := (stdL a b).filter fun p => decide (0 < pass a b p)
theorem mem_pass {a b : List Int} (ok : OkM a b) (hb : barL a b = []) {p : Nat × Nat} : p ∈ passL a b ↔ p.1 ≤ a.length ∧ p.2 ≤ b.length ∧ Dn a b p := by
  unfold passL
  rw [List.mem_filter, decide_eq_true_iff]
  constructor
  · rintro ⟨h1, h2⟩
    have := mem_std.mp h1
    exact ⟨this.1, this.2, (pass_dn ok hb h1).mp h2⟩
  · rintro ⟨h1, h2, h3⟩
    have hp : p ∈ stdL a b := mem_std.mpr ⟨h1, h2⟩
    exact ⟨hp, (pass_dn ok hb hp).mpr h3⟩
def mnP (p q : Nat × Nat) : Nat × Nat := (min p.1 q.1, min p.2 q.2)
def mxP (p q : Nat × Nat) : Nat × Nat := (max p.1 q.1, max p.2 q.2)
theorem dn_mn {a b : List Int} {p q : Nat × Nat} (h1 : Dn a b p) (h2 : Dn a b q) : Dn a b (mnP p q) := by
  refine ⟨fun x hx => ?_, fun y hy => ?_⟩
  · have hx : x < min p.1 q.1 := hx
    have g1 := h1.1 x (by omega)
    have g2 := h2.1 x (by omega)
    show _ ≤ ((min p.2 q.2 : Nat) : Int)
    omega
  · have hy : y < min p.2 q.2 := hy
    have g1 := h1.2 y (by omega)
    have g2 := h2.2 y (by omega)
    show _ ≤ ((min p.1 q.1 : Nat) : Int)
    omega
theorem dn_mx {a b : List Int} {p q : Nat × Nat} (h1 : Dn a b p) (h2 : Dn a b q) : Dn a b (mxP p q) := by
  refine ⟨fun x hx => ?_, fun y hy => ?_⟩
  · have hx : x < max p.1 q.1 := hx
    show _ ≤ ((max p.2 q.2 : Nat) : Int)
    by_cases e : x < p.1
    · have := h1.1 x e; omega
    · have := h2.1 x (by omega); omega
  · have hy : y < max p.2 q.2 := hy
    show _ ≤ ((max p.1 q.1 : Nat) : Int)
    by_cases e : y < p.2
    · have := h1.2 y e; omega
    · have := h2.2 y (by omega); omega
theorem pass_mn {a b : List Int} (ok : OkM a b) (hb : barL a b = []) {p q : Nat × Nat} (h1 : p ∈ passL a b) (h2 : q ∈ passL a b) : mnP p q ∈ passL a b := by
  rw [mem_pass ok hb] at h1 h2 ⊢
  exact ⟨by show min p.1 q.1 ≤ _; omega, by show min p.2 q.2 ≤ _; omega, dn_mn h1.2.2 h2.2.2⟩
theorem pass_mx {a b : List Int} (ok : OkM a b) (hb : barL a b = []) {p q : Nat × Nat} (h1 : p ∈ passL a b) (h2 : q ∈ passL a b) : mxP p q ∈ passL a b := by
  rw [mem_pass ok hb] at h1 h2 ⊢
  exact ⟨by show max p.1 q.1 ≤ _; omega, by show max p.2 q.2 ≤ _; omega, dn_mx h1.2.2 h2.2.2⟩
/-- a side's part of a standing -/
def sel (s : Int) (p : Nat × Nat) : Nat := if s = 0 then p.1 else p.2
def withL (a b : List Int) (s : Int) (i : Nat) : List (Nat × Nat) := (passL a b).filter fun p => decide (i < sel s p)
def woL (a b : List Int) (s : Int) (i : Nat) : List (Nat × Nat) := (passL a b).filter fun p => decide (sel s p ≤ i)
theorem seen_dn {a b : List Int} (ok : OkM a b) (hb : barL a b = []) {s : Int} {i : Nat} (hs : s = 0 ∨ s = 1) (hi : i < (bun a b s).length) : Dn a b (seenP a b s i, seenQ a b s i) := by
  rcases hs with rfl | rfl
  · have hi : i < a.length := hi
    have hm := ok.ra _ (getD_mem hi)
    refine ⟨fun x hx => ?_, fun y hy => ?_⟩
    · have hx : x < i + 1 := hx
      have := pw_mono ok.sa (i := x) (j := i) (by omega) hi
      show _ ≤ (((a.getD i 0).toNat : Nat) : Int)
      omega
    · have hy : y < (a.getD i 0).toNat := hy
      have := bar_free hb (i := i) (j := y) hi (by omega)
      show _ ≤ ((i + 1 : Nat) : Int)
      omega
  · have hi : i < b.length := hi
    have hm := ok.rb _ (getD_mem hi)
    refine ⟨fun x hx => ?_, fun y hy => ?_⟩
    · have hx : x < (b.getD i 0).toNat := hx
      have := bar_free hb (i := x) (j := i) (by omega) hi
      show _ ≤ ((i + 1 : Nat) : Int)
      omega
    · have hy : y < i + 1 := hy
      have := pw_mono ok.sb (i := y) (j := i) (by omega) hi
      show _ ≤ (((b.getD i 0).toNat : Nat) : Int)
      omega
/-- what was seen is the least standing in which a letter is written -/
theorem seen_least {a b : List Int} (ok : OkM a b) (hb : barL a b = []) {s : Int} {i : Nat} (hs : s = 0 ∨ s = 1) (hi : i < (bun a b s).length) : (seenP a b s i, seenQ a b s i) ∈ withL a b s i ∧ ∀ p ∈ withL a b s i, seenP a b s i ≤ p.1 ∧ seenQ a b s i ≤ p.2 := by
  have so := seenOk ok hb hs hi
  unfold withL
  constructor
  · rw [List.mem_filter, mem_pass ok hb]
    refine ⟨⟨so.hp, so.hq, seen_dn ok hb hs hi⟩, ?_⟩
    rcases hs with rfl | rfl <;> simp [sel, seenP, seenQ]
  · intro p hp
    rw [List.mem_filter, mem_pass ok hb] at hp
    obtain ⟨⟨_, _, hd⟩, hsel⟩ := hp
    rcases hs with rfl | rfl
    · have hsel : i < p.1 := by simpa [sel] using hsel
      have := hd.1 i hsel
      show i + 1 ≤ p.1 ∧ (a.getD i 0).toNat ≤ p.2
      omega
    · have hsel : i < p.2 := by simpa [sel] using hsel
      have := hd.2 i hsel
      show (b.getD i 0).toNat ≤ p.1 ∧ i + 1 ≤ p.2
      omega
theorem greatest {R : Nat × Nat → Prop} (hR : ∀ p q, R p → R q → R (mxP p q)) : ∀ (l : List (Nat × Nat)), l ≠ [] → (∀ p ∈ l, R p) → ∃ g, R g ∧ (∀ p ∈ l, p.1 ≤ g.1 ∧ p.2 ≤ g.2) ∧ (∃ p ∈ l, p.1 = g.1) ∧ ∃ p ∈ l, p.2 = g.2
  | [p], _, h => ⟨p, h p (by simp), by simp, ⟨p, by simp⟩, ⟨p, by simp⟩⟩
  | p :: q :: l, _, h => by
    obtain ⟨g, h1, h2, ⟨u, hu, eu⟩, ⟨v, hv, ev⟩⟩ := greatest hR (q :: l) (by simp) fun x hx => h x (List.mem_cons_of_mem _ hx)
    refine ⟨mxP p g, hR _ _ (h p List.mem_cons_self) h1, fun x hx => ?_, ?_, ?_⟩
    · show x.1 ≤ max p.1 g.1 ∧ x.2 ≤ max p.2 g.2
      rcases List.mem_cons.mp hx with rfl | hx
      · omega
      · have := h2 x hx; omega
    · by_cases e : g.1 ≤ p.1
      · exact ⟨p, List.mem_cons_self, by show p.1 = max p.1 g.1; omega⟩
      · exact ⟨u, List.mem_cons_of_mem _ hu, by show u.1 = max p.1 g.1; omega⟩
    · by_cases e : g.2 ≤ p.2
      · exact ⟨p, List.mem_cons_self, by show p.2 = max p.2 g.2; omega⟩
      · exact ⟨v, List.mem_cons_of_mem _ hv, by show v.2 = max p.2 g.2; omega⟩
theorem fold_mn : ∀ (l : List Int) (x m : Int), (m = x ∨ m ∈ l) → m ≤ x → (∀ y ∈ l, m ≤ y) → l.foldl min x = m
  | [], x, m, h, _, _ => by
    rcases h with h | h
    · exact h.symm
    · cases h
  | y :: l, x, m, h, h1, h2 => by
    refine fold_mn l (min x y) m ?_ ?_ fun z hz => h2 z (List.mem_cons_of_mem _ hz)
    · have := h2 y List.mem_cons_self
      rcases h with h | h
      · exact .inl (by omega)
      · rcases List.mem_cons.mp h with h | h
        · exact .inl (by omega)
        · exact .inr h
    · have := h2 y List.mem_cons_self
      omega
theorem fold_mx : ∀ (l : List Int) (x m : Int), (m = x ∨ m ∈ l) → x ≤ m → (∀ y ∈ l, y ≤ m) → l.foldl max x = m
  | [], x, m, h, _, _ => by
    rcases h with h | h
    · exact h.symm
    · cases h
  | y :: l, x, m, h, h1, h2 => by
    refine fold_mx l (max x y) m ?_ ?_ fun z hz => h2 z (List.mem_cons_of_mem _ hz)
    · have := h2 y List.mem_cons_self
      rcases h with h | h
      · exact .inl (by omega)
      · rcases List.mem_cons.mp h with h | h
        · exact .inl (by omega)
        · exact .inr h
    · have := h2 y List.mem_cons_self
      omega
theorem bi_min {l : List Int} {m : Int} (h : m ∈ l) (hl : ∀ y ∈ l, m ≤ y) : biT .minL [.lst (l.map .int)] = some (.int m) := by
  show ((ints? (l.map T.int)).bind minL).map T.int = _
  rw [ints_map]
  cases l with
  | nil => cases h
  | cons x r =>
    show some (T.int (r.foldl min x)) = _
    rw [fold_mn r x m (List.mem_cons.mp h) (hl x List.mem_cons_self) fun y hy => hl y (List.mem_cons_of_mem _ hy)]
theorem bi_max {l : List Int} {m : Int} (h : m ∈ l) (hl : ∀ y ∈ l, y ≤ m) : biT .maxL [.lst (l.map .int)] = some (.int m) := by
  show ((ints? (l.map T.int)).bind maxL).map T.int = _
  rw [ints_map]
  cases l with
  | nil => cases h
  | cons x r =>
    show some (T.int (r.foldl max x)) = _
    rw [fold_mx r x m (List.mem_cons.mp h) (hl x List.mem_cons_self) fun y hy => hl y (List.mem_cons_of_mem _ hy)]
structure HasCut (D : Tab) : Prop extends HasStd D, HasCan D where
  there' : D.fn "" "need_there" = some d_need_there
  stds : D.fn "" "standings" = some d_standings
  past : D.fn "" "past" = some d_past
  till : D.fn "" "till" = some d_till
theorem standings_ok (h : HasCut D) {a b : List Int} (ok : OkM a b) (q : if barL a b = [] then Q (.lst ((passL a b).map pT)) S else X "Nothing" S) : CallWP D (k + 23) "" "standings" [mailT a b] S Q X := by
  refine call_of h.stds rfl ?_
  have la := ok.la
  have lb := ok.lb
  simp [d_standings, startT_eq]
  unfold st1
  simp
  refine need_mail_ok (k := k + 18) h.need h.toHasMail ok ?_
  unfold st2
  simp
  refine need_there_ok (k := k + 18) h.there' h.toHasCan ok ?_
  by_cases hb : barL a b = []
  · rw [if_pos hb] at q ⊢
    unfold st3
    simp
    refine passing_ok (k := k) h.toHasStd (by omega) (by omega) ?_
    simp
    refine standings_all h.all (by omega) (by omega) ?_
    simp
    refine wpL_filter (tT := pT) (h := pT) (p := fun p => decide (0 < pass a b p)) (fun p hp k' hk => ?_) (by simp) (.keep q)
    rw [idx_std (f := pass a b) hp]
    simp at hk ⊢
    exact hk
  · rw [if_neg hb] at q ⊢
    exact .keep q
/-- past, till: the walk up to what is walked -/
theorem idx_sel {p : Nat × Nat} {s : Int} (hs : s = 0 ∨ s = 1) : idxT (pT p) (.int s) = some (.int (sel s p : Nat)) := by
  rcases hs with rfl | rfl
  · simp [sel]
  · simp [sel]
theorem map_fst (l : List (Nat × Nat)) : l.flatMap (fun p => [T.int (p.1 : Nat)]) = (l.map fun p => (p.1 : Int)).map T.int := by induction l <;> simp_all
theorem map_snd (l : List (Nat × Nat)) : l.flatMap (fun p => [T.int (p.2 : Nat)]) = (l.map fun p => (p.2 : Int)).map T.int := by induction l <;> simp_all
theorem min_two {l : List (Nat × Nat)} {m n : Nat} {KQ : T → T → Mem → Prop} (hm : ∃ p ∈ l, p.1 = m) (hn : ∃ p ∈ l, p.2 = n) (hl : ∀ p ∈ l, m ≤ p.1 ∧ n ≤ p.2) (hK : KQ (.int (m : Nat)) (.int (n : Nat)) S) :
    wpL (fun _ => True) (fun x S k => okO (idxT (vw S x) (T.int 0)) fun z => k [z] S) (l.map pT) [] S fun ys S2 => okO (biT .minL [.lst ys]) fun z => wpL (fun _ => True) (fun x S k => okO (idxT (vw S x) (T.int 1)) fun z => k [z] S) (l.map pT) [] S2 fun ys S2 => okO (biT .minL [.lst ys]) fun z1 => KQ z z1 S2 := by
  refine wpL_on (tT := pT) (f := fun p => [T.int (p.1 : Nat)]) (fun p hp k' hk => by simpa using hk) trivial ?_
  obtain ⟨u, hu, eu⟩ := hm
  obtain ⟨v, hv, ev⟩ := hn
  rw [List.nil_append, map_fst, bi_min (m := (m : Int)) (List.mem_map.mpr ⟨u, hu, by rw [eu]⟩) (fun y hy => by
    obtain ⟨p, hp, rfl⟩ := List.mem_map.mp hy
    have := hl p hp
    omega)]
  refine wpL_on (tT := pT) (f := fun p => [T.int (p.2 : Nat)]) (fun p hp k' hk => by simpa using hk) trivial ?_
  rw [List.nil_append, map_snd, bi_min (m := (n : Int)) (List.mem_map.mpr ⟨v, hv, by rw [ev]⟩) (fun y hy => by
    obtain ⟨p, hp, rfl⟩ := List.mem_map.mp hy
    have := hl p hp
    omega)]
  exact hK
theorem max_two {l : List (Nat × Nat)} {m n : Nat} {KQ : T → T → Mem → Prop} (hm : ∃ p ∈ l, p.1 = m) (hn : ∃ p ∈ l, p.2 = n) (hl : ∀ p ∈ l, p.1 ≤ m ∧ p.2 ≤ n) (hK : KQ (.int (m : Nat)) (.int (n : Nat)) S) :
    wpL (fun _ => True) (fun x S k => okO (idxT (vw S x) (T.int 0)) fun z => k [z] S) (l.map pT) [] S fun ys S2 => okO (biT .maxL [.lst ys]) fun z => wpL (fun _ => True) (fun x S k => okO (idxT (vw S x) (T.int 1)) fun z => k [z] S) (l.map pT) [] S2 fun ys S2 => okO (biT .maxL [.lst ys]) fun z1 => KQ z z1 S2 := by
  refine wpL_on (tT := pT) (f := fun p => [T.int (p.1 : Nat)]) (fun p hp k' hk => by simpa using hk) trivial ?_
  obtain ⟨u, hu, eu⟩ := hm
  obtain ⟨v, hv, ev⟩ := hn
  rw [List.nil_append, map_fst, bi_max (m := (m : Int)) (List.mem_map.mpr ⟨u, hu, by rw [eu]⟩) (fun y hy => by
    obtain ⟨p, hp, rfl⟩ := List.mem_map.mp hy
    have := hl p hp
    omega)]
  refine wpL_on (tT := pT) (f := fun p => [T.int (p.2 : Nat)]) (fun p hp k' hk => by simpa using hk) trivial ?_
  rw [List.nil_append, map_snd, bi_max (m := (n : Int)) (List.mem_map.mpr ⟨v, hv, by rw [ev]⟩) (fun y hy => by
    obtain ⟨p, hp, rfl⟩ := List.mem_map.mp hy
    have := hl p hp
    omega)]
  exact hK
/-- the greatest standing in which a letter is not written -/
def GrT (a b : List Int) (s : Int) (i : Nat) (g : Nat × Nat) : Prop := g ∈ woL a b s i ∧ (∀ p ∈ woL a b s i, p.1 ≤ g.1 ∧ p.2 ≤ g.2)
theorem gr_ex {a b : List Int} (ok : OkM a b) (hb : barL a b = []) {s : Int} {i : Nat} (hs : s = 0 ∨ s = 1) : ∃ g, GrT a b s i g := by
  have m0 : (0, 0) ∈ woL a b s i := by
    unfold woL
    rw [List.mem_filter, mem_pass ok hb]
    refine ⟨⟨Nat.zero_le _, Nat.zero_le _, fun x hx => absurd hx (Nat.not_lt_zero _), fun x hx => absurd hx (Nat.not_lt_zero _)⟩, ?_⟩
    rcases hs with rfl | rfl <;> simp [sel]
  obtain ⟨g, h1, h2, _, _⟩ := greatest (R := fun p => p ∈ woL a b s i) (fun p q hp hq => by
    unfold woL at hp hq ⊢
    rw [List.mem_filter] at hp hq ⊢
    refine ⟨pass_mx ok hb hp.1 hq.1, ?_⟩
    have e1 := hp.2
    have e2 := hq.2
    rcases hs with rfl | rfl
    · simp [sel, mxP] at e1 e2 ⊢
      omega
    · simp [sel, mxP] at e1 e2 ⊢
      omega) (woL a b s i) (fun z => by rw [z] at m0; cases m0) fun p hp => hp
  exact ⟨g, h1, h2⟩
theorem past_ok (h : HasCut D) {a b : List Int} (ok : OkM a b) {s : Int} {i : Nat} (hs : s = 0 ∨ s = 1) (hi : i < (bun a b s).length) (q : if barL a b = [] then Q (pairT (seenP a b s i : Nat) (seenQ a b s i : Nat)) S else X "Nothing" S) : CallWP D (k + 23) "" "past" [mailT a b, pairT s i] S Q X := by
  refine call_of h.past rfl ?_
  have la := ok.la
  have lb := ok.lb
  simp [d_past, startT_eq]
  unfold pa1
  simp
  refine need_mail_ok (k := k + 18) h.need h.toHasMail ok ?_
  unfold pa2
  simp
  refine need_letter_ok (k := k + 19) h.needl h.isl h.toHasMail hs hi ?_
  unfold pa3
  simp
  refine need_there_ok (k := k + 18) h.there' h.toHasCan ok ?_
  by_cases hb : barL a b = []
  · rw [if_pos hb] at q ⊢
    unfold pa4
    simp
    refine passing_ok (k := k) h.toHasStd (by omega) (by omega) ?_
    unfold pa5
    simp
    refine standings_all h.all (by omega) (by omega) ?_
    simp
    refine wpL_filter (tT := pT) (h := pT) (p := fun p => decide (0 < pass a b p) && decide (i < sel s p)) (fun p hp k' hk => ?_) (by simp) ?_
    · rw [idx_std (f := pass a b) hp]
      simp only [okO_some, vw_int, cmp_gt]
      by_cases h0 : 0 < pass a b p
      · rw [if_pos (by simpa using h0)]
        rw [show vw S (pT p) = pT p from rfl, idx_sel hs]
        simp [h0] at hk ⊢
        exact hk
      · rw [if_neg (by simpa using h0)]
        simpa [h0] using hk
    · have e : ((stdL a b).filter fun p => decide (0 < pass a b p) && decide (i < sel s p)) = withL a b s i := by
        unfold withL passL
        rw [List.filter_filter]
        congr 1
        funext p
        rw [Bool.and_comm]
      rw [e]
      obtain ⟨z1, z2⟩ := seen_least ok hb hs hi
      exact min_two ⟨_, z1, rfl⟩ ⟨_, z1, rfl⟩ z2 (KQ := fun z z1 S2 => Back S Q (T.tup [z, z1]) S2) (.keep q)
  · rw [if_neg hb] at q ⊢
    exact .keep q
theorem till_ok (h : HasCut D) {a b : List Int} (ok : OkM a b) {s : Int} {i : Nat} (hs : s = 0 ∨ s = 1) (hi : i < (bun a b s).length) (q : if barL a b = [] then ∀ g, GrT a b s i g → Q (pT g) S else X "Nothing" S) : CallWP D (k + 23) "" "till" [mailT a b, pairT s i] S Q X := by
  refine call_of h.till rfl ?_
  have la := ok.la
  have lb := ok.lb
  simp [d_till, startT_eq]
  unfold tl1
  simp
  refine need_mail_ok (k := k + 18) h.need h.toHasMail ok ?_
  unfold tl2
  simp
  refine need_letter_ok (k := k + 19) h.needl h.isl h.toHasMail hs hi ?_
  unfold tl3
  simp
  refine need_there_ok (k := k + 18) h.there' h.toHasCan ok ?_
  by_cases hb : barL a b = []
  · rw [if_pos hb] at q ⊢
    unfold tl4
    simp
    refine passing_ok (k := k) h.toHasStd (by omega) (by omega) ?_
    unfold tl5
    simp
    refine standings_all h.all (by omega) (by omega) ?_
    simp
    refine wpL_filter (tT := pT) (h := pT) (p := fun p => decide (0 < pass a b p) && decide (sel s p ≤ i)) (fun p hp k' hk => ?_) (by simp) ?_
    · rw [idx_std (f := pass a b) hp]
      simp only [okO_some, vw_int, cmp_gt]
      by_cases h0 : 0 < pass a b p
      · rw [if_pos (by simpa using h0)]
        rw [show vw S (pT p) = pT p from rfl, idx_sel hs]
        simp [h0] at hk ⊢
        exact hk
      · rw [if_neg (by simpa using h0)]
        simpa [h0] using hk
    · have e : ((stdL a b).filter fun p => decide (0 < pass a b p) && decide (sel s p ≤ i)) = woL a b s i := by
        unfold woL passL
        rw [List.filter_filter]
        congr 1
        funext p
        rw [Bool.and_comm]
      rw [e]
      obtain ⟨g, z1, z2⟩ := gr_ex (i := i) ok hb hs
      exact max_two ⟨_, z1, rfl⟩ ⟨_, z1, rfl⟩ z2 (KQ := fun z z1 S2 => Back S Q (T.tup [z, z1]) S2) (.keep (q g ⟨z1, z2⟩))
  · rw [if_neg hb] at q ⊢
    exact .keep q
theorem past_bad (h : HasCut D) {a b : List Int} (ok : OkM a b) {t : T} (ht : plain2 t = true) (hf : letterB a b t = false) (q : X "BadLetter" S) : CallWP D (k + 23) "" "past" [mailT a b, t] S Q X := by
  refine call_of h.past rfl ?_
  simp [d_past, startT_eq]
  unfold pa1
  simp
  refine need_mail_ok (k := k + 18) h.need h.toHasMail ok ?_
  unfold pa2
  simp
  exact need_letter_any (k := k + 19) h.needl h.isl h.toHasMail ht hf (.keep q)
theorem till_bad (h : HasCut D) {a b : List Int} (ok : OkM a b) {t : T} (ht : plain2 t = true) (hf : letterB a b t = false) (q : X "BadLetter" S) : CallWP D (k + 23) "" "till" [mailT a b, t] S Q X := by
  refine call_of h.till rfl ?_
  simp [d_till, startT_eq]
  unfold tl1
  simp
  refine need_mail_ok (k := k + 18) h.need h.toHasMail ok ?_
  unfold tl2
  simp
  exact need_letter_any (k := k + 19) h.needl h.isl h.toHasMail ht hf (.keep q)
end PC
/-! PlPre: rows of turns from the start on; how many pass a standing. -/
namespace PC
/-- the rows, so many turns from (i, j) on, that steps let -/
def gL (st : Nat → Nat → Int → Bool) : Nat → Nat → Nat → List (List Int)
  | 0, _, _ => [[]]
  | r + 1, i, j => (if st i j 0 = true then (gL st r (i + 1) j).map (0 :: ·) else []) ++ (if st i j 1 = true then (gL st r i (j + 1)).map (1 :: ·) else [])
def stepF (st : Nat → Nat → Int → Bool) (row : List Int) : List (List Int) := (if st (row.count 0) (row.count 1) 0 = true then [row ++ [0]] else []) ++ (if st (row.count 0) (row.count 1) 1 = true then [row ++ [1]] else [])
/-- so many turns from the start on -/
def fL (st : Nat → Nat → Int → Bool) : Nat → List (List Int)
  | 0 => [[]]
  | t + 1 => (fL st t).flatMap (stepF st)
theorem cnt_s0 (row : List Int) : (row ++ [0]).count 0 = row.count 0 + 1 ∧ (row ++ [0]).count 1 = row.count 1 := by
  rw [List.count_append, List.count_append]; simp
theorem cnt_s1 (row : List Int) : (row ++ [1]).count 0 = row.count 0 ∧ (row ++ [1]).count 1 = row.count 1 + 1 := by
  rw [List.count_append, List.count_append]; simp
theorem if_dt {α : Type} {c : Prop} [Decidable c] {x y : α} (h : c) : (if decide c = true then x else y) = x := by rw [decide_eq_true h]; rfl
theorem if_df {α : Type} {c : Prop} [Decidable c] {x y : α} (h : ¬c) : (if decide c = true then x else y) = y := by rw [decide_eq_false h]; rfl
theorem cp1 {α : Type} {p : α → Bool} {x : α} : [x].countP p = if p x = true then 1 else 0 := by rw [List.countP_cons]; simp
theorem fL_gL (st : Nat → Nat → Int → Bool) : ∀ t r : Nat, (fL st t).flatMap (fun row => (gL st r (row.count 0) (row.count 1)).map (row ++ ·)) = gL st (t + r) 0 0
  | 0, r => by simp [fL]
  | t + 1, r => by
    have ih := fL_gL st t (r + 1)
    rw [show t + 1 + r = t + (r + 1) by omega, ← ih]
    show ((fL st t).flatMap (stepF st)).flatMap _ = _
    rw [List.flatMap_assoc]
    congr 1
    funext row
    unfold stepF
    show _ = ((if _ then _ else _) ++ (if _ then _ else _) : List (List Int)).map _
    rw [List.map_append, List.flatMap_append]
    congr 1
    · by_cases h : st (row.count 0) (row.count 1) 0 = true
      · rw [if_pos h, if_pos h]
        simp [cnt_s0, -List.count_append, Function.comp_def]
      · rw [if_neg h, if_neg h]; rfl
    · by_cases h : st (row.count 0) (row.count 1) 1 = true
      · rw [if_pos h, if_pos h]
        simp [cnt_s1, -List.count_append, Function.comp_def]
      · rw [if_neg h, if_neg h]; rfl
theorem mem_stepF {st : Nat → Nat → Int → Bool} {row t : List Int} : t ∈ stepF st row ↔ (st (row.count 0) (row.count 1) 0 = true ∧ t = row ++ [0]) ∨ (st (row.count 0) (row.count 1) 1 = true ∧ t = row ++ [1]) := by
  unfold stepF
  rw [List.mem_append]
  constructor
  · rintro (h | h)
    · split at h
      · simp at h; exact .inl ⟨by assumption, h⟩
      · cases h
    · split at h
      · simp at h; exact .inr ⟨by assumption, h⟩
      · cases h
  · rintro (⟨h, e⟩ | ⟨h, e⟩)
    · left; rw [if_pos h, e]; simp
    · right; rw [if_pos h, e]; simp
theorem fL_row {st : Nat → Nat → Int → Bool} : ∀ (t : Nat) (row : List Int), row ∈ fL st t → row.length = t ∧ (∀ x ∈ row, x = 0 ∨ x = 1) ∧ row.count 0 + row.count 1 = t
  | 0, row, h => by
    have h : row ∈ [[]] := h
    simp at h
    subst h
    exact ⟨rfl, (fun x hx => by cases hx), rfl⟩
  | t + 1, row, h => by
    have h : row ∈ (fL st t).flatMap (stepF st) := h
    obtain ⟨r0, h0, h1⟩ := List.mem_flatMap.mp h
    obtain ⟨i1, i2, i3⟩ := fL_row t r0 h0
    rcases mem_stepF.mp h1 with ⟨_, rfl⟩ | ⟨_, rfl⟩
    · refine ⟨by simp [i1], fun x hx => ?_, by rw [(cnt_s0 r0).1, (cnt_s0 r0).2]; omega⟩
      rcases List.mem_append.mp hx with hx | hx
      · exact i2 x hx
      · simp at hx; exact .inl hx
    · refine ⟨by simp [i1], fun x hx => ?_, by rw [(cnt_s1 r0).1, (cnt_s1 r0).2]; omega⟩
      rcases List.mem_append.mp hx with hx | hx
      · exact i2 x hx
      · simp at hx; exact .inr hx
/-- how many ways lead to (i, j) -/
def nF (st : Nat → Nat → Int → Bool) (i j : Nat) : Nat := (fL st (i + j)).countP fun row => decide (row.count 0 = i)
theorem sum_two {α : Type} (p q : α → Bool) (u v : Nat) : ∀ l : List α, (l.map fun x => (if p x = true then u else 0) + (if q x = true then v else 0)).sum = l.countP p * u + l.countP q * v
  | [] => by simp
  | x :: l => by
    rw [List.map_cons, List.sum_cons, sum_two p q u v l, List.countP_cons, List.countP_cons, Nat.add_mul, Nat.add_mul]
    cases p x <;> cases q x <;> simp <;> omega
theorem sum_one {α : Type} (p : α → Bool) (u : Nat) : ∀ l : List α, (l.map fun x => if p x = true then u else 0).sum = l.countP p * u
  | [] => by simp
  | x :: l => by
    rw [List.map_cons, List.sum_cons, sum_one p u l, List.countP_cons, Nat.add_mul]
    cases p x <;> simp <;> omega
theorem nF_step (st : Nat → Nat → Int → Bool) (i j t : Nat) (h : i + j = t + 1) : nF st i j = (if 1 ≤ i ∧ st (i - 1) j 0 = true then nF st (i - 1) j else 0) + (if 1 ≤ j ∧ st i (j - 1) 1 = true then nF st i (j - 1) else 0) := by
  unfold nF
  rw [h]
  show ((fL st t).flatMap (stepF st)).countP _ = _
  rw [List.countP_flatMap]
  have e : (fL st t).map (List.countP (fun row : List Int => decide (row.count 0 = i)) ∘ stepF st) = (fL st t).map fun row => (if decide (row.count 0 + 1 = i) = true then (if st (i - 1) j 0 = true then 1 else 0) else 0) + (if decide (row.count 0 = i) = true then (if 1 ≤ j ∧ st i (j - 1) 1 = true then 1 else 0) else 0) := by
    refine List.map_congr_left fun row hr => ?_
    obtain ⟨_, _, hc⟩ := fL_row t row hr
    show (stepF st row).countP _ = _
    unfold stepF
    rw [List.countP_append]
    congr 1
    · have d0 : decide ((row ++ [0]).count 0 = i) = decide (row.count 0 + 1 = i) := by
        rw [(cnt_s0 row).1]
      by_cases e0 : row.count 0 + 1 = i
      · rw [if_dt e0]
        rw [decide_eq_true e0] at d0
        rw [show st (row.count 0) (row.count 1) 0 = st (i - 1) j 0 by rw [show row.count 0 = i - 1 by omega, show row.count 1 = j by omega]]
        by_cases hs : st (i - 1) j 0 = true
        · rw [if_pos hs, if_pos hs, cp1, d0]; rfl
        · rw [if_neg hs, if_neg hs]; rfl
      · rw [if_df e0]
        rw [decide_eq_false e0] at d0
        split
        · rw [cp1, d0]; rfl
        · rfl
    · have d0 : decide ((row ++ [1]).count 0 = i) = decide (row.count 0 = i) := by
        rw [(cnt_s1 row).1]
      by_cases e0 : row.count 0 = i
      · rw [if_dt e0]
        rw [decide_eq_true e0] at d0
        by_cases hj : 1 ≤ j
        · rw [show st (row.count 0) (row.count 1) 1 = st i (j - 1) 1 by rw [show row.count 0 = i by omega, show row.count 1 = j - 1 by omega]]
          by_cases hs : st i (j - 1) 1 = true
          · rw [if_pos hs, if_pos ⟨hj, hs⟩, cp1, d0]; rfl
          · rw [if_neg hs, if_neg (fun z => hs z.2)]; rfl
        · omega
      · rw [if_df e0]
        rw [decide_eq_false e0] at d0
        split
        · rw [cp1, d0]; rfl
        · rfl
  rw [e, sum_two]
  congr 1
  · by_cases hi : 1 ≤ i
    · rw [show i - 1 + j = t by omega]
      have : ∀ row : List Int, decide (row.count 0 + 1 = i) = decide (row.count 0 = i - 1) := fun row => decide_eq_decide.mpr (by omega)
      simp only [this]
      by_cases hs : st (i - 1) j 0 = true
      · rw [if_pos hs, if_pos ⟨hi, hs⟩, Nat.mul_one]
      · rw [if_neg hs, if_neg (fun z => hs z.2), Nat.mul_zero]
    · rw [if_neg (c := 1 ≤ i ∧ st (i - 1) j 0 = true) (fun z => hi z.1)]
      have : (fL st t).countP (fun row : List Int => decide (row.count 0 + 1 = i)) = 0 := by
        rw [List.countP_eq_zero]
        intro row _
        simp
        omega
      rw [this, Nat.zero_mul]
  · by_cases hs : 1 ≤ j ∧ st i (j - 1) 1 = true
    · rw [if_pos hs, if_pos hs, Nat.mul_one, show i + (j - 1) = t by omega]
    · rw [if_neg hs, if_neg hs, Nat.mul_zero]
theorem nF_00 (st : Nat → Nat → Int → Bool) : nF st 0 0 = 1 := rfl
/-- how many rows have a beginning -/
theorem pre_count (st : Nat → Nat → Int → Bool) (p : List Int → Bool) (t r : Nat) : (gL st (t + r) 0 0).countP (fun o => p (o.take t)) = (((fL st t).filter p).map fun row => (gL st r (row.count 0) (row.count 1)).length).sum := by
  rw [← fL_gL st t r, List.countP_flatMap]
  have e : (fL st t).map (List.countP (fun o : List Int => p (o.take t)) ∘ fun row => (gL st r (row.count 0) (row.count 1)).map (row ++ ·)) = (fL st t).map fun row => if p row = true then (gL st r (row.count 0) (row.count 1)).length else 0 := by
    refine List.map_congr_left fun row hr => ?_
    have hl := (fL_row t row hr).1
    show ((gL st r (row.count 0) (row.count 1)).map (row ++ ·)).countP _ = _
    rw [List.countP_map]
    have : ((fun o : List Int => p (o.take t)) ∘ fun x => row ++ x) = fun _ => p row := by
      funext x
      show p ((row ++ x).take t) = p row
      rw [← hl, List.take_left']
      rfl
    rw [this]
    by_cases hp : p row = true
    · rw [if_pos hp, List.countP_eq_length]
      intro _ _; exact hp
    · rw [if_neg hp, List.countP_eq_zero]
      intro _ _; exact hp
  rw [e]
  generalize fL st t = l
  induction l with
  | nil => rfl
  | cons x l ih =>
    rw [List.map_cons, List.sum_cons, ih, List.filter_cons]
    cases p x <;> simp
/-- how many rows pass a standing -/
theorem pass_count (st : Nat → Nat → Int → Bool) (i j r : Nat) : (gL st (i + j + r) 0 0).countP (fun o => decide ((o.take (i + j)).count 0 = i)) = nF st i j * (gL st r i j).length := by
  rw [pre_count st (fun row => decide (row.count 0 = i)) (i + j) r]
  unfold nF
  rw [List.countP_eq_length_filter]
  have h : ∀ row ∈ (fL st (i + j)).filter (fun row => decide (row.count 0 = i)), row.count 0 = i ∧ row.count 1 = j := fun row hr => by
    obtain ⟨h1, h2⟩ := List.mem_filter.mp hr
    have := (fL_row _ row h1).2.2
    have h2 : row.count 0 = i := by simpa using h2
    exact ⟨h2, by omega⟩
  generalize (fL st (i + j)).filter (fun row => decide (row.count 0 = i)) = l at *
  induction l with
  | nil => simp
  | cons x l ih =>
    rw [List.map_cons, List.sum_cons, ih fun row hr => h row (List.mem_cons_of_mem _ hr), (h x List.mem_cons_self).1, (h x List.mem_cons_self).2, List.length_cons, Nat.add_mul]
    omega
theorem gL_row {st : Nat → Nat → Int → Bool} : ∀ (r i j : Nat) (t : List Int), t ∈ gL st r i j → t.length = r ∧ ∀ x ∈ t, x = 0 ∨ x = 1
  | 0, i, j, t, h => by
    have h : t ∈ [[]] := h
    simp at h
    subst h
    exact ⟨rfl, fun x hx => (by cases hx)⟩
  | r + 1, i, j, t, h => by
    have h : t ∈ (if st i j 0 = true then (gL st r (i + 1) j).map (0 :: ·) else []) ++ (if st i j 1 = true then (gL st r i (j + 1)).map (1 :: ·) else []) := h
    rcases List.mem_append.mp h with h | h
    · split at h
      · obtain ⟨t', ht, rfl⟩ := List.mem_map.mp h
        obtain ⟨h1, h2⟩ := gL_row r _ _ t' ht
        refine ⟨by simp [h1], fun x hx => ?_⟩
        rcases List.mem_cons.mp hx with rfl | hx
        · exact .inl rfl
        · exact h2 x hx
      · cases h
    · split at h
      · obtain ⟨t', ht, rfl⟩ := List.mem_map.mp h
        obtain ⟨h1, h2⟩ := gL_row r _ _ t' ht
        refine ⟨by simp [h1], fun x hx => ?_⟩
        rcases List.mem_cons.mp hx with rfl | hx
        · exact .inr rfl
        · exact h2 x hx
      · cases h
/-- how many rows pass a standing and go on by a side -/
theorem pass_step0 (st : Nat → Nat → Int → Bool) (i j r : Nat) : (gL st (i + j + (r + 1)) 0 0).countP (fun o => decide ((o.take (i + j)).count 0 = i ∧ (o.take (i + j + 1)).count 0 = i + 1)) = nF st i j * (if st i j 0 = true then (gL st r (i + 1) j).length else 0) := by
  rw [show i + j + (r + 1) = (i + j + 1) + r by omega]
  have e : (fun o : List Int => decide ((o.take (i + j)).count 0 = i ∧ (o.take (i + j + 1)).count 0 = i + 1)) = fun o => (fun row : List Int => decide ((row.take (i + j)).count 0 = i ∧ row.count 0 = i + 1)) (o.take (i + j + 1)) := by
    funext o
    show _ = decide (((o.take (i + j + 1)).take (i + j)).count 0 = i ∧ _)
    rw [List.take_take, show min (i + j) (i + j + 1) = i + j by omega]
  rw [e]
  refine (pre_count st (fun row : List Int => decide ((row.take (i + j)).count 0 = i ∧ row.count 0 = i + 1)) (i + j + 1) r).trans ?_
  show (((fL st (i + j)).flatMap (stepF st)).filter _ |>.map _).sum = _
  have key : ∀ l : List (List Int), (∀ row ∈ l, row.length = i + j ∧ row.count 0 + row.count 1 = i + j) → (((l.flatMap (stepF st)).filter fun row : List Int => decide ((row.take (i + j)).count 0 = i ∧ row.count 0 = i + 1)).map fun row => (gL st r (row.count 0) (row.count 1)).length).sum = (l.countP fun row => decide (row.count 0 = i)) * (if st i j 0 = true then (gL st r (i + 1) j).length else 0) := by
    intro l hl
    induction l with
    | nil => simp
    | cons row l ih =>
      have ih := ih fun x hx => hl x (List.mem_cons_of_mem _ hx)
      obtain ⟨h1, h2⟩ := hl row List.mem_cons_self
      rw [List.flatMap_cons, List.filter_append, List.map_append, List.sum_append, ih, List.countP_cons, Nat.add_mul, Nat.add_comm]
      congr 1
      have t0 : (row ++ [0]).take (i + j) = row := by rw [← h1]; simp
      have t1 : (row ++ [1]).take (i + j) = row := by rw [← h1]; simp
      unfold stepF
      rw [List.filter_append, List.map_append, List.sum_append]
      have z1 : ((List.filter (fun row : List Int => decide ((row.take (i + j)).count 0 = i ∧ row.count 0 = i + 1)) (if st (row.count 0) (row.count 1) 1 = true then [row ++ [1]] else [])).map fun row => (gL st r (row.count 0) (row.count 1)).length).sum = 0 := by
        split
        · rw [List.filter_cons, t1, (cnt_s1 row).1, if_neg (by simp; omega)]
          rfl
        · rfl
      rw [z1, Nat.add_zero]
      by_cases hc : row.count 0 = i
      · rw [if_dt hc, Nat.one_mul, hc, show row.count 1 = j by omega]
        by_cases hs : st i j 0 = true
        · rw [if_pos hs, if_pos hs, List.filter_cons, t0, (cnt_s0 row).1, if_pos (by simp [hc])]
          simp [cnt_s0, -List.count_append, hc]
          rw [show row.count 1 = j by omega]
        · rw [if_neg hs, if_neg hs]; rfl
      · rw [if_df hc, Nat.zero_mul]
        split
        · rw [List.filter_cons, t0, if_neg (by simp [hc])]
          rfl
        · rfl
  exact key _ fun row hr => ⟨(fL_row _ row hr).1, (fL_row _ row hr).2.2⟩
theorem pass_step1 (st : Nat → Nat → Int → Bool) (i j r : Nat) : (gL st (i + j + (r + 1)) 0 0).countP (fun o => decide ((o.take (i + j)).count 0 = i ∧ (o.take (i + j + 1)).count 0 = i)) = nF st i j * (if st i j 1 = true then (gL st r i (j + 1)).length else 0) := by
  rw [show i + j + (r + 1) = (i + j + 1) + r by omega]
  have e : (fun o : List Int => decide ((o.take (i + j)).count 0 = i ∧ (o.take (i + j + 1)).count 0 = i)) = fun o => (fun row : List Int => decide ((row.take (i + j)).count 0 = i ∧ row.count 0 = i)) (o.take (i + j + 1)) := by
    funext o
    show _ = decide (((o.take (i + j + 1)).take (i + j)).count 0 = i ∧ _)
    rw [List.take_take, show min (i + j) (i + j + 1) = i + j by omega]
  rw [e]
  refine (pre_count st (fun row : List Int => decide ((row.take (i + j)).count 0 = i ∧ row.count 0 = i)) (i + j + 1) r).trans ?_
  show (((fL st (i + j)).flatMap (stepF st)).filter _ |>.map _).sum = _
  have key : ∀ l : List (List Int), (∀ row ∈ l, row.length = i + j ∧ row.count 0 + row.count 1 = i + j) → (((l.flatMap (stepF st)).filter fun row : List Int => decide ((row.take (i + j)).count 0 = i ∧ row.count 0 = i)).map fun row => (gL st r (row.count 0) (row.count 1)).length).sum = (l.countP fun row => decide (row.count 0 = i)) * (if st i j 1 = true then (gL st r i (j + 1)).length else 0) := by
    intro l hl
    induction l with
    | nil => simp
    | cons row l ih =>
      have ih := ih fun x hx => hl x (List.mem_cons_of_mem _ hx)
      obtain ⟨h1, h2⟩ := hl row List.mem_cons_self
      rw [List.flatMap_cons, List.filter_append, List.map_append, List.sum_append, ih, List.countP_cons, Nat.add_mul, Nat.add_comm]
      congr 1
      have t0 : (row ++ [0]).take (i + j) = row := by rw [← h1]; simp
      have t1 : (row ++ [1]).take (i + j) = row := by rw [← h1]; simp
      unfold stepF
      rw [List.filter_append, List.map_append, List.sum_append]
      have z1 : ((List.filter (fun row : List Int => decide ((row.take (i + j)).count 0 = i ∧ row.count 0 = i)) (if st (row.count 0) (row.count 1) 0 = true then [row ++ [0]] else [])).map fun row => (gL st r (row.count 0) (row.count 1)).length).sum = 0 := by
        split
        · rw [List.filter_cons, t0, (cnt_s0 row).1, if_neg (by simp; omega)]
          rfl
        · rfl
      rw [z1, Nat.zero_add]
      by_cases hc : row.count 0 = i
      · rw [if_dt hc, Nat.one_mul, hc, show row.count 1 = j by omega]
        by_cases hs : st i j 1 = true
        · rw [if_pos hs, if_pos hs, List.filter_cons, t1, (cnt_s1 row).1, if_pos (by simp [hc])]
          simp [cnt_s1, -List.count_append, hc]
          rw [show row.count 1 = j by omega]
        · rw [if_neg hs, if_neg hs]; rfl
      · rw [if_df hc, Nat.zero_mul]
        split
        · rw [List.filter_cons, t1, if_neg (by simp [hc])]
          rfl
        · rfl
  exact key _ fun row hr => ⟨(fL_row _ row hr).1, (fL_row _ row hr).2.2⟩
/-- counted twice -/
theorem count_swap {α β : Type} (p : α → Bool) (r : β → α → Bool) (L : List β) : ∀ O : List α, (∀ o ∈ O, (L.countP fun h => r h o) = if p o = true then 1 else 0) → O.countP p = (L.map fun h => O.countP (r h)).sum
  | [], _ => by
    have : (L.map fun h => ([] : List α).countP (r h)) = L.map fun _ => 0 := rfl
    rw [this]
    clear this
    induction L with
    | nil => rfl
    | cons x L ih => rw [List.map_cons, List.sum_cons, ← ih fun o ho => by cases ho]; rfl
  | o :: O, h => by
    have ih := count_swap p r L O fun x hx => h x (List.mem_cons_of_mem _ hx)
    have h0 := h o List.mem_cons_self
    rw [List.countP_cons, ih]
    have : (L.map fun h => (o :: O).countP (r h)).sum = (L.map fun h => O.countP (r h)).sum + L.countP fun h => r h o := by
      clear ih h0 h
      induction L with
      | nil => rfl
      | cons x L ih =>
        rw [List.map_cons, List.sum_cons, ih, List.map_cons, List.sum_cons, List.countP_cons, List.countP_cons]
        omega
    rw [this, h0]
theorem count_one {β : Type} (p : β → Bool) : ∀ {L : List β} {a : β}, L.Nodup → a ∈ L → (∀ x ∈ L, p x = true ↔ x = a) → L.countP p = 1
  | [], a, _, h, _ => by cases h
  | x :: L, a, hn, h, hp => by
    rw [List.nodup_cons] at hn
    rw [List.countP_cons]
    rcases List.mem_cons.mp h with rfl | h
    · rw [if_pos ((hp a List.mem_cons_self).mpr rfl)]
      have : L.countP p = 0 := by
        rw [List.countP_eq_zero]
        intro y hy hpy
        have := (hp y (List.mem_cons_of_mem _ hy)).mp hpy
        exact hn.1 (this ▸ hy)
      omega
    · have hx : ¬p x = true := fun z => hn.1 (((hp x List.mem_cons_self).mp z) ▸ h)
      rw [if_neg hx, count_one p hn.2 h fun y hy => hp y (List.mem_cons_of_mem _ hy)]
end PC
/-! PlOrd: the law's own rows of turns, its own orders. -/
namespace PC
open PySem
variable {D : Tab} {k : Nat} {C g : Str} {d : Def} {args : List T} {S : Mem} {Q : Wv} {X : Wx}
def le4 : Ss := .cons (.asg 2 (.lst (.cons (.bin .Add (.idx (.var 2) (.int 0)) (.bi .int (.cons (.cmp .Eq (.var 3) (.int 0)) .nil))) (.cons (.bin .Add (.idx (.var 2) (.int 1)) (.bi .int (.cons (.cmp .Eq (.var 3) (.int 1)) .nil))) .nil)))) .nil
def le3 : Ss := .cons (.ifs (.cmp .Gt (.idx (.idx (.var 0) (.var 3)) (.idx (.var 2) (.var 3))) (.idx (.var 2) (.bin .Sub (.int 1) (.var 3)))) (.cons (.ret (.bl false)) .nil) .nil) le4
def le2 : Ss := .cons (.fors (.one 3) (.live (.var 1)) le3) (.cons (.ret (.bl true)) .nil)
def le1 : Ss := .cons (.asg 2 (.lst (.cons (.int 0) (.cons (.int 0) .nil)))) le2
def d_law_lets : Def := ⟨["_law_mail", "_law_turns_here", "_law_many", "_law_side"], 2, le1⟩
def tu5 : Ss := .cons (.asg 4 (.bin .Add (.var 4) (.comp (.bin .Add (.var 5) (.tup (.cons (.var 6) .nil))) [6] (.one 6) (.live (.tup (.cons (.int 0) (.cons (.int 1) .nil)))) (.some (.cmp .Lt (.bm (.var 5) .count (.cons (.var 6) .nil)) (.idx (.tup (.cons (.var 0) (.cons (.var 1) .nil))) (.var 6))))))) .nil
def tu6 : Ss := .cons (.asg 2 (.var 4)) .nil
def tu4 : Ss := .cons (.fors (.one 5) (.live (.var 2)) tu5) tu6
def tu3 : Ss := .cons (.asg 4 (.lst .nil)) tu4
def tu2 : Ss := .cons (.fors (.one 3) (.rng1 (.bin .Add (.var 0) (.var 1))) tu3) (.cons (.ret (.var 2)) .nil)
def tu1 : Ss := .cons (.asg 2 (.lst (.cons (.tup .nil) .nil))) tu2
def d_law_turns : Def := ⟨["_law_first", "_law_second", "_law_rows", "_law_turn", "_law_longer", "_law_row", "_law_side"], 2, tu1⟩
def d_law_orders : Def := ⟨["_law_mail", "_law_turns_here"], 1, (.cons (.ret (.comp (.var 1) [1] (.one 1) (.live (.call "_law_turns" (.cons (.bi .len (.cons (.idx (.var 0) (.int 0)) .nil)) (.cons (.bi .len (.cons (.idx (.var 0) (.int 1)) .nil)) .nil)))) (.some (.call "_law_lets" (.cons (.var 0) (.cons (.var 1) .nil)))))) .nil)⟩
/-- what may follow, so many of each side standing -/
def TL (n m : Nat) : Nat → Nat → Nat → List (List Int)
  | 0, _, _ => [[]]
  | r + 1, i, j => (if i < n then (TL n m r (i + 1) j).map (0 :: ·) else []) ++ (if j < m then (TL n m r i (j + 1)).map (1 :: ·) else [])
def stepL (n m : Nat) (row : List Int) : List (List Int) := (if row.count 0 < n then [row ++ [0]] else []) ++ (if row.count 1 < m then [row ++ [1]] else [])
def PL (n m : Nat) : Nat → List (List Int)
  | 0 => [[]]
  | t + 1 => (PL n m t).flatMap (stepL n m)
theorem PL_TL (n m : Nat) : ∀ t r : Nat, (PL n m t).flatMap (fun row => (TL n m r (row.count 0) (row.count 1)).map (row ++ ·)) = TL n m (t + r) 0 0
  | 0, r => by simp [PL]
  | t + 1, r => by
    have ih := PL_TL n m t (r + 1)
    rw [show t + 1 + r = t + (r + 1) by omega, ← ih]
    show ((PL n m t).flatMap (stepL n m)).flatMap _ = _
    rw [List.flatMap_assoc]
    congr 1
    funext row
    have e0 : ∀ x : Int, List.count x (row ++ [0]) = List.count x row + if x = 0 then 1 else 0 := fun x => by
      rw [List.count_append]
      by_cases h : x = 0
      · subst h; simp
      · rw [if_neg h, List.count_singleton, if_neg (by simpa using fun z => h z.symm)]
    have e1 : ∀ x : Int, List.count x (row ++ [1]) = List.count x row + if x = 1 then 1 else 0 := fun x => by
      rw [List.count_append]
      by_cases h : x = 1
      · subst h; simp
      · rw [if_neg h, List.count_singleton, if_neg (by simpa using fun z => h z.symm)]
    unfold stepL
    show _ = ((if _ then _ else _) ++ (if _ then _ else _) : List (List Int)).map _
    rw [List.map_append, List.flatMap_append]
    congr 1
    · by_cases h : row.count 0 < n
      · rw [if_pos h, if_pos h]
        simp [e0, Function.comp_def]
      · rw [if_neg h, if_neg h]; rfl
    · by_cases h : row.count 1 < m
      · rw [if_pos h, if_pos h]
        simp [e1, Function.comp_def]
      · rw [if_neg h, if_neg h]; rfl
theorem PL_eq (n m t : Nat) : PL n m t = TL n m t 0 0 := by
  have := PL_TL n m t 0
  rw [Nat.add_zero] at this
  rw [← this]
  simp [TL]
theorem stepL_len (n m : Nat) (row : List Int) : (stepL n m row).length ≤ 2 := by
  unfold stepL
  rw [List.length_append]
  split <;> split <;> simp
theorem fm_len {l : List (List Int)} {f : List Int → List (List Int)} {c : Nat} (h : ∀ x, (f x).length ≤ c) : (l.flatMap f).length ≤ l.length * c := by
  induction l with
  | nil => simp
  | cons x l ih =>
    rw [List.flatMap_cons, List.length_append, List.length_cons, Nat.succ_mul]
    have := h x
    omega
theorem PL_len (n m : Nat) : ∀ t : Nat, (PL n m t).length ≤ 2 ^ t
  | 0 => by simp [PL]
  | t + 1 => by
    have := PL_len n m t
    have := fm_len (l := PL n m t) (stepL_len n m)
    rw [Nat.pow_succ]
    show ((PL n m t).flatMap (stepL n m)).length ≤ _
    omega
theorem PL_row (n m : Nat) : ∀ (t : Nat) (row : List Int), row ∈ PL n m t → row.length = t
  | 0, row, h => by
    have h : row ∈ [[]] := h
    simp at h
    subst h
    rfl
  | t + 1, row, h => by
    have h : row ∈ (PL n m t).flatMap (stepL n m) := h
    obtain ⟨r0, h0, h1⟩ := List.mem_flatMap.mp h
    have := PL_row n m t r0 h0
    unfold stepL at h1
    rcases List.mem_append.mp h1 with h1 | h1
    · split at h1
      · simp at h1; subst h1; simp [this]
      · cases h1
    · split at h1
      · simp at h1; subst h1; simp [this]
      · cases h1
abbrev rowT (row : List Int) : T := .tup (row.map .int)
theorem count_row (row : List Int) (x : Int) : bmT .count (rowT row) [.int x] = some (.int (row.count x : Nat)) := by
  have h2 : (row.map T.int).all flt = true := by
    rw [List.all_eq_true]
    intro y hy
    obtain ⟨z, _, rfl⟩ := List.mem_map.mp hy
    rfl
  show (if (flt (.int x) && (row.map T.int).all flt) = true then some (T.int ((row.map T.int).countP fun y => eqT y (.int x))) else none) = _
  rw [h2]
  have e : (row.map T.int).countP (fun y => eqT y (.int x)) = row.count x := by
    rw [List.countP_map]
    rfl
  rw [e]
  rfl
theorem turns_ok (ht : FnB D "" "_law_turns" d_law_turns) {n m : Nat} (hn : n + m ≤ 14) (q : Q (.lst ((TL n m (n + m) 0 0).map rowT)) S) : CallWP D (k + 1) "" "_law_turns" [.int n, .int m] S Q X := by
  refine call_ofB ht rfl ?_
  have e : line = 16777216 := rfl
  simp [d_law_turns, startT_eq]
  unfold tu1
  simp
  unfold tu2
  simp
  refine ⟨by omega, ?_⟩
  rw [show ((n : Int) + (m : Int)).toNat = n + m by omega]
  refine wpFor_inv (P := fun r σ S1 => ∃ (t : Nat) (x3 x4 x5 x6 : Option T), t + r.length = n + m ∧ S1 = S ∧ σ = [some (.int n), some (.int m), some (.lst ((PL n m t).map rowT)), x3, x4, x5, x6]) (fun _ _ _ _ => trivial) ?_ ?_ ⟨0, _, _, _, _, by simp [rangeT], rfl, rfl⟩
  · rintro x r σ S1 ⟨t, x3, x4, x5, x6, hl, rfl, rfl⟩ KK hK
    simp at hl
    unfold tu3
    simp
    unfold tu4
    simp
    refine wpFor_inv (P := fun r σ S2 => ∃ (pre post : List (List Int)) (x5 x6 : Option T), PL n m t = pre ++ post ∧ r = post.map rowT ∧ S1 = S2 ∧ σ = [some (.int n), some (.int m), some (.lst ((PL n m t).map rowT)), some x, some (.lst ((pre.flatMap (stepL n m)).map rowT)), x5, x6]) (fun _ _ _ _ => by simp) ?_ ?_ ⟨[], PL n m t, _, _, rfl, rfl, rfl, rfl⟩
    · rintro y r σ S2 ⟨pre, post, x5, x6, hP, hr, rfl, rfl⟩ KK hK2
      cases post with
      | nil => cases hr
      | cons row post =>
        rw [List.map_cons] at hr
        injection hr with e1 e2
        subst e1 e2
        unfold tu5
        simp
        have hrow : row.length = t := PL_row n m t row (by rw [hP]; simp)
        refine wpL_pure (f := fun y => match y with | .int 0 => if row.count 0 < n then [rowT (row ++ [0])] else [] | .int 1 => if row.count 1 < m then [rowT (row ++ [1])] else [] | _ => []) (fun y hy k' hk => ?_) trivial ?_
        · simp at hy
          refine ⟨rfl, ?_⟩
          rcases hy with rfl | rfl
          · rw [show T.tup (row.map T.int) = rowT row from rfl, count_row]
            simp
            by_cases h0 : row.count 0 < n
            · rw [if_pos h0]
              rw [bin_addt (by simp; omega)]
              simp [h0] at hk ⊢
              rw [show T.tup (row.map T.int ++ [T.int 0]) = rowT (row ++ [0]) by simp]
              exact hk
            · rw [if_neg h0]
              simpa [h0] using hk
          · rw [show T.tup (row.map T.int) = rowT row from rfl, count_row]
            simp
            by_cases h0 : row.count 1 < m
            · rw [if_pos h0]
              rw [bin_addt (by simp; omega)]
              simp [h0] at hk ⊢
              rw [show T.tup (row.map T.int ++ [T.int 1]) = rowT (row ++ [1]) by simp]
              exact hk
            · rw [if_neg h0]
              simpa [h0] using hk
        · have hp1 : (pre.flatMap (stepL n m)).length ≤ 2 ^ 15 := by
            have h1 := fm_len (l := pre) (stepL_len n m)
            have h2 : pre.length ≤ (PL n m t).length := by rw [hP, List.length_append]; omega
            have h3 := PL_len n m t
            have h4 : 2 ^ t ≤ 2 ^ 14 := Nat.pow_le_pow_right (by decide) (by omega)
            omega
          have e7 : ([T.int 0, T.int 1].flatMap fun y => match y with | .int 0 => if row.count 0 < n then [rowT (row ++ [0])] else [] | .int 1 => if row.count 1 < m then [rowT (row ++ [1])] else [] | _ => []) = (stepL n m row).map rowT := by
            unfold stepL
            simp only [List.flatMap_cons, List.flatMap_nil, List.append_nil, List.map_append]
            congr 1
            · split <;> rfl
            · split <;> rfl
          rw [List.nil_append, e7, bin_addl (by rw [List.length_map, List.length_map]; have := stepL_len n m row; omega), ← List.map_append]
          rw [show pre.flatMap (stepL n m) ++ stepL n m row = (pre ++ [row]).flatMap (stepL n m) by simp]
          exact hK2 _ _ ⟨pre ++ [row], post, _, _, by simp [hP], rfl, rfl, rfl⟩
    · rintro σ S2 ⟨pre, post, x5, x6, hP, hr, rfl, rfl⟩
      cases post with
      | cons row post => cases hr
      | nil =>
        rw [List.append_nil] at hP
        unfold tu6
        simp
        have e5 : pre.flatMap (stepL n m) = PL n m (t + 1) := by rw [← hP]; rfl
        rw [e5]
        exact hK _ _ ⟨t + 1, _, _, _, _, by omega, rfl, rfl⟩
  · rintro σ S1 ⟨t, x3, x4, x5, x6, hl, rfl, rfl⟩
    simp at hl
    subst hl
    rw [← PL_eq] at q
    simp
    exact .keep q
/-! the law's own look at a row -/
def letsB (a b : List Int) : List Int → Nat → Nat → Bool
  | [], _, _ => true
  | x :: t, i, j => if x = 0 then decide (a.getD i 0 ≤ (j : Int)) && letsB a b t (i + 1) j else decide (b.getD j 0 ≤ (i : Int)) && letsB a b t i (j + 1)
/-- all orders from (i, j) on -/
def ordL (a b : List Int) : Nat → Nat → Nat → List (List Int)
  | 0, _, _ => [[]]
  | r + 1, i, j => (if mayB a b i j 0 = true then (ordL a b r (i + 1) j).map (0 :: ·) else []) ++ (if mayB a b i j 1 = true then (ordL a b r i (j + 1)).map (1 :: ·) else [])
theorem filter_cons {p : List Int → Bool} {x : Int} (l : List (List Int)) : (l.map (x :: ·)).filter p = (l.filter fun t => p (x :: t)).map (x :: ·) := by
  rw [List.filter_map]
  rfl
theorem TL_ord (a b : List Int) : ∀ r i j : Nat, (TL a.length b.length r i j).filter (fun t => letsB a b t i j) = ordL a b r i j
  | 0, i, j => rfl
  | r + 1, i, j => by
    have h0 := TL_ord a b r (i + 1) j
    have h1 := TL_ord a b r i (j + 1)
    show ((if i < a.length then _ else []) ++ (if j < b.length then _ else []) : List (List Int)).filter _ = (if mayB a b i j 0 = true then _ else []) ++ (if mayB a b i j 1 = true then _ else [])
    rw [List.filter_append]
    congr 1
    · by_cases hi : i < a.length
      · rw [if_pos hi, filter_cons]
        by_cases hm : a.getD i 0 ≤ (j : Int)
        · rw [if_pos (by simp [mayB, hi, -List.getD_eq_getElem?_getD, hm]), ← h0]
          congr 1
          refine List.filter_congr fun t _ => ?_
          show (if (0 : Int) = 0 then decide (a.getD i 0 ≤ (j : Int)) && letsB a b t (i + 1) j else _) = _
          rw [if_pos rfl, decide_eq_true hm, Bool.true_and]
        · rw [if_neg (by simp [mayB, -List.getD_eq_getElem?_getD, hm])]
          rw [List.map_eq_nil_iff, List.filter_eq_nil_iff]
          intro t _
          show ¬(if (0 : Int) = 0 then decide (a.getD i 0 ≤ (j : Int)) && letsB a b t (i + 1) j else _) = true
          rw [if_pos rfl, decide_eq_false hm, Bool.false_and]
          decide
      · rw [if_neg hi, if_neg (by simp [mayB, hi])]
        rfl
    · by_cases hj : j < b.length
      · rw [if_pos hj, filter_cons]
        by_cases hm : b.getD j 0 ≤ (i : Int)
        · rw [if_pos (by simp [mayB, hj, -List.getD_eq_getElem?_getD, hm]), ← h1]
          congr 1
          refine List.filter_congr fun t _ => ?_
          show (if (1 : Int) = 0 then _ else decide (b.getD j 0 ≤ (i : Int)) && letsB a b t i (j + 1)) = _
          rw [if_neg (by decide), decide_eq_true hm, Bool.true_and]
        · rw [if_neg (by simp [mayB, -List.getD_eq_getElem?_getD, hm])]
          rw [List.map_eq_nil_iff, List.filter_eq_nil_iff]
          intro t _
          show ¬(if (1 : Int) = 0 then _ else decide (b.getD j 0 ≤ (i : Int)) && letsB a b t i (j + 1)) = true
          rw [if_neg (by decide), decide_eq_false hm, Bool.false_and]
          decide
      · rw [if_neg hj, if_neg (by simp [mayB, hj])]
        rfl
theorem ordL_len (a b : List Int) : ∀ r i j : Nat, (ordL a b r i j).length = cnt a b r i j
  | 0, i, j => rfl
  | r + 1, i, j => by
    show ((if mayB a b i j 0 = true then (ordL a b r (i + 1) j).map (0 :: ·) else []) ++ (if mayB a b i j 1 = true then (ordL a b r i (j + 1)).map (1 :: ·) else [])).length = (if mayB a b i j 0 = true then cnt a b r (i + 1) j else 0) + (if mayB a b i j 1 = true then cnt a b r i (j + 1) else 0)
    rw [List.length_append]
    congr 1
    · split
      · rw [List.length_map, ordL_len]
      · rfl
    · split
      · rw [List.length_map, ordL_len]
      · rfl
/-- the order of a number -/
theorem ordL_at (a b : List Int) : ∀ r i j n : Nat, n < cnt a b r i j → (ordL a b r i j)[n]? = some (ordAt a b r i j n)
  | 0, i, j, n, h => by
    have : n = 0 := by have : n < 1 := h; omega
    subst this
    rfl
  | r + 1, i, j, n, h => by
    have h : n < (if mayB a b i j 0 = true then cnt a b r (i + 1) j else 0) + (if mayB a b i j 1 = true then cnt a b r i (j + 1) else 0) := h
    show ((if mayB a b i j 0 = true then (ordL a b r (i + 1) j).map (0 :: ·) else []) ++ (if mayB a b i j 1 = true then (ordL a b r i (j + 1)).map (1 :: ·) else []))[n]? = some (if n < (if mayB a b i j 0 = true then cnt a b r (i + 1) j else 0) then 0 :: ordAt a b r (i + 1) j n else 1 :: ordAt a b r i (j + 1) (n - (if mayB a b i j 0 = true then cnt a b r (i + 1) j else 0)))
    have hl : (if mayB a b i j 0 = true then (ordL a b r (i + 1) j).map (0 :: ·) else [] : List (List Int)).length = (if mayB a b i j 0 = true then cnt a b r (i + 1) j else 0) := by
      split
      · rw [List.length_map, ordL_len]
      · rfl
    by_cases hn : n < (if mayB a b i j 0 = true then cnt a b r (i + 1) j else 0)
    · rw [if_pos hn, List.getElem?_append_left (by rw [hl]; exact hn)]
      by_cases m0 : mayB a b i j 0 = true
      · rw [if_pos m0] at hn ⊢
        rw [List.getElem?_map, ordL_at a b r (i + 1) j n hn]
        rfl
      · rw [if_neg m0] at hn; omega
    · rw [if_neg hn, List.getElem?_append_right (by rw [hl]; omega), hl]
      by_cases m1 : mayB a b i j 1 = true
      · rw [if_pos m1] at h ⊢
        rw [List.getElem?_map, ordL_at a b r i (j + 1) _ (by omega)]
        rfl
      · rw [if_neg m1] at h; omega
def TLok (n m : Nat) : List Int → Nat → Nat → Prop
  | [], _, _ => True
  | x :: t, i, j => (x = 0 ∧ i < n ∧ TLok n m t (i + 1) j) ∨ (x = 1 ∧ j < m ∧ TLok n m t i (j + 1))
theorem TL_ok (n m : Nat) : ∀ (r i j : Nat) (t : List Int), t ∈ TL n m r i j → TLok n m t i j
  | 0, i, j, t, h => by
    have h : t ∈ [[]] := h
    simp at h
    subst h
    trivial
  | r + 1, i, j, t, h => by
    have h : t ∈ (if i < n then (TL n m r (i + 1) j).map (0 :: ·) else []) ++ (if j < m then (TL n m r i (j + 1)).map (1 :: ·) else []) := h
    rcases List.mem_append.mp h with h | h
    · split at h
      · obtain ⟨t', ht, rfl⟩ := List.mem_map.mp h
        exact .inl ⟨rfl, by assumption, TL_ok n m r _ _ _ ht⟩
      · cases h
    · split at h
      · obtain ⟨t', ht, rfl⟩ := List.mem_map.mp h
        exact .inr ⟨rfl, by assumption, TL_ok n m r _ _ _ ht⟩
      · cases h
theorem le3_0 {a b : List Int} {i j : Nat} {tT : T} {K : K} (hi : i < a.length) (h1 : a.getD i 0 ≤ (j : Int) → K.nx [some (mailT a b), some tT, some (.lst [.int (i + 1 : Nat), .int (j : Nat)]), some (.int 0)] S) (h2 : ¬a.getD i 0 ≤ (j : Int) → K.rt (.bl false) S) :
    wpSs D.G (cw D k) le3 X [some (mailT a b), some tT, some (.lst [.int (i : Nat), .int (j : Nat)]), some (.int 0)] S K := by
  have e : L2.atI (a.map T.int) (i : Int) = some (.int (a.getD i 0)) := at_map hi
  unfold le3
  simp [-List.getD_eq_getElem?_getD, -List.map_take, mailT, e]
  by_cases hm : a.getD i 0 ≤ (j : Int)
  · rw [if_neg (by omega)]
    have h1 := h1 hm
    unfold le4
    simp [-List.getD_eq_getElem?_getD, -List.map_take]
    have e0 : biT .int [.bl true] = some (.int 1) := rfl
    have e1 : biT .int [.bl false] = some (.int 0) := rfl
    rw [e0, e1]
    simp [-List.getD_eq_getElem?_getD, -List.map_take]
    exact h1
  · rw [if_pos (by omega)]
    exact h2 hm
theorem le3_1 {a b : List Int} {i j : Nat} {tT : T} {K : K} (hj : j < b.length) (h1 : b.getD j 0 ≤ (i : Int) → K.nx [some (mailT a b), some tT, some (.lst [.int (i : Nat), .int (j + 1 : Nat)]), some (.int 1)] S) (h2 : ¬b.getD j 0 ≤ (i : Int) → K.rt (.bl false) S) :
    wpSs D.G (cw D k) le3 X [some (mailT a b), some tT, some (.lst [.int (i : Nat), .int (j : Nat)]), some (.int 1)] S K := by
  have e : L2.atI (b.map T.int) (j : Int) = some (.int (b.getD j 0)) := at_map hj
  unfold le3
  simp [-List.getD_eq_getElem?_getD, -List.map_take, mailT, e]
  by_cases hm : b.getD j 0 ≤ (i : Int)
  · rw [if_neg (by omega)]
    have h1 := h1 hm
    unfold le4
    simp [-List.getD_eq_getElem?_getD, -List.map_take]
    have e0 : biT .int [.bl true] = some (.int 1) := rfl
    have e1 : biT .int [.bl false] = some (.int 0) := rfl
    rw [e0, e1]
    simp [-List.getD_eq_getElem?_getD, -List.map_take]
    exact h1
  · rw [if_pos (by omega)]
    exact h2 hm
theorem lets_loop {g : Mem → Prop} (hg : g S) {a b : List Int} {X : Wx} {tT : T} : ∀ (t : List Int) (i j : Nat) (x3 : Option T), TLok a.length b.length t i j → Q (.bl (letsB a b t i j)) S →
    wpFor g (fun x σ S1 KK => wpSs D.G (cw D k) le3 (BackX S X) (σ.set 3 (some x)) S1 ⟨KK, Back S Q⟩) (t.map T.int) [some (mailT a b), some tT, some (.lst [.int (i : Nat), .int (j : Nat)]), x3] S fun _ S1 => Back S Q (.bl true) S1
  | [], i, j, x3, _, q => ⟨hg, .keep q⟩
  | x :: t, i, j, x3, h, q => by
    refine ⟨hg, ?_⟩
    simp only [List.set_cons_succ, List.set_cons_zero]
    rcases h with ⟨rfl, hi, ht⟩ | ⟨rfl, hj, ht⟩
    · have q : Q (.bl (if (0 : Int) = 0 then decide (a.getD i 0 ≤ (j : Int)) && letsB a b t (i + 1) j else decide (b.getD j 0 ≤ (i : Int)) && letsB a b t i (j + 1))) S := q
      rw [if_pos rfl] at q
      refine le3_0 hi (fun hm => ?_) fun hm => ?_
      · rw [decide_eq_true hm, Bool.true_and] at q
        exact lets_loop hg t (i + 1) j _ ht q
      · rw [decide_eq_false hm, Bool.false_and] at q
        exact .keep q
    · have q : Q (.bl (if (1 : Int) = 0 then decide (a.getD i 0 ≤ (j : Int)) && letsB a b t (i + 1) j else decide (b.getD j 0 ≤ (i : Int)) && letsB a b t i (j + 1))) S := q
      rw [if_neg (by decide)] at q
      refine le3_1 hj (fun hm => ?_) fun hm => ?_
      · rw [decide_eq_true hm, Bool.true_and] at q
        exact lets_loop hg t i (j + 1) _ ht q
      · rw [decide_eq_false hm, Bool.false_and] at q
        exact .keep q
theorem lets_ok (hl : FnB D "" "_law_lets" d_law_lets) {a b : List Int} {t : List Int} (ht : TLok a.length b.length t 0 0) (q : Q (.bl (letsB a b t 0 0)) S) : CallWP D (k + 1) "" "_law_lets" [mailT a b, rowT t] S Q X := by
  refine call_ofB hl rfl ?_
  simp [d_law_lets, startT_eq]
  unfold le1
  simp
  unfold le2
  simp
  exact lets_loop (g := gT) trivial t 0 0 _ ht q
/-- the same of a list that may change -/
theorem lets_ref (hl : FnB D "" "_law_lets" d_law_lets) {a b : List Int} {t : List Int} {i : Nat} (hS : S[i]? = some (.lst (t.map .int))) (ht : TLok a.length b.length t 0 0) (q : Q (.bl (letsB a b t 0 0)) S) : CallWP D (k + 1) "" "_law_lets" [mailT a b, .ref i] S Q X := by
  refine call_ofB hl rfl ?_
  simp [d_law_lets, startT_eq]
  unfold le1
  simp
  unfold le2
  simp only [wpSs_e63, wpS_e58, wpI_e42, wpE_e1, slot_0, slot_S, okO_some, asg_1]
  rw [vw_ref hS]
  exact lets_loop (g := fun S2 => vw S2 (.ref i) = .lst (t.map .int)) (vw_ref hS) t 0 0 _ ht q
/-- all orders of mail -/
def ordS (a b : List Int) : List (List Int) := ordL a b (a.length + b.length) 0 0
theorem orders_ok (ho : FnB D "" "_law_orders" d_law_orders) (hl : FnB D "" "_law_lets" d_law_lets) (ht : FnB D "" "_law_turns" d_law_turns) {a b : List Int} (hn : a.length + b.length ≤ 14) (q : Q (.lst ((ordS a b).map rowT)) S) : CallWP D (k + 2) "" "_law_orders" [mailT a b] S Q X := by
  refine call_ofB ho rfl ?_
  simp [d_law_orders, startT_eq, mailT]
  refine turns_ok ht hn ?_
  simp
  refine wpL_filter (tT := rowT) (h := rowT) (p := fun t => letsB a b t 0 0) (fun t hm k' hk => ?_) (by simp) ?_
  · refine lets_ok hl (TL_ok _ _ _ _ _ _ hm) ?_
    exact hk
  · rw [TL_ord]
    exact .keep q
end PC
/-! PlNum: the number of an order; what is an order. -/
namespace PC
open PySem
variable {D : Tab} {k : Nat} {C g : Str} {d : Def} {args : List T} {S : Mem} {Q : Wv} {X : Wx}
def go5 : Ss := .cons (.asg 2 (.call "after" (.cons (.var 2) (.cons (.var 3) .nil)))) .nil
def go4 : Ss := .cons (.ifs (.not (.call "may_write" (.cons (.var 0) (.cons (.var 2) (.cons (.var 3) .nil))))) (.cons (.ret (.bl false)) .nil) .nil) go5
def go3 : Ss := .cons (.fors (.one 3) (.live (.var 1)) go4) (.cons (.ret (.cmp .Eq (.var 2) (.call "end_of" (.cons (.var 0) .nil)))) .nil)
def go2 : Ss := .cons (.asg 2 (.tup (.cons (.int 0) (.cons (.int 0) .nil)))) go3
def go1 : Ss := .cons (.ifs (.or (.not (.isi (.var 1) .tuple)) (.not (.bi .all (.cons (.comp (.call "is_whole" (.cons (.var 3) (.cons (.int 0) (.cons (.int 1) .nil)))) [3] (.one 3) (.live (.var 1)) .none) .nil)))) (.cons (.ret (.bl false)) .nil) .nil) go2
def d_is_good_order : Def := ⟨["mail", "thing", "here", "side"], 2, go1⟩
def wn4 : Ss := .cons (.asg 4 (.bin .Add (.var 4) (.meth (.var 0) "Ways" "count" (.cons (.call "after" (.cons (.var 3) (.cons (.int 0) .nil))) .nil)))) .nil
def wn5 : Ss := .cons (.asg 3 (.call "after" (.cons (.var 3) (.cons (.var 2) .nil)))) .nil
def wn3 : Ss := .cons (.ifs (.and (.cmp .Eq (.var 2) (.int 1)) (.call "may_write" (.cons (.attr (.var 0) "held") (.cons (.var 3) (.cons (.int 0) .nil))))) wn4 .nil) wn5
def wn2 : Ss := .cons (.fors (.one 2) (.live (.var 1)) wn3) (.cons (.ret (.var 4)) .nil)
def wn1 : Ss := .cons (.asgT (.two 3 4) (.tup (.cons (.tup (.cons (.int 0) (.cons (.int 0) .nil))) (.cons (.int 0) .nil)))) wn2
def d_Ways_number : Def := ⟨["self", "order", "side", "here", "found"], 2, wn1⟩
/-- a row's number, from (i, j) on -/
def numL (a b : List Int) : List Int → Nat → Nat → Nat
  | [], _, _ => 0
  | x :: t, i, j => if x = 0 then numL a b t (i + 1) j else (if mayB a b i j 0 = true then cnt a b (a.length - (i + 1) + (b.length - j)) (i + 1) j else 0) + numL a b t i (j + 1)
theorem num_at (a b : List Int) : ∀ r i j n : Nat, i ≤ a.length → j ≤ b.length → a.length - i + (b.length - j) = r → n < cnt a b r i j → numL a b (ordAt a b r i j n) i j = n
  | 0, i, j, n, _, _, _, h => by
    have : n < 1 := h
    have : n = 0 := by omega
    subst this
    rfl
  | r + 1, i, j, n, hi, hj, hr, h => by
    have h : n < (if mayB a b i j 0 = true then cnt a b r (i + 1) j else 0) + (if mayB a b i j 1 = true then cnt a b r i (j + 1) else 0) := h
    have e : ordAt a b (r + 1) i j n = if n < (if mayB a b i j 0 = true then cnt a b r (i + 1) j else 0) then 0 :: ordAt a b r (i + 1) j n else 1 :: ordAt a b r i (j + 1) (n - (if mayB a b i j 0 = true then cnt a b r (i + 1) j else 0)) := rfl
    rw [e]
    by_cases hn : n < (if mayB a b i j 0 = true then cnt a b r (i + 1) j else 0)
    · rw [if_pos hn]
      by_cases m0 : mayB a b i j 0 = true
      · rw [if_pos m0] at hn
        have hi2 : i < a.length := by
          simp only [mayB, if_true, Bool.and_eq_true, decide_eq_true_eq] at m0
          exact m0.1
        show (if (0 : Int) = 0 then numL a b (ordAt a b r (i + 1) j n) (i + 1) j else _) = n
        rw [if_pos rfl]
        exact num_at a b r (i + 1) j n (by omega) hj (by omega) hn
      · rw [if_neg m0] at hn; omega
    · rw [if_neg hn]
      by_cases m1 : mayB a b i j 1 = true
      · have hj2 : j < b.length := by
          simp only [mayB, show ¬((1 : Int) = 0) by decide, if_false, Bool.and_eq_true, decide_eq_true_eq] at m1
          exact m1.1
        rw [if_pos m1] at h
        show (if (1 : Int) = 0 then _ else (if mayB a b i j 0 = true then cnt a b (a.length - (i + 1) + (b.length - j)) (i + 1) j else 0) + numL a b (ordAt a b r i (j + 1) _) i (j + 1)) = n
        rw [if_neg (by decide)]
        have ec : (if mayB a b i j 0 = true then cnt a b (a.length - (i + 1) + (b.length - j)) (i + 1) j else 0) = (if mayB a b i j 0 = true then cnt a b r (i + 1) j else 0) := by
          by_cases m0 : mayB a b i j 0 = true
          · have hi2 : i < a.length := by
              simp only [mayB, if_true, Bool.and_eq_true, decide_eq_true_eq] at m0
              exact m0.1
            rw [if_pos m0, if_pos m0, show a.length - (i + 1) + (b.length - j) = r by omega]
          · rw [if_neg m0, if_neg m0]
        rw [ec]
        rw [num_at a b r i (j + 1) _ hi (by omega) (by omega) (by omega)]
        omega
      · rw [if_neg m1] at h; omega
/-- how far a row of turns leads -/
def walkB (a b : List Int) : List Int → Nat → Nat → Bool
  | [], i, j => decide ((i, j) = (a.length, b.length))
  | x :: t, i, j => if x = 0 then mayB a b i j 0 && walkB a b t (i + 1) j else mayB a b i j 1 && walkB a b t i (j + 1)
theorem go4_ok (h : HasWays D) {a b : List Int} {i j : Nat} {x : Int} (hx : x = 0 ∨ x = 1) {y1 : Option T} {K : K} (h1 : mayB a b i j x = true → K.nx [some (mailT a b), y1, some (pT (aft (i, j) x)), some (.int x)] S) (h2 : ¬mayB a b i j x = true → K.rt (.bl false) S) :
    wpSs D.G (cw D (k + 1)) go4 X [some (mailT a b), y1, some (pairT i j), some (.int x)] S K := by
  unfold go4
  simp
  refine may_ok h hx ?_
  simp only [bt_bl]
  by_cases hm : mayB a b i j x = true
  · rw [hm]
    simp
    unfold go5
    simp
    exact after_p (p := (i, j)) h (h1 hm)
  · have hm' : mayB a b i j x = false := by simpa using hm
    rw [hm']
    exact h2 hm
theorem good_loop (h : HasWays D) {a b : List Int} {X : Wx} {y1 : Option T} : ∀ (t : List Int) (i j : Nat) (x3 : Option T), (∀ x ∈ t, x = 0 ∨ x = 1) → Q (.bl (walkB a b t i j)) S →
    wpFor gT (fun x σ S1 KK => wpSs D.G (cw D (k + 1)) go4 (BackX S X) (σ.set 3 (some x)) S1 ⟨KK, Back S Q⟩) (t.map T.int) [some (mailT a b), y1, some (pairT i j), x3] S fun σ1 S1 => wpSs D.G (cw D (k + 1)) (.cons (.ret (.cmp .Eq (.var 2) (.call "end_of" (.cons (.var 0) .nil)))) .nil) (BackX S X) σ1 S1 ⟨fun _ S' => Back S Q .non S', Back S Q⟩
  | [], i, j, x3, _, q => by
    refine ⟨trivial, ?_⟩
    simp
    refine end_ok h ?_
    rw [vw_tup, cmp_eqp (by simp [pln]) (by simp [pln]), show eqT (T.tup [T.int (i : Int), T.int (j : Int)]) (pairT (a.length : Nat) (b.length : Nat)) = _ from eq_pT (i, j) (a.length, b.length)]
    exact .keep q
  | x :: t, i, j, x3, hx, q => by
    refine ⟨trivial, ?_⟩
    simp only [List.set_cons_succ, List.set_cons_zero]
    have hx0 := hx x List.mem_cons_self
    have hxt : ∀ y ∈ t, y = 0 ∨ y = 1 := fun y hy => hx y (List.mem_cons_of_mem _ hy)
    have q : Q (.bl (if x = 0 then mayB a b i j 0 && walkB a b t (i + 1) j else mayB a b i j 1 && walkB a b t i (j + 1))) S := q
    refine go4_ok h hx0 (fun hm => ?_) fun hm => ?_
    · rcases hx0 with rfl | rfl
      · rw [if_pos rfl, hm, Bool.true_and] at q
        exact good_loop h t (i + 1) j _ hxt q
      · rw [if_neg (by decide), hm, Bool.true_and] at q
        exact good_loop h t i (j + 1) _ hxt q
    · have hm' : mayB a b i j x = false := by simpa using hm
      rcases hx0 with rfl | rfl
      · rw [if_pos rfl, hm', Bool.false_and] at q
        exact .keep q
      · rw [if_neg (by decide), hm', Bool.false_and] at q
        exact .keep q
theorem good_ok (hg : D.fn "" "is_good_order" = some d_is_good_order) (hw : D.fn "" "is_whole" = some d_is_whole) (h : HasWays D) {a b : List Int} {t : List Int} (ht : ∀ x ∈ t, x = 0 ∨ x = 1) (q : Q (.bl (walkB a b t 0 0)) S) : CallWP D (k + 2) "" "is_good_order" [mailT a b, rowT t] S Q X := by
  refine call_of hg rfl ?_
  simp [d_is_good_order, startT_eq]
  unfold go1
  simp
  refine wpL_map (f := fun _ => .bl true) (fun x hx' k' hk => ?_) trivial ?_
  · obtain ⟨y, hy, rfl⟩ := List.mem_map.mp hx'
    refine is_whole_ok hw ?_
    rw [decide_eq_true (by have := ht y hy; omega)]
    exact hk
  · rw [bls_const]
    simp
    unfold go2
    simp
    unfold go3
    simp only [wpSs_e63, wpS_e58, wpI_e42, wpE_e1, slot_0, slot_S, okO_some, vw_tup, asg_1]
    exact good_loop h t 0 0 _ ht q
theorem wn3_ok (h : HasWays D) {a b : List Int} (ha : a.length ≤ 9) (hb : b.length ≤ 9) {w i j n : Nat} {l : List (Nat × Nat)} (W : WaysAt S a b w l) (hi : i ≤ a.length) (hj : j ≤ b.length) {x : Int} (hx : x = 0 ∨ x = 1) {y1 : Option T} {K : K}
    (hK : ∀ l' : List (Nat × Nat), l'.Nodup → (∀ p ∈ l', p.1 ≤ a.length ∧ p.2 ≤ b.length) → K.nx [some (.ref w), y1, some (.int x), some (pT (aft (i, j) x)), some (.int (n + (if x = 0 then 0 else if mayB a b i j 0 = true then cnt a b (a.length - (i + 1) + (b.length - j)) (i + 1) j else 0) : Nat))] (S.set (w + 1) (knT a b l'))) :
    wpSs D.G (cw D (k + 21)) wn3 X [some (.ref w), y1, some (.int x), some (pairT i j), some (.int (n : Nat))] S K := by
  unfold wn3
  simp
  have fin : ∀ (l' : List (Nat × Nat)) (m : Nat), l'.Nodup → (∀ p ∈ l', p.1 ≤ a.length ∧ p.2 ≤ b.length) → m = n + (if x = 0 then 0 else if mayB a b i j 0 = true then cnt a b (a.length - (i + 1) + (b.length - j)) (i + 1) j else 0) → wpSs D.G (cw D (k + 21)) wn5 X [some (.ref w), y1, some (.int x), some (pairT i j), some (.int (m : Nat))] (S.set (w + 1) (knT a b l')) K := by
    intro l' m n1 s1 hm
    unfold wn5
    simp
    refine after_p (p := (i, j)) h ?_
    rw [hm]
    exact hK l' n1 s1
  have same : S = S.set (w + 1) (knT a b l) := (set_same W.dct).symm
  rcases hx with rfl | rfl
  · simp
    have := fin l n W.nd W.sub (by simp)
    rw [← same] at this
    exact this
  · simp
    rw [ob_ref W.ins]
    show okO (List.lookup ("held" : Str) _) _
    rw [held_at]
    simp only [okO_some]
    refine may_ok h (.inl rfl) ?_
    simp only [bt_bl]
    by_cases m0 : mayB a b i j 0 = true
    · rw [if_pos m0]
      have hi2 : i < a.length := by
        have := m0
        simp only [mayB, if_true, Bool.and_eq_true, decide_eq_true_eq] at this
        exact this.1
      unfold wn4
      simp
      rw [ob_ref W.ins]
      refine ⟨⟨rfl, noCt⟩, ?_⟩
      refine after_p (p := (i, j)) h ?_
      refine count_lev (i := i + 1) (j := j) h ha hb (by omega) W (by omega) hj rfl fun l' n1 s1 => ?_
      simp only [vw_int, bin_addi, okO_some]
      rw [← Int.natCast_add]
      refine fin l' _ n1 s1 ?_
      rw [if_neg (by decide), if_pos m0]
    · rw [if_neg m0]
      have := fin l n W.nd W.sub (by rw [if_neg (by decide), if_neg m0]; rfl)
      rw [← same] at this
      exact this
theorem number_loop (h : HasWays D) {a b : List Int} (ha : a.length ≤ 9) (hb : b.length ≤ 9) {S0 : Mem} {w : Nat} {y1 : Option T} {KF : Sl → Mem → Prop} {R : Wv} {S9 : Mem} : ∀ (t : List Int) (i j n : Nat) (l : List (Nat × Nat)) (x2 : Option T) (S : Mem), WaysAt S a b w l → (∃ l0, S = S9.set (w + 1) (knT a b l0)) → (∀ x ∈ t, x = 0 ∨ x = 1) → i ≤ a.length → j ≤ b.length → walkB a b t i j = true →
    (∀ (l' : List (Nat × Nat)) (x2 : Option T), KF [some (.ref w), y1, x2, some (pairT (a.length : Nat) (b.length : Nat)), some (.int (n + numL a b t i j : Nat))] (S9.set (w + 1) (knT a b l'))) →
    wpFor gT (fun x σ S1 KK => wpSs D.G (cw D (k + 21)) wn3 X (σ.set 2 (some x)) S1 ⟨KK, R⟩) (t.map T.int) [some (.ref w), y1, x2, some (pairT i j), some (.int (n : Nat))] S KF
  | [], i, j, n, l, x2, S, W, ⟨l0, e⟩, hx, hi, hj, hw, q => by
    refine ⟨trivial, ?_⟩
    have hw : decide ((i, j) = (a.length, b.length)) = true := hw
    have hw := of_decide_eq_true hw
    cases hw
    subst e
    exact q l0 x2
  | x :: t, i, j, n, l, x2, S, W, ⟨l0, e⟩, hx, hi, hj, hw, q => by
    refine ⟨trivial, ?_⟩
    simp only [List.set_cons_succ, List.set_cons_zero]
    have hx0 := hx x List.mem_cons_self
    have hxt : ∀ y ∈ t, y = 0 ∨ y = 1 := fun y hy => hx y (List.mem_cons_of_mem _ hy)
    have hw : (if x = 0 then mayB a b i j 0 && walkB a b t (i + 1) j else mayB a b i j 1 && walkB a b t i (j + 1)) = true := hw
    refine wn3_ok h ha hb W hi hj hx0 fun l' n1 s1 => ?_
    have W' : WaysAt (S.set (w + 1) (knT a b l')) a b w l' := ⟨by rw [List.getElem?_set_ne (by omega)]; exact W.ins, get_set W.dct, n1, s1⟩
    have e' : ∃ l0, S.set (w + 1) (knT a b l') = S9.set (w + 1) (knT a b l0) := ⟨l', by rw [e, set_set]⟩
    rcases hx0 with rfl | rfl
    · rw [if_pos rfl, Bool.and_eq_true] at hw
      have hm := hw.1
      simp only [mayB, if_true, Bool.and_eq_true, decide_eq_true_eq] at hm
      refine number_loop (S0 := S0) h ha hb t (i + 1) j _ l' _ _ W' e' hxt (by omega) hj hw.2 fun l2 x2 => ?_
      have := q l2 x2
      rw [show numL a b (0 :: t) i j = numL a b t (i + 1) j from rfl] at this
      simpa using this
    · rw [if_neg (by decide), Bool.and_eq_true] at hw
      have hm := hw.1
      simp only [mayB, show ¬((1 : Int) = 0) by decide, if_false, Bool.and_eq_true, decide_eq_true_eq] at hm
      refine number_loop (S0 := S0) h ha hb t i (j + 1) _ l' _ _ W' e' hxt hi (by omega) hw.2 fun l2 x2 => ?_
      have := q l2 x2
      rw [show numL a b (1 :: t) i j = (if mayB a b i j 0 = true then cnt a b (a.length - (i + 1) + (b.length - j)) (i + 1) j else 0) + numL a b t i (j + 1) from rfl, ← Nat.add_assoc] at this
      rw [if_neg (by decide)]
      exact this
theorem number_ok (h : HasWays D) (hn : D.fn "Ways" "number" = some d_Ways_number) {a b : List Int} (ha : a.length ≤ 9) (hb : b.length ≤ 9) {w : Nat} {l : List (Nat × Nat)} (W : WaysAt S a b w l) {t : List Int} (ht : ∀ x ∈ t, x = 0 ∨ x = 1) (hw : walkB a b t 0 0 = true)
    (q : ∀ l' : List (Nat × Nat), Q (.int (numL a b t 0 0 : Nat)) (S.set (w + 1) (knT a b l'))) : CallWP D (k + 22) "Ways" "number" [.ref w, rowT t] S Q X := by
  refine call_of hn rfl ?_
  simp [d_Ways_number, startT_eq]
  unfold wn1
  simp
  unfold wn2
  simp only [wpSs_e63, wpS_e58, wpI_e42, wpE_e1, slot_0, slot_S, okO_some, vw_tup, asg_1]
  refine number_loop (S0 := S) (S9 := S) h ha hb t 0 0 0 l _ S W ⟨l, (set_same W.dct).symm⟩ ht (Nat.zero_le _) (Nat.zero_le _) hw fun l' x2 => ?_
  simp
  exact .keep (q l')
end PC
/-! PlEvery: all orders, told. -/
namespace PC
open PySem
variable {D : Tab} {k : Nat} {C g : Str} {d : Def} {args : List T} {S : Mem} {Q : Wv} {X : Wx}
def we5 : Ss := .cons (.asg 2 (.bin .Add (.var 2) (.comp (.bin .Add (.tup (.cons (.var 3) .nil)) (.var 4)) [4] (.one 4) (.live (.meth (.var 0) "Ways" "every" (.cons (.call "after" (.cons (.var 1) (.cons (.var 3) .nil))) .nil))) .none))) .nil
def we4 : Ss := .cons (.ifs (.and (.call "may_write" (.cons (.attr (.var 0) "held") (.cons (.var 1) (.cons (.var 3) .nil)))) (.cmp .Gt (.meth (.var 0) "Ways" "count" (.cons (.call "after" (.cons (.var 1) (.cons (.var 3) .nil))) .nil)) (.int 0))) we5 .nil) .nil
def we3 : Ss := .cons (.fors (.one 3) (.live (.tup (.cons (.int 0) (.cons (.int 1) .nil)))) we4) (.cons (.ret (.var 2)) .nil)
def we2 : Ss := .cons (.asg 2 (.lst .nil)) we3
def we1 : Ss := .cons (.ifs (.cmp .Eq (.var 1) (.call "end_of" (.cons (.attr (.var 0) "held") .nil))) (.cons (.ret (.lst (.cons (.tup .nil) .nil))) .nil) .nil) we2
def d_Ways_every : Def := ⟨["self", "here", "found", "side", "rest"], 2, we1⟩
/-- those behind a side's letter -/
def behL (a b : List Int) (r i j : Nat) (x : Int) : List (List Int) := if mayB a b i j x = true then (if x = 0 then ordL a b r (i + 1) j else ordL a b r i (j + 1)).map (x :: ·) else []
theorem cnt_aft (a b : List Int) (r i j : Nat) (x : Int) : (if x = 0 then ordL a b r (i + 1) j else ordL a b r i (j + 1)).length = cnt a b r (aft (i, j) x).1 (aft (i, j) x).2 := by
  unfold aft
  by_cases e : x = 0
  · rw [if_pos e, if_pos e, ordL_len]
  · rw [if_neg e, if_neg e, ordL_len]
theorem ordL_row (a b : List Int) : ∀ (r i j : Nat) (t : List Int), t ∈ ordL a b r i j → t.length = r
  | 0, i, j, t, h => by
    have h : t ∈ [[]] := h
    simp at h
    subst h
    rfl
  | r + 1, i, j, t, h => by
    have h : t ∈ (if mayB a b i j 0 = true then (ordL a b r (i + 1) j).map (0 :: ·) else []) ++ (if mayB a b i j 1 = true then (ordL a b r i (j + 1)).map (1 :: ·) else []) := h
    rcases List.mem_append.mp h with h | h
    · split at h
      · obtain ⟨t', ht, rfl⟩ := List.mem_map.mp h
        rw [List.length_cons, ordL_row a b r _ _ t' ht]
      · cases h
    · split at h
      · obtain ⟨t', ht, rfl⟩ := List.mem_map.mp h
        rw [List.length_cons, ordL_row a b r _ _ t' ht]
      · cases h
theorem fm_row (x : Int) : ∀ l : List (List Int), l.flatMap (fun t => [rowT (x :: t)]) = (l.map (x :: ·)).map rowT
  | [] => rfl
  | t :: l => by
    have ih := fm_row x l
    rw [List.flatMap_cons, ih]
    rfl
theorem noEv {a b : List Int} {w : Nat} : ∀ (x : Str) (y : T), (x, y) ∈ [(("held" : Str), mailT a b), ("known", T.ref (w + 1))] → ¬("every" : Str) = x := by
  intro x y hxy
  simp at hxy
  rcases hxy with ⟨rfl, _⟩ | ⟨rfl, _⟩ <;> decide +kernel
theorem we4_ok (h : HasWays D) {a b : List Int} (ha : a.length ≤ 9) (hb : b.length ≤ 9) {n w i j r : Nat} (hn : 2 + r ≤ n) (hn2 : 1 ≤ n) {l : List (Nat × Nat)} (W : WaysAt S a b w l) (hi : i ≤ a.length) (hj : j ≤ b.length) (hr : a.length - i + (b.length - j) = r + 1) {x : Int} (hx : x = 0 ∨ x = 1) {F : List (List Int)} (hF : F.length ≤ 10000) (hL : (behL a b r i j x).length ≤ 10000) {x4 : Option T} {K : K}
    (hE : ∀ {S : Mem} {Q : Wv} {X : Wx} {l : List (Nat × Nat)}, mayB a b i j x = true → WaysAt S a b w l → (∀ l' : List (Nat × Nat), l'.Nodup → (∀ p ∈ l', p.1 ≤ a.length ∧ p.2 ≤ b.length) → Q (.lst ((if x = 0 then ordL a b r (i + 1) j else ordL a b r i (j + 1)).map rowT)) (S.set (w + 1) (knT a b l'))) → CallWP D n "Ways" "every" [.ref w, pT (aft (i, j) x)] S Q X)
    (hK : ∀ (l' : List (Nat × Nat)) (x4 : Option T), l'.Nodup → (∀ p ∈ l', p.1 ≤ a.length ∧ p.2 ≤ b.length) → K.nx [some (.ref w), some (pairT i j), some (.lst ((F ++ behL a b r i j x).map rowT)), some (.int x), x4] (S.set (w + 1) (knT a b l'))) :
    wpSs D.G (cw D n) we4 X [some (.ref w), some (pairT i j), some (.lst (F.map rowT)), some (.int x), x4] S K := by
  obtain ⟨n, rfl⟩ : ∃ n', n = n' + 1 := ⟨n - 1, by omega⟩
  have same : S = S.set (w + 1) (knT a b l) := (set_same W.dct).symm
  unfold we4
  simp
  rw [ob_ref W.ins]
  show okO (List.lookup ("held" : Str) _) _
  rw [held_at]
  simp only [okO_some]
  refine may_ok h hx ?_
  simp only [bt_bl]
  by_cases hm : mayB a b i j x = true
  · rw [if_pos hm, ob_ref W.ins]
    refine ⟨⟨rfl, noCt⟩, ?_⟩
    refine after_p (p := (i, j)) h ?_
    have hin := mem_std.mp (aft_in hx hm (mem_std.mpr ⟨hi, hj⟩ : (i, j) ∈ stdL a b))
    have hra : a.length - (aft (i, j) x).1 + (b.length - (aft (i, j) x).2) = r := by
      rcases hx with rfl | rfl
      · simp only [mayB, if_true, Bool.and_eq_true, decide_eq_true_eq] at hm
        show a.length - (i + 1) + (b.length - j) = r
        omega
      · simp only [mayB, show ¬((1 : Int) = 0) by decide, if_false, Bool.and_eq_true, decide_eq_true_eq] at hm
        show a.length - i + (b.length - (j + 1)) = r
        omega
    refine count_lev (i := (aft (i, j) x).1) (j := (aft (i, j) x).2) (r := r) h ha hb (by omega) W hin.1 hin.2 hra fun l' n1 s1 => ?_
    have W' : WaysAt (S.set (w + 1) (knT a b l')) a b w l' := ⟨by rw [List.getElem?_set_ne (by omega)]; exact W.ins, get_set W.dct, n1, s1⟩
    simp only [vw_int, cmp_gt, okO_some]
    have hbeh : behL a b r i j x = (if x = 0 then ordL a b r (i + 1) j else ordL a b r i (j + 1)).map (x :: ·) := by unfold behL; rw [if_pos hm]
    by_cases hc : 0 < cnt a b r (aft (i, j) x).1 (aft (i, j) x).2
    · rw [if_pos (by simpa using hc)]
      unfold we5
      simp
      rw [ob_ref W'.ins]
      refine ⟨⟨rfl, noEv⟩, ?_⟩
      refine after_p (p := (i, j)) h ?_
      refine hE hm W' fun l2 n2 s2 => ?_
      rw [set_set]
      have hrow : ∀ t ∈ (if x = 0 then ordL a b r (i + 1) j else ordL a b r i (j + 1)), t.length = r := fun t ht => by
        split at ht
        · exact ordL_row _ _ _ _ _ _ ht
        · exact ordL_row _ _ _ _ _ _ ht
      have hK2 := hK l2 x4 n2 s2
      have hlen : (if x = 0 then ordL a b r (i + 1) j else ordL a b r i (j + 1)).length ≤ 10000 := by
        rw [hbeh, List.length_map] at hL
        exact hL
      rw [hbeh] at hK2
      generalize (if x = 0 then ordL a b r (i + 1) j else ordL a b r i (j + 1)) = G at *
      have e : line = 16777216 := rfl
      simp only [vw_lst]
      refine wpL_on (tT := rowT) (f := fun t => [rowT (x :: t)]) (fun t ht k' hk => ?_) (by simp) ?_
      · rw [show vw (S.set (w + 1) (knT a b l2)) (rowT t) = .tup (t.map .int) from rfl, bin_addt (by simp; have := hrow t ht; omega)]
        exact hk
      · rw [List.nil_append, fm_row, bin_addl (by rw [List.length_map, List.length_map, List.length_map]; omega), ← List.map_append]
        exact hK2
    · rw [if_neg (by simpa using hc)]
      have h0 : behL a b r i j x = [] := by
        rw [hbeh, List.map_eq_nil_iff, ← List.length_eq_zero_iff, cnt_aft]
        omega
      have := hK l' x4 n1 s1
      rw [h0, List.append_nil] at this
      exact this
  · rw [if_neg hm]
    have h0 : behL a b r i j x = [] := by unfold behL; rw [if_neg hm]
    have := hK l x4 W.nd W.sub
    rw [h0, List.append_nil, ← same] at this
    exact this
theorem every_ok (h : HasWays D) (hv : D.fn "Ways" "every" = some d_Ways_every) {a b : List Int} (hl : a.length + b.length ≤ 10) (ha : a.length ≤ 9) (hb : b.length ≤ 9) : ∀ (r : Nat) {k : Nat} {S : Mem} {Q : Wv} {X : Wx} {w i j : Nat} {l : List (Nat × Nat)}, WaysAt S a b w l → i ≤ a.length → j ≤ b.length → a.length - i + (b.length - j) = r →
    (∀ l' : List (Nat × Nat), l'.Nodup → (∀ p ∈ l', p.1 ≤ a.length ∧ p.2 ≤ b.length) → Q (.lst ((ordL a b r i j).map rowT)) (S.set (w + 1) (knT a b l'))) → CallWP D (k + 13 + r) "Ways" "every" [.ref w, pairT i j] S Q X := by
  intro r
  induction r with
  | zero =>
    intro k S Q X w i j l W hi hj hr q
    refine call_of hv rfl ?_
    simp [d_Ways_every, startT_eq]
    unfold we1
    simp
    rw [ob_ref W.ins]
    show okO (List.lookup ("held" : Str) _) _
    rw [held_at]
    simp only [okO_some]
    refine end_ok h ?_
    obtain rfl : i = a.length := by omega
    obtain rfl : j = b.length := by omega
    rw [vw_tup, cmp_eqp (by simp [pln]) (by simp [pln]), show eqT (T.tup [T.int (a.length : Int), T.int (b.length : Int)]) (pairT (a.length : Nat) (b.length : Nat)) = _ from eq_pT (a.length, b.length) (a.length, b.length)]
    simp
    have := q l W.nd W.sub
    rw [set_same W.dct] at this
    exact .keep this
  | succ r ih =>
    intro k S Q X w i j l W hi hj hr q
    show CallWP D ((k + 13 + r) + 1) "Ways" "every" [.ref w, pairT i j] S Q X
    refine call_of hv rfl ?_
    simp [d_Ways_every, startT_eq]
    unfold we1
    simp
    rw [ob_ref W.ins]
    show okO (List.lookup ("held" : Str) _) _
    rw [held_at]
    simp only [okO_some]
    obtain ⟨n, hn⟩ : ∃ n, k + 13 + r = n + 1 := ⟨k + 12 + r, by omega⟩
    have ih' : ∀ {S : Mem} {Q : Wv} {X : Wx} {p : Nat × Nat} {l : List (Nat × Nat)}, WaysAt S a b w l → p.1 ≤ a.length → p.2 ≤ b.length → a.length - p.1 + (b.length - p.2) = r → (∀ l' : List (Nat × Nat), l'.Nodup → (∀ p ∈ l', p.1 ≤ a.length ∧ p.2 ≤ b.length) → Q (.lst ((ordL a b r p.1 p.2).map rowT)) (S.set (w + 1) (knT a b l'))) → CallWP D (n + 1) "Ways" "every" [.ref w, pT p] S Q X := by
      intro S Q X p l h1 h2 h3 h4 h5
      have := ih (k := k) (X := X) h1 h2 h3 h4 h5
      rwa [hn] at this
    have hb2 : ∀ x : Int, (behL a b r i j x).length ≤ 10000 := fun x => by
      unfold behL
      have p2 : (2 : Nat) ^ r ≤ 2 ^ 10 := Nat.pow_le_pow_right (by decide) (by omega)
      split
      · rw [List.length_map, cnt_aft]
        have := cnt_le a b r (aft (i, j) x).1 (aft (i, j) x).2
        omega
      · simp
    rw [hn]
    refine end_ok h ?_
    rw [vw_tup, cmp_eqp (by simp [pln]) (by simp [pln]), show eqT (T.tup [T.int (i : Int), T.int (j : Int)]) (pairT (a.length : Nat) (b.length : Nat)) = _ from eq_pT (i, j) (a.length, b.length), decide_eq_false (by intro z; cases z; omega)]
    simp
    unfold we2
    simp
    unfold we3
    simp only [wpSs_e63, wpS_e58, wpI_e42, wpE_e15, wpEs_e36, wpEs_e35, wpE_e3, vw_tup, asg_1]
    rw [wpFor_S]
    refine ⟨trivial, ?_⟩
    simp only [List.set_cons_succ, List.set_cons_zero]
    have hE : ∀ (x : Int), (x = 0 ∨ x = 1) → ∀ {S : Mem} {Q : Wv} {X : Wx} {l : List (Nat × Nat)}, mayB a b i j x = true → WaysAt S a b w l → (∀ l' : List (Nat × Nat), l'.Nodup → (∀ p ∈ l', p.1 ≤ a.length ∧ p.2 ≤ b.length) → Q (.lst ((if x = 0 then ordL a b r (i + 1) j else ordL a b r i (j + 1)).map rowT)) (S.set (w + 1) (knT a b l'))) → CallWP D (n + 1) "Ways" "every" [.ref w, pT (aft (i, j) x)] S Q X := by
      intro x hx S Q X l hm W2 q2
      rcases hx with rfl | rfl
      · have hm2 := hm
        simp only [mayB, if_true, Bool.and_eq_true, decide_eq_true_eq] at hm2
        exact ih' (p := (i + 1, j)) W2 (by show i + 1 ≤ _; omega) hj (by show a.length - (i + 1) + (b.length - j) = r; omega) q2
      · have hm2 := hm
        simp only [mayB, show ¬((1 : Int) = 0) by decide, if_false, Bool.and_eq_true, decide_eq_true_eq] at hm2
        exact ih' (p := (i, j + 1)) W2 hi (by show j + 1 ≤ _; omega) (by show a.length - i + (b.length - (j + 1)) = r; omega) q2
    refine we4_ok (F := []) h ha hb (by omega) (by omega) W hi hj hr (.inl rfl) (by simp) (hb2 0) (hE 0 (.inl rfl)) fun l1 x4 n1 s1 => ?_
    have W1 : WaysAt (S.set (w + 1) (knT a b l1)) a b w l1 := ⟨by rw [List.getElem?_set_ne (by omega)]; exact W.ins, get_set W.dct, n1, s1⟩
    dsimp only
    rw [wpFor_S]
    refine ⟨trivial, ?_⟩
    simp only [List.set_cons_succ, List.set_cons_zero, List.nil_append]
    refine we4_ok h ha hb (by omega) (by omega) W1 hi hj hr (.inr rfl) (hb2 0) (hb2 1) (hE 1 (.inr rfl)) fun l2 x4 n2 s2 => ?_
    refine ⟨trivial, ?_⟩
    rw [set_set]
    simp
    have := q l2 n2 s2
    rw [show ordL a b (r + 1) i j = behL a b r i j 0 ++ behL a b r i j 1 from rfl] at this
    rw [List.map_append] at this
    exact .keep this
end PC
/-! PlOrdF: orders, is_order, number_of. -/
namespace PC
open PySem
variable {D : Tab} {k : Nat} {C g : Str} {d : Def} {args : List T} {S : Mem} {Q : Wv} {X : Wx}
def io1 : Ss := .cons (.expr (.call "need_mail" (.cons (.var 0) .nil))) (.cons (.ret (.call "is_good_order" (.cons (.var 0) (.cons (.var 1) .nil)))) .nil)
def d_is_order : Def := ⟨["mail", "thing"], 2, io1⟩
def no2 : Ss := .cons (.ifs (.not (.call "is_good_order" (.cons (.var 0) (.cons (.var 1) .nil)))) (.cons (.raise "BadOrder") .nil) .nil) (.cons (.ret (.meth (.mk "Ways" (.cons (.var 0) .nil)) "Ways" "number" (.cons (.var 1) .nil))) .nil)
def no1 : Ss := .cons (.expr (.call "need_mail" (.cons (.var 0) .nil))) no2
def d_number_of : Def := ⟨["mail", "order"], 2, no1⟩
def or2 : Ss := .cons (.ifs (.cmp .Gt (.call "count_of" (.cons (.var 0) .nil)) (.glob "MOST_ORDERS")) (.cons (.raise "Full") .nil) .nil) (.cons (.ret (.meth (.mk "Ways" (.cons (.var 0) .nil)) "Ways" "every" (.cons (.tup (.cons (.int 0) (.cons (.int 0) .nil))) .nil))) .nil)
def or1 : Ss := .cons (.expr (.call "need_mail" (.cons (.var 0) .nil))) or2
def d_orders : Def := ⟨["mail"], 1, or1⟩
structure HasOrdF (D : Tab) : Prop extends HasOrd D where
  every : D.fn "Ways" "every" = some d_Ways_every
  number : D.fn "Ways" "number" = some d_Ways_number
  good : D.fn "" "is_good_order" = some d_is_good_order
  isord : D.fn "" "is_order" = some d_is_order
  numof : D.fn "" "number_of" = some d_number_of
  ords : D.fn "" "orders" = some d_orders
  MORD : D.G "MOST_ORDERS" = some (.int 300)
theorem noNum {a b : List Int} {w : Nat} : ∀ (x : Str) (y : T), (x, y) ∈ [(("held" : Str), mailT a b), ("known", T.ref (w + 1))] → ¬("number" : Str) = x := by
  intro x y hxy
  simp at hxy
  rcases hxy with ⟨rfl, _⟩ | ⟨rfl, _⟩ <;> decide +kernel
theorem is_order_ok (h : HasOrdF D) {a b : List Int} (ok : OkM a b) {t : List Int} (ht : ∀ x ∈ t, x = 0 ∨ x = 1) (q : Q (.bl (walkB a b t 0 0)) S) : CallWP D (k + 5) "" "is_order" [mailT a b, rowT t] S Q X := by
  refine call_of h.isord rfl ?_
  simp [d_is_order, startT_eq]
  unfold io1
  simp
  refine need_mail_ok (k := k) h.need h.toHasMail ok ?_
  exact good_ok (k := k + 2) h.good h.whole h.toHasWays ht (.keep q)
theorem number_of_ok (h : HasOrdF D) {a b : List Int} (ok : OkM a b) {t : List Int} (ht : ∀ x ∈ t, x = 0 ∨ x = 1) (hw : walkB a b t 0 0 = true) (q : Q (.int (numL a b t 0 0 : Nat)) S) : CallWP D (k + 23) "" "number_of" [mailT a b, rowT t] S Q X := by
  refine call_of h.numof rfl ?_
  have ha := ok.la
  have hb := ok.lb
  simp [d_number_of, startT_eq]
  unfold no1
  simp
  refine need_mail_ok (k := k + 18) h.need h.toHasMail ok ?_
  unfold no2
  simp
  refine good_ok (k := k + 20) h.good h.whole h.toHasWays ht ?_
  rw [hw]
  simp
  refine init_ok h.toHasWays ⟨rfl, ?_⟩
  rw [ob_ref ways0.ins]
  refine ⟨⟨rfl, noNum⟩, ?_⟩
  refine number_ok (k := k) h.toHasWays h.number (by omega) (by omega) ways0 ht hw fun l' => ?_
  have e : (S ++ [waysT a b S.length, .dct [] []]).set (S.length + 1) (knT a b l') = S ++ [waysT a b S.length, knT a b l'] := by
    rw [List.set_append_right _ _ (Nat.le_add_right _ _)]
    simp
  rw [e]
  exact .drop ⟨_, rfl, rfl, fun i o hi => .inl hi⟩ rfl q
theorem rfr_rows (l : List (List Int)) : rfr 30 (.lst (l.map rowT)) = true := by
  show (l.map rowT).all (rfr 29) = true
  rw [List.all_eq_true]
  intro x hx
  obtain ⟨t, _, rfl⟩ := List.mem_map.mp hx
  show (t.map T.int).all (rfr 28) = true
  rw [List.all_eq_true]
  intro y hy
  obtain ⟨z, _, rfl⟩ := List.mem_map.mp hy
  rfl
theorem orders_told (h : HasOrdF D) {a b : List Int} (ok : OkM a b) (hl : a.length + b.length ≤ 10) (q : if cntA a b ≤ 300 then Q (.lst ((ordS a b).map rowT)) S else X "Full" S) : CallWP D (k + 24) "" "orders" [mailT a b] S Q X := by
  refine call_of h.ords rfl ?_
  have ha := ok.la
  have hb := ok.lb
  simp [d_orders, startT_eq, h.MORD]
  unfold or1
  simp
  refine need_mail_ok (k := k + 19) h.need h.toHasMail ok ?_
  unfold or2
  simp
  refine count_of_ok (k := k + 1) h.toHasFirst (by omega) (by omega) ?_
  simp [h.MORD]
  by_cases hc : cntA a b ≤ 300
  · rw [if_pos hc] at q
    rw [if_neg (by unfold cntA at hc; omega)]
    refine init_ok h.toHasWays ⟨rfl, ?_⟩
    rw [ob_ref ways0.ins]
    refine ⟨⟨rfl, noEv⟩, ?_⟩
    have := every_ok (k := k + 10 - (a.length + b.length)) (X := BackX S X) (Q := Back S Q) h.toHasWays h.every hl (by omega) (by omega) (a.length + b.length) (ways0 (S := S) (a := a) (b := b)) (i := 0) (j := 0) (Nat.zero_le _) (Nat.zero_le _) rfl fun l' n1 s1 => by
      have e : (S ++ [waysT a b S.length, .dct [] []]).set (S.length + 1) (knT a b l') = S ++ [waysT a b S.length, knT a b l'] := by
        rw [List.set_append_right _ _ (Nat.le_add_right _ _)]
        simp
      rw [e]
      exact .drop ⟨_, rfl, rfl, fun i o hi => .inl hi⟩ (rfr_rows _) q
    rwa [show k + 10 - (a.length + b.length) + 13 + (a.length + b.length) = k + 23 by omega] at this
  · rw [if_neg hc] at q
    rw [if_pos (by unfold cntA at hc; omega)]
    exact .keep q
end PC
/-! PlOrdG: what holds of every order. -/
namespace PC
open PySem
theorem ordL_01 (a b : List Int) : ∀ (r i j : Nat) (t : List Int), t ∈ ordL a b r i j → ∀ x ∈ t, x = 0 ∨ x = 1
  | 0, i, j, t, h => by
    have h : t ∈ [[]] := h
    simp at h
    subst h
    intro x hx
    cases hx
  | r + 1, i, j, t, h => by
    have h : t ∈ (if mayB a b i j 0 = true then (ordL a b r (i + 1) j).map (0 :: ·) else []) ++ (if mayB a b i j 1 = true then (ordL a b r i (j + 1)).map (1 :: ·) else []) := h
    intro x hx
    rcases List.mem_append.mp h with h | h
    · split at h
      · obtain ⟨t', ht, rfl⟩ := List.mem_map.mp h
        rcases List.mem_cons.mp hx with rfl | hx
        · exact .inl rfl
        · exact ordL_01 a b r _ _ t' ht x hx
      · cases h
    · split at h
      · obtain ⟨t', ht, rfl⟩ := List.mem_map.mp h
        rcases List.mem_cons.mp hx with rfl | hx
        · exact .inr rfl
        · exact ordL_01 a b r _ _ t' ht x hx
      · cases h
theorem may_lt0 {a b : List Int} {i j : Nat} (h : mayB a b i j 0 = true) : i < a.length := by
  simp only [mayB, if_true, Bool.and_eq_true, decide_eq_true_eq] at h
  exact h.1
theorem may_lt1 {a b : List Int} {i j : Nat} (h : mayB a b i j 1 = true) : j < b.length := by
  simp only [mayB, show ¬((1 : Int) = 0) by decide, if_false, Bool.and_eq_true, decide_eq_true_eq] at h
  exact h.1
theorem ordL_walk (a b : List Int) : ∀ (r i j : Nat) (t : List Int), i ≤ a.length → j ≤ b.length → a.length - i + (b.length - j) = r → t ∈ ordL a b r i j → walkB a b t i j = true
  | 0, i, j, t, hi, hj, hr, h => by
    have h : t ∈ [[]] := h
    simp at h
    subst h
    show decide ((i, j) = (a.length, b.length)) = true
    rw [show i = a.length by omega, show j = b.length by omega]
    simp
  | r + 1, i, j, t, hi, hj, hr, h => by
    have h : t ∈ (if mayB a b i j 0 = true then (ordL a b r (i + 1) j).map (0 :: ·) else []) ++ (if mayB a b i j 1 = true then (ordL a b r i (j + 1)).map (1 :: ·) else []) := h
    rcases List.mem_append.mp h with h | h
    · split at h
      · rename_i hm
        have := may_lt0 hm
        obtain ⟨t', ht, rfl⟩ := List.mem_map.mp h
        show (if (0 : Int) = 0 then mayB a b i j 0 && walkB a b t' (i + 1) j else _) = true
        rw [if_pos rfl, hm, ordL_walk a b r (i + 1) j t' (by omega) hj (by omega) ht]
        rfl
      · cases h
    · split at h
      · rename_i hm
        have := may_lt1 hm
        obtain ⟨t', ht, rfl⟩ := List.mem_map.mp h
        show (if (1 : Int) = 0 then _ else mayB a b i j 1 && walkB a b t' i (j + 1)) = true
        rw [if_neg (by decide), hm, ordL_walk a b r i (j + 1) t' hi (by omega) (by omega) ht]
        rfl
      · cases h
/-- of a row of the right counts the law's own look says the same -/
theorem walk_lets (a b : List Int) : ∀ (t : List Int) (i j : Nat), TLok a.length b.length t i j → i ≤ a.length → j ≤ b.length → t.length = a.length - i + (b.length - j) → walkB a b t i j = letsB a b t i j
  | [], i, j, _, hi, hj, hl => by
    have hl : 0 = a.length - i + (b.length - j) := hl
    show decide ((i, j) = (a.length, b.length)) = true
    rw [show i = a.length by omega, show j = b.length by omega]
    simp
  | x :: t, i, j, h, hi, hj, hl => by
    have hl : t.length + 1 = a.length - i + (b.length - j) := hl
    rcases h with ⟨rfl, h1, h2⟩ | ⟨rfl, h1, h2⟩
    · show (if (0 : Int) = 0 then mayB a b i j 0 && walkB a b t (i + 1) j else _) = (if (0 : Int) = 0 then decide (a.getD i 0 ≤ (j : Int)) && letsB a b t (i + 1) j else _)
      rw [if_pos rfl, if_pos rfl, walk_lets a b t (i + 1) j h2 (by omega) hj (by omega)]
      congr 1
      show (if (0 : Int) = 0 then decide (i < a.length) && decide (a.getD i 0 ≤ (j : Int)) else _) = _
      rw [if_pos rfl, decide_eq_true h1, Bool.true_and]
    · show (if (1 : Int) = 0 then _ else mayB a b i j 1 && walkB a b t i (j + 1)) = (if (1 : Int) = 0 then _ else decide (b.getD j 0 ≤ (i : Int)) && letsB a b t i (j + 1))
      rw [if_neg (by decide), if_neg (by decide), walk_lets a b t i (j + 1) h2 hi (by omega) (by omega)]
      congr 1
      show (if (1 : Int) = 0 then _ else decide (j < b.length) && decide (b.getD j 0 ≤ (i : Int))) = _
      rw [if_neg (by decide), decide_eq_true h1, Bool.true_and]
/-- mail that some order writes can be -/
theorem pth_free {a b t : List Int} (h : Pth a b t a.length b.length) : barL a b = [] := bar_none fun i j hi hj z => by
  have o := h.ok
  have s := o.sep i j hi hj
  exact s.2 z.1 (s.1 z.2)
theorem pth_walk {a b : List Int} : ∀ (t pre : List Int) (i j : Nat), Pth a b pre i j → walkB a b t i j = true → (∀ x ∈ t, x = 0 ∨ x = 1) → ∃ t', Pth a b t' a.length b.length
  | [], pre, i, j, hp, hw, _ => by
    have hw := of_decide_eq_true (show decide ((i, j) = (a.length, b.length)) = true from hw)
    cases hw
    exact ⟨pre, hp⟩
  | x :: t, pre, i, j, hp, hw, hx => by
    have hw : (if x = 0 then mayB a b i j 0 && walkB a b t (i + 1) j else mayB a b i j 1 && walkB a b t i (j + 1)) = true := hw
    have hxt : ∀ y ∈ t, y = 0 ∨ y = 1 := fun y hy => hx y (List.mem_cons_of_mem _ hy)
    rcases hx x List.mem_cons_self with rfl | rfl
    · rw [if_pos rfl, Bool.and_eq_true] at hw
      exact pth_walk t _ _ _ (.z hp hw.1) hw.2 hxt
    · rw [if_neg (by decide), Bool.and_eq_true] at hw
      exact pth_walk t _ _ _ (.o hp hw.1) hw.2 hxt
/-- can be, just where there is an order -/
theorem free_iff {a b : List Int} (ok : OkM a b) : barL a b = [] ↔ ordS a b ≠ [] := by
  constructor
  · intro h z
    have hc := cnt_pos ok h _ 0 0 (Nat.zero_le _) (Nat.zero_le _) rfl
    have hl := ordL_len a b (a.length + b.length) 0 0
    have z : ordL a b (a.length + b.length) 0 0 = [] := z
    rw [z] at hl
    simp only [Nat.sub_zero] at hc
    have hl : 0 = cnt a b (a.length + b.length) 0 0 := hl
    omega
  · intro h
    obtain ⟨t, r, e⟩ := List.exists_cons_of_ne_nil h
    have ht : t ∈ ordL a b (a.length + b.length) 0 0 := by show t ∈ ordS a b; rw [e]; exact List.mem_cons_self
    obtain ⟨t', hp⟩ := pth_walk t [] 0 0 .nil (ordL_walk a b _ 0 0 t (Nat.zero_le _) (Nat.zero_le _) rfl ht) (ordL_01 a b _ 0 0 t ht)
    exact pth_free hp
section
variable {D : Tab} {k : Nat} {S : Mem} {Q : Wv} {X : Wx}
theorem walk_len {a b : List Int} : ∀ (t : List Int) (i j : Nat), i ≤ a.length → j ≤ b.length → walkB a b t i j = true → t.length = a.length - i + (b.length - j)
  | [], i, j, hi, hj, hw => by
    have hw := of_decide_eq_true (show decide ((i, j) = (a.length, b.length)) = true from hw)
    cases hw
    simp
  | x :: t, i, j, hi, hj, hw => by
    have hw : (if x = 0 then mayB a b i j 0 && walkB a b t (i + 1) j else mayB a b i j 1 && walkB a b t i (j + 1)) = true := hw
    rw [List.length_cons]
    split at hw
    · rw [Bool.and_eq_true] at hw
      have := may_lt0 hw.1
      have := walk_len t (i + 1) j (by omega) hj hw.2
      omega
    · rw [Bool.and_eq_true] at hw
      have := may_lt1 hw.1
      have := walk_len t i (j + 1) hi (by omega) hw.2
      omega
/-- a thing that is no tuple is no order -/
theorem good_other (hg : D.fn "" "is_good_order" = some d_is_good_order) {m t : T} (ht : isiT (vw S t) .tuple = some false) (q : Q (.bl false) S) : CallWP D (k + 1) "" "is_good_order" [m, t] S Q X := by
  refine call_of hg rfl ?_
  simp [d_is_good_order, startT_eq]
  unfold go1
  simp [ht]
  exact .keep q
/-- nor is a tuple of other things than 0 and 1 -/
theorem good_tup (hg : D.fn "" "is_good_order" = some d_is_good_order) (hw : D.fn "" "is_whole" = some d_is_whole) {m : T} {xs : List T} (hp : ∀ x ∈ xs, plainT x = true) (hx : ∃ x ∈ xs, wholeT 0 1 x = false) (q : Q (.bl false) S) : CallWP D (k + 2) "" "is_good_order" [m, .tup xs] S Q X := by
  refine call_of hg rfl ?_
  simp [d_is_good_order, startT_eq]
  unfold go1
  simp
  refine wpL_map (f := fun x => .bl (wholeT 0 1 x)) (fun x hx' k' hk => ?_) trivial ?_
  · exact is_whole_any hw (hp x hx') hk
  · have e : (xs.map fun x => T.bl (wholeT 0 1 x)) = (xs.map (wholeT 0 1)).map T.bl := by rw [List.map_map]; rfl
    have e2 : (xs.map (wholeT 0 1)).all id = false := by
      rw [List.all_eq_false]
      obtain ⟨x, h1, h2⟩ := hx
      exact ⟨_, List.mem_map.mpr ⟨x, h1, rfl⟩, by rw [h2]; decide⟩
    rw [e, bls_map]
    simp only [Option.map_some, okO_some, bt_bl, e2]
    simp
    exact .keep q
end
end PC
/-! PlPreM: how many orders pass a standing. -/
namespace PC
open PySem
theorem ordL_gL (a b : List Int) : ∀ r i j : Nat, ordL a b r i j = gL (mayB a b) r i j
  | 0, i, j => rfl
  | r + 1, i, j => by
    show (if mayB a b i j 0 = true then (ordL a b r (i + 1) j).map (0 :: ·) else []) ++ (if mayB a b i j 1 = true then (ordL a b r i (j + 1)).map (1 :: ·) else []) = (if mayB a b i j 0 = true then (gL (mayB a b) r (i + 1) j).map (0 :: ·) else []) ++ (if mayB a b i j 1 = true then (gL (mayB a b) r i (j + 1)).map (1 :: ·) else [])
    rw [ordL_gL a b r (i + 1) j, ordL_gL a b r i (j + 1)]
theorem gL_cnt (a b : List Int) (r i j : Nat) : (gL (mayB a b) r i j).length = cnt a b r i j := by rw [← ordL_gL, ordL_len]
theorem lead_nF (a b : List Int) : ∀ n i j : Nat, i + j = n → lead a b i j = nF (mayB a b) i j := by
  intro n
  induction n with
  | zero =>
    intro i j h
    obtain ⟨rfl, rfl⟩ : i = 0 ∧ j = 0 := by omega
    simp [lead]
    rfl
  | succ n ih =>
    intro i j h
    rw [nF_step _ i j n h]
    cases i with
    | zero =>
      cases j with
      | zero => omega
      | succ j =>
        have := ih 0 j (by omega)
        unfold lead
        simp [this]
    | succ i =>
      cases j with
      | zero =>
        have := ih i 0 (by omega)
        unfold lead
        simp [this]
      | succ j =>
        have h1 := ih i (j + 1) (by omega)
        have h2 := ih (i + 1) j (by omega)
        unfold lead
        simp [h1, h2]
/-- how many orders pass a standing -/
theorem pass_ord (a b : List Int) {p : Nat × Nat} (h1 : p.1 ≤ a.length) (h2 : p.2 ≤ b.length) : (ordS a b).countP (fun o => decide ((o.take (p.1 + p.2)).count 0 = p.1)) = pass a b p := by
  unfold ordS pass
  rw [ordL_gL, show a.length + b.length = p.1 + p.2 + (a.length - p.1 + (b.length - p.2)) by omega, pass_count, gL_cnt, lead_nF a b _ _ _ rfl]
theorem pass_ord0 (a b : List Int) {p : Nat × Nat} (h1 : p.1 < a.length) (h2 : p.2 ≤ b.length) : (ordS a b).countP (fun o => decide ((o.take (p.1 + p.2)).count 0 = p.1 ∧ (o.take (p.1 + p.2 + 1)).count 0 = p.1 + 1)) = lead a b p.1 p.2 * (if mayB a b p.1 p.2 0 = true then cnt a b (a.length - (p.1 + 1) + (b.length - p.2)) (p.1 + 1) p.2 else 0) := by
  unfold ordS
  rw [ordL_gL, show a.length + b.length = p.1 + p.2 + (a.length - (p.1 + 1) + (b.length - p.2) + 1) by omega, pass_step0, gL_cnt, lead_nF a b _ _ _ rfl]
theorem pass_ord1 (a b : List Int) {p : Nat × Nat} (h1 : p.1 ≤ a.length) (h2 : p.2 < b.length) : (ordS a b).countP (fun o => decide ((o.take (p.1 + p.2)).count 0 = p.1 ∧ (o.take (p.1 + p.2 + 1)).count 0 = p.1)) = lead a b p.1 p.2 * (if mayB a b p.1 p.2 1 = true then cnt a b (a.length - p.1 + (b.length - (p.2 + 1))) p.1 (p.2 + 1) else 0) := by
  unfold ordS
  rw [ordL_gL, show a.length + b.length = p.1 + p.2 + (a.length - p.1 + (b.length - (p.2 + 1)) + 1) by omega, pass_step1, gL_cnt, lead_nF a b _ _ _ rfl]
/-- every order is a way -/
theorem ordL_pth {a b : List Int} : ∀ (r i j : Nat) (pre t : List Int), Pth a b pre i j → i ≤ a.length → j ≤ b.length → a.length - i + (b.length - j) = r → t ∈ ordL a b r i j → Pth a b (pre ++ t) a.length b.length
  | 0, i, j, pre, t, hp, hi, hj, hr, h => by
    have h : t ∈ [[]] := h
    simp at h
    subst h
    rw [List.append_nil, show a.length = i by omega, show b.length = j by omega]
    exact hp
  | r + 1, i, j, pre, t, hp, hi, hj, hr, h => by
    have h : t ∈ (if mayB a b i j 0 = true then (ordL a b r (i + 1) j).map (0 :: ·) else []) ++ (if mayB a b i j 1 = true then (ordL a b r i (j + 1)).map (1 :: ·) else []) := h
    rcases List.mem_append.mp h with h | h
    · split at h
      · rename_i hm
        have := may_lt0 hm
        obtain ⟨t', ht, rfl⟩ := List.mem_map.mp h
        have := ordL_pth r (i + 1) j (pre ++ [0]) t' (.z hp hm) (by omega) hj (by omega) ht
        simpa using this
      · cases h
    · split at h
      · rename_i hm
        have := may_lt1 hm
        obtain ⟨t', ht, rfl⟩ := List.mem_map.mp h
        have := ordL_pth r i (j + 1) (pre ++ [1]) t' (.o hp hm) hi (by omega) (by omega) ht
        simpa using this
      · cases h
theorem ord_pth {a b t : List Int} (h : t ∈ ordS a b) : Pth a b t a.length b.length := ordL_pth _ 0 0 [] t .nil (Nat.zero_le _) (Nat.zero_le _) rfl h
end PC
/-! PlLow: a share in lowest terms. -/
namespace PC
open PySem
variable {D : Tab} {k : Nat} {C g : Str} {d : Def} {args : List T} {S : Mem} {Q : Wv} {X : Wx}
def lw3 : Ss := .cons (.par (.two 2 3) (.cons (.var 3) (.cons (.bin .Mod (.var 2) (.var 3)) .nil))) .nil
def lw2 : Ss := .cons (.whiles (.cmp .NotEq (.var 3) (.int 0)) lw3) (.cons (.ret (.tup (.cons (.bin .FloorDiv (.var 0) (.var 2)) (.cons (.bin .FloorDiv (.var 1) (.var 2)) .nil)))) .nil)
def lw1 : Ss := .cons (.par (.two 2 3) (.cons (.var 0) (.cons (.var 1) .nil))) lw2
def d_lowest : Def := ⟨["top", "below", "one", "other"], 2, lw1⟩
def d_law_low : Def := ⟨["_law_top", "_law_below", "_law_one", "_law_other"], 2, lw1⟩
def lowT (m n : Nat) : T := .tup [.int (m / Nat.gcd m n : Nat), .int (n / Nat.gcd m n : Nat)]
theorem low_body {m n : Nat} (hn : 0 < n) (hn2 : n < 1000000000) {X' : Wx} {N : Sl → Mem → Prop} (q : Q (lowT m n) S) : wpSs D.G (cw D k) lw1 X' [some (.int (m : Nat)), some (.int (n : Nat)), none, none] S ⟨N, Back S Q⟩ := by
  unfold lw1
  simp
  unfold lw2
  simp
  refine ⟨n + 1, wpWh_inv (P := fun N σ S1 => ∃ u v : Nat, σ = [some (.int (m : Nat)), some (.int (n : Nat)), some (.int (u : Nat)), some (.int (v : Nat))] ∧ N = v ∧ Nat.gcd u v = Nat.gcd m n ∧ S1 = S) ?_ _ n (Nat.lt_succ_self _) ⟨m, n, rfl, rfl, rfl, rfl⟩⟩
  rintro v σ S1 ⟨u, _, rfl, rfl, hg, rfl⟩ KK hK
  simp
  by_cases hv : v = 0
  · subst hv
    rw [Nat.gcd_zero_right] at hg
    have hu : 0 < u := by rw [hg]; exact Nat.gcd_pos_of_pos_right m hn
    have hu2 : u ≤ n := by rw [hg]; exact Nat.gcd_le_right m hn
    simp
    rw [bin_divi (divOk_s (by omega) (by omega)), bin_divi (divOk_s (by omega) (by omega))]
    subst hg
    exact .keep q
  · simp [hv]
    unfold lw3
    simp
    rw [bin_modi (by omega)]
    refine hK (u % v) (Nat.mod_lt _ (by omega)) _ _ ⟨v, u % v, rfl, rfl, ?_, rfl⟩
    rw [← hg, Nat.gcd_comm u v, Nat.gcd_rec v u, Nat.gcd_comm]
theorem lowest_ok (h : D.fn "" "lowest" = some d_lowest) {m n : Nat} (hn : 0 < n) (hn2 : n < 1000000000) (q : Q (lowT m n) S) : CallWP D (k + 1) "" "lowest" [.int (m : Nat), .int (n : Nat)] S Q X := by
  refine call_of h rfl ?_
  show wpSs D.G (cw D k) lw1 _ [some (.int (m : Nat)), some (.int (n : Nat)), none, none] S _
  exact low_body hn hn2 q
theorem law_low_ok (h : FnB D "" "_law_low" d_law_low) {m n : Nat} (hn : 0 < n) (hn2 : n < 1000000000) (q : Q (lowT m n) S) : CallWP D (k + 1) "" "_law_low" [.int (m : Nat), .int (n : Nat)] S Q X := by
  refine call_ofB h rfl ?_
  show wpSs D.G (cw D k) lw1 _ [some (.int (m : Nat)), some (.int (n : Nat)), none, none] S _
  exact low_body hn hn2 q
theorem eq_lowT (m n : Nat) : eqT (lowT m n) (lowT m n) = true := by simp [lowT, eqT, eqTs]
theorem ne_lowT (m n : Nat) : cmpT .NotEq (lowT m n) (lowT m n) = some false := by
  rw [cmp_nep rfl rfl, eq_lowT]
  rfl
end PC
/-! PlCan: whether mail can be, where the text has no letters. -/
namespace PC
open PySem
variable {D : Tab} {k : Nat} {C g : Str} {d : Def} {args : List T} {S : Mem} {Q : Wv} {X : Wx}
structure HasCan0 (D : Tab) : Prop extends HasMail D where
  need : D.fn "" "need_mail" = some d_need_mail
  pairs : D.fn "" "all_pairs" = some d_all_pairs
  barring : D.fn "" "all_barring" = some d_all_barring
  there : D.fn "" "is_there" = some d_is_there
theorem there0_ok (h : HasCan0 D) {a b : List Int} (ha : a.length < 1000) (hb : b.length < 1000) (q : Q (.bl (decide (barL a b = []))) S) : CallWP D (k + 3) "" "is_there" [mailT a b] S Q X := by
  refine call_of h.there rfl ?_
  simp [d_is_there, startT_eq]
  refine barring_ok h.barring h.pairs ha hb ?_
  simp [eq_nilP]
  exact .keep q
theorem can0_ok (h : HasCan0 D) (hc : D.fn "" "can_be" = some d_can_be) {a b : List Int} (ok : OkM a b) (q : Q (.bl (decide (barL a b = []))) S) : CallWP D (k + 5) "" "can_be" [mailT a b] S Q X := by
  refine call_of hc rfl ?_
  simp [d_can_be, startT_eq]
  refine need_mail_ok h.need h.toHasMail ok ?_
  have := ok.la
  have := ok.lb
  exact there0_ok (k := k + 1) h (by omega) (by omega) (.keep q)
theorem need_there0 (hn : D.fn "" "need_there" = some d_need_there) (h : HasCan0 D) {a b : List Int} (ok : OkM a b) (q : if barL a b = [] then Q .non S else X "Nothing" S) : CallWP D (k + 4) "" "need_there" [mailT a b] S Q X := by
  refine call_of hn rfl ?_
  have := ok.la
  have := ok.lb
  simp [d_need_there, startT_eq]
  refine there0_ok (k := k) h (by omega) (by omega) ?_
  by_cases hb : barL a b = []
  · rw [if_pos hb] at q
    simp [hb]
    exact .keep q
  · rw [if_neg hb] at q
    simp [hb]
    exact .keep q
theorem count_of0 (h : HasWays D) (hc : D.fn "" "count_of" = some d_count_of) {a b : List Int} (ha : a.length ≤ 9) (hb : b.length ≤ 9) (q : Q (.int (cnt a b (a.length + b.length) 0 0 : Nat)) S) : CallWP D (k + 22) "" "count_of" [mailT a b] S Q X := by
  refine call_of hc rfl ?_
  simp [d_count_of, startT_eq]
  refine init_ok h ⟨rfl, ?_⟩
  rw [ob_ref ways0.ins]
  refine ⟨⟨rfl, fun x y hxy => ?_⟩, ?_⟩
  · simp at hxy
    rcases hxy with ⟨rfl, _⟩ | ⟨rfl, _⟩ <;> decide +kernel
  refine count_lev (i := 0) (j := 0) h ha hb (by omega) ways0 (Nat.zero_le _) (Nat.zero_le _) rfl fun l' h1 h2 => ?_
  have e : (S ++ [waysT a b S.length, .dct [] []]).set (S.length + 1) (knT a b l') = S ++ [waysT a b S.length, knT a b l'] := by
    rw [List.set_append_right _ _ (Nat.le_add_right _ _)]
    simp
  rw [e]
  exact .drop ⟨_, rfl, rfl, fun i o hi => .inl hi⟩ rfl (by simpa using q)
end PC
/-! PlStand: standings, sure ones, shares, leads. -/
namespace PC
open PySem
variable {D : Tab} {k : Nat} {C g : Str} {d : Def} {args : List T} {S : Mem} {Q : Wv} {X : Wx}
def su_3 : Ss := .cons (.asg 1 (.call "passing" (.cons (.var 0) .nil))) (.cons (.ret (.comp (.var 2) [2] (.one 2) (.live (.call "all_standings" (.cons (.var 0) .nil))) (.some (.cmp .Eq (.idx (.var 1) (.var 2)) (.call "count_of" (.cons (.var 0) .nil)))))) .nil)
def su_2 : Ss := .cons (.expr (.call "need_there" (.cons (.var 0) .nil))) su_3
def su_1 : Ss := .cons (.expr (.call "need_mail" (.cons (.var 0) .nil))) su_2
def d_sure_standings : Def := ⟨["mail", "table", "here"], 1, su_1⟩

def sh_4 : Ss := .cons (.expr (.call "need_there" (.cons (.var 0) .nil))) (.cons (.ret (.call "lowest" (.cons (.idx (.call "passing" (.cons (.var 0) .nil)) (.var 1)) (.cons (.call "count_of" (.cons (.var 0) .nil)) .nil)))) .nil)
def sh_3 : Ss := .cons (.ifs (.not (.bi .all (.cons (.comp (.call "is_whole" (.cons (.var 2) (.cons (.int 0) (.cons (.bi .len (.cons (.var 3) .nil)) .nil)))) [2, 3] (.two 2 3) (.zip (.var 1) (.var 0)) .none) .nil))) (.cons (.raise "BadNumber") .nil) .nil) sh_4
def sh_2 : Ss := .cons (.ifs (.or (.not (.isi (.var 1) .tuple)) (.cmp .NotEq (.bi .len (.cons (.var 1) .nil)) (.int 2))) (.cons (.raise "BadNumber") .nil) .nil) sh_3
def sh_1 : Ss := .cons (.expr (.call "need_mail" (.cons (.var 0) .nil))) sh_2
def d_share_at : Def := ⟨["mail", "standing", "many", "bundle"], 2, sh_1⟩

def le_4 : Ss := .cons (.asg 2 (.comp (.bin .Sub (.idx (.var 3) (.int 0)) (.idx (.var 3) (.int 1))) [3] (.one 3) (.live (.var 1)) (.some (.cmp .Gt (.idx (.var 1) (.var 3)) (.int 0))))) (.cons (.ret (.tup (.cons (.bi .maxL (.cons (.var 2) .nil)) (.cons (.neg (.bi .minL (.cons (.var 2) .nil))) .nil)))) .nil)
def le_3 : Ss := .cons (.asg 1 (.call "passing" (.cons (.var 0) .nil))) le_4
def le_2 : Ss := .cons (.expr (.call "need_there" (.cons (.var 0) .nil))) le_3
def le_1 : Ss := .cons (.expr (.call "need_mail" (.cons (.var 0) .nil))) le_2
def d_leads : Def := ⟨["mail", "table", "some", "here"], 1, le_1⟩


structure HasStd0 (D : Tab) : Prop extends HasStd D, HasCan0 D where
  there' : D.fn "" "need_there" = some d_need_there
/-- the standings that some order passes -/
theorem standings0_ok (h : HasStd0 D) (hs : D.fn "" "standings" = some d_standings) {a b : List Int} (ok : OkM a b) (q : if barL a b = [] then Q (.lst ((passL a b).map pT)) S else X "Nothing" S) : CallWP D (k + 23) "" "standings" [mailT a b] S Q X := by
  refine call_of hs rfl ?_
  have la := ok.la
  have lb := ok.lb
  simp [d_standings, startT_eq]
  unfold st1
  simp
  refine need_mail_ok (k := k + 18) h.need h.toHasMail ok ?_
  unfold st2
  simp
  refine need_there0 (k := k + 18) h.there' h.toHasCan0 ok ?_
  by_cases hb : barL a b = []
  · rw [if_pos hb] at q ⊢
    unfold st3
    simp
    refine passing_ok (k := k) h.toHasStd (by omega) (by omega) ?_
    simp
    refine standings_all h.all (by omega) (by omega) ?_
    simp
    refine wpL_filter (tT := pT) (h := pT) (p := fun p => decide (0 < pass a b p)) (fun p hp k' hk => ?_) (by simp) (.keep q)
    rw [idx_std (f := pass a b) hp]
    simp at hk ⊢
    exact hk
  · rw [if_neg hb] at q ⊢
    exact .keep q
def sureS (a b : List Int) : List (Nat × Nat) := (stdL a b).filter fun p => decide (pass a b p = cntA a b)
theorem sure_std_ok (h : HasStd0 D) (hc : D.fn "" "count_of" = some d_count_of) (hs : D.fn "" "sure_standings" = some d_sure_standings) {a b : List Int} (ok : OkM a b) (q : if barL a b = [] then Q (.lst ((sureS a b).map pT)) S else X "Nothing" S) : CallWP D (k + 23) "" "sure_standings" [mailT a b] S Q X := by
  refine call_of hs rfl ?_
  have la := ok.la
  have lb := ok.lb
  simp [d_sure_standings, startT_eq]
  unfold su_1
  simp
  refine need_mail_ok (k := k + 18) h.need h.toHasMail ok ?_
  unfold su_2
  simp
  refine need_there0 (k := k + 18) h.there' h.toHasCan0 ok ?_
  by_cases hb : barL a b = []
  · rw [if_pos hb] at q ⊢
    unfold su_3
    simp
    refine passing_ok (k := k) h.toHasStd (by omega) (by omega) ?_
    simp
    refine standings_all h.all (by omega) (by omega) ?_
    simp only [vw_lst]
    refine wpL_filter (tT := pT) (h := pT) (p := fun p => decide (pass a b p = cntA a b)) (fun p hp k' hk => ?_) (by simp) (.keep q)
    rw [idx_std (f := pass a b) hp]
    simp only [okO_some]
    refine count_of0 (k := k) h.toHasWays hc (by omega) (by omega) ?_
    simp only [vw_int, cmp_eqi, okO_some, bt_bl]
    rw [show decide (((pass a b p : Nat) : Int) = ((cnt a b (a.length + b.length) 0 0 : Nat) : Int)) = decide (pass a b p = cntA a b) from decide_eq_decide.mpr (by unfold cntA; omega)]
    exact hk
  · rw [if_neg hb] at q ⊢
    exact .keep q
/-- by how many the first one is ahead at the standings that are passed -/
def ledL (a b : List Int) : List Int := (passL a b).map fun p => (p.1 : Int) - p.2
theorem bi_maxM (l : List Int) : biT .maxL [.lst (l.map T.int)] = (maxL l).map .int := by
  show ((ints? (l.map T.int)).bind maxL).map T.int = _
  rw [ints_map]
  rfl
theorem bi_minM (l : List Int) : biT .minL [.lst (l.map T.int)] = (minL l).map .int := by
  show ((ints? (l.map T.int)).bind minL).map T.int = _
  rw [ints_map]
  rfl
theorem pass_00 {a b : List Int} (ok : OkM a b) (hb : barL a b = []) : (0, 0) ∈ passL a b := by
  rw [mem_pass ok hb]
  exact ⟨Nat.zero_le _, Nat.zero_le _, fun x hx => absurd hx (Nat.not_lt_zero _), fun x hx => absurd hx (Nat.not_lt_zero _)⟩
theorem led_ne {a b : List Int} (ok : OkM a b) (hb : barL a b = []) : ledL a b ≠ [] := by
  intro z
  have := pass_00 ok hb
  unfold ledL at z
  rw [List.map_eq_nil_iff] at z
  rw [z] at this
  cases this
theorem leads_ok (h : HasStd0 D) (hl : D.fn "" "leads" = some d_leads) {a b : List Int} (ok : OkM a b) (q : if barL a b = [] then (∀ m n : Int, maxL (ledL a b) = some m → minL (ledL a b) = some n → Q (.tup [.int m, .int (-n)]) S) else X "Nothing" S) : CallWP D (k + 23) "" "leads" [mailT a b] S Q X := by
  refine call_of hl rfl ?_
  have la := ok.la
  have lb := ok.lb
  simp [d_leads, startT_eq]
  unfold le_1
  simp
  refine need_mail_ok (k := k + 18) h.need h.toHasMail ok ?_
  unfold le_2
  simp
  refine need_there0 (k := k + 18) h.there' h.toHasCan0 ok ?_
  by_cases hb : barL a b = []
  · rw [if_pos hb] at q ⊢
    unfold le_3
    simp
    refine passing_ok (k := k) h.toHasStd (by omega) (by omega) ?_
    unfold le_4
    simp only [wpSs_e63, wpS_e47, wpE_e30, wpI_e42, wpE_e1, slot_0, slot_S, okO_some, vw_dct, wipe_S, wipe_0, asg_1, List.set_cons_succ, List.set_cons_zero]
    refine ⟨⟨rfl, by rw [List.all_eq_true]; intro x hx; obtain ⟨p, _, rfl⟩ := List.mem_map.mp hx; rfl⟩, ?_⟩
    refine wpL_filter (tT := pT) (h := fun p => T.int ((p.1 : Int) - p.2)) (p := fun p => decide (0 < pass a b p)) (fun p hp k' hk => ?_) trivial ?_
    · simp only [wpT_e40, wpE_e9, wpE_e19, wpE_e1, wpE_e3, slot_0, slot_S, okO_some, vw_dct]
      rw [idx_std (f := pass a b) hp]
      simp only [okO_some, vw_int, cmp_gt, bt_bl]
      by_cases hc : 0 < pass a b p
      · rw [if_pos (by simpa using hc)] at hk ⊢
        simpa using hk
      · rw [if_neg (by simpa using hc)] at hk ⊢
        exact hk
    have e : ((List.filter (fun p => decide (0 < pass a b p)) (stdL a b)).map fun p => T.int ((p.1 : Int) - p.2)) = (ledL a b).map T.int := by
      unfold ledL passL
      rw [List.map_map]
      rfl
    rw [e]
    have hne := led_ne ok hb
    obtain ⟨x, r, ex⟩ := List.exists_cons_of_ne_nil hne
    have em : maxL (ledL a b) = some (r.foldl max x) := by rw [ex]; rfl
    have en : minL (ledL a b) = some (r.foldl min x) := by rw [ex]; rfl
    simp only [wpSs_e63, wpS_e56, wpE_e15, wpEs_e36, wpEs_e35, wpE_e26, wpE_e8, wpE_e1, slot_0, slot_S, okO_some, List.map_cons, List.map_nil, vw_lst, bi_maxM, bi_minM, em, en, Option.map_some]
    exact .keep (q _ _ em en)
  · rw [if_neg hb] at q ⊢
    exact .keep q
/-- what is a standing's tuple -/
def standB (a b : List Int) : T → Bool
  | .tup [x, y] => wholeT 0 a.length x && wholeT 0 b.length y
  | _ => false
theorem wpL_c {g : Mem → Prop} {body : T → Mem → (List T → Mem → Prop) → Prop} {x : T} {xs acc : List T} {K : List T → Mem → Prop} : wpL g body (x :: xs) acc S K = (g S ∧ body x S fun ys S1 => wpL g body xs (acc ++ ys) S1 K) := rfl
theorem share_at_bad (h : HasStd0 D) (hs : D.fn "" "share_at" = some d_share_at) {a b : List Int} (ok : OkM a b) {t : T} (ht : plain2 t = true) (hf : standB a b t = false) (q : X "BadNumber" S) : CallWP D (k + 6) "" "share_at" [mailT a b, t] S Q X := by
  refine call_of hs rfl ?_
  simp [d_share_at, startT_eq]
  unfold sh_1
  simp
  refine need_mail_ok (k := k + 1) h.need h.toHasMail ok ?_
  unfold sh_2
  cases t with
  | ref i => cases ht
  | exc c => cases ht
  | tup xs =>
    have ht : xs.all plainT = true := ht
    rcases xs with _ | ⟨x, _ | ⟨y, _ | ⟨z, r⟩⟩⟩
    · simp [isiT]; exact .keep q
    · simp [isiT]; exact .keep q
    · simp at ht
      simp
      unfold sh_3
      simp [mailT, zipT, wpL_c]
      refine ⟨trivial, ?_⟩
      refine is_whole_any h.whole ht.1 ?_
      refine ⟨trivial, ?_⟩
      refine is_whole_any h.whole ht.2 ?_
      refine ⟨trivial, ?_⟩
      have hf : (wholeT 0 a.length x && wholeT 0 b.length y) = false := hf
      simp [bls?]
      cases h1 : wholeT 0 a.length x with
      | false => simp; exact .keep q
      | true =>
        rw [h1, Bool.true_and] at hf
        rw [hf]
        simp
        exact .keep q
    · simp [isiT]
      rw [if_neg (by omega)]
      exact .keep q
  | _ =>
    simp [isiT]
    exact .keep q
theorem share_at_ok (h : HasStd0 D) (hc : D.fn "" "count_of" = some d_count_of) (hlo : D.fn "" "lowest" = some d_lowest) (hs : D.fn "" "share_at" = some d_share_at) {a b : List Int} (ok : OkM a b) {p : Nat × Nat} (hp : p ∈ stdL a b) (q : if barL a b = [] then Q (lowT (pass a b p) (cntA a b)) S else X "Nothing" S) : CallWP D (k + 23) "" "share_at" [mailT a b, pT p] S Q X := by
  refine call_of hs rfl ?_
  have la := ok.la
  have lb := ok.lb
  have hpb := mem_std.mp hp
  simp [d_share_at, startT_eq]
  unfold sh_1
  simp
  refine need_mail_ok (k := k + 18) h.need h.toHasMail ok ?_
  unfold sh_2
  simp
  unfold sh_3
  simp [mailT, zipT, wpL_c]
  refine ⟨trivial, ?_⟩
  refine is_whole_ok (k := k + 21) h.whole ?_
  rw [decide_eq_true (by omega)]
  refine ⟨trivial, ?_⟩
  refine is_whole_ok (k := k + 21) h.whole ?_
  rw [decide_eq_true (by omega)]
  refine ⟨trivial, ?_⟩
  simp [bls?]
  unfold sh_4
  simp
  refine need_there0 (k := k + 18) h.there' h.toHasCan0 ok ?_
  by_cases hb : barL a b = []
  · rw [if_pos hb] at q ⊢
    refine passing_ok (k := k) h.toHasStd (by omega) (by omega) ?_
    simp only [vw_dct]
    rw [idx_std (f := pass a b) hp]
    simp only [okO_some]
    refine count_of0 (k := k) h.toHasWays hc (by omega) (by omega) ?_
    have c0 := cnt_pos ok hb _ 0 0 (Nat.zero_le _) (Nat.zero_le _) rfl
    simp only [Nat.sub_zero] at c0
    have c1 := cnt_le a b (a.length + b.length) 0 0
    have c2 : 2 ^ (a.length + b.length) ≤ 2 ^ 14 := Nat.pow_le_pow_right (by decide) (by omega)
    refine lowest_ok (k := k + 21) hlo c0 (by omega) ?_
    exact .keep q
  · rw [if_neg hb] at q ⊢
    exact .keep q
end PC
/-! PlLaw: a law that goes over its rounds. -/
namespace PC
open PySem
variable {D : Tab} {k : Nat} {C g : Str} {d : Def} {args : List T} {S : Mem} {Q : Wv} {X : Wx}
theorem law_rounds {n : Nat} {hi : Int} {B : Ss} (hl : D.fn "" "law" = some d) (hd : d.body = .cons (.fors (.one 1) (.live (.call "_law_rounds" (.cons (.var 0) (.cons (.int hi) .nil)))) B) (.cons (.ret (.bl true)) .nil)) (ha : d.ar = 1) (hN : d.N.length = n + 2)
    (hr : D.fn "" "_law_rounds" = some d_law_rounds) (hc : D.fn "" "_law_cell" = some d_law_cell) (ns : List Int) (hn : ns.length ≤ 63) (hh : 0 ≤ hi ∧ hi < 1000)
    (hB : ∀ (x : List (Option T)) (S1 : Mem) (j : Nat) (c m : Int) (X : Wx) (K : K), x.length = n → S1[j]? = some (diceT c m) → (∀ (c' m' : Int) (M : Mem) (x' : List (Option T)), x'.length = n → K.nx (some (.ref 0) :: some (.ref j) :: x') (S1.set j (diceT c' m') ++ M)) → wpSs D.G (cw D (k + 29)) B X (some (.ref 0) :: some (.ref j) :: x) S1 K) :
    CallWP D (k + 30) "" "law" [.ref 0] [.fix (ns.map .int)] (fun v _ => v = .bl true) noX := by
  refine call_of hl (by rw [ha]; rfl) ?_
  have hs : startT d [.ref 0] = some (.ref 0) :: none :: List.replicate n none := by
    rw [startT_eq, hN, ha]
    rfl
  rw [hd, hs, wpSs_e63]
  simp only [wpS_e58, wpI_e42, wpE_e23, wpEs_e36, wpEs_e35, wpE_e1, wpE_e3, slot_0, okO_some, cw_eq]
  refine rounds_ok (k := k + 27) hr hc (s := 0) (ns := ns) rfl (by omega) hh fun cs => ?_
  simp only [vw_lst]
  refine wpFor_inv (P := fun r σ S1 => ∃ (js : List Nat) (x1 : Option T) (x : List (Option T)), r = js.map T.ref ∧ js.Nodup ∧ (∀ j ∈ js, ∃ c m, S1[j]? = some (diceT c m)) ∧ σ = some (.ref 0) :: x1 :: x ∧ x.length = n) (fun _ _ _ _ => by simp) ?_ ?_ ⟨(List.range cs.length).map fun j => 1 + j, _, _, by rw [List.map_map]; rfl, ?_, fun j hj => ?_, rfl, by simp⟩
  · rintro x r σ S1 ⟨js, x1, xs, hr', hnd, hj, rfl, hxl⟩ KK hKK
    cases js with
    | nil => cases hr'
    | cons j js =>
      rw [List.map_cons] at hr'
      injection hr' with e1 e2
      subst e1 e2
      obtain ⟨c, m, hS⟩ := hj j List.mem_cons_self
      rw [List.nodup_cons] at hnd
      simp only [asg_1, List.set_cons_succ, List.set_cons_zero]
      refine hB xs S1 j c m _ _ hxl hS fun c' m' M x' hx' => ?_
      refine hKK _ _ ⟨js, _, x', rfl, hnd.2, fun j' hj' => ?_, rfl, hx'⟩
      obtain ⟨c2, m2, h2⟩ := hj j' (List.mem_cons_of_mem _ hj')
      have hl2 := (List.getElem?_eq_some_iff.mp h2).1
      refine ⟨c2, m2, ?_⟩
      rw [List.getElem?_append_left (by simpa using hl2), List.getElem?_set_ne (by rintro rfl; exact hnd.1 hj')]
      exact h2
  · rintro σ S1 _
    exact .keep rfl
  · refine List.Pairwise.map _ (fun p q h => ?_) List.nodup_range
    omega
  · obtain ⟨i, hi, rfl⟩ := List.mem_map.mp hj
    have hi := List.mem_range.mp hi
    refine ⟨cs.getD i 0, 0, ?_⟩
    show (Ob.fix (ns.map .int) :: cs.map fun c => diceT c 0)[1 + i]? = _
    rw [Nat.add_comm, List.getElem?_cons_succ, List.getElem?_map, List.getElem?_eq_getElem hi, List.getD_eq_getElem?_getD, List.getElem?_eq_getElem hi]
    rfl
end PC
/-! PlDice: the dice may have been rolled since. -/
namespace PC
open PySem
/-- where the law stands: the dice may have been rolled since -/
def DiceAt (S1 : Mem) (j : Nat) (S : Mem) : Prop := ∃ (c m : Int) (M : Mem), S = S1.set j (diceT c m) ++ M
theorem DiceAt.add {S1 S : Mem} {j : Nat} (h : DiceAt S1 j S) (o : Mem) : DiceAt S1 j (S ++ o) := by
  obtain ⟨c, m, M, rfl⟩ := h
  exact ⟨c, m, M ++ o, by simp⟩
theorem DiceAt.dice {S1 S : Mem} {j : Nat} {c0 m0 : Int} (hS : S1[j]? = some (diceT c0 m0)) (h : DiceAt S1 j S) : ∃ c m, S[j]? = some (diceT c m) := by
  obtain ⟨c, m, M, rfl⟩ := h
  have hl := (List.getElem?_eq_some_iff.mp hS).1
  exact ⟨c, m, by rw [List.getElem?_append_left (by simpa using hl)]; exact get_set hS⟩
theorem DiceAt.rolled {S1 S : Mem} {j : Nat} {c0 m0 c' m' : Int} (hS : S1[j]? = some (diceT c0 m0)) (h : DiceAt S1 j S) : DiceAt S1 j (S.set j (diceT c' m')) := by
  obtain ⟨c, m, M, rfl⟩ := h
  have hl := (List.getElem?_eq_some_iff.mp hS).1
  refine ⟨c', m', M, ?_⟩
  rw [List.set_append_left _ _ (by simpa using hl), List.set_set]
/-- a for's loop by what holds of slots and memory -/
theorem wpFor_P {g : Mem → Prop} {body : T → Sl → Mem → (Sl → Mem → Prop) → Prop} {K : Sl → Mem → Prop} (P : Sl → Mem → Prop) (hg : ∀ S, g S) : ∀ {xs : List T} {σ : Sl} {S : Mem}, (∀ x ∈ xs, ∀ σ S, P σ S → ∀ KK : Sl → Mem → Prop, (∀ σ' S', P σ' S' → KK σ' S') → body x σ S KK) → (∀ σ S, P σ S → K σ S) → P σ S → wpFor g body xs σ S K
  | [], σ, S, _, hd, p => ⟨hg _, hd σ S p⟩
  | x :: xs, σ, S, hs, hd, p => ⟨hg _, hs x List.mem_cons_self σ S p _ fun σ' S' p' => wpFor_P P hg (fun y hy => hs y (List.mem_cons_of_mem _ hy)) hd p'⟩
end PC
/-! PlOrdR: orders refused. -/
namespace PC
open PySem
variable {D : Tab} {k : Nat} {C g : Str} {d : Def} {args : List T} {S : Mem} {Q : Wv} {X : Wx}
def d_letters_of : Def := ⟨["order", "side"], 1, (.cons (.ret (.bm (.str "") .join (.cons (.comp (.idx (.str "ab") (.var 1)) [1] (.one 1) (.live (.var 0)) .none) .nil))) .nil)⟩
def ot2 : Ss := .cons (.ifs (.not (.call "is_good_order" (.cons (.var 0) (.cons (.var 1) .nil)))) (.cons (.raise "BadOrder") .nil) .nil) (.cons (.ret (.call "letters_of" (.cons (.var 1) .nil))) .nil)
def ot1 : Ss := .cons (.expr (.call "need_mail" (.cons (.var 0) .nil))) ot2
def d_order_text : Def := ⟨["mail", "order"], 2, ot1⟩
/-- no order, at every level -/
def NoOrd (D : Tab) (m t : T) : Prop := ∀ (k : Nat) (S : Mem) (Q : Wv) (X : Wx), Q (.bl false) S → CallWP D (k + 2) "" "is_good_order" [m, t] S Q X
theorem is_order_bad (h : HasOrdF D) {a b : List Int} (ok : OkM a b) {t : T} (ht : NoOrd D (mailT a b) t) (q : Q (.bl false) S) : CallWP D (k + 5) "" "is_order" [mailT a b, t] S Q X := by
  refine call_of h.isord rfl ?_
  simp [d_is_order, startT_eq]
  unfold io1
  simp
  refine need_mail_ok (k := k) h.need h.toHasMail ok ?_
  exact ht (k + 2) _ _ _ (.keep q)
theorem number_of_bad (h : HasOrdF D) {a b : List Int} (ok : OkM a b) {t : T} (ht : NoOrd D (mailT a b) t) (q : X "BadOrder" S) : CallWP D (k + 5) "" "number_of" [mailT a b, t] S Q X := by
  refine call_of h.numof rfl ?_
  simp [d_number_of, startT_eq]
  unfold no1
  simp
  refine need_mail_ok (k := k) h.need h.toHasMail ok ?_
  unfold no2
  simp
  refine ht (k + 2) _ _ _ ?_
  exact .keep q
theorem order_text_bad (h : HasOrdF D) (hot : D.fn "" "order_text" = some d_order_text) {a b : List Int} (ok : OkM a b) {t : T} (ht : NoOrd D (mailT a b) t) (q : X "BadOrder" S) : CallWP D (k + 5) "" "order_text" [mailT a b, t] S Q X := by
  refine call_of hot rfl ?_
  simp [d_order_text, startT_eq]
  unfold ot1
  simp
  refine need_mail_ok (k := k) h.need h.toHasMail ok ?_
  unfold ot2
  simp
  refine ht (k + 2) _ _ _ ?_
  exact .keep q
theorem order_at_bad (h : HasOrd D) {a b : List Int} (ok : OkM a b) {t : T} (ht : plainT t = true) (hf : wholeT 0 (cntA a b - 1) t = false) (q : X "BadNumber" S) : CallWP D (k + 23) "" "order_at" [mailT a b, t] S Q X := by
  refine call_of h.oat rfl ?_
  have ha := ok.la
  have hb := ok.lb
  simp [d_order_at, startT_eq]
  refine need_mail_ok (k := k + 18) h.need h.toHasMail ok ?_
  refine count_of_ok h.toHasFirst (by omega) (by omega) ?_
  simp
  refine is_whole_any (k := k + 21) h.whole ht ?_
  rw [show wholeT 0 ((cnt a b (a.length + b.length) 0 0 : Nat) - 1) t = false from hf]
  exact .keep q
theorem first_none (h : HasOrd D) {a b : List Int} (ok : OkM a b) (hc : cntA a b = 0) (q : Q .non S) : CallWP D (k + 23) "" "first_order" [mailT a b] S Q X := by
  refine call_of h.first rfl ?_
  have ha := ok.la
  have hb := ok.lb
  simp [d_first_order, startT_eq]
  refine need_mail_ok (k := k + 18) h.need h.toHasMail ok ?_
  refine count_of_ok h.toHasFirst (by omega) (by omega) ?_
  rw [show cnt a b (a.length + b.length) 0 0 = 0 from hc]
  simp
  exact .keep q
/-- rows of few enough of each side -/
theorem TLok_of (n m : Nat) : ∀ (t : List Int) (i j : Nat), (∀ x ∈ t, x = 0 ∨ x = 1) → t.count 0 + i ≤ n → t.count 1 + j ≤ m → TLok n m t i j
  | [], i, j, _, _, _ => trivial
  | x :: t, i, j, hx, h0, h1 => by
    have hxt : ∀ y ∈ t, y = 0 ∨ y = 1 := fun y hy => hx y (List.mem_cons_of_mem _ hy)
    rcases hx x List.mem_cons_self with rfl | rfl
    · have e0 : List.count (0 : Int) (0 :: t) = List.count 0 t + 1 := by simp
      have e1 : List.count (1 : Int) (0 :: t) = List.count 1 t := by simp
      rw [e0] at h0
      rw [e1] at h1
      exact .inl ⟨rfl, by omega, TLok_of n m t (i + 1) j hxt (by omega) h1⟩
    · have e0 : List.count (0 : Int) (1 :: t) = List.count 0 t := by simp
      have e1 : List.count (1 : Int) (1 :: t) = List.count 1 t + 1 := by simp
      rw [e0] at h0
      rw [e1] at h1
      exact .inr ⟨rfl, by omega, TLok_of n m t i (j + 1) hxt h0 (by omega)⟩
/-- two places exchanged: as many of each -/
theorem swap_count (x : Int) {t : List Int} {i j : Nat} (hi : i < t.length) (hj : j < t.length) : ((t.set i (t.getD j 0)).set j (t.getD i 0)).count x = t.count x := by
  have gi : t.getD i 0 = t[i] := by rw [List.getD_eq_getElem?_getD, List.getElem?_eq_getElem hi]; rfl
  have gj : t.getD j 0 = t[j] := by rw [List.getD_eq_getElem?_getD, List.getElem?_eq_getElem hj]; rfl
  rw [gi, gj]
  have := List.set_set_perm (as := t) hi hj
  exact this.count_eq x
end PC
/-! PlSpots: at which place of a row a letter stands; one ahead of another. -/
namespace PC
open PySem
theorem spots_len (s : Int) : ∀ (t : List Int) (n : Nat), (spots s n t).length = t.count s
  | [], n => rfl
  | x :: t, n => by
    unfold spots
    rw [List.count_cons]
    by_cases h : x = s
    · rw [if_pos h, List.length_cons, spots_len s t (n + 1), if_pos (by simpa using h)]
    · rw [if_neg h, spots_len s t (n + 1), if_neg (by simpa using h)]; rfl
/-- the place of a letter -/
theorem spots_at (s : Int) : ∀ (t : List Int) (n i : Nat), i < t.count s → ∃ p, (spots s n t).getD i 0 = n + p ∧ p < t.length ∧ t[p]? = some s ∧ (t.take p).count s = i
  | [], n, i, h => by simp at h
  | x :: t, n, i, h => by
    unfold spots
    by_cases hx : x = s
    · rw [if_pos hx]
      cases i with
      | zero => exact ⟨0, rfl, by simp, by simp [hx], rfl⟩
      | succ i =>
        rw [List.count_cons, if_pos (by simpa using hx)] at h
        obtain ⟨p, h1, h2, h3, h4⟩ := spots_at s t (n + 1) i (by omega)
        refine ⟨p + 1, ?_, by simp; omega, by simpa using h3, ?_⟩
        · show (spots s (n + 1) t).getD i 0 = _
          rw [h1]; omega
        · rw [List.take_succ_cons, List.count_cons, h4, if_pos (by simpa using hx)]
    · rw [if_neg hx]
      rw [List.count_cons, if_neg (by simpa using hx)] at h
      obtain ⟨p, h1, h2, h3, h4⟩ := spots_at s t (n + 1) i h
      refine ⟨p + 1, by rw [h1]; omega, by simp; omega, by simpa using h3, ?_⟩
      rw [List.take_succ_cons, List.count_cons, h4, if_neg (by simpa using hx)]; rfl
theorem take_mono (s : Int) (t : List Int) {p q : Nat} (h : p ≤ q) : (t.take p).count s ≤ (t.take q).count s := by
  have : t.take p = (t.take q).take p := by rw [List.take_take, Nat.min_eq_left h]
  rw [this]
  exact (List.take_sublist _ _).count_le s
theorem take_at {s : Int} {t : List Int} {p : Nat} (h : t[p]? = some s) (s' : Int) : (t.take (p + 1)).count s' = (t.take p).count s' + if s = s' then 1 else 0 := by
  rw [List.take_succ, h, List.count_append]
  congr 1
  show [s].count s' = _
  rw [List.count_singleton]
  by_cases e : s = s'
  · rw [if_pos e, if_pos (by simpa using e)]
  · rw [if_neg e, if_neg (by simpa using e)]
/-- a letter's place, and how many of a side stand ahead of a place -/
theorem spot_le (s : Int) {t : List Int} {i p : Nat} (hi : i < t.count s) : (t.take p).count s ≤ i ↔ p ≤ (spots s 0 t).getD i 0 := by
  obtain ⟨q, h1, h2, h3, h4⟩ := spots_at s t 0 i hi
  rw [h1, Nat.zero_add]
  constructor
  · intro h
    by_cases hp : p ≤ q
    · exact hp
    · exfalso
      have := take_mono s t (show q + 1 ≤ p by omega)
      rw [take_at h3, if_pos rfl, h4] at this
      omega
  · intro h
    have := take_mono s t h
    omega
theorem spot_uniq (s : Int) {t : List Int} {i p : Nat} (hi : i < t.count s) (h1 : t[p]? = some s) (h2 : (t.take p).count s = i) : (spots s 0 t).getD i 0 = p := by
  have a := (spot_le s hi (p := p)).mp (by omega)
  have b : ¬(t.take (p + 1)).count s ≤ i := by rw [take_at h1, if_pos rfl]; omega
  rw [spot_le s hi] at b
  omega
theorem spot_lt (s : Int) {t : List Int} {i j : Nat} (hj : j < t.count s) (h : i < j) : (spots s 0 t).getD i 0 < (spots s 0 t).getD j 0 := by
  obtain ⟨p, h1, h2, h3, h4⟩ := spots_at s t 0 i (by omega)
  have := (spot_le s hj (p := p + 1)).mp (by rw [take_at h3, if_pos rfl]; omega)
  omega
theorem spot_ne {s s' : Int} (hs : s ≠ s') {t : List Int} {i j : Nat} (hi : i < t.count s) (hj : j < t.count s') : (spots s 0 t).getD i 0 ≠ (spots s' 0 t).getD j 0 := by
  obtain ⟨p, h1, h2, h3, h4⟩ := spots_at s t 0 i hi
  obtain ⟨q, g1, g2, g3, g4⟩ := spots_at s' t 0 j hj
  intro z
  have e : p = q := by omega
  subst e
  rw [h3] at g3
  exact hs (Option.some.inj g3)
theorem count01 : ∀ {t : List Int}, (∀ x ∈ t, x = 0 ∨ x = 1) → t.count 0 + t.count 1 = t.length
  | [], _ => rfl
  | x :: t, h => by
    have := count01 (t := t) fun y hy => h y (List.mem_cons_of_mem _ hy)
    rcases h x List.mem_cons_self with rfl | rfl
    · simp; omega
    · simp; omega
theorem take01 {t : List Int} (h : ∀ x ∈ t, x = 0 ∨ x = 1) {p : Nat} (hp : p ≤ t.length) : (t.take p).count 0 + (t.take p).count 1 = p := by
  rw [count01 fun x hx => h x (List.mem_of_mem_take hx), List.length_take, Nat.min_eq_left hp]
/-- the standing at which a letter is written -/
theorem at_stand0 {t : List Int} (h01 : ∀ x ∈ t, x = 0 ∨ x = 1) {i j : Nat} (hi : i < t.count 0) (hl : i + j < t.length) : ((t.take (i + j)).count 0 = i ∧ (t.take (i + j + 1)).count 0 = i + 1) ↔ (spots 0 0 t).getD i 0 = i + j := by
  constructor
  · rintro ⟨h1, h2⟩
    refine spot_uniq 0 hi ?_ h1
    rw [List.getElem?_eq_getElem hl]
    rcases h01 _ (List.getElem_mem hl) with e | e
    · rw [e]
    · exfalso
      have := take_at (show t[i + j]? = some 1 by rw [List.getElem?_eq_getElem hl, e]) 0
      rw [if_neg (by decide)] at this
      omega
  · intro h
    obtain ⟨p, g1, g2, g3, g4⟩ := spots_at 0 t 0 i hi
    have e : p = i + j := by omega
    subst e
    refine ⟨g4, ?_⟩
    rw [take_at g3, if_pos rfl, g4]
theorem at_stand1 {t : List Int} (h01 : ∀ x ∈ t, x = 0 ∨ x = 1) {i j : Nat} (hj : j < t.count 1) (hl : i + j < t.length) : ((t.take (i + j)).count 0 = i ∧ (t.take (i + j + 1)).count 0 = i) ↔ (spots 1 0 t).getD j 0 = i + j := by
  have a := take01 h01 (show i + j ≤ t.length by omega)
  constructor
  · rintro ⟨h1, h2⟩
    refine spot_uniq 1 hj ?_ (by omega)
    rw [List.getElem?_eq_getElem hl]
    rcases h01 _ (List.getElem_mem hl) with e | e
    · exfalso
      have := take_at (show t[i + j]? = some 0 by rw [List.getElem?_eq_getElem hl, e]) 0
      rw [if_pos rfl] at this
      omega
    · rw [e]
  · intro h
    obtain ⟨p, g1, g2, g3, g4⟩ := spots_at 1 t 0 j hj
    have e : p = i + j := by omega
    subst e
    have : (t.take (i + j)).count 0 = i := by omega
    refine ⟨this, ?_⟩
    rw [take_at g3, if_neg (by decide), this]
    rfl
/-- one ahead of another, by the standings at which one is written -/
theorem ahead0 {O : List (List Int)} {n m i j : Nat} (hi : i < n) (hj : j < m) (hO : ∀ t ∈ O, (∀ x ∈ t, x = 0 ∨ x = 1) ∧ t.count 0 = n ∧ t.count 1 = m) {L : List (Nat × Nat)} (hn : L.Nodup) (hL : ∀ q : Nat, q ≤ m → (i, q) ∈ L) :
    O.countP (fun t => decide ((spots 0 0 t).getD i 0 < (spots 1 0 t).getD j 0)) = (L.map fun h => if h.1 = i ∧ h.2 ≤ j then O.countP (fun t => decide ((t.take (h.1 + h.2)).count 0 = h.1 ∧ (t.take (h.1 + h.2 + 1)).count 0 = h.1 + 1)) else 0).sum := by
  have e : (L.map fun h => if h.1 = i ∧ h.2 ≤ j then O.countP (fun t => decide ((t.take (h.1 + h.2)).count 0 = h.1 ∧ (t.take (h.1 + h.2 + 1)).count 0 = h.1 + 1)) else 0) = L.map fun h => O.countP fun t => decide ((h.1 = i ∧ h.2 ≤ j) ∧ ((t.take (h.1 + h.2)).count 0 = h.1 ∧ (t.take (h.1 + h.2 + 1)).count 0 = h.1 + 1)) := by
    refine List.map_congr_left fun h _ => ?_
    by_cases c : h.1 = i ∧ h.2 ≤ j
    · rw [if_pos c]
      refine List.countP_congr fun t _ => ?_
      simp [c]
    · rw [if_neg c]
      symm
      rw [List.countP_eq_zero]
      intro t _
      simp only [decide_eq_true_eq]
      exact fun z => c z.1
  rw [e]
  refine count_swap _ _ L O fun t ht => ?_
  obtain ⟨h01, h0, h1⟩ := hO t ht
  have hlen := count01 h01
  obtain ⟨p, g1, g2, g3, g4⟩ := spots_at 0 t 0 i (by omega)
  rw [Nat.zero_add] at g1
  have tp := take01 h01 (show p ≤ t.length by omega)
  have jl := spot_le 1 (t := t) (i := j) (p := p) (by omega)
  have nn := spot_ne (s := 0) (s' := 1) (by decide) (t := t) (i := i) (j := j) (by omega) (by omega)
  have q1 : (t.take p).count 1 ≤ m := by
    have := (List.take_sublist p t).count_le 1
    omega
  have iff : ∀ x : Nat × Nat, ((x.1 = i ∧ x.2 ≤ j) ∧ ((t.take (x.1 + x.2)).count 0 = x.1 ∧ (t.take (x.1 + x.2 + 1)).count 0 = x.1 + 1)) ↔ (x = (i, (t.take p).count 1) ∧ (t.take p).count 1 ≤ j) := by
    rintro ⟨u, v⟩
    constructor
    · rintro ⟨⟨e1, e2⟩, e3, e4⟩
      have e1 : u = i := e1
      subst e1
      have e2 : v ≤ j := e2
      have e3 : (t.take (u + v)).count 0 = u := e3
      have e4 : (t.take (u + v + 1)).count 0 = u + 1 := e4
      have := (at_stand0 h01 (i := u) (j := v) (by omega) (by omega)).mp ⟨e3, e4⟩
      have : (t.take p).count 1 = v := by omega
      rw [this]
      exact ⟨rfl, e2⟩
    · rintro ⟨e1, e2⟩
      cases e1
      exact ⟨⟨rfl, e2⟩, (at_stand0 h01 (i := i) (j := (t.take p).count 1) (by omega) (by omega)).mpr (by omega)⟩
  by_cases c : (spots 0 0 t).getD i 0 < (spots 1 0 t).getD j 0
  · rw [if_pos (by simpa using c)]
    refine count_one _ hn (hL _ q1) fun x _ => ?_
    rw [decide_eq_true_eq, iff]
    exact ⟨fun z => z.1, fun z => ⟨z, by omega⟩⟩
  · rw [if_neg (by simpa using c), List.countP_eq_zero]
    intro x _
    rw [decide_eq_true_eq, iff]
    rintro ⟨_, z⟩
    omega
theorem ahead1 {O : List (List Int)} {n m i j : Nat} (hi : i < n) (hj : j < m) (hO : ∀ t ∈ O, (∀ x ∈ t, x = 0 ∨ x = 1) ∧ t.count 0 = n ∧ t.count 1 = m) {L : List (Nat × Nat)} (hn : L.Nodup) (hL : ∀ q : Nat, q ≤ n → (q, j) ∈ L) :
    O.countP (fun t => decide ((spots 1 0 t).getD j 0 < (spots 0 0 t).getD i 0)) = (L.map fun h => if h.2 = j ∧ h.1 ≤ i then O.countP (fun t => decide ((t.take (h.1 + h.2)).count 0 = h.1 ∧ (t.take (h.1 + h.2 + 1)).count 0 = h.1)) else 0).sum := by
  have e : (L.map fun h => if h.2 = j ∧ h.1 ≤ i then O.countP (fun t => decide ((t.take (h.1 + h.2)).count 0 = h.1 ∧ (t.take (h.1 + h.2 + 1)).count 0 = h.1)) else 0) = L.map fun h => O.countP fun t => decide ((h.2 = j ∧ h.1 ≤ i) ∧ ((t.take (h.1 + h.2)).count 0 = h.1 ∧ (t.take (h.1 + h.2 + 1)).count 0 = h.1)) := by
    refine List.map_congr_left fun h _ => ?_
    by_cases c : h.2 = j ∧ h.1 ≤ i
    · rw [if_pos c]
      refine List.countP_congr fun t _ => ?_
      simp [c]
    · rw [if_neg c]
      symm
      rw [List.countP_eq_zero]
      intro t _
      simp only [decide_eq_true_eq]
      exact fun z => c z.1
  rw [e]
  refine count_swap _ _ L O fun t ht => ?_
  obtain ⟨h01, h0, h1⟩ := hO t ht
  have hlen := count01 h01
  obtain ⟨p, g1, g2, g3, g4⟩ := spots_at 1 t 0 j (by omega)
  rw [Nat.zero_add] at g1
  have tp := take01 h01 (show p ≤ t.length by omega)
  have jl := spot_le 0 (t := t) (i := i) (p := p) (by omega)
  have nn := spot_ne (s := 1) (s' := 0) (by decide) (t := t) (i := j) (j := i) (by omega) (by omega)
  have q1 : (t.take p).count 0 ≤ n := by
    have := (List.take_sublist p t).count_le 0
    omega
  have iff : ∀ x : Nat × Nat, ((x.2 = j ∧ x.1 ≤ i) ∧ ((t.take (x.1 + x.2)).count 0 = x.1 ∧ (t.take (x.1 + x.2 + 1)).count 0 = x.1)) ↔ (x = ((t.take p).count 0, j) ∧ (t.take p).count 0 ≤ i) := by
    rintro ⟨u, v⟩
    constructor
    · rintro ⟨⟨e1, e2⟩, e3, e4⟩
      have e1 : v = j := e1
      subst e1
      have e2 : u ≤ i := e2
      have e3 : (t.take (u + v)).count 0 = u := e3
      have e4 : (t.take (u + v + 1)).count 0 = u := e4
      have := (at_stand1 h01 (i := u) (j := v) (by omega) (by omega)).mp ⟨e3, e4⟩
      have : (t.take p).count 0 = u := by omega
      rw [this]
      exact ⟨rfl, e2⟩
    · rintro ⟨e1, e2⟩
      cases e1
      exact ⟨⟨rfl, e2⟩, (at_stand1 h01 (i := (t.take p).count 0) (j := j) (by omega) (by omega)).mpr (by omega)⟩
  by_cases c : (spots 1 0 t).getD j 0 < (spots 0 0 t).getD i 0
  · rw [if_pos (by simpa using c)]
    refine count_one _ hn (hL _ q1) fun x _ => ?_
    rw [decide_eq_true_eq, iff]
    exact ⟨fun z => z.1, fun z => ⟨z, by omega⟩⟩
  · rw [if_neg (by simpa using c), List.countP_eq_zero]
    intro x _
    rw [decide_eq_true_eq, iff]
    rintro ⟨_, z⟩
    omega
end PC
/-! PlAhead: which of two letters was ahead, in how many orders. -/
namespace PC
open PySem
variable {D : Tab} {k : Nat} {C g : Str} {d : Def} {args : List T} {S : Mem} {Q : Wv} {X : Wx}
abbrev lT (p : Int × Nat) : T := pairT p.1 p.2
/-- all letters -/
def letP (n m : Nat) : List (Int × Nat) := (List.range n).map (fun i => ((0 : Int), i)) ++ (List.range m).map fun i => ((1 : Int), i)
theorem letT_eq (n m : Nat) : letT n m = (letP n m).map lT := by
  unfold letT letP
  rw [List.map_append, List.map_map, List.map_map]
  rfl
theorem mem_letP {a b : List Int} {p : Int × Nat} : p ∈ letP a.length b.length ↔ (p.1 = 0 ∨ p.1 = 1) ∧ p.2 < (bun a b p.1).length := by
  obtain ⟨s, i⟩ := p
  unfold letP
  rw [List.mem_append, List.mem_map, List.mem_map]
  constructor
  · rintro (⟨j, hj, e⟩ | ⟨j, hj, e⟩)
    · cases e; exact ⟨.inl rfl, List.mem_range.mp hj⟩
    · cases e; exact ⟨.inr rfl, List.mem_range.mp hj⟩
  · rintro ⟨rfl | rfl, h⟩
    · exact .inl ⟨i, List.mem_range.mpr h, rfl⟩
    · exact .inr ⟨i, List.mem_range.mpr h, rfl⟩
def d_all_letters : Def := ⟨["mail", "side", "number"], 1, (.cons (.ret (.comp2 (.tup (.cons (.var 1) (.cons (.var 2) .nil))) [1, 2] (.one 1) (.live (.tup (.cons (.int 0) (.cons (.int 1) .nil)))) .none [2] (.one 2) (.rng1 (.bi .len (.cons (.idx (.var 0) (.var 1)) .nil))) .none)) .nil)⟩
theorem all_letters_ok (h : D.fn "" "all_letters" = some d_all_letters) {a b : List Int} (ha : a.length ≤ 900) (hb : b.length ≤ 900) (q : Q (.lst ((letP a.length b.length).map lT)) S) : CallWP D (k + 1) "" "all_letters" [mailT a b] S Q X := by
  refine call_of h rfl ?_
  have el : (line : Int) = 16777216 := rfl
  simp [d_all_letters, startT_eq, mailT]
  have inner : ∀ (s : Int) (n : Nat) (kk : List T → Mem → Prop), n ≤ 900 → kk ((List.range n).map fun i : Nat => pairT s i) S → (-(line : Int) ≤ (n : Int) ∧ (n : Int) ≤ line) ∧ (rangeT 0 n).length ≤ 1000 ∧
      wpL gT (fun x S k => k [T.tup [.int s, x]] S) (rangeT 0 n) [] S kk := by
    intro s n kk hn hk
    refine ⟨by omega, by simp [rangeT]; omega, ?_⟩
    exact wpL_rngm (h := fun i : Nat => pairT s i) (fun i hi k' hk' => hk') trivial hk
  have fin : (letP a.length b.length).map lT = ([] ++ (List.range a.length).map fun i : Nat => pairT 0 i) ++ (List.range b.length).map fun i : Nat => pairT 1 i := by rw [← letT_eq]; rfl
  rw [fin] at q
  refine ⟨trivial, ?_⟩
  simp
  refine ⟨by omega, (inner 0 a.length _ ha ?_).2⟩
  refine ⟨trivial, ?_⟩
  simp
  refine ⟨by omega, (inner 1 b.length _ hb ?_).2⟩
  exact ⟨trivial, .keep (by simpa using q)⟩
/-- how many of a side stand there -/
def std (p : Nat × Nat) (s : Int) : Nat := if s = 0 then p.1 else p.2
/-- how many orders pass a standing and go on by a side -/
def stepN (a b : List Int) (p : Nat × Nat) (s : Int) : Nat := lead a b p.1 p.2 * cnt a b (a.length - (aft p s).1 + (b.length - (aft p s).2)) (aft p s).1 (aft p s).2
def aheadS (a b : List Int) (s : Int) (i : Nat) (s' : Int) (j : Nat) (p : Nat × Nat) : Nat := if std p s = i ∧ std p s' ≤ j ∧ mayB a b p.1 p.2 s = true then stepN a b p s else 0
def aheadN (a b : List Int) (s : Int) (i : Nat) (s' : Int) (j : Nat) : Nat := if s = s' then (if i < j then cntA a b else 0) else ((stdL a b).map (aheadS a b s i s' j)).sum
def ca5 : Ss := .cons (.asg 6 (.bin .Add (.var 6) (.bin .Mult (.idx (.var 5) (.var 3)) (.meth (.var 4) "Ways" "count" (.cons (.call "after" (.cons (.var 3) (.cons (.idx (.var 1) (.int 0)) .nil))) .nil))))) .nil
def ca4 : Ss := .cons (.ifs (.and (.cmp .Eq (.idx (.var 3) (.idx (.var 1) (.int 0))) (.idx (.var 1) (.int 1))) (.and (.cmp .LtE (.idx (.var 3) (.idx (.var 2) (.int 0))) (.idx (.var 2) (.int 1))) (.call "may_write" (.cons (.var 0) (.cons (.var 3) (.cons (.idx (.var 1) (.int 0)) .nil)))))) ca5 .nil) .nil
def ca3 : Ss := .cons (.fors (.one 3) (.live (.call "all_standings" (.cons (.var 0) .nil))) ca4) (.cons (.ret (.var 6)) .nil)
def ca2 : Ss := .cons (.par (.three 4 5 6) (.cons (.mk "Ways" (.cons (.var 0) .nil)) (.cons (.call "leading" (.cons (.var 0) .nil)) (.cons (.int 0) .nil)))) ca3
def ca1 : Ss := .cons (.ifs (.cmp .Eq (.idx (.var 1) (.int 0)) (.idx (.var 2) (.int 0))) (.cons (.ret (.ife (.cmp .Lt (.idx (.var 1) (.int 1)) (.idx (.var 2) (.int 1))) (.call "count_of" (.cons (.var 0) .nil)) (.int 0))) .nil) .nil) ca2
def d_count_ahead : Def := ⟨["mail", "one", "other", "here", "ways", "ahead", "total"], 3, ca1⟩
structure HasAhead0 (D : Tab) : Prop extends HasWays D where
  cof : D.fn "" "count_of" = some d_count_of
  all : D.fn "" "all_standings" = some d_all_standings
  lead : D.fn "" "leading" = some d_leading
  aheadc : D.fn "" "count_ahead" = some d_count_ahead
theorem idx_std2 {p : Nat × Nat} {s : Int} (hs : s = 0 ∨ s = 1) : idxT (pT p) (.int s) = some (.int (std p s : Nat)) := by
  rcases hs with rfl | rfl
  · simp [std]
  · simp [std]
theorem ca4_ok (h : HasAhead0 D) {a b : List Int} (ha : a.length ≤ 9) (hb : b.length ≤ 9) {s s' : Int} {i j : Nat} (hs : s = 0 ∨ s = 1) (hs' : s' = 0 ∨ s' = 1) {p : Nat × Nat} (hp : p ∈ stdL a b) {w n : Nat} {l : List (Nat × Nat)} (W : WaysAt S a b w l) {K : K}
    (hK : ∀ l' : List (Nat × Nat), l'.Nodup → (∀ p ∈ l', p.1 ≤ a.length ∧ p.2 ≤ b.length) → K.nx [some (mailT a b), some (pairT s i), some (pairT s' j), some (pT p), some (.ref w), some (.dct ((stdL a b).map pT) ((stdL a b).map fun p => T.int (lead a b p.1 p.2 : Nat))), some (.int (n + aheadS a b s i s' j p : Nat))] (S.set (w + 1) (knT a b l'))) :
    wpSs D.G (cw D (k + 21)) ca4 X [some (mailT a b), some (pairT s i), some (pairT s' j), some (pT p), some (.ref w), some (.dct ((stdL a b).map pT) ((stdL a b).map fun p => T.int (lead a b p.1 p.2 : Nat))), some (.int (n : Nat))] S K := by
  have same : S = S.set (w + 1) (knT a b l) := (set_same W.dct).symm
  have no : aheadS a b s i s' j p = 0 → K.nx [some (mailT a b), some (pairT s i), some (pairT s' j), some (pT p), some (.ref w), some (.dct ((stdL a b).map pT) ((stdL a b).map fun p => T.int (lead a b p.1 p.2 : Nat))), some (.int (n : Nat))] S := fun e => by
    have := hK l W.nd W.sub
    rwa [e, Nat.add_zero, ← same] at this
  have hpb := mem_std.mp hp
  unfold ca4
  simp only [wpSs_e63, wpS_e57, wpE_e11, wpE_e9, wpE_e19, wpE_e1, wpE_e3, slot_0, slot_S, okO_some, vw_tup, idx_tup, at0, at1, bt_bl, wpSs_e62]
  rw [show L2.atI [T.int (p.1 : Nat), T.int (p.2 : Nat)] s = some (.int (std p s : Nat)) from idx_std2 hs]
  simp only [okO_some, vw_int, cmp_eqi, bt_bl]
  by_cases c1 : std p s = i
  · rw [if_pos (by simp; omega)]
    rw [show L2.atI [T.int (p.1 : Nat), T.int (p.2 : Nat)] s' = some (.int (std p s' : Nat)) from idx_std2 hs']
    simp only [okO_some, vw_int, cmp_le, bt_bl]
    by_cases c2 : std p s' ≤ j
    · rw [if_pos (by simpa using c2)]
      simp only [wpE_e23, wpEs_e36, wpEs_e35, wpE_e1, wpE_e19, wpE_e3, slot_0, slot_S, okO_some, vw_tup, idx_tup, at0, cw_eq]
      refine may_ok (k := k + 20) h.toHasWays hs ?_
      simp only [bt_bl]
      by_cases c3 : mayB a b p.1 p.2 s = true
      · rw [if_pos c3]
        unfold ca5
        simp
        rw [idx_std (f := fun p => lead a b p.1 p.2) hp, ob_ref W.ins]
        refine ⟨⟨rfl, noCt⟩, ?_⟩
        refine after_p (p := p) (k := k + 20) h.toHasWays ?_
        have hin := mem_std.mp (aft_in hs c3 hp)
        refine count_lev h.toHasWays ha hb (by omega) W hin.1 hin.2 rfl fun l' n2 s2 => ?_
        have b1 := lead_le a b _ p.1 p.2 rfl
        have b2 := cnt_le a b (a.length - (aft p s).1 + (b.length - (aft p s).2)) (aft p s).1 (aft p s).2
        have b3 : 2 ^ (p.1 + p.2) ≤ 2 ^ 18 := Nat.pow_le_pow_right (by decide) (by omega)
        have b4 : 2 ^ (a.length - (aft p s).1 + (b.length - (aft p s).2)) ≤ 2 ^ 18 := Nat.pow_le_pow_right (by decide) (by omega)
        have b5 : (2 : Nat) ^ 18 < 2 ^ 250 := by decide
        simp only [vw_int]
        rw [bin_muli (mulOk_b (by simp only [Int.natAbs_natCast]; omega) (by simp only [Int.natAbs_natCast]; omega))]
        simp only [okO_some, bin_addi]
        have e : aheadS a b s i s' j p = stepN a b p s := by unfold aheadS; rw [if_pos ⟨c1, c2, c3⟩]
        have := hK l' n2 s2
        rw [e] at this
        unfold stepN at this
        simpa using this
      · rw [if_neg c3]
        exact no (by unfold aheadS; rw [if_neg (fun z => c3 z.2.2)])
    · rw [if_neg (by simpa using c2)]
      exact no (by unfold aheadS; rw [if_neg (fun z => c2 z.2.1)])
  · rw [if_neg (by simp; omega)]
    exact no (by unfold aheadS; rw [if_neg (fun z => c1 z.1)])
theorem count_aheadN (h : HasAhead0 D) {a b : List Int} (ha : a.length ≤ 9) (hb : b.length ≤ 9) {s s' : Int} {i j : Nat} (hs : s = 0 ∨ s = 1) (hs' : s' = 0 ∨ s' = 1) (q : Q (.int (aheadN a b s i s' j : Nat)) S) : CallWP D (k + 23) "" "count_ahead" [mailT a b, pairT s i, pairT s' j] S Q X := by
  refine call_of h.aheadc rfl ?_
  simp [d_count_ahead, startT_eq]
  unfold ca1
  simp
  by_cases e : s = s'
  · rw [if_pos e]
    unfold aheadN at q
    rw [if_pos e] at q
    by_cases c : i < j
    · rw [if_pos c] at q ⊢
      exact count_of0 h.toHasWays h.cof ha hb (.keep q)
    · rw [if_neg c] at q ⊢
      exact .keep q
  · rw [if_neg e]
    unfold aheadN at q
    rw [if_neg e] at q
    unfold ca2
    simp
    refine init_ok h.toHasWays ⟨rfl, ?_⟩
    refine leading_ok (k := k + 20) h.lead h.all h.toHasWays ha hb ?_
    unfold ca3
    simp
    refine standings_all h.all ha hb ?_
    simp only [vw_lst]
    refine wpFor_inv (P := fun r σ S1 => ∃ (pre post l : List (Nat × Nat)) (x3 : Option T), stdL a b = pre ++ post ∧ r = post.map pT ∧ l.Nodup ∧ (∀ p ∈ l, p.1 ≤ a.length ∧ p.2 ≤ b.length) ∧ S1 = S ++ [waysT a b S.length, knT a b l] ∧
      σ = [some (mailT a b), some (pairT s i), some (pairT s' j), x3, some (.ref S.length), some (.dct ((stdL a b).map pT) ((stdL a b).map fun p => T.int (lead a b p.1 p.2 : Nat))), some (.int ((pre.map (aheadS a b s i s' j)).sum : Nat))]) (fun _ _ _ _ => by simp) ?_ ?_ ⟨[], stdL a b, [], _, rfl, rfl, .nil, (fun p hp => by cases hp), rfl, rfl⟩
    · rintro x r σ S1 ⟨pre, post, l, x3, hL, hr, n1, s1, rfl, rfl⟩ KK hK
      cases post with
      | nil => cases hr
      | cons p post =>
        rw [List.map_cons] at hr
        injection hr with e1 e2
        subst e1 e2
        have hp : p ∈ stdL a b := by rw [hL]; simp
        have W : WaysAt (S ++ [waysT a b S.length, knT a b l]) a b S.length l := ⟨by simp, by simp, n1, s1⟩
        simp only [asg_1, List.set_cons_succ, List.set_cons_zero]
        refine ca4_ok (k := k + 1) h ha hb hs hs' hp W fun l' n2 s2 => ?_
        have eS : (S ++ [waysT a b S.length, knT a b l]).set (S.length + 1) (knT a b l') = S ++ [waysT a b S.length, knT a b l'] := by
          rw [List.set_append_right _ _ (Nat.le_add_right _ _)]
          simp
        rw [eS]
        exact hK _ _ ⟨pre ++ [p], post, l', some (pT p), by simp [hL], rfl, n2, s2, rfl, by rw [List.map_append, List.sum_append]; simp⟩
    · rintro σ S1 ⟨pre, post, l, x3, hL, hr, n1, s1, rfl, rfl⟩
      cases post with
      | cons p post => cases hr
      | nil =>
        rw [List.append_nil] at hL
        subst hL
        simp
        refine .drop ⟨_, rfl, rfl, fun i o hi => .inl hi⟩ rfl ?_
        simpa using q
end PC
/-! PlAheadC: the same, counted over all orders. -/
namespace PC
open PySem
variable {D : Tab} {k : Nat} {C g : Str} {d : Def} {args : List T} {S : Mem} {Q : Wv} {X : Wx}
/-- at which place a letter stands -/
def spotN (p : Int × Nat) (t : List Int) : Nat := (spots p.1 0 t).getD p.2 0
/-- in how many orders one stands ahead -/
def aheadC (a b : List Int) (p q : Int × Nat) : Nat := (ordS a b).countP fun t => decide (spotN p t < spotN q t)
/-- a letter of mail -/
def LetOk (a b : List Int) (p : Int × Nat) : Prop := (p.1 = 0 ∨ p.1 = 1) ∧ p.2 < (bun a b p.1).length
structure OrdOk (a b t : List Int) : Prop where
  el : ∀ x ∈ t, x = 0 ∨ x = 1
  c0 : t.count 0 = a.length
  c1 : t.count 1 = b.length
  pth : Pth a b t a.length b.length
theorem ord_okk {a b t : List Int} (h : t ∈ ordS a b) : OrdOk a b t := by
  have hp := ord_pth h
  have ho := hp.ok
  refine ⟨ordL_01 a b _ _ _ t h, ?_, ?_, hp⟩
  · rw [← spots_len 0 t 0]; exact ho.li
  · rw [← spots_len 1 t 0]; exact ho.lj
theorem OrdOk.len {a b t : List Int} (h : OrdOk a b t) : t.length = a.length + b.length := by
  have := count01 h.el
  rw [h.c0, h.c1] at this
  exact this.symm
theorem OrdOk.lt {a b t : List Int} (h : OrdOk a b t) {p : Int × Nat} (hp : LetOk a b p) : p.2 < t.count p.1 := by
  obtain ⟨s, i⟩ := p
  obtain ⟨rfl | rfl, hi⟩ := hp
  · rw [h.c0]; exact hi
  · rw [h.c1]; exact hi
theorem spotN_ne {a b t : List Int} (h : OrdOk a b t) {p q : Int × Nat} (hp : LetOk a b p) (hq : LetOk a b q) (hn : p ≠ q) : spotN p t ≠ spotN q t := by
  have h1 := h.lt hp
  have h2 := h.lt hq
  obtain ⟨s, i⟩ := p
  obtain ⟨s', j⟩ := q
  show (spots s 0 t).getD i 0 ≠ (spots s' 0 t).getD j 0
  have h1 : i < t.count s := h1
  have h2 : j < t.count s' := h2
  by_cases e : s = s'
  · subst e
    by_cases c : i < j
    · have := spot_lt s h2 c; omega
    · have : j < i := by
        have : i ≠ j := fun z => hn (by rw [z])
        omega
      have := spot_lt s h1 this; omega
  · exact spot_ne e h1 h2
theorem aheadN_eq {a b : List Int} {s s' : Int} {i j : Nat} (hp : LetOk a b (s, i)) (hq : LetOk a b (s', j)) : aheadN a b s i s' j = aheadC a b (s, i) (s', j) := by
  unfold aheadN aheadC
  have hl : (ordS a b).length = cntA a b := ordL_len a b _ 0 0
  have hO : ∀ t ∈ ordS a b, (∀ x ∈ t, x = 0 ∨ x = 1) ∧ t.count 0 = a.length ∧ t.count 1 = b.length := fun t ht => by
    have := ord_okk ht
    exact ⟨this.el, this.c0, this.c1⟩
  by_cases e : s = s'
  · subst e
    rw [if_pos rfl]
    by_cases c : i < j
    · rw [if_pos c]
      symm
      rw [← hl, List.countP_eq_length]
      intro t ht
      exact decide_eq_true (spot_lt s ((ord_okk ht).lt hq) c)
    · rw [if_neg c]
      symm
      rw [List.countP_eq_zero]
      intro t ht
      simp only [decide_eq_true_eq]
      intro z
      by_cases c2 : i = j
      · subst c2; exact absurd z (Nat.lt_irrefl _)
      · have := spot_lt s ((ord_okk ht).lt hp) (show j < i by omega)
        have z : (spots s 0 t).getD i 0 < (spots s 0 t).getD j 0 := z
        have this : (spots s 0 t).getD j 0 < (spots s 0 t).getD i 0 := this
        omega
  · rw [if_neg e]
    obtain ⟨h1 | h1, hi⟩ := hp
    · have h1 : s = 0 := h1
      subst h1
      obtain ⟨h2 | h2, hj⟩ := hq
      · exact absurd h2.symm e
      · have h2 : s' = 1 := h2
        subst h2
        have hi : i < a.length := hi
        have hj : j < b.length := hj
        rw [show (ordS a b).countP (fun t => decide (spotN ((0 : Int), i) t < spotN ((1 : Int), j) t)) = _ from ahead0 hi hj hO (std_nd a b) fun q hq => mem_std.mpr ⟨by show i ≤ _; omega, hq⟩]
        congr 1
        refine List.map_congr_left fun p hp => ?_
        have hpb := mem_std.mp hp
        show (if p.1 = i ∧ p.2 ≤ j ∧ mayB a b p.1 p.2 0 = true then lead a b p.1 p.2 * cnt a b (a.length - (p.1 + 1) + (b.length - p.2)) (p.1 + 1) p.2 else 0) = _
        by_cases c : p.1 = i ∧ p.2 ≤ j
        · rw [if_pos c, pass_ord0 a b (by omega) hpb.2]
          by_cases m : mayB a b p.1 p.2 0 = true
          · rw [if_pos ⟨c.1, c.2, m⟩, if_pos m]
          · rw [if_neg (fun z => m z.2.2), if_neg m, Nat.mul_zero]
        · rw [if_neg c, if_neg fun z => c ⟨z.1, z.2.1⟩]
    · have h1 : s = 1 := h1
      subst h1
      obtain ⟨h2 | h2, hj⟩ := hq
      · have h2 : s' = 0 := h2
        subst h2
        have hi : i < b.length := hi
        have hj : j < a.length := hj
        rw [show (ordS a b).countP (fun t => decide (spotN ((1 : Int), i) t < spotN ((0 : Int), j) t)) = _ from ahead1 hj hi hO (std_nd a b) fun q hq => mem_std.mpr ⟨hq, by show i ≤ _; omega⟩]
        congr 1
        refine List.map_congr_left fun p hp => ?_
        have hpb := mem_std.mp hp
        show (if p.2 = i ∧ p.1 ≤ j ∧ mayB a b p.1 p.2 1 = true then lead a b p.1 p.2 * cnt a b (a.length - p.1 + (b.length - (p.2 + 1))) p.1 (p.2 + 1) else 0) = _
        by_cases c : p.2 = i ∧ p.1 ≤ j
        · rw [if_pos c, pass_ord1 a b hpb.1 (by omega)]
          by_cases m : mayB a b p.1 p.2 1 = true
          · rw [if_pos ⟨c.1, c.2, m⟩, if_pos m]
          · rw [if_neg (fun z => m z.2.2), if_neg m, Nat.mul_zero]
        · rw [if_neg c, if_neg fun z => c ⟨z.1, z.2.1⟩]
      · exact absurd h2.symm e
/-- the other way about -/
theorem aheadC_back {a b : List Int} {p q : Int × Nat} (hp : LetOk a b p) (hq : LetOk a b q) (hn : p ≠ q) : aheadC a b q p = (ordS a b).length - aheadC a b p q := by
  unfold aheadC
  have h := List.length_eq_countP_add_countP (fun t => decide (spotN p t < spotN q t)) (l := ordS a b)
  have e : (ordS a b).countP (fun t => decide (spotN q t < spotN p t)) = (ordS a b).countP (fun t => decide ¬(decide (spotN p t < spotN q t) = true)) := by
    refine List.countP_congr fun t ht => ?_
    have := spotN_ne (ord_okk ht) hp hq hn
    simp
    omega
  rw [e]
  omega
theorem aheadC_le (a b : List Int) (p q : Int × Nat) : aheadC a b p q ≤ (ordS a b).length := List.countP_le_length
/-- who had read one was behind it -/
theorem aheadC_read {a b : List Int} {s s' : Int} {i j : Nat} (hp : LetOk a b (s, i)) (hq : LetOk a b (s', j)) (h : hadR a b s' j s i = true) : aheadC a b (s, i) (s', j) = (ordS a b).length := by
  unfold aheadC
  rw [List.countP_eq_length]
  intro t ht
  refine decide_eq_true ?_
  have o := (ord_okk ht).pth.ok
  unfold hadR at h
  simp only [Bool.and_eq_true, Bool.not_eq_true', decide_eq_false_iff_not, decide_eq_true_eq] at h
  obtain ⟨hn, hr⟩ := h
  obtain ⟨h1, hi⟩ := hp
  obtain ⟨h2, hj⟩ := hq
  rcases h1 with h1 | h1
  · have h1 : s = 0 := h1
    subst h1
    rcases h2 with h2 | h2
    · exact absurd h2 hn
    · have h2 : s' = 1 := h2
      subst h2
      exact (o.sep i j hi hj).1 hr
  · have h1 : s = 1 := h1
    subst h1
    rcases h2 with h2 | h2
    · have h2 : s' = 0 := h2
      subst h2
      have z := (o.sep j i hj hi).2 hr
      have := spotN_ne (ord_okk ht) (p := (1, i)) (q := (0, j)) ⟨.inr rfl, hi⟩ ⟨.inl rfl, hj⟩ (by intro z; cases z)
      unfold spotN at this ⊢
      show (spots 1 0 t).getD i 0 < (spots 0 0 t).getD j 0
      have this : (spots 1 0 t).getD i 0 ≠ (spots 0 0 t).getD j 0 := this
      omega
    · exact absurd h2 hn
theorem aheadC_all {a b : List Int} {p q : Int × Nat} (hp : LetOk a b p) (hq : LetOk a b q) (hn : p ≠ q) : aheadC a b p q = (ordS a b).length ↔ (ordS a b).filter (fun t => decide (spotN q t < spotN p t)) = [] := by
  unfold aheadC
  rw [List.countP_eq_length, List.filter_eq_nil_iff]
  constructor
  · intro h t ht
    have := of_decide_eq_true (h t ht)
    simp only [decide_eq_true_eq]
    omega
  · intro h t ht
    have := h t ht
    simp only [decide_eq_true_eq] at this
    have := spotN_ne (ord_okk ht) hp hq hn
    exact decide_eq_true (by omega)
/-! the told -/
def na4 : Ss := .cons (.expr (.call "need_there" (.cons (.var 0) .nil))) .nil
def na3 : Ss := .cons (.expr (.call "need_letter" (.cons (.var 0) (.cons (.var 2) .nil)))) na4
def na2 : Ss := .cons (.expr (.call "need_letter" (.cons (.var 0) (.cons (.var 1) .nil)))) na3
def na1 : Ss := .cons (.expr (.call "need_mail" (.cons (.var 0) .nil))) na2
def d_need_asked : Def := ⟨["mail", "one", "other"], 3, na1⟩
def as1_ : Ss := .cons (.expr (.call "need_asked" (.cons (.var 0) (.cons (.var 1) (.cons (.var 2) .nil))))) (.cons (.ret (.call "lowest" (.cons (.call "count_ahead" (.cons (.var 0) (.cons (.var 1) (.cons (.var 2) .nil)))) (.cons (.call "count_of" (.cons (.var 0) .nil)) .nil)))) .nil)
def d_ahead_share : Def := ⟨["mail", "one", "other"], 3, as1_⟩
def sa1_ : Ss := .cons (.expr (.call "need_asked" (.cons (.var 0) (.cons (.var 1) (.cons (.var 2) .nil))))) (.cons (.ret (.cmp .Eq (.call "count_ahead" (.cons (.var 0) (.cons (.var 1) (.cons (.var 2) .nil)))) (.call "count_of" (.cons (.var 0) .nil)))) .nil)
def d_surely_ahead : Def := ⟨["mail", "one", "other"], 3, sa1_⟩
structure HasAhead (D : Tab) : Prop extends HasAhead0 D, HasCan0 D where
  isl : D.fn "" "is_letter" = some d_is_letter
  needl : D.fn "" "need_letter" = some d_need_letter
  there' : D.fn "" "need_there" = some d_need_there
  asked : D.fn "" "need_asked" = some d_need_asked
  share : D.fn "" "ahead_share" = some d_ahead_share
  surely : D.fn "" "surely_ahead" = some d_surely_ahead
  low : D.fn "" "lowest" = some d_lowest
theorem asked_ok (h : HasAhead D) {a b : List Int} (ok : OkM a b) {p q : Int × Nat} (hp : LetOk a b p) (hq : LetOk a b q) (z : if barL a b = [] then Q .non S else X "Nothing" S) : CallWP D (k + 5) "" "need_asked" [mailT a b, lT p, lT q] S Q X := by
  refine call_of h.asked rfl ?_
  simp [d_need_asked, startT_eq]
  unfold na1
  simp
  refine need_mail_ok (k := k) h.need h.toHasMail ok ?_
  unfold na2
  simp
  refine need_letter_ok (k := k + 1) h.needl h.isl h.toHasMail hp.1 hp.2 ?_
  unfold na3
  simp
  refine need_letter_ok (k := k + 1) h.needl h.isl h.toHasMail hq.1 hq.2 ?_
  unfold na4
  simp
  refine need_there0 (k := k) h.there' h.toHasCan0 ok ?_
  by_cases hb : barL a b = []
  · rw [if_pos hb] at z ⊢
    exact .keep z
  · rw [if_neg hb] at z ⊢
    exact .keep z
theorem asked_bad (h : HasAhead D) {a b : List Int} (ok : OkM a b) {p : Int × Nat} (hp : LetOk a b p) {t : T} (ht : plain2 t = true) (hf : letterB a b t = false) (z : X "BadLetter" S) : CallWP D (k + 5) "" "need_asked" [mailT a b, lT p, t] S Q X := by
  refine call_of h.asked rfl ?_
  simp [d_need_asked, startT_eq]
  unfold na1
  simp
  refine need_mail_ok (k := k) h.need h.toHasMail ok ?_
  unfold na2
  simp
  refine need_letter_ok (k := k + 1) h.needl h.isl h.toHasMail hp.1 hp.2 ?_
  unfold na3
  simp
  exact need_letter_any (k := k + 1) h.needl h.isl h.toHasMail ht hf (.keep z)
theorem count_ahead_ok (h : HasAhead0 D) {a b : List Int} (ok : OkM a b) {p q : Int × Nat} (hp : LetOk a b p) (hq : LetOk a b q) (z : Q (.int (aheadC a b p q : Nat)) S) : CallWP D (k + 23) "" "count_ahead" [mailT a b, lT p, lT q] S Q X := by
  have ha := ok.la
  have hb := ok.lb
  refine count_aheadN h (by omega) (by omega) hp.1 hq.1 ?_
  rw [aheadN_eq hp hq]
  exact z
theorem share_ok (h : HasAhead D) {a b : List Int} (ok : OkM a b) {p q : Int × Nat} (hp : LetOk a b p) (hq : LetOk a b q) (z : if barL a b = [] then Q (lowT (aheadC a b p q) (cntA a b)) S else X "Nothing" S) : CallWP D (k + 24) "" "ahead_share" [mailT a b, lT p, lT q] S Q X := by
  refine call_of h.share rfl ?_
  have ha := ok.la
  have hb := ok.lb
  simp [d_ahead_share, startT_eq]
  unfold as1_
  simp
  refine asked_ok (k := k + 18) h ok hp hq ?_
  by_cases hb0 : barL a b = []
  · rw [if_pos hb0] at z ⊢
    refine count_ahead_ok (k := k) h.toHasAhead0 ok hp hq ?_
    refine count_of0 (k := k + 1) h.toHasWays h.cof (by omega) (by omega) ?_
    have c0 := cnt_pos ok hb0 _ 0 0 (Nat.zero_le _) (Nat.zero_le _) rfl
    simp only [Nat.sub_zero] at c0
    have c1 := cnt_le a b (a.length + b.length) 0 0
    have c2 : 2 ^ (a.length + b.length) ≤ 2 ^ 14 := Nat.pow_le_pow_right (by decide) (by omega)
    refine lowest_ok (k := k + 22) h.low c0 (by omega) ?_
    exact .keep z
  · rw [if_neg hb0] at z ⊢
    exact .keep z
theorem share_bad (h : HasAhead D) {a b : List Int} (ok : OkM a b) {p : Int × Nat} (hp : LetOk a b p) {t : T} (ht : plain2 t = true) (hf : letterB a b t = false) (z : X "BadLetter" S) : CallWP D (k + 24) "" "ahead_share" [mailT a b, lT p, t] S Q X := by
  refine call_of h.share rfl ?_
  simp [d_ahead_share, startT_eq]
  unfold as1_
  simp
  exact asked_bad (k := k + 18) h ok hp ht hf (.keep z)
theorem surely_ok (h : HasAhead D) {a b : List Int} (ok : OkM a b) {p q : Int × Nat} (hp : LetOk a b p) (hq : LetOk a b q) (z : if barL a b = [] then Q (.bl (decide (aheadC a b p q = cntA a b))) S else X "Nothing" S) : CallWP D (k + 24) "" "surely_ahead" [mailT a b, lT p, lT q] S Q X := by
  refine call_of h.surely rfl ?_
  have ha := ok.la
  have hb := ok.lb
  simp [d_surely_ahead, startT_eq]
  unfold sa1_
  simp
  refine asked_ok (k := k + 18) h ok hp hq ?_
  by_cases hb0 : barL a b = []
  · rw [if_pos hb0] at z ⊢
    refine count_ahead_ok (k := k) h.toHasAhead0 ok hp hq ?_
    refine count_of0 (k := k + 1) h.toHasWays h.cof (by omega) (by omega) ?_
    simp only [vw_int, cmp_eqi, okO_some]
    rw [show decide (((aheadC a b p q : Nat) : Int) = ((cnt a b (a.length + b.length) 0 0 : Nat) : Int)) = decide (aheadC a b p q = cntA a b) from decide_eq_decide.mpr (by unfold cntA; omega)]
    exact .keep z
  · rw [if_neg hb0] at z ⊢
    exact .keep z
end PC
/-! K05L: the law of standings. -/
namespace K05P
open PySem PC
variable {D : Tab} {k : Nat} {C g : Str} {d : Def} {args : List T} {S : Mem} {Q : Wv} {X : Wx}
def b5 : Ss := .cons (.asg 6 (.bin .Add (.var 6) (.comp (.tup (.cons (.var 3) (.cons (.var 13) .nil))) [13] (.one 13) (.rng1 (.bin .Add (.bi .len (.cons (.idx (.var 2) (.int 1)) .nil)) (.int 1))) .none))) .nil
def b10 : Ss := .cons (.ifs (.cmp .NotEq (.bin .Add (.var 7) (.lst (.cons (.told (.call "share_at" (.cons (.var 2) (.cons (.tup (.cons (.int 0) (.cons (.int 0) .nil))) .nil)))) .nil))) (.bin .Mult (.lst (.cons (.tup (.cons (.str "refused") (.cons (.str "Nothing") .nil))) .nil)) (.int 4))) (.cons (.ret (.bl false)) .nil) .nil) .nil
def b9 : Ss := .cons (.append (.var 7) (.told (.call "leads" (.cons (.var 2) .nil)))) b10
def b8 : Ss := .cons (.append (.var 7) (.told (.call "sure_standings" (.cons (.var 2) .nil)))) b9
def b7 : Ss := .cons (.asg 7 (.track (.lst (.cons (.told (.call "standings" (.cons (.var 2) .nil))) .nil)))) b8
def b15 : Ss := .cons (.setIdx (.var 8) (.var 11) (.bin .Add (.idx (.var 8) (.var 11)) (.int 1))) .nil
def b14 : Ss := .cons (.asg 11 (.tup (.cons (.bm (.slc (.var 9) .none (.some (.var 12))) .count (.cons (.int 0) .nil)) (.cons (.bm (.slc (.var 9) .none (.some (.var 12))) .count (.cons (.int 1) .nil)) .nil)))) b15
def b13 : Ss := .cons (.fors (.one 12) (.rng1 (.bin .Add (.bi .len (.cons (.var 9) .nil)) (.int 1))) b14) .nil
def b21 : Ss := .cons (.ifs (.cmp .NotEq (.call "share_at" (.cons (.var 2) (.cons (.var 11) .nil))) (.call "_law_low" (.cons (.idx (.var 8) (.var 11)) (.cons (.bi .len (.cons (.var 5) .nil)) .nil)))) (.cons (.ret (.bl false)) .nil) .nil) .nil
def b20 : Ss := .cons (.fors (.one 11) (.live (.var 6)) b21) .nil
def b19 : Ss := .cons (.ifs (.cmp .NotEq (.call "leads" (.cons (.var 2) .nil)) (.tup (.cons (.bi .maxL (.cons (.var 10) .nil)) (.cons (.bin .Sub (.int 0) (.bi .minL (.cons (.var 10) .nil))) .nil)))) (.cons (.ret (.bl false)) .nil) .nil) b20
def b18 : Ss := .cons (.asg 10 (.comp (.bin .Sub (.idx (.var 11) (.int 0)) (.idx (.var 11) (.int 1))) [11] (.one 11) (.live (.var 6)) (.some (.cmp .Gt (.idx (.var 8) (.var 11)) (.int 0))))) b19
def b17 : Ss := .cons (.ifs (.cmp .NotEq (.call "sure_standings" (.cons (.var 2) .nil)) (.comp (.var 11) [11] (.one 11) (.live (.var 6)) (.some (.cmp .Eq (.idx (.var 8) (.var 11)) (.bi .len (.cons (.var 5) .nil)))))) (.cons (.ret (.bl false)) .nil) .nil) b18
def b16 : Ss := .cons (.ifs (.cmp .NotEq (.call "standings" (.cons (.var 2) .nil)) (.comp (.var 11) [11] (.one 11) (.live (.var 6)) (.some (.cmp .Gt (.idx (.var 8) (.var 11)) (.int 0))))) (.cons (.ret (.bl false)) .nil) .nil) b17
def b12 : Ss := .cons (.fors (.one 9) (.live (.var 5)) b13) b16
def b11 : Ss := .cons (.asg 8 (.track (.bi .dict (.cons (.comp (.tup (.cons (.var 11) (.cons (.int 0) .nil))) [11] (.one 11) (.live (.var 6)) .none) .nil)))) b12
def b23 : Ss := .cons (.ifs (.cmp .NotEq (.told (.call "share_at" (.cons (.var 2) (.cons (.var 4) .nil)))) (.tup (.cons (.str "refused") (.cons (.str "BadNumber") .nil)))) (.cons (.ret (.bl false)) .nil) .nil) .nil
def b22 : Ss := .cons (.fors (.one 4) (.live (.lst (.cons .non (.cons (.int 5) (.cons (.tup .nil) (.cons (.tup (.cons (.int 0) .nil)) (.cons (.lst (.cons (.int 0) (.cons (.int 0) .nil))) (.cons (.tup (.cons (.int 0) (.cons (.bin .Add (.bi .len (.cons (.idx (.var 2) (.int 1)) .nil)) (.int 1)) .nil))) (.cons (.tup (.cons (.neg (.int 1)) (.cons (.int 0) .nil))) (.cons (.tup (.cons (.bl true) (.cons (.int 0) .nil))) (.cons (.tup (.cons (.int 0) (.cons (.int 0) (.cons (.int 0) .nil)))) .nil))))))))))) b23) .nil
def b6 : Ss := .cons (.ifs (.cmp .Eq (.var 5) (.lst .nil)) b7 b11) b22
def b4 : Ss := .cons (.fors (.one 3) (.rng1 (.bin .Add (.bi .len (.cons (.idx (.var 2) (.int 0)) .nil)) (.int 1))) b5) b6
def b3 : Ss := .cons (.asgT (.two 5 6) (.tup (.cons (.call "_law_orders" (.cons (.var 2) .nil)) (.cons (.lst .nil) .nil)))) b4
def b2 : Ss := .cons (.asg 2 (.call "_law_any_mail" (.cons (.var 1) (.cons (.int 5) (.cons (.int 5) .nil))))) b3
def b1 : Ss := .cons (.fors (.one 1) (.live (.call "_law_rounds" (.cons (.var 0) (.cons (.int 2) .nil)))) b2) (.cons (.ret (.bl true)) .nil)
def d_law : Def := ⟨["_law_script", "_law_dice", "_law_mail", "_law_first", "_law_bad", "_law_every", "_law_spots", "_law_made", "_law_table", "_law_turns_here", "_law_some", "_law_spot", "_law_at", "_law_second"], 1, b1⟩


structure Has (D : Tab) : Prop extends HasStd0 D where
  roll : HasRoll D
  wri : FnB D "" "_law_written" d_law_written
  any : FnB D "" "_law_any_mail" d_law_any_mail
  lets : FnB D "" "_law_lets" d_law_lets
  turns : FnB D "" "_law_turns" d_law_turns
  orders_ : FnB D "" "_law_orders" d_law_orders
  llow : FnB D "" "_law_low" d_law_low
  cof : D.fn "" "count_of" = some d_count_of
  low : D.fn "" "lowest" = some d_lowest
  stds : D.fn "" "standings" = some d_standings
  surest : D.fn "" "sure_standings" = some d_sure_standings
  leads : D.fn "" "leads" = some d_leads
  shareat : D.fn "" "share_at" = some d_share_at
theorem ne_pts (l : List (Nat × Nat)) : cmpT .NotEq (.lst (l.map pT)) (.lst (l.map pT)) = some false := by
  rw [cmp_nep (pln_pairs 58 l) (pln_pairs 58 l)]
  have : ∀ l : List (Nat × Nat), eqTs (l.map pT) (l.map pT) = true := fun l => by
    induction l with
    | nil => rfl
    | cons p l ih =>
      show (eqT (pT p) (pT p) && eqTs (l.map pT) (l.map pT)) = true
      rw [ih]
      simp [eqT, eqTs]
  show some (!eqTs _ _) = _
  rw [this]
  rfl
theorem eq_nilR (l : List (List Int)) : cmpT .Eq (.lst (l.map rowT)) (.lst []) = some (decide (l = [])) := by
  have : pln 60 (.lst (l.map rowT)) = true := by
    show (l.map rowT).all (pln 59) = true
    rw [List.all_eq_true]
    intro x hx
    obtain ⟨t, _, rfl⟩ := List.mem_map.mp hx
    exact pln_tints 58 t
  rw [cmp_eqp this rfl]
  cases l <;> rfl
theorem mul4 (t : T) : binT .Mult (.lst [t]) (.int 4) = some (.lst [t, t, t, t]) := by
  simp [binT, repL, line]
theorem add31 (x y z w : T) : binT .Add (.lst [x, y, z]) (.lst [w]) = some (.lst [x, y, z, w]) := by
  simp [binT, line]
theorem ne_ref4 (c : Str) (h : PyData.strOk c = true) : cmpT .NotEq (.lst [refT c, refT c, refT c, refT c]) (.lst [refT c, refT c, refT c, refT c]) = some false := by
  have hr : PyData.strOk ("refused" : Str) = true := by decide +kernel
  simp [cmpT, pln, eqT, eqTs, h, hr]
/-- where mail can't be -/
theorem b7_ok (h : Has D) {a b : List Int} (ok : OkM a b) (hb0 : ¬barL a b = []) {y0 y1 y3 y4 y5 y6 y7 y8 y9 y10 y11 y12 y13 : Option T} {K : K}
    (hK : ∀ y7 o, K.nx [y0, y1, some (mailT a b), y3, y4, y5, y6, y7, y8, y9, y10, y11, y12, y13] (S ++ o)) :
    wpSs D.G (cw D (k + 29)) b7 X [y0, y1, some (mailT a b), y3, y4, y5, y6, y7, y8, y9, y10, y11, y12, y13] S K := by
  unfold b7
  simp
  refine standings0_ok (k := k + 6) h.toHasStd0 h.stds ok ?_
  rw [if_neg hb0]
  unfold b8
  simp
  refine ⟨by simp [lref, ob?], ?_⟩
  refine sure_std_ok (k := k + 6) h.toHasStd0 h.cof h.surest ok ?_
  rw [if_neg hb0]
  simp [ob?]
  refine ⟨by decide, ?_⟩
  unfold b9
  simp
  refine ⟨by simp [lref, ob?], ?_⟩
  refine leads_ok (k := k + 6) h.toHasStd0 h.leads ok ?_
  rw [if_neg hb0]
  simp [ob?]
  refine ⟨by decide, ?_⟩
  unfold b10
  simp
  refine share_at_ok (k := k + 6) (p := (0, 0)) h.toHasStd0 h.cof h.low h.shareat ok (mem_std.mpr ⟨Nat.zero_le _, Nat.zero_le _⟩) ?_
  rw [if_neg hb0]
  simp [mul4, vw, add31, ne_ref4 "Nothing" (by decide +kernel)]
  exact hK _ _
/-- how many of the orders so far pass a standing -/
def passO (O : List (List Int)) (p : Nat × Nat) : Nat := O.countP fun o => decide ((o.take (p.1 + p.2)).count 0 = p.1)
def passT (o : List Int) (n : Nat) (p : Nat × Nat) : Nat := if p.1 + p.2 < n ∧ (o.take (p.1 + p.2)).count 0 = p.1 then 1 else 0
theorem passO_snoc (O : List (List Int)) (o : List Int) (p : Nat × Nat) {a b : List Int} (ho : OrdOk a b o) (hp : p ∈ stdL a b) : passO (O ++ [o]) p = passO O p + passT o (o.length + 1) p := by
  have hl := ho.len
  have hpb := mem_std.mp hp
  unfold passO passT
  rw [List.countP_append, List.countP_cons, List.countP_nil]
  by_cases c : (o.take (p.1 + p.2)).count 0 = p.1
  · rw [if_pos (by simpa using c), if_pos ⟨by omega, c⟩]
  · rw [if_neg (by simpa using c), if_neg (fun z => c z.2)]
theorem passT_step {a b o : List Int} (ho : OrdOk a b o) {n : Nat} (hn : n ≤ o.length) (q : Nat × Nat) : passT o (n + 1) q = if q = ((o.take n).count 0, (o.take n).count 1) then passT o n q + 1 else passT o n q := by
  have h01 := take01 ho.el hn
  unfold passT
  by_cases e : q = ((o.take n).count 0, (o.take n).count 1)
  · rw [if_pos e]
    have e1 : q.1 = (o.take n).count 0 := by rw [e]
    have e2 : q.2 = (o.take n).count 1 := by rw [e]
    have e3 : q.1 + q.2 = n := by omega
    rw [e3, if_pos ⟨by omega, e1.symm⟩, if_neg (by omega)]
  · rw [if_neg e]
    by_cases c : q.1 + q.2 < n ∧ (o.take (q.1 + q.2)).count 0 = q.1
    · rw [if_pos c, if_pos ⟨by omega, c.2⟩]
    · rw [if_neg c, if_neg ?_]
      rintro ⟨z1, z2⟩
      by_cases z3 : q.1 + q.2 < n
      · exact c ⟨z3, z2⟩
      · have z4 : q.1 + q.2 = n := by omega
        rw [z4] at z2
        exact e (Prod.ext (by simpa using z2.symm) (by show q.2 = _; omega))
theorem cut_nat {α : Type} (xs : List α) (n : Nat) : cut xs none (some (n : Int)) = xs.take n := cut_to xs n
/-- one place of one order -/
theorem b14_ok {a b o : List Int} (ha : a.length ≤ 9) (hb : b.length ≤ 9) (ho : OrdOk a b o) {n : Nat} (hn : n ≤ o.length) {S0 : Mem} {f : Nat × Nat → Nat} {y0 y1 y2 y3 y4 y5 y6 y7 y10 y11 y13 : Option T} {K : K}
    (hK : ∀ y11, K.nx [y0, y1, y2, y3, y4, y5, y6, y7, some (.ref S0.length), some (rowT o), y10, y11, some (.int (n : Nat)), y13] (S0 ++ [stO a b fun q => if q = ((o.take n).count 0, (o.take n).count 1) then f q + 1 else f q])) :
    wpSs D.G (cw D k) b14 X [y0, y1, y2, y3, y4, y5, y6, y7, some (.ref S0.length), some (rowT o), y10, y11, some (.int (n : Nat)), y13] (S0 ++ [stO a b f]) K := by
  have hL : (stdL a b).length < line := Nat.lt_of_le_of_lt (std_len ha hb) (by decide)
  have kal : ((stdL a b).map pT).all kt = true := by
    rw [List.all_eq_true]
    intro x hx
    obtain ⟨p, _, rfl⟩ := List.mem_map.mp hx
    rfl
  have h01 := take01 ho.el hn
  have hin : ((o.take n).count 0, (o.take n).count 1) ∈ stdL a b := by
    have c0 := (List.take_sublist n o).count_le 0
    have c1 := (List.take_sublist n o).count_le 1
    rw [ho.c0] at c0
    rw [ho.c1] at c1
    exact mem_std.mpr ⟨c0, c1⟩
  unfold b14
  have es : slcT (rowT o) none (some (n : Int)) = some (rowT (o.take n)) := by
    show some (T.tup (cut _ _ _)) = _
    rw [cut_nat, ← List.map_take]
  simp only [wpSs_e63, wpS_e47, wpE_e15, wpEs_e36, wpEs_e35, wpE_e28, wpE_e20, wpE_e1, wpE_e3, wpO_e37, wpO_e38, slot_0, slot_S, okO_some, vw_tup, es, count_row]
  refine ⟨by first | rfl | trivial, by first | rfl | trivial, ?_⟩
  refine ⟨by first | rfl | trivial, by first | rfl | trivial, ?_⟩
  simp only [List.set_cons_succ, List.set_cons_zero]
  unfold b15
  simp only [wpSs_e63, wpS_e50, wpE_e7, wpE_e19, wpE_e1, wpE_e3, slot_0, slot_S, okO_some, vw_stO get_last, wpSs_e62]
  rw [show T.tup [.int ((o.take n).count 0 : Nat), .int ((o.take n).count 1 : Nat)] = pT ((o.take n).count 0, (o.take n).count 1) from rfl, idx_std hin]
  simp only [okO_some, vw_int, bin_addi]
  rw [ob_ref get_last]
  refine ⟨⟨kt_pT _, kal, by rw [List.length_map]; exact hL⟩, ?_⟩
  rw [show ((f ((o.take n).count 0, (o.take n).count 1) : Nat) : Int) + 1 = ((f ((o.take n).count 0, (o.take n).count 1) + 1 : Nat) : Int) by omega, set_last, put_std hin]
  have e : (fun q => if q = ((o.take n).count 0, (o.take n).count 1) then f ((o.take n).count 0, (o.take n).count 1) + 1 else f q) = fun q => if q = ((o.take n).count 0, (o.take n).count 1) then f q + 1 else f q := by
    funext q
    split
    · rename_i z; rw [z]
    · rfl
  rw [e]
  exact hK _
theorem stO_congr {a b : List Int} {f g : Nat × Nat → Nat} (h : ∀ p ∈ stdL a b, f p = g p) : stO a b f = stO a b g := by
  have : ((stdL a b).map fun p => T.int (f p : Nat)) = (stdL a b).map fun p => T.int (g p : Nat) := List.map_congr_left fun p hp => by rw [h p hp]
  unfold stO
  rw [this]
/-- one order -/
theorem b13_ok {a b o : List Int} (ha : a.length ≤ 9) (hb : b.length ≤ 9) (ho : OrdOk a b o) {S0 : Mem} {f : Nat × Nat → Nat} {y0 y1 y2 y3 y4 y5 y6 y7 y10 y11 y12 y13 : Option T} {K : K}
    (hK : ∀ y11 y12, K.nx [y0, y1, y2, y3, y4, y5, y6, y7, some (.ref S0.length), some (rowT o), y10, y11, y12, y13] (S0 ++ [stO a b fun q => f q + passT o (o.length + 1) q])) :
    wpSs D.G (cw D k) b13 X [y0, y1, y2, y3, y4, y5, y6, y7, some (.ref S0.length), some (rowT o), y10, y11, y12, y13] (S0 ++ [stO a b f]) K := by
  have hlen := ho.len
  have el : (line : Int) = 16777216 := rfl
  unfold b13
  simp only [wpSs_e63, wpS_e58, wpI_e43, wpE_e7, wpE_e26, wpE_e1, wpE_e3, wpEs_e35, wpEs_e36, slot_0, slot_S, okO_some, vw_tup, List.map_cons, List.map_nil, bi_lent, List.length_map, vw_int, bin_addi, wpSs_e62]
  refine ⟨by omega, ?_⟩
  rw [show ((o.length : Int) + 1).toNat = o.length + 1 by omega]
  refine wpFor_inv (P := fun r σ S1 => ∃ (n : Nat) (y11 y12 : Option T), n + r.length = o.length + 1 ∧ r = (List.range' n r.length).map (fun i : Nat => T.int i) ∧ S1 = S0 ++ [stO a b fun q => f q + passT o n q] ∧ σ = [y0, y1, y2, y3, y4, y5, y6, y7, some (.ref S0.length), some (rowT o), y10, y11, y12, y13]) (fun _ _ _ _ => trivial) ?_ ?_ ⟨0, y11, y12, by simp [rangeT], ?_, ?_, rfl⟩
  · rintro x r σ S1 ⟨n, y11, y12, hl, hr, rfl, rfl⟩ KK hKK
    rw [List.length_cons, List.range'_succ, List.map_cons] at hr
    injection hr with e1 e2
    subst e1
    simp only [List.length_cons] at hl
    simp only [asg_1, List.set_cons_succ, List.set_cons_zero]
    refine b14_ok ha hb ho (by omega) fun y11 => ?_
    refine hKK _ _ ⟨n + 1, y11, some (.int (n : Nat)), by omega, e2, ?_, rfl⟩
    congr 2
    refine stO_congr fun q _ => ?_
    rw [passT_step ho (by omega)]
    split <;> omega
  · rintro σ S1 ⟨n, y11, y12, hl, hr, rfl, rfl⟩
    simp at hl
    subst hl
    exact hK _ _
  · rw [show (rangeT 0 (o.length + 1)).length = o.length + 1 by simp [rangeT], ← List.range_eq_range']
    unfold rangeT
    refine List.map_congr_left fun i _ => ?_
    simp
  · congr 2
theorem dofP_pT {f : Nat × Nat → T} : ∀ (l pre : List (Nat × Nat)), (pre ++ l).Nodup → dofPairs (l.map fun p => (pT p, f p)) (pre.map pT, pre.map f) = ((pre ++ l).map pT, (pre ++ l).map f) := by
  have key : ∀ (l : List (Nat × Nat)) (d : List T × List T), dofPairs (l.map fun p => (pT p, f p)) d = dofL (l.map fun p => .tup [pT p, f p]) d := fun l => by
    induction l with
    | nil => intro d; rfl
    | cons p l ih => intro d; exact ih _
  intro l pre h
  rw [key]
  exact dofL_pT l pre h
theorem pairs_pT (f : Nat × Nat → T) (l : List (Nat × Nat)) : pairs? (l.map fun p => .tup [pT p, f p]) = some (l.map fun p => (pT p, f p)) := by
  induction l with
  | nil => rfl
  | cons p l ih =>
    show (pairs? (l.map fun p => T.tup [pT p, f p])).map ((pT p, f p) :: ·) = _
    rw [ih]
    rfl
theorem b23_ok (h : Has D) {a b : List Int} (ok : OkM a b) {t : T} (ht : plain2 t = true) (hf : standB a b t = false) {y0 y1 y3 y5 y6 y7 y8 y9 y10 y11 y12 y13 : Option T} {K : K}
    (hK : K.nx [y0, y1, some (mailT a b), y3, some t, y5, y6, y7, y8, y9, y10, y11, y12, y13] S) :
    wpSs D.G (cw D (k + 29)) b23 X [y0, y1, some (mailT a b), y3, some t, y5, y6, y7, y8, y9, y10, y11, y12, y13] S K := by
  unfold b23
  simp only [wpSs_e63, wpS_e57, wpE_e9, wpE_e34, wpE_e23, wpEs_e36, wpEs_e35, wpE_e1, slot_0, slot_S, okO_some, cw_eq, wpE_e15, wpE_e6]
  refine share_at_bad (k := k + 23) h.toHasStd0 h.shareat ok ht hf ?_
  simp only [vw_tup, ne_ref "BadNumber" (by decide +kernel), okO_some, bt_bl, Bool.false_eq_true, if_false, wpSs_e62]
  exact hK
/-- where mail can be -/
theorem b11_ok (h : Has D) {a b : List Int} (ok : OkM a b) (hb0 : barL a b = []) {y0 y1 y3 y4 y7 y8 y9 y10 y11 y12 y13 : Option T} {K : K}
    (hK : ∀ y8 y9 y10 y11 y12 M, K.nx [y0, y1, some (mailT a b), y3, y4, some (.lst ((ordS a b).map rowT)), some (.lst ((stdL a b).map pT)), y7, y8, y9, y10, y11, y12, y13] (S ++ M)) :
    wpSs D.G (cw D (k + 29)) b11 X [y0, y1, some (mailT a b), y3, y4, some (.lst ((ordS a b).map rowT)), some (.lst ((stdL a b).map pT)), y7, y8, y9, y10, y11, y12, y13] S K := by
  have la := ok.la
  have lb := ok.lb
  have hl : (ordS a b).length = cntA a b := ordL_len a b _ 0 0
  have c0 := cnt_pos ok hb0 _ 0 0 (Nat.zero_le _) (Nat.zero_le _) rfl
  simp only [Nat.sub_zero] at c0
  have c0 : 0 < cntA a b := c0
  have c1 := cnt_le a b (a.length + b.length) 0 0
  have c2 : 2 ^ (a.length + b.length) ≤ 2 ^ 14 := Nat.pow_le_pow_right (by decide) (by omega)
  have c3 : cntA a b < 1000000 := by unfold cntA; omega
  have efm : ∀ l : List (Nat × Nat), l.flatMap (fun p => [T.tup [pT p, .int 0]]) = l.map fun p => .tup [pT p, .int 0] := fun l => by induction l <;> simp_all
  have e0 := dofP_pT (f := fun _ => T.int 0) (stdL a b) [] (by simpa using std_nd a b)
  unfold b11
  simp only [wpSs_e63, wpS_e47, wpE_e33, wpE_e26, wpEs_e36, wpEs_e35, wpE_e30, wpI_e42, wpE_e1, slot_0, slot_S, okO_some, vw_lst, wpT_e39, wipe_S, wipe_0, asg_1, List.set_cons_succ, List.set_cons_zero, if_true, wpE_e15, wpE_e3]
  refine wpL_on (tT := pT) (f := fun p => [.tup [pT p, .int 0]]) (fun p hp k' hk => hk) (by simp) ?_
  have hall : ((stdL a b).map fun p => (pT p, T.int 0)).all (fun p => kt p.1) = true := by
    rw [List.all_eq_true]
    intro x hx
    obtain ⟨p, _, rfl⟩ := List.mem_map.mp hx
    rfl
  have ed : biT .dict [.lst ((stdL a b).map fun p => T.tup [pT p, .int 0])] = some (.dct ((stdL a b).map pT) ((stdL a b).map fun _ => T.int 0)) := by
    show (pairs? _).bind _ = _
    rw [pairs_pT (fun _ => T.int 0)]
    simp only [Option.bind_some]
    rw [if_pos hall]
    have e0 : dofPairs ((stdL a b).map fun p => (pT p, T.int 0)) ([], []) = ((stdL a b).map pT, (stdL a b).map fun _ => T.int 0) := e0
    rw [e0]
  rw [List.nil_append, efm]
  simp only [List.map_cons, List.map_nil, vw_lst, ed, okO_some]
  unfold b12
  simp only [wpSs_e63, wpS_e58, wpI_e42, wpE_e1, slot_0, slot_S, okO_some, vw_lst, asg_1]
  have hO : ∀ o ∈ ordS a b, OrdOk a b o := fun o ho => ord_okk ho
  refine wpFor_inv (P := fun r σ S1 => ∃ (pre post : List (List Int)) (y9 y11 y12 : Option T), ordS a b = pre ++ post ∧ r = post.map rowT ∧ S1 = S ++ [stO a b (passO pre)] ∧ σ = [y0, y1, some (mailT a b), y3, y4, some (.lst ((ordS a b).map rowT)), some (.lst ((stdL a b).map pT)), y7, some (.ref S.length), y9, y10, y11, y12, y13]) (fun _ _ _ _ => by simp) ?_ ?_ ⟨[], _, y9, y11, y12, rfl, rfl, rfl, rfl⟩
  · rintro x r σ S1 ⟨pre, post, y9, y11, y12, hL, hr, rfl, rfl⟩ KK hKK
    cases post with
    | nil => cases hr
    | cons o post =>
      rw [List.map_cons] at hr
      injection hr with e1 e2
      subst e1 e2
      have ho : OrdOk a b o := hO o (by rw [hL]; simp)
      simp only [List.set_cons_succ, List.set_cons_zero]
      refine b13_ok (by omega) (by omega) ho fun y11 y12 => ?_
      refine hKK _ _ ⟨pre ++ [o], post, some (rowT o), y11, y12, by simp [hL], rfl, ?_, rfl⟩
      congr 2
      exact stO_congr fun q hq => (passO_snoc pre o q ho hq).symm
  · rintro σ S1 ⟨pre, post, y9, y11, y12, hL, hr, rfl, rfl⟩
    cases post with
    | cons o post => cases hr
    | nil =>
      rw [List.append_nil] at hL
      subst hL
      have eT : stO a b (passO (ordS a b)) = stO a b (pass a b) := stO_congr fun q hq => by
        have := mem_std.mp hq
        exact pass_ord a b this.1 this.2
      rw [eT]
      unfold b16
      simp only [wpSs_e63, wpS_e57, wpE_e9, wpE_e23, wpEs_e36, wpEs_e35, wpE_e1, slot_0, slot_S, okO_some, cw_eq]
      refine standings0_ok (k := k + 6) h.toHasStd0 h.stds ok ?_
      rw [if_pos hb0]
      simp only [wpE_e30, wpI_e42, wpE_e1, slot_0, slot_S, okO_some, vw_lst, wpT_e40, wipe_S, wipe_0, asg_1, List.set_cons_succ, List.set_cons_zero, wpE_e9, wpE_e19, wpE_e3]
      refine wpL_filter (tT := pT) (h := pT) (p := fun p => decide (0 < pass a b p)) (fun p hp k' hk => ?_) (by simp) ?_
      · rw [vw_stO get_last, idx_std hp]
        simp only [okO_some, vw_int, cmp_gt, bt_bl]
        by_cases hc : 0 < pass a b p
        · rw [if_pos (by simpa using hc)] at hk ⊢; exact hk
        · rw [if_neg (by simpa using hc)] at hk ⊢; exact hk
      rw [show cmpT .NotEq (.lst ((passL a b).map pT)) (.lst ((List.filter (fun p => decide (0 < pass a b p)) (stdL a b)).map pT)) = some false from ne_pts _]
      simp only [okO_some, bt_bl, Bool.false_eq_true, if_false, wpSs_e62]
      unfold b17
      simp only [wpSs_e63, wpS_e57, wpE_e9, wpE_e23, wpEs_e36, wpEs_e35, wpE_e1, slot_0, slot_S, okO_some, cw_eq]
      refine sure_std_ok (k := k + 6) h.toHasStd0 h.cof h.surest ok ?_
      rw [if_pos hb0]
      simp only [wpE_e30, wpI_e42, wpE_e1, slot_0, slot_S, okO_some, vw_lst, wpT_e40, wipe_S, wipe_0, asg_1, List.set_cons_succ, List.set_cons_zero, wpE_e9, wpE_e19, wpE_e3, wpE_e26, wpEs_e36, wpEs_e35, List.map_cons, List.map_nil, bi_lenl, List.length_map, hl]
      refine wpL_filter (tT := pT) (h := pT) (p := fun p => decide (pass a b p = cntA a b)) (fun p hp k' hk => ?_) (by simp) ?_
      · rw [vw_stO get_last, idx_std hp]
        simp only [okO_some, vw_int, cmp_eqi, bt_bl]
        by_cases hc : pass a b p = cntA a b
        · rw [if_pos (by simpa using hc)] at hk; rw [if_pos (by simp [hc])]; exact hk
        · rw [if_neg (by simpa using hc)] at hk; rw [if_neg (by simp; omega)]; exact hk
      rw [show cmpT .NotEq (.lst ((sureS a b).map pT)) (.lst ((List.filter (fun p => decide (pass a b p = cntA a b)) (stdL a b)).map pT)) = some false from ne_pts _]
      simp only [okO_some, bt_bl, Bool.false_eq_true, if_false, wpSs_e62]
      unfold b18
      simp only [wpSs_e63, wpS_e47, wpE_e30, wpI_e42, wpE_e1, slot_0, slot_S, okO_some, vw_lst, wpT_e40, wipe_S, wipe_0, asg_1, List.set_cons_succ, List.set_cons_zero, wpE_e9, wpE_e19, wpE_e3]
      refine wpL_filter (tT := pT) (h := fun p => T.int ((p.1 : Int) - p.2)) (p := fun p => decide (0 < pass a b p)) (fun p hp k' hk => ?_) (by simp) ?_
      · rw [vw_stO get_last, idx_std hp]
        simp only [okO_some, vw_int, cmp_gt, bt_bl]
        by_cases hc : 0 < pass a b p
        · rw [if_pos (by simpa using hc)] at hk ⊢
          simpa using hk
        · rw [if_neg (by simpa using hc)] at hk ⊢; exact hk
      have e : ((List.filter (fun p => decide (0 < pass a b p)) (stdL a b)).map fun p => T.int ((p.1 : Int) - p.2)) = (ledL a b).map T.int := by
        unfold ledL passL
        rw [List.map_map]
        rfl
      rw [e]
      unfold b19
      simp only [wpSs_e63, wpS_e57, wpE_e9, wpE_e23, wpEs_e36, wpEs_e35, wpE_e1, slot_0, slot_S, okO_some, cw_eq]
      refine leads_ok (k := k + 6) h.toHasStd0 h.leads ok ?_
      rw [if_pos hb0]
      intro m n em en
      simp only [wpE_e15, wpEs_e36, wpEs_e35, wpE_e26, wpE_e7, wpE_e3, wpE_e1, slot_0, slot_S, okO_some, List.map_cons, List.map_nil, vw_lst, bi_maxM, bi_minM, em, en, Option.map_some, vw_int, bin_subi, vw_tup, Int.zero_sub]
      rw [show cmpT .NotEq (T.tup [.int m, .int (-n)]) (T.tup [.int m, .int (-n)]) = some false by rw [cmp_nep rfl rfl]; simp [eqT, eqTs]]
      simp only [okO_some, bt_bl, Bool.false_eq_true, if_false, wpSs_e62]
      unfold b20
      simp only [wpSs_e63, wpS_e58, wpI_e42, wpE_e1, slot_0, slot_S, okO_some, vw_lst, asg_1, wpSs_e62]
      refine wpFor_each (S := S ++ [stO a b (pass a b)]) (fun σ => ∃ y11, σ = [y0, y1, some (mailT a b), y3, y4, some (.lst ((ordS a b).map rowT)), some (.lst ((stdL a b).map pT)), y7, some (.ref S.length), y9, some (.lst ((ledL a b).map T.int)), y11, y12, y13]) ?_ (by simp) ?_ ⟨_, rfl⟩
      · rintro x hx σ ⟨y11, rfl⟩ KK hKK
        obtain ⟨p, hp, rfl⟩ := List.mem_map.mp hx
        simp only [List.set_cons_succ, List.set_cons_zero]
        unfold b21
        simp only [wpSs_e63, wpS_e57, wpE_e9, wpE_e23, wpEs_e36, wpEs_e35, wpE_e1, wpE_e19, wpE_e26, slot_0, slot_S, okO_some, cw_eq, wpSs_e62]
        refine share_at_ok (k := k + 6) h.toHasStd0 h.cof h.low h.shareat ok hp ?_
        rw [if_pos hb0, vw_stO get_last, idx_std hp]
        simp only [okO_some, List.map_cons, List.map_nil, vw_lst, bi_lenl, List.length_map, hl]
        refine law_low_ok (k := k + 28) h.llow c0 (by omega) ?_
        simp only [lowT, vw_tup]
        rw [show cmpT .NotEq (T.tup [.int (pass a b p / Nat.gcd (pass a b p) (cntA a b) : Nat), .int (cntA a b / Nat.gcd (pass a b p) (cntA a b) : Nat)]) (T.tup [.int (pass a b p / Nat.gcd (pass a b p) (cntA a b) : Nat), .int (cntA a b / Nat.gcd (pass a b p) (cntA a b) : Nat)]) = some false from ne_lowT _ _]
        simp only [okO_some, bt_bl, Bool.false_eq_true, if_false, wpSs_e62]
        exact hKK _ ⟨_, rfl⟩
      · rintro σ ⟨y11, rfl⟩
        exact hK _ _ _ _ _ _
theorem body_ok (h : Has D) (x : List (Option T)) (S1 : Mem) (j : Nat) (c m : Int) (X : Wx) (K : K) (hx : x.length = 12) (hS : S1[j]? = some (diceT c m)) (hK : ∀ (c' m' : Int) (M : Mem) (x' : List (Option T)), x'.length = 12 → K.nx (some (.ref 0) :: some (.ref j) :: x') (S1.set j (diceT c' m') ++ M)) :
    wpSs D.G (cw D (k + 29)) b2 X (some (.ref 0) :: some (.ref j) :: x) S1 K := by
  obtain ⟨x2, x3, x4, x5, x6, x7, x8, x9, x10, x11, x12, x13, rfl⟩ : ∃ x2 x3 x4 x5 x6 x7 x8 x9 x10 x11 x12 x13, x = [x2, x3, x4, x5, x6, x7, x8, x9, x10, x11, x12, x13] := by
    match x, hx with
    | [x2, x3, x4, x5, x6, x7, x8, x9, x10, x11, x12, x13], _ => exact ⟨_, _, _, _, _, _, _, _, _, _, _, _, rfl⟩
  unfold b2
  simp
  refine any_mail_ok (k := k + 25) h.roll h.wri h.any hS (by decide) (by decide) fun a b c' m' ok la lb => ?_
  have hK := fun M x' hx' => hK c' m' M x' hx'
  generalize S1.set j (diceT c' m') = S0 at *
  have el : (line : Int) = 16777216 := rfl
  have el2 : line = 16777216 := rfl
  unfold b3
  simp
  refine orders_ok (k := k + 27) h.orders_ h.lets h.turns (by omega) ?_
  unfold b4
  simp only [wpSs_e63, wpS_e58, wpI_e43, wpE_e7, wpE_e19, wpE_e26, wpE_e1, wpE_e3, wpEs_e35, wpEs_e36, slot_0, slot_S, okO_some, mailT, vw_tup, idx_tup, at0, List.map_cons, List.map_nil, bi_lent, List.length_map, vw_int, bin_addi]
  refine ⟨by omega, ?_⟩
  rw [show ((a.length : Int) + 1).toNat = a.length + 1 by omega]
  have hsub : ∀ n, n ≤ a.length + 1 → (pairsN n (b.length + 1)).length ≤ 100 := by
    intro n hn
    have e : (pairsN n (b.length + 1)).length = n * (b.length + 1) := by
      unfold pairsN
      induction n with
      | zero => simp
      | succ n ih => rw [List.range_succ (n := n), List.flatMap_append, List.length_append, ih (by omega)]; simp [Nat.succ_mul]
    rw [e]
    have := Nat.mul_le_mul (show n ≤ 6 by omega) (show b.length + 1 ≤ 6 by omega)
    omega
  refine wpFor_inv (P := fun r σ S2 => ∃ (n : Nat) (y3 y13 : Option T), n + r.length = a.length + 1 ∧ r = (List.range' n r.length).map (fun i : Nat => T.int i) ∧ S2 = S0 ∧ σ = [some (.ref 0), some (.ref j), some (mailT a b), y3, x4, some (.lst ((ordS a b).map rowT)), some (.lst ((pairsN n (b.length + 1)).map pT)), x7, x8, x9, x10, x11, x12, y13]) (fun _ _ _ _ => trivial) ?_ ?_ ⟨0, x3, x13, by simp [rangeT], ?_, rfl, rfl⟩
  · rintro x r σ S2 ⟨n, y3, y13, hl, hr, rfl, rfl⟩ KK hKK
    rw [List.length_cons, List.range'_succ, List.map_cons] at hr
    injection hr with e1 e2
    subst e1
    simp only [List.length_cons] at hl
    simp only [asg_1, List.set_cons_succ, List.set_cons_zero]
    unfold b5
    simp only [wpSs_e63, wpS_e47, wpE_e7, wpE_e30, wpI_e43, wpE_e19, wpE_e26, wpE_e1, wpE_e3, wpEs_e35, wpEs_e36, slot_0, slot_S, okO_some, mailT, vw_tup, idx_tup, at1, List.map_cons, List.map_nil, bi_lent, List.length_map, vw_int, bin_addi, wipe_S, wipe_0, asg_1, List.set_cons_succ, List.set_cons_zero, wpT_e39, if_true, wpE_e15, vw_lst, wpSs_e62]
    refine ⟨by omega, ?_⟩
    rw [show ((b.length : Int) + 1).toNat = b.length + 1 by omega]
    refine wpL_rngm (h := fun i : Nat => pT (n, i)) (fun i hi k' hk' => hk') trivial ?_
    have hp := hsub n (by omega)
    rw [bin_addl (by simp; omega)]
    simp only [okO_some]
    have e3 : (pairsN n (b.length + 1)).map pT ++ (List.range (b.length + 1)).map (fun i : Nat => pT (n, i)) = (pairsN (n + 1) (b.length + 1)).map pT := by
      rw [pairsN_S, List.map_append, List.map_map]
      rfl
    rw [e3]
    exact hKK _ _ ⟨n + 1, _, _, by omega, e2, rfl, rfl⟩
  · rintro σ S2 ⟨n, y3, y13, hl, hr, rfl, rfl⟩
    simp at hl
    subst hl
    show wpSs D.G (cw D (k + 29)) b6 X [some (.ref 0), some (.ref j), some (mailT a b), y3, x4, some (.lst ((ordS a b).map rowT)), some (.lst ((stdL a b).map pT)), x7, x8, x9, x10, x11, x12, y13] S2 K
    have bads : ∀ (S' : Mem) y4 y7 y8 y9 y10 y11 y12, (∃ M, S' = S2 ++ M) → wpSs D.G (cw D (k + 29)) b22 X [some (.ref 0), some (.ref j), some (mailT a b), y3, y4, some (.lst ((ordS a b).map rowT)), some (.lst ((stdL a b).map pT)), y7, y8, y9, y10, y11, y12, y13] S' K := by
      rintro S' y4 y7 y8 y9 y10 y11 y12 ⟨M, rfl⟩
      unfold b22
      simp
      refine wpFor_each (S := S2 ++ M) (fun σ => ∃ y4, σ = [some (.ref 0), some (.ref j), some (mailT a b), y3, y4, some (.lst ((ordS a b).map rowT)), some (.lst ((stdL a b).map pT)), y7, y8, y9, y10, y11, y12, y13]) ?_ (by simp) ?_ ⟨_, rfl⟩
      · rintro x hx σ ⟨y4, rfl⟩ KK hKK
        have hp : plain2 x = true ∧ standB a b x = false := by
          simp at hx
          rcases hx with rfl | rfl | rfl | rfl | rfl | rfl | rfl | rfl | rfl
          · exact ⟨rfl, rfl⟩
          · exact ⟨rfl, rfl⟩
          · exact ⟨rfl, rfl⟩
          · exact ⟨rfl, rfl⟩
          · exact ⟨rfl, rfl⟩
          · refine ⟨rfl, ?_⟩
            simp [standB, wholeT]
            omega
          · exact ⟨rfl, rfl⟩
          · exact ⟨rfl, rfl⟩
          · exact ⟨rfl, rfl⟩
        simp only [asg_1, List.set_cons_succ, List.set_cons_zero]
        exact b23_ok h ok hp.1 hp.2 (hKK _ ⟨_, rfl⟩)
      · rintro σ ⟨y4, rfl⟩
        exact hK _ _ rfl
    unfold b6
    simp only [wpSs_e63, wpS_e57, wpE_e9, wpE_e1, wpE_e16, wpEs_e35, slot_0, slot_S, okO_some, vw_lst, eq_nilR, bt_bl]
    have hz := free_iff ok
    by_cases hb0 : barL a b = []
    · rw [if_neg (by simpa using hz.mp hb0)]
      exact b11_ok h ok hb0 fun _ _ _ _ _ M => bads _ _ _ _ _ _ _ _ ⟨M, rfl⟩
    · have e0 : ordS a b = [] := by
        by_cases z : ordS a b = []
        · exact z
        · exact absurd (hz.mpr z) hb0
      rw [if_pos (decide_eq_true e0)]
      exact b7_ok h ok hb0 fun _ o => bads _ _ _ _ _ _ _ _ ⟨o, rfl⟩
  · rw [show (rangeT 0 (a.length + 1)).length = a.length + 1 by simp [rangeT], ← List.range_eq_range']
    unfold rangeT
    refine List.map_congr_left fun i _ => ?_
    simp
theorem law_ok (h : Has D) (hl : D.fn "" "law" = some d_law) (hr : D.fn "" "_law_rounds" = some d_law_rounds) (hc : D.fn "" "_law_cell" = some d_law_cell) (ns : List Int) (hn : ns.length ≤ 63) :
    CallWP D (k + 30) "" "law" [.ref 0] [.fix (ns.map .int)] (fun v _ => v = .bl true) noX :=
  law_rounds (n := 12) hl rfl rfl rfl hr hc ns hn (by decide) fun x S1 j c m X K => body_ok h x S1 j c m X K
end K05P
namespace K05
open PySem L2 PC
theorem has : K05P.Has tab := by
  repeat' (first | rfl | exact ⟨_, rfl, rfl⟩ | constructor)
theorem LAW (ns : List Int) (h : ns.length ≤ 63) : CallWP tab 30 "" "law" [.ref 0] [.fix (ns.map .int)] (fun v _ => v = T.bl true) noX :=
  K05P.law_ok (k := 0) has rfl rfl rfl ns h
end K05
open PySem PySem.W PyProof.Rows
set_option maxRecDepth 100000 in
set_option maxHeartbeats 0 in
theorem PySem.Challenge.cw_crossmail_k05_whole_standings_holds : PySem.Challenge.rw_crossmail_k05_whole_standings.Holds := by
  w_on; o_law; k_head; (case hw => w_witness2)
  k_fill
  refine K05.walk (l := PySem.Challenge.rw_crossmail_k05_whole_standings) rfl rfl (by decide +kernel) (fun w h Y => PySem.W.km_in_of Y) ?F
  case F =>
    intro w mg fa h Y KX G hmg own
    refine' K05.all_mk K05.LAW KX G hmg own ?Ways_a ?BadMail_a ?BadLetter_a ?BadNumber_a ?BadOrder_a ?BadPart_a ?BadRough_a ?BadDates_a ?Nothing_a ?Full_a ?BadText_a ?BadFound_a ?mail_a ?a0 ?l0 ?c0 ?k0 ?a1 ?l1 ?c1 ?k1 ?a2 ?l2 ?c2 ?k2 ?a3 ?l3 ?c3 ?k3 ?a4 ?l4 ?c4 ?k4 ?a5 ?l5 ?c5 ?k5 ?a6 ?l6 ?c6 ?k6 ?a7 ?l7 ?c7 ?k7 ?a8 ?l8 ?c8 ?k8 ?a9 ?l9 ?c9 ?k9 ?a10 ?i10 ?l10 ?c10 ?k10 ?a11 ?i11 ?l11 ?c11 ?k11 ?a12 ?l12 ?c12 ?k12 ?a13 ?l13 ?c13 ?k13 ?a14 ?l14 ?c14 ?k14 ?a15 ?l15 ?c15 ?k15 ?a16 ?l16 ?c16 ?k16 ?a17 ?l17 ?c17 ?k17 ?a18 ?l18 ?c18 ?k18 ?a19 ?l19 ?c19 ?k19 ?a20 ?l20 ?c20 ?k20 ?a21 ?l21 ?c21 ?k21 ?a22 ?l22 ?c22 ?k22 ?a23 ?l23 ?c23 ?k23 ?a24 ?l24 ?c24 ?k24 ?a25 ?l25 ?c25 ?k25 ?a26 ?l26 ?c26 ?k26 ?a27 ?l27 ?c27 ?k27 ?a28 ?l28 ?c28 ?k28 ?a29 ?l29 ?c29 ?k29 ?a30 ?l30 ?c30 ?k30 ?a31 ?l31 ?c31 ?k31 ?a32 ?l32 ?c32 ?k32 ?v32 ?p32 ?n32 ?aT ?lT ?cT ?kT ?aM ?lM ?cM ?kM ?Ways_pg ?Ways_hd ?Ways_po ?Ways_sa ?Ways_mk ?Ways_kc ?Ways_n_held ?Ways_n_known ?BadMail_k ?BadMail_x ?BadMail_s ?BadMail_t ?BadNumber_k ?BadNumber_x ?BadNumber_s ?BadNumber_t ?Nothing_k ?Nothing_x ?Nothing_s ?Nothing_t ?ve_a ?dn ?dt ?BadMail_1 ?BadMail_2 ?BadMail_3 ?BadMail_4 ?BadMail_5 ?BadMail_6 ?BadMail_7 ?BadMail_8 ?BadNumber_1 ?BadNumber_2 ?BadNumber_3 ?BadNumber_4 ?BadNumber_5 ?BadNumber_6 ?BadNumber_7 ?BadNumber_8 ?Nothing_1 ?Nothing_2 ?Nothing_3 ?Nothing_4 ?Nothing_5 ?Nothing_6 ?Nothing_7 ?Nothing_8 ?g_MOST ?b_len ?b_max ?b_min ?b_sum ?b_all ?b_any ?b_tuple ?b_list ?b_int ?b_str ?b_sorted ?b_dict ?b_range ?b_enumerate ?b_zip ?b_isinstance ?b_bool ?nl
    (case Ways_a => k_is); (case BadMail_a => k_is); (case BadLetter_a => k_is); (case BadNumber_a => k_is); (case BadOrder_a => k_is); (case BadPart_a => k_is)
    (case BadRough_a => k_is); (case BadDates_a => k_is); (case Nothing_a => k_is); (case Full_a => k_is); (case BadText_a => k_is); (case BadFound_a => k_is)
    (case mail_a => k_is); (case a0 => k_is); (case l0 => k_is); (case c0 => k_is); (case k0 => k_is); (case a1 => k_is)
    (case l1 => k_is); (case c1 => k_is); (case k1 => k_is); (case a2 => k_is); (case l2 => k_is); (case c2 => k_is)
    (case k2 => k_is); (case a3 => k_is); (case l3 => k_is); (case c3 => k_is); (case k3 => k_is); (case a4 => k_is)
    (case l4 => k_is); (case c4 => k_is); (case k4 => k_is); (case a5 => k_is); (case l5 => k_is); (case c5 => k_is)
    (case k5 => k_is); (case a6 => k_is); (case l6 => k_is); (case c6 => k_is); (case k6 => k_is); (case a7 => k_is)
    (case l7 => k_is); (case c7 => k_is); (case k7 => k_is); (case a8 => k_is); (case l8 => k_is); (case c8 => k_is)
    (case k8 => k_is); (case a9 => k_is); (case l9 => k_is); (case c9 => k_is); (case k9 => k_is); (case a10 => k_is)
    (case i10 => k_is); (case l10 => k_is); (case c10 => k_is); (case k10 => k_is); (case a11 => k_is); (case i11 => k_is)
    (case l11 => k_is); (case c11 => k_is); (case k11 => k_is); (case a12 => k_is); (case l12 => k_is); (case c12 => k_is)
    (case k12 => k_is); (case a13 => k_is); (case l13 => k_is); (case c13 => k_is); (case k13 => k_is); (case a14 => k_is)
    (case l14 => k_is); (case c14 => k_is); (case k14 => k_is); (case a15 => k_is); (case l15 => k_is); (case c15 => k_is)
    (case k15 => k_is); (case a16 => k_is); (case l16 => k_is); (case c16 => k_is); (case k16 => k_is); (case a17 => k_is)
    (case l17 => k_is); (case c17 => k_is); (case k17 => k_is); (case a18 => k_is); (case l18 => k_is); (case c18 => k_is)
    (case k18 => k_is); (case a19 => k_is); (case l19 => k_is); (case c19 => k_is); (case k19 => k_is); (case a20 => k_is)
    (case l20 => k_is); (case c20 => k_is); (case k20 => k_is); (case a21 => k_is); (case l21 => k_is); (case c21 => k_is)
    (case k21 => k_is); (case a22 => k_is); (case l22 => k_is); (case c22 => k_is); (case k22 => k_is); (case a23 => k_is)
    (case l23 => k_is); (case c23 => k_is); (case k23 => k_is); (case a24 => k_is); (case l24 => k_is); (case c24 => k_is)
    (case k24 => k_is); (case a25 => k_is); (case l25 => k_is); (case c25 => k_is); (case k25 => k_is); (case a26 => k_is)
    (case l26 => k_is); (case c26 => k_is); (case k26 => k_is); (case a27 => k_is); (case l27 => k_is); (case c27 => k_is)
    (case k27 => k_is); (case a28 => k_is); (case l28 => k_is); (case c28 => k_is); (case k28 => k_is); (case a29 => k_is)
    (case l29 => k_is); (case c29 => k_is); (case k29 => k_is); (case a30 => k_is); (case l30 => k_is); (case c30 => k_is)
    (case k30 => k_is); (case a31 => k_is); (case l31 => k_is); (case c31 => k_is); (case k31 => k_is); (case a32 => k_is)
    (case l32 => k_is); (case c32 => k_is); (case k32 => k_is); (case v32 => k_is); (case p32 => rfl); (case n32 => kernel_rfl)
    (case aT => k_is); (case lT => k_is); (case cT => k_is); (case kT => k_is); (case aM => k_is); (case lM => k_is)
    (case cM => k_is); (case kM => k_is); (case Ways_pg => k_is); (case Ways_hd => k_is); (case Ways_po => k_is); (case Ways_sa => k_is)
    (case Ways_mk => k_is); (case Ways_kc => k_is); (case Ways_n_held => k_is); (case Ways_n_known => k_is); (case BadMail_k => k_is); (case BadMail_x => kernel_rfl)
    (case BadMail_s => k_is); (case BadMail_t => k_is); (case BadNumber_k => k_is); (case BadNumber_x => kernel_rfl); (case BadNumber_s => k_is); (case BadNumber_t => k_is)
    (case Nothing_k => k_is); (case Nothing_x => kernel_rfl); (case Nothing_s => k_is); (case Nothing_t => k_is); (case ve_a => k_is); (case dn => k_is)
    (case dt => k_is); (case BadMail_1 => k_is); (case BadMail_2 => k_is); (case BadMail_3 => k_is); (case BadMail_4 => k_is); (case BadMail_5 => k_is)
    (case BadMail_6 => kernel_rfl); (case BadMail_7 => kernel_rfl); (case BadMail_8 => kernel_rfl); (case BadNumber_1 => k_is); (case BadNumber_2 => k_is); (case BadNumber_3 => k_is)
    (case BadNumber_4 => k_is); (case BadNumber_5 => k_is); (case BadNumber_6 => kernel_rfl); (case BadNumber_7 => kernel_rfl); (case BadNumber_8 => kernel_rfl); (case Nothing_1 => k_is)
    (case Nothing_2 => k_is); (case Nothing_3 => k_is); (case Nothing_4 => k_is); (case Nothing_5 => k_is); (case Nothing_6 => kernel_rfl); (case Nothing_7 => kernel_rfl)
    (case Nothing_8 => kernel_rfl); (case g_MOST => k_is); (case b_len => k_is); (case b_max => k_is); (case b_min => k_is); (case b_sum => k_is)
    (case b_all => k_is); (case b_any => k_is); (case b_tuple => k_is); (case b_list => k_is); (case b_int => k_is); (case b_str => k_is)
    (case b_sorted => k_is); (case b_dict => k_is); (case b_range => k_is); (case b_enumerate => k_is); (case b_zip => k_is); (case b_isinstance => k_is)
    (case b_bool => k_is); (case nl => kernel_rfl)
#print axioms PySem.Challenge.cw_crossmail_k05_whole_standings_holds
