import PyProof.Rows.All
import Wide.All
import OpenK.AllK
import Wide.FinOn
import PyProof.EqAt
import PyProof.EqKinds
import PyProof.TupleCall
import PyProof.TupleOfStr
import PyProof.ListStr
import PyProof.ReprRoads
import HandS.ForMost
import HandS.Exc
import HandS.TryOnly
import HandS.ExcOwn
import HandS.ExcInit
import HandS.ExcField
import HandS.WordsExc
import HandS.IsInst
import HandS.Style
import HandS.Star
import HandS.MethStar
import HandS.OwnEq
import HandS.DictComp
import HandS.Conv
import HandS.Strs
import HandS.SetKeys
import HandS.Defaults
import HandS.Wide
import HandS.Flow
import HandS.CallLocal
import PyProof.InstNe
import HandS.Lambda
import HandS.Walk
import HandS.MakeKwOnly
import HandS.EndTab
import KE.KLam
import KE.KNestM
import PySem.Challenge.RW_everytext_k88_texts_of_manners
set_option Elab.async false
set_option linter.all false
set_option maxRecDepth 100000
set_option maxHeartbeats 2000000
/-! ## 1. Rules of our own: a text made a list or a tuple, repr of lists of tuples of texts, bundles of a def's facts -/
namespace K88
open PySem PySem.Spec PyProof.Rows L2

/-- the signs of a text as texts -/
def signs (x : Str) : List Str := x.cps.toList.map fun c => (⟨#[c]⟩ : Str)
theorem signs_len (x : Str) : (signs x).length = x.cps.size := by unfold signs; simp
theorem vals_of_signs {x : Str} {acc : Array Value} (h : ItemsOf (SignAt x) acc x.cps.size) : Vals ((signs x).map V.str) acc.toList := by
  obtain ⟨hn, hi⟩ := h
  suffices h : ∀ (l : List Nat) (us : List Value), l.length = us.length → (∀ j c v, l[j]? = some c → us[j]? = some v → ∃ u, v = Value.str ⟨#[c]⟩ u) → Vals ((l.map fun c => (⟨#[c]⟩ : Str)).map V.str) us by
    refine h x.cps.toList acc.toList (by simp [hn]) fun j c v h1 h2 => ?_
    obtain ⟨c', u, e1, e2⟩ := hi j v (by rw [← Array.getElem?_toList]; exact h2)
    have e3 : x.cps[j]? = some c := by rw [← Array.getElem?_toList]; exact h1
    rw [e3] at e1
    cases e1
    exact ⟨u, e2⟩
  intro l
  induction l with
  | nil => intro us hl _; cases us with
    | nil => exact .nil
    | cons u r => simp at hl
  | cons c l ih => intro us hl hv; cases us with
    | nil => simp at hl
    | cons u r =>
      obtain ⟨t, e⟩ := hv 0 c u rfl rfl
      exact .cons ⟨t, e⟩ (ih r (by simpa using hl) fun j c' v h1 h2 => hv (j + 1) c' v (by simpa using h1) (by simpa using h2))
section
variable {X : Cx}
theorem call_listT : CallR X (.type "list") (fun xs H Q => ∃ z : Str, xs = [.str z] ∧ z.length ≤ 1000000 ∧ X.A.handled = none ∧ ∀ p, H p = none → Q (.ref p) (upd H p (.lst ((signs z).map V.str)))) := by
  intro pins s σ H xs us Q I r h
  obtain ⟨z, rfl, hz, hh, q⟩ := h
  obtain ⟨u, rfl, t, rfl⟩ := vals1 r
  have hz' : z.cps.size ≤ sizeLine := Nat.le_trans hz (by rw [sizeLine_eq]; decide)
  refine call_list_str (x := z) (t := t) hh (fun h' tk acc c' kp e ia => ?_) hz'
  have hl : ((signs z).map V.str).length ≤ sizeLine := by rw [List.length_map, signs_len]; exact hz'
  refine ⟨.ref s.heap.objs.size, _, I.laid (t' := tk) kp (Nat.le_refl _) (show ObjOk X.prog X.w _ h' _ (.lst _) from ⟨hl, acc.toList, c', vals_of_signs ia, ?_⟩), rfl, q _ (I.hok.fresh (Nat.le_refl _))⟩
  rw [e]
theorem call_tupleS : CallR X (.type "tuple") (fun xs H Q => ∃ z : Str, xs = [.str z] ∧ z.length ≤ 1000000 ∧ X.A.handled = none ∧ ∀ p, H p = none → Q (.ref p) (upd H p (.tup ((signs z).map V.str)))) := by
  intro pins s σ H xs us Q I r h
  obtain ⟨z, rfl, hz, hh, q⟩ := h
  obtain ⟨u, rfl, t, rfl⟩ := vals1 r
  have hz' : z.cps.size ≤ sizeLine := Nat.le_trans hz (by rw [sizeLine_eq]; decide)
  refine call_tuple_str (x := z) (t := t) hh (fun h' tk acc kp ia => ?_) hz'
  have hl : ((signs z).map V.str).length ≤ sizeLine := by rw [List.length_map, signs_len]; exact hz'
  have I1 : Inv X pins σ H { s with heap := h', toks := tk } := I.kept kp
  have I2 := I1.laid (a := h'.objs.size) (o := .tup ((signs z).map V.str)) (h' := h'.push { cls := .type "tuple", data := .seq acc }) (t' := tk) (fun b o e => Heap.get?_push_of_some _ e) (Nat.le_refl _)
    ⟨hl, acc.toList, vals_of_signs ia, by rw [show acc.toList.toArray = acc by simp]; exact IsTup.new _ _⟩
  exact ⟨.ref h'.objs.size, _, I2, rfl, q _ (I1.hok.fresh (Nat.le_refl _))⟩
/-- repr(x) of nested data -/
theorem call_reprD (hg : X.A.guards = some []) (hu : X.A.units + 64 < cLine) : CallR X (.builtin "repr") (fun xs H Q => ∃ (a : Addr) (d : PyData), xs = [.ref a] ∧ Dp X.K H (.ref a) d ∧ d.showable = true ∧ d.hasDict = false ∧ d.depth ≤ 8 ∧ d.shown.length ≤ sizeLine ∧ Q (.str d.shown) H) := by
  intro pins s σ H xs us Q I r h
  obtain ⟨a, d, rfl, hd, h1, h2, h3, h4, q⟩ := h
  obtain ⟨u, rfl, rx⟩ := vals1 r
  cases rx
  obtain ⟨as, rd⟩ := Dp.reads I d _ _ hd rfl
  refine repr_of_reads' rd h1 (fun z => by rw [h2] at z; cases z) hg (by omega) (fun _ _ e => e) (fun h' u tk kp => ?_) h4
  exact ⟨.str d.shown, _, I.kept kp, ⟨_, rfl⟩, q⟩
end

/-! ### bundles -/
/-- the def named x, its promise with its defaults filled in -/
structure CalX (P : Program) (w : World) (K : PySem.W.Frag) (mg : Str → Option Value) (base : Heap) (CX : CXT) (k : Nat) (x : Str) (sp : Sp) (dvs : List V) : Prop where
  ex : ∃ (f : Addr) (fd : FuncData) (ps : List Str) (ds : List Value), mg x = some (.ref f) ∧ PySem.W.keepIn K (.ref f) = true ∧ FnOk P w K mg base CX k f fd ps sp ∧ Binds K fd ps ds ∧ Vals dvs ds
/-- the method m of the class at C -/
structure MetX (P : Program) (w : World) (K : PySem.W.Frag) (mg : Str → Option Value) (base : Heap) (CX : CXT) (k : Nat) (C : Addr) (m : Str) (sp : Sp) (dvs : List V) : Prop where
  ex : ∃ (f : Addr) (fd : FuncData) (ps : List Str) (ds : List Value), Cls K C ∧ Meth K C m f ∧ FnOk P w K mg base CX k f fd ps sp ∧ Binds K fd ps ds ∧ Vals dvs ds
/-- the class named x, its __init__ -/
structure MakX (P : Program) (w : World) (K : PySem.W.Frag) (mg : Str → Option Value) (base : Heap) (CX : CXT) (k : Nat) (x : Str) (C : Addr) (sp : Sp) (dvs : List V) : Prop where
  ex : ∃ (f : Addr) (fd : FuncData) (ps : List Str) (ds : List Value), mg x = some (.ref C) ∧ Mk K C f ∧ FnOk P w K mg base CX k f fd ps sp ∧ Binds K fd ps ds ∧ Vals dvs ds
section
variable {X : Cx} {CX : CXT} {j k : Nat} {x m : Str} {sp : Sp} {dvs : List V} {E : XK} {e o : Expr} {es : List Expr} {t : TA} {ta : TE} {p apos pos : Pos} {C : Addr}
theorem pe_cx (c : CalX X.prog X.w X.K X.mg X.base CX k x sp dvs) (hr : Room j X.A) (hk : k ≤ j) (hx : Passes CX X E) (hg : Gl X x) (ha : PA X (e :: es) t) (hdb : (x == ("__debug__" : Str)) = false := by decide)
    (he : starEach (e :: es) X.env = (false, eval e X.env) :: starEach es X.env := by rfl) (hpl : (backTo pos (starEach es X.env)).any (·.1) = false := by rfl) : PE X (.Call (.Name x p) (e :: es) [] pos) (tCall sp dvs E t) := by
  obtain ⟨f, fd, ps, ds, h1, h2, F, hb, hd⟩ := c.ex
  exact pe_call F (hr.mono hk) hg h1 h2 hb hd hx ha hdb he hpl
theorem pe_mtx {pl : Sem Bool} (c : MetX X.prog X.w X.K X.mg X.base CX k C m sp dvs) (ho : PE X o ta) (hr : Room j X.A) (hk : k ≤ j) (hx : Passes CX X E) (ha : PA X (e :: es) t)
    (hst : starEach (e :: es) X.env = (false, eval e X.env) :: starEach es X.env := by rfl) (hpl : (backTo pos (starEach es X.env)).any (·.1) = false := by rfl)
    (ht : eval (.Call (.Attribute o m apos) (e :: es) [] pos) X.env = (do
      let ov ← eval o X.env
      standAt apos.atName
      let (f, first) ← holding [ov] (getMethod ov m pl)
      callWith pos f first (backTo pos (starEach (e :: es) X.env)) (backToKw pos (keywordEach [] X.env))) := by rfl) : PE X (.Call (.Attribute o m apos) (e :: es) [] pos) (tMeth C m sp dvs E ta t) := by
  obtain ⟨f, fd, ps, ds, hc, hm, F, hb, hd⟩ := c.ex
  exact pe_meth ho hc hm F (hr.mono hk) hb hd hx ha hst hpl ht
theorem pe_mtx0 {pl : Sem Bool} (c : MetX X.prog X.w X.K X.mg X.base CX k C m sp dvs) (ho : PE X o ta) (hr : Room j X.A) (hk : k ≤ j) (hx : Passes CX X E)
    (ht : eval (.Call (.Attribute o m apos) [] [] pos) X.env = (do
      let ov ← eval o X.env
      standAt apos.atName
      let (f, first) ← holding [ov] (getMethod ov m pl)
      callWith pos f first (backTo pos (starEach [] X.env)) (backToKw pos (keywordEach [] X.env))) := by rfl) : PE X (.Call (.Attribute o m apos) [] [] pos) (tMeth C m sp dvs E ta tNil) := by
  obtain ⟨f, fd, ps, ds, hc, hm, F, hb, hd⟩ := c.ex
  exact pe_meth0 ho hc hm F (hr.mono hk) hb hd hx ht
theorem pe_mx (c : MakX X.prog X.w X.K X.mg X.base CX k x C sp dvs) (hr : Room j X.A) (hk : k + 1 ≤ j) (hx : Passes CX X E) (hg : Gl X x) (ha : PA X (e :: es) t) (hdb : (x == ("__debug__" : Str)) = false := by decide)
    (he : starEach (e :: es) X.env = (false, eval e X.env) :: starEach es X.env := by rfl) (hpl : (backTo pos (starEach es X.env)).any (·.1) = false := by rfl) : PE X (.Call (.Name x p) (e :: es) [] pos) (tMake C sp dvs E t) := by
  obtain ⟨f, fd, ps, ds, h1, M, F, hb, hd⟩ := c.ex
  exact pe_make M F (hr.mono hk) hg h1 hb hd hx ha hdb he hpl
end
end K88

set_option maxHeartbeats 2000000
/-! ## 2. x != y of two instances of a class with an own __eq__ -/
namespace K88
open PySem PySem.Spec PyProof.Rows L2
theorem ne_bind (self : Value) : bindSpecial (.builtin "object.__ne__") self = pure (.builtin "object.__ne__", [self]) := PySem.F.cmp_object.ne.bind self
/-- what the written part says of such a class -/
structure NeC (K : PySem.W.Frag) (C f : Addr) : Prop where
  cls : ∃ nm q N bs bm sn sub ab col dd k0 k1 k2 k3 k5 nid, K.lookup C = some (excClassObj nm q C N bs bm true sn sub ab col dd k0 k1 k2 k3 k5 nid) ∧ bm.contains (.type "object") = true
  ne : PySem.W.findIn K (.ref C) "__ne__" = some (some (.builtin "object.__ne__"))
  eq : PySem.W.findIn K (.ref C) "__eq__" = some (some (.ref f))
  fn : PySem.W.isFn K (.ref f) = true
section
variable {prog : Program} {w : World} {A : Around} {E : Value → Shared → Prop} {s : Shared} {K : PySem.W.Frag} {x y C f : Addr} {ox oy : Obj} {od od' : Option Obj} {Q : Value → Shared → Prop}
theorem ne_own (T : NeC K C f) (X : K.In s.heap) (hu : A.units + 1 < cLine) (I : PySem.W.InstAt s.heap x ox C od) (J : PySem.W.InstAt s.heap y oy C od')
    (h : wpAny (model prog w) A.in1 (call (.ref f) [.ref x, .ref y]) (fun v s' => ∃ b, v = .bool b ∧ Q (.bool (!b)) s') E s) : wpAny (model prog w) A (compareOp .NotEq (.ref x) (.ref y)) Q E s := by
  obtain ⟨nm, q, N, bs, bm, sn, sub, ab, col, dd, k0, k1, k2, k3, k5, nid, hC, hbm⟩ := T.cls
  have hCh := X _ _ hC
  obtain ⟨hp, g, d, t, os⟩ := s
  have hx : hp.get? x = some ox := I.at_
  have hy : hp.get? y = some oy := J.at_
  -- object.__ne__(x, y)
  have body : wpAny (model prog w) A.in1 (Builtin.«object.__ne__» ⟨[.ref x, .ref y], []⟩) (fun r s' => ∃ v, r = .done (.ret v) ∧ ∃ b, v = .bool b ∧ Q v s') E ⟨hp, g, d, t, os⟩ := by
    unfold Builtin.«object.__ne__»
    repeat (first
      | with_reducible refine wpAny_cRoomFor (by show A.units + 1 < cLine; exact hu) ?_
      | (refine wpAny_bind (m := callSpecialIfBound? (.ref x) (Str.ofString "__eq__") [.ref y]) (PySem.W.ifBound_K X I T.eq T.fn (wpAny_mono h (fun r s' hr => ?_) fun _ _ e => e)); obtain ⟨b, rfl, hq⟩ := hr
         repeat (first | exact ⟨_, rfl, _, rfl, hq⟩ | exact wpAny_pure ⟨_, rfl, _, rfl, hq⟩ | (refine wpAny_bind (m := truthy (.bool _)) (wpAny_truthy_bool ?_)) | wp_step))
      | wp_step)
  have one : wpAny (model prog w) A (tryCompare (.ref x) "__ne__" (.ref y)) (fun r s' => ∃ v, r = some v ∧ Q v s') E ⟨hp, g, d, t, os⟩ := by
    unfold tryCompare
    refine wpAny_bind ?_
    simp only [callSpecialIfBound?, bindSpecialIfBound?]
    refine wpAny_holding (wpAny_bind (wpAny_bind (wpAny_bind (I.type.here ((PySem.W.looks_findIn X T.ne).here ?_)))))
    simp only [ne_bind]
    refine wpAny_bind (wpAny_askSetting (wpAny_ite ?_))
    have fin : wpAny (model prog w) A (call (.builtin "object.__ne__") ([.ref x] ++ [.ref y]) >>= fun v => pure (some v)) (fun r s' => wpAny (model prog w) A (match r with | some .notImplemented | none => pure none | some v => pure (some v)) (fun r s' => ∃ v, r = some v ∧ Q v s') E s') E ⟨hp, g, d, t, os⟩ := by
      refine wpAny_bind (wpAny_call (codeAny_call_builtin PySem.F.cmp_object.ne.plain PySem.F.cmpEntry_ne (wpAny_check_slot_inst PySem.F.cmpKind_ne PySem.F.cmpSplit_ne (PySem.F.cmpArgs_ne _ _) hbm hx I.cls hCh (wpAny_mono body (fun r s' z => ?_) fun _ _ e => e))))
      obtain ⟨v, rfl, b, rfl, hq⟩ := z
      exact wpAny_pure (wpAny_pure ⟨_, rfl, hq⟩)
    split
    · exact wpAny_bind (wpAny_pure (wpAny_pure fin))
    · exact wpAny_tryCatch (wpAny_bind (wpAny_pure (wpAny_pure fin)))
  show wpAny _ _ (richCompare .NotEq _ _) _ _ _
  unfold richCompare
  simp only [oneThing_ref]
  refine wpAny_holding (wpAny_bind (wpAny_cRoomFor (by omega) ?_))
  rw [cmpInfo_NotEq]
  dsimp only
  refine wpAny_bind (I.type.here (wpAny_bind (J.type.here ?_)))
  rw [show (Value.ref C != Value.ref C) = false from by simp]
  simp only [Bool.false_eq_true, if_false]
  refine wpAny_bind (wpAny_pure ?_)
  simp only [Bool.false_eq_true, if_false]
  refine wpAny_bind (wpAny_mono one (fun r s' z => ?_) fun _ _ e => e)
  obtain ⟨v, rfl, hq⟩ := z
  exact wpAny_pure hq
end
section
variable {X : Cx}
/-- x != y, both instances of the class at C, that are equal by its __eq__: False -/
theorem op_neG {C f : Addr} {fd : FuncData} {ps : List Str} {R : Addr → Addr → Hp → Prop} {k : Nat} (T : NeC X.K C f) (F : FnOk X.prog X.w X.K X.mg X.base CX0 k f fd ps (spEq R)) (hb : Binds X.K fd ps []) (hr : Room (k + 1) X.A) :
    OpR X (compareOp .NotEq) (fun x y H Q => DIns C R x y H ∧ ∀ H', Ext H H' → Q (.bl false) H') := by
  intro pins s σ H x y v u Q I rx ry hq
  obtain ⟨⟨a, b, dx, dy, fs, gs, rfl, rfl, ha, hb', hR⟩, q⟩ := hq
  cases rx
  cases ry
  obtain ⟨mA, J, _⟩ := ins_get I.hok ha
  obtain ⟨mB, J', _⟩ := ins_get I.hok hb'
  obtain ⟨od, J, _⟩ := J.look
  obtain ⟨od', J', _⟩ := J'.look
  refine ne_own T I.kIn (by have := hr.un; omega) J J' ?_
  have hsp : spEq R [.ref a, .ref b] H (fun v H' => v = .bl true ∧ Ext H H') E0 := ⟨a, b, rfl, hR, fun H' e => ⟨rfl, e⟩⟩
  have hl := F.len _ _ _ _ hsp
  have r2 : Vals [V.ref a, V.ref b] [Value.ref a, Value.ref b] := .cons rfl (.cons rfl .nil)
  refine wpAny_call (codeAny_mono (F.run X.A.in1 X.stack s H ⟨[.ref a, .ref b], []⟩ [.ref a, .ref b] [.ref a, .ref b] _ E0 hr.in1 I.env0.in1 (by
    have z := hb s [.ref a, .ref b] I.kIn (by simpa using hl)
    simpa using z) r2 hsp) fun r s' hq => ?_)
  cases r with
  | error e => exact (show False from hq).elim
  | ok fl =>
    cases fl with
    | ret w' =>
      obtain ⟨z, H', I', rz, ez, ex⟩ := I.after hq
      subst ez
      cases rz
      exact ⟨true, rfl, .bl false, H', I', rfl, q H' ex⟩
    | next => exact False.elim hq
    | brk => exact False.elim hq
    | cont => exact False.elim hq
end
end K88

set_option maxHeartbeats 4000000
/-! ## 3. len(set(xs)) of a list of texts: how many unlike ones there are -/
namespace K88
open PySem PySem.Spec PyProof.Rows L2
/-- how many unlike items -/
def dcount : List Str → Nat
  | [] => 0
  | x :: l => if l.contains x then dcount l else dcount l + 1
theorem dcount_le : ∀ l : List Str, dcount l ≤ l.length
  | [] => Nat.le_refl _
  | x :: l => by
    have h := dcount_le l
    unfold dcount
    split
    · exact Nat.le_trans h (by simp)
    · simpa using h
theorem dcount_nodup : ∀ l : List Str, dcount l = l.length ↔ l.Nodup
  | [] => by simp [dcount]
  | x :: l => by
    have h := dcount_nodup l
    have hl := dcount_le l
    unfold dcount
    rw [List.nodup_cons]
    by_cases hx : x ∈ l
    · rw [if_pos (by simpa using hx)]
      exact ⟨fun e => by rw [List.length_cons] at e; omega, fun e => absurd hx e.1⟩
    · rw [if_neg (by simpa using hx), List.length_cons]
      exact ⟨fun e => ⟨hx, h.mp (by omega)⟩, fun e => by rw [h.mpr e.2]⟩
/-- going from the left: dcount of what is passed -/
def dpass (xs : List Str) (i : Nat) : Nat := dcount (xs.take i).reverse
theorem dpass_next {xs : List Str} {i : Nat} {x : Str} (h : xs[i]? = some x) : dpass xs (i + 1) = if (xs.take i).any (· == x) then dpass xs i else dpass xs i + 1 := by
  have hi := (List.getElem?_eq_some_iff.mp h).1
  have e : xs.take (i + 1) = xs.take i ++ [x] := by rw [List.take_succ, h]; rfl
  unfold dpass
  rw [e, List.reverse_append]
  show (if (xs.take i).reverse.contains x then dcount (xs.take i).reverse else dcount (xs.take i).reverse + 1) = _
  by_cases hx : x ∈ xs.take i
  · rw [if_pos (by simpa using hx), if_pos (by simpa using hx)]
  · rw [if_neg (by simpa using hx), if_neg (by simpa using hx)]
theorem dpass_le (xs : List Str) (i : Nat) : dpass xs i ≤ i := by
  refine Nat.le_trans (dcount_le _) ?_
  rw [List.length_reverse, List.length_take]
  omega
def hasIn (xs : List Str) (i : Nat) (y : Str) : Bool := (xs.take i).any (· == y)
theorem hasIn_next {xs : List Str} {i : Nat} {x : Str} (h : xs[i]? = some x) (y : Str) : (hasIn xs i y || decide (y = x)) = hasIn xs (i + 1) y := by
  have e : xs.take (i + 1) = xs.take i ++ [x] := by rw [List.take_succ, h]; rfl
  unfold hasIn
  rw [e, List.any_append]
  have : ([x].any (· == y)) = decide (y = x) := by
    by_cases hy : y = x
    · subst hy; simp
    · have : ¬ x = y := fun q => hy q.symm
      simp [hy, this]
  rw [this]
section
variable {prog : Program} {w : World} {A : Around} {R : Result → Shared → Prop} {I : Addr} {fp wr : List Addr} {G : Array GenState → Array GenState → Prop} {n : Nat} {P : Nat → Value → Prop} {St : Nat → Shared → Prop}
theorem set_turns (W : WalksS prog w A.in1 I fp wr G n P St) {S : Addr} (nS : S ∉ fp) {xs : List Str} (hn : n < 4096) (hv : ∀ i v, P i v → ∃ x t, xs[i]? = some x ∧ v = Value.str x t) : ∀ (m i : Nat) (s : Shared), n - i = m → i ≤ n → St i s →
    s.heap.SetOf (PySem.strKind prog w) S (hasIn xs i) (dpass xs i) →
    (∀ s', Moved (S :: wr) G s s' → s'.heap.SetOf (PySem.strKind prog w) S (hasIn xs n) (dpass xs n) → R (.ok (.ret .none)) s') → codeAny (model prog w) A (.builtin "set.update.loop" ⟨[.ref S, .ref I], []⟩) R s := by
  have nW : S ∉ wr := fun h => nS (W.sub _ h)
  have inc : ∀ b ∈ wr, b ∈ S :: wr := fun b hb => List.mem_cons_of_mem _ hb
  have carry : ∀ {s s' : Shared} {f : Str → Bool} {j : Nat}, Moved wr G s s' → s.heap.SetOf (PySem.strKind prog w) S f j → s'.heap.SetOf (PySem.strKind prog w) S f j := fun {s s' f j} mv h => by
    obtain ⟨o, es, ep, t, ho, r⟩ := h
    exact ⟨o, es, ep, t, mv.heap S _ nW ho, r⟩
  intro m
  induction m with
  | zero =>
    intro i s hm hi st hS done
    obtain rfl : i = n := by omega
    refine codeAny_builtin PyProof.Rows.F.entry_set_update_loop ?_
    rw [Around.under_plainId PyProof.Rows.F.plain_set_update_loop _]
    show wpAny _ A.in1 (pyNext (.ref I) >>= _) _ _ s
    exact wpAny_bind (W.done s _ _ st fun s' mv => (show wpAny _ A.in1 (ret Value.none) _ _ s' from wpAny_pure (done s' (mv.mono inc) (carry mv hS))))
  | succ m ih =>
    intro i s hm hi st hS done
    have lt : i < n := by omega
    refine codeAny_builtin PyProof.Rows.F.entry_set_update_loop ?_
    rw [Around.under_plainId PyProof.Rows.F.plain_set_update_loop _]
    show wpAny _ A.in1 (pyNext (.ref I) >>= _) _ _ s
    refine wpAny_bind (W.item i s _ _ lt st fun v s' hP st' mv => ?_)
    obtain ⟨x, t, hx, rfl⟩ := hv i v hP
    have hS' := carry mv hS
    have hdl := dpass_le xs i
    show wpAny _ A.in1 (holding [Value.str x t] (setAdd S (.str x t)) >>= _) _ _ s'
    refine wpAny_bind (wpAny_holding ?_)
    unfold setAdd
    refine wpAny_holding (wpAny_bind ((PySem.strKind prog w).pyHash (k := x) (strKind_is _ _ _ _) ?_))
    refine wpAny_setAddHashed_of (knd := PySem.strKind prog w) (s := { s' with toks := s'.toks + 1 }) (strKind_is _ _ _ _) rfl hS' (by unfold scanBound; omega) fun h' sb hS2 => ?_
    have hS3 : h'.SetOf (PySem.strKind prog w) S (hasIn xs (i + 1)) (dpass xs (i + 1)) := SetOf_congr hS2 (fun y => hasIn_next hx y) (by rw [dpass_next hx]; rfl)
    refine wpAny_pure ⟨plainId_quiet PyProof.Rows.F.plain_set_update_loop _, ih (i + 1) _ (by omega) lt (W.frame _ s' _ _ st' (Nat.le_succ _) fun b hb o e => (sb.2 b fun z : b = S => nS (by rw [← z]; exact hb)).trans e) hS3 fun s'' mv2 hS'' => ?_⟩
    exact done s'' (Moved.trans W.gtrans ((mv.mono inc).then_heap (Nat.le_succ _) fun b o hb e => (sb.2 b fun z : b = S => hb (by rw [z]; exact List.mem_cons_self)).trans e) mv2) hS''
end
section
variable {prog : Program} {w : World} {A : Around} {E : Value → Shared → Prop} {s : Shared}
theorem set_of_texts {l : Addr} {items : Array Value} {xs : List Str} {Q : Value → Shared → Prop} (hh : A.handled = none) (hl : s.heap.IsList l items) (hi : PyProof.Rows.StrsAre items.toList xs) (hn : xs.length < 4096)
    (h : ∀ (h' : Heap) (tk : Nat), h'.SetOf (PySem.strKind prog w) s.heap.objs.size (hasIn xs xs.length) (dpass xs xs.length) → (∀ b o, s.heap.get? b = some o → h'.get? b = some o) → Q (.ref s.heap.objs.size) { s with heap := h', toks := tk }) :
    wpAny (model prog w) A (call (.type "set") [.ref l]) Q E s := by
  obtain ⟨c, tl, hmro⟩ := PySem.F.called_set.mro
  have made := PySem.F.called_set.made
  have sub := PySem.F.called_set.sub
  have h1 := PySem.F.called_set.notType
  have h2 := PySem.F.called_set.canCreate
  have h3 := PySem.F.typeCall_set_1 (.ref l)
  have hsz : xs.length = items.size := by rw [← StrsAre.len_eq hi, Array.length_toList]
  refine wpAny_call (codeAny_of_tree ?_)
  show wpAny _ _ (callAny (.type "set") _) _ _ _
  refine wpAny_pure ⟨Code.quiet_builtin _ (by decide +kernel), codeAny_builtin PySem.F.entry_type_call ?_⟩
  rw [Around.under_plain (weight_type_call_type "set" [.ref l] []) rfl]
  repeat (any_goals (first | assumption | wp_step))
  refine codeAny_mono (code_set_new_1 (.ref l) (E := E) (Q₁ := fun u s₁ => ∃ b : Bool, u = .ref s.heap.objs.size ∧ s₁ = { s with heap := s.heap.push { cls := .type "set", dict := none, data := .set #[] 0 (.fresh 0 0 b) } }) fun b => ⟨b, rfl, rfl⟩) fun r s₁ hr => ?_
  cases r with
  | error e => exact hr
  | ok fl => cases fl with
    | ret u =>
      obtain ⟨led, rfl, rfl⟩ := hr
      have gS : (s.heap.push { cls := .type "set", dict := none, data := .set #[] 0 (.fresh 0 0 led) }).get? s.heap.objs.size = some { cls := .type "set", dict := none, data := .set #[] 0 (.fresh 0 0 led) } := Heap.get?_push_size _ rfl
      have tS : Shared.TypeIs { s with heap := s.heap.push { cls := .type "set", dict := none, data := .set #[] 0 (.fresh 0 0 led) } } (.ref s.heap.objs.size) "set" := ⟨_, gS, rfl⟩
      have look := PySem.F.called_set.init.lookup
      have bnd := PySem.F.called_set.init.bind (.ref s.heap.objs.size)
      repeat (any_goals (first | assumption | wp_step))
      refine codeAny_mono (codeAny_call_builtin (R := wants (fun r s₂ => r = .none ∧ ∃ h' tk, s₂ = { s with heap := h', toks := tk } ∧ h'.SetOf (PySem.strKind prog w) s.heap.objs.size (hasIn xs xs.length) (dpass xs xs.length) ∧
          (∀ b o, s.heap.get? b = some o → h'.get? b = some o)) E) PySem.F.called_set.init.plain PySem.F.entry_set_init (check_set_init_1 tS ?_)) fun r₂ s₂ hr₂ => ?_
      · obtain ⟨⟨ocl, odi, oda, osl⟩, hol, hcl, nl, hdl⟩ := hl
        simp only at hcl hdl
        subst hcl
        subst hdl
        have lS : l < s.heap.objs.size := Heap.lt_size hol
        have hl1 : (s.heap.push { cls := .type "set", dict := none, data := .set #[] 0 (.fresh 0 0 led) }).IsList l items := ⟨_, Heap.get?_push_of_some _ hol, rfl, nl, rfl⟩
        have sb1 := PySem.F.sub_list_set
        have sb2 := PySem.F.sub_list_frozenset
        have ne0 : (Value.type "list" == Value.type "dict") = false := by decide
        have hol' : (s.heap.push { cls := .type "set", dict := none, data := .set #[] 0 (.fresh 0 0 led) }).get? l = some { cls := .type "list", dict := odi, data := .seq items nl, slots := osl } := Heap.get?_push_of_some _ hol
        unfold Builtin.«set.__init__» noKeywords Builtin.Frozenset.updateFrom
        generalize hPI : pyIter = PI
        wp_walk
        subst hPI
        refine wpAny_pyIter_list hl1 (wpAny_bind (wpAny_runValue ?_))
        have sz1 : (s.heap.push { cls := .type "set", dict := none, data := .set #[] 0 (.fresh 0 0 led) }).objs.size = s.heap.objs.size + 1 := Heap.size_push ..
        refine set_turns ((Walks.list (by simp [hh]) _ l (by rw [sz1]; exact Nat.ne_of_lt (Nat.lt_succ_of_lt lS)) items).toS) (S := s.heap.objs.size) (xs := xs) ?nS (by rw [← hsz]; exact hn) (fun i v hv => ?_) (items.size - 0) 0 _ (by omega) (Nat.zero_le _) ⟨⟨_, Heap.get?_push_size _ rfl, rfl, rfl⟩, (hl1.push _)⟩ ?s0 ?fin
        case nS =>
          rw [sz1]
          intro z
          rcases List.mem_cons.mp z with z | z
          · exact Nat.ne_of_lt (Nat.lt_succ_self _) z
          · exact Nat.ne_of_gt lS (List.mem_singleton.mp z)
        case s0 =>
          exact SetOf_congr ((PyProof.Rows.setObjOf_fresh (knd := PySem.strKind prog w) led).setOf (Heap.get?_push_of_some _ gS) (by unfold scanBound; omega)) (fun _ => rfl) rfl
        case fin =>
          intro s' mv hS'
          rw [← hsz] at hS'
          obtain ⟨h', g', d', tk', os'⟩ := s'
          obtain rfl : g' = s.gens := mv.gens
          obtain rfl : d' = s.drawn := mv.drawn
          obtain rfl : os' = s.os := mv.os
          show wpAny _ _ _ _ _ _
          refine wpAny_pure ?_
          show wpAny _ _ (ret Value.none) _ _ _
          refine wpAny_pure ⟨rfl, h', tk', rfl, hS', fun b o e => ?_⟩
          have lb := Heap.lt_size e
          refine mv.heap b o (fun z => ?_) (Heap.get?_push_of_some _ (Heap.get?_push_of_some _ e))
          rw [sz1] at z
          rcases List.mem_cons.mp z with z | z
          · exact Nat.ne_of_lt lb z
          · exact Nat.ne_of_lt (Nat.lt_succ_of_lt lb) (List.mem_singleton.mp z)
        obtain ⟨t, e⟩ := SS.strs_at hi i v (by rw [Array.getElem?_toList]; exact hv)
        have hi' : i < xs.length := by
          rw [hsz]
          exact (Array.getElem?_eq_some_iff.mp hv).1
        exact ⟨xs[i], t, List.getElem?_eq_getElem hi', by rw [e, List.getD_eq_getElem?_getD, List.getElem?_eq_getElem hi'] <;> rfl⟩
      · cases r₂ with
        | error e => exact hr₂
        | ok f2 => cases f2 with
          | ret r =>
            obtain ⟨rfl, h', tk, rfl, hS', kp⟩ := hr₂
            repeat (any_goals (first | assumption | wp_step))
            exact h _ _ hS' kp
          | _ => exact hr₂.elim
    | _ => exact hr.elim
end
section
variable {X : Cx}
/-- len(set(xs)) -/
theorem pe_lenSets {a : Expr} {ta : TE} {p p2 q pos : Pos} (hc : X.calm = true) (hg : Gl X "len") (hm : X.mg "len" = none) (hg2 : Gl X "set") (hm2 : X.mg "set" = none) (ha : PE X a ta) (na : starEach [a] X.env = (false, eval a X.env) :: starEach [] X.env := by rfl) :
    PE X (.Call (.Name "len" p) [.Call (.Name "set" p2) [a] [] q] [] pos) (fun σ H Q => ta σ H fun x H1 => ∃ (l : Addr) (xs : List Str), x = .ref l ∧ SqL X.K H1 l (xs.map V.str) ∧ xs.length < 4096 ∧ Q (.int (dcount xs.reverse)) H1) := by
  refine ⟨fun pins s σ H Q I h => ?_⟩
  refine Call_ (ld_blt I hg hm boot_len (PyProof.Rows.callWith_builtin1 (PyProof.Rows.args_cons ?_ rfl) rfl rfl))
  refine Call_ (ld_blt I hg2 hm2 boot_set (PyProof.Rows.callWith_type1 (PyProof.Rows.args_cons (thn (ha.run pins s σ H _ I h) fun v s1 ⟨x, H1, I1, r1, q1⟩ => PyProof.Rows.args_nil ?_) na) na rfl))
  obtain ⟨l, xs, rfl, hq, hn, q1⟩ := q1
  cases r1
  obtain ⟨its, r, pl, hz⟩ := I1.list hq
  refine set_of_texts (I1.ok.hd hc) pl.isList (by simpa using strsAre_of r) hn fun h' tk hS kp => PyProof.Rows.args_nil ?_
  obtain ⟨o, es, ep, t, ho, hex, hd, _, _, _, hf, he⟩ := hS
  have hd0 := dpass_le xs xs.length
  have e0 : dpass xs xs.length = dcount xs.reverse := by unfold dpass; rw [List.take_length]
  refine call_len_set ho hex hd hf (by rw [he]; omega) ⟨.int (dcount xs.reverse), H1, (I1.kept kp).tok _, ⟨_, by rw [he, e0]⟩, q1⟩
end
end K88

set_option maxHeartbeats 4000000
/-! ## 4. What can be called: lambdas with parameters and captured names, handed to methods -/
namespace K88
open PySem PySem.Spec PyProof.Rows L2
open LamX (CodeO TabS Tabs ExtN TabB lamEnv)
/-- a later state -/
def Aft (H H1 : Hp) (h h1 : Heap) : Prop := ∃ fr, Un fr [] H H1 h h1
theorem Aft.trans {H H1 H2 : Hp} {h h1 h2 : Heap} (a : Aft H H1 h h1) (b : Aft H1 H2 h1 h2) : Aft H H2 h h2 := by
  obtain ⟨f, a⟩ := a
  obtain ⟨g, b⟩ := b
  exact ⟨f ++ g, (a.mono (fun x hx => List.mem_append_left _ hx) fun x hx => hx).trans (b.mono (fun x hx => List.mem_append_right _ hx) fun x hx => hx)⟩
theorem Aft.rfl' {H : Hp} {h : Heap} : Aft H H h h := ⟨[], Un.refl⟩
/-- f can be called from each state that follows (s, H): it keeps sp -/
def CallAt (P : Program) (w : World) (K : PySem.W.Frag) (mg : Str → Option Value) (base : Heap) (k : Nat) (f : Addr) (s : Shared) (H : Hp) (sp : Sp) : Prop :=
  ∀ (A : Around) (outer : List Env) (s1 : Shared) (H1 : Hp), Env0 P w K mg base A outer s1 H1 → Aft H H1 s.heap s1.heap →
    PySem.W.FnAt f s1.heap ∧ ∀ (us : List Value) (vs : List V) (Q : VK) (E : XK), Room k A → Vals vs us → sp vs H1 Q E → codeAny (model P w) A (.call (.ref f) ⟨us, []⟩) (CR (L2.CX P w) outer P w H1 s1 Q E) s1
theorem CallAt.later {P : Program} {w : World} {K : PySem.W.Frag} {mg : Str → Option Value} {base : Heap} {k : Nat} {f : Addr} {s s' : Shared} {H H' : Hp} {sp : Sp} (c : CallAt P w K mg base k f s H sp) (a : Aft H H' s.heap s'.heap) :
    CallAt P w K mg base k f s' H' sp := fun A outer s1 H1 e b => c A outer s1 H1 e (a.trans b)
theorem CallAt.mono {P : Program} {w : World} {K : PySem.W.Frag} {mg : Str → Option Value} {base : Heap} {j k : Nat} {f : Addr} {s : Shared} {H : Hp} {sp : Sp} (c : CallAt P w K mg base j f s H sp) (h : j ≤ k) : CallAt P w K mg base k f s H sp :=
  fun A outer s1 H1 e b => ⟨(c A outer s1 H1 e b).1, fun us vs Q E hr => (c A outer s1 H1 e b).2 us vs Q E (hr.mono h)⟩
/-- a def of the text, as a value -/
theorem callAt_def {P : Program} {w : World} {K : PySem.W.Frag} {mg : Str → Option Value} {base : Heap} {k : Nat} {f : Addr} {fd : FuncData} {ps : List Str} {sp : Sp} (F : FnOk P w K mg base CX0 k f fd ps sp) (hb : Binds K fd ps [])
    (hf : ∃ oc od sl, K.lookup f = some ⟨oc, od, .func fd, sl⟩) (s : Shared) (H : Hp) : CallAt P w K mg base k f s H sp := by
  intro A outer s1 H1 e0 _
  have KX : K.In s1.heap := e0.mod.kin.keeps fun b o e => (e0.bs b o e).1
  obtain ⟨oc, od, sl, lk⟩ := hf
  refine ⟨⟨oc, od, fd, sl, KX _ _ lk⟩, fun us vs Q E hr r h => ?_⟩
  have hl : us.length = ps.length := by rw [← r.length]; exact F.len _ _ _ _ h
  have hbb := hb s1 us KX (by simpa using hl)
  rw [List.append_nil] at hbb
  refine codeAny_mono (F.run A outer s1 H1 ⟨us, []⟩ us vs Q E hr e0 hbb r h) fun rr s' hq => ?_
  cases rr with
  | error e => exact (show False from hq).elim
  | ok fl => cases fl with
    | ret u => exact hq
    | next => exact hq
    | brk => exact hq
    | cont => exact hq
theorem zip_keys : ∀ (ps : List Str) (us : List Value), ((ps.zip us).map (·.1)).Sublist ps
  | [], _ => by simp
  | _ :: _, [] => by simp
  | p :: ps, u :: us => by simpa using (zip_keys ps us).cons_cons p
section
variable {X : Cx} {k i : Nat} {f : Addr} {sp : Sp} {E : XK} {x : Str} {p pos : Pos} {e : Expr} {es : List Expr} {t : TA}
/-- x(e, ..), x a name that holds what can be called -/
theorem pe_callF (C : CallAt X.prog X.w X.K X.mg X.base k f X.s_0 X.H_0 sp) (hex : X.ex = []) (hr : Room k X.A) (hN : X.N[i]? = some x) (hv : Vis X.env.scope x) (hx : Passes (L2.CX X.prog X.w) X E) (ha : PA X (e :: es) t)
    (hdb : (x == ("__debug__" : Str)) = false := by decide) (hcd : (x == ("__classdict__" : Str)) = false := by decide)
    (he : starEach (e :: es) X.env = (false, eval e X.env) :: starEach es X.env := by rfl) (hpl : (backTo pos (starEach es X.env)).any (·.1) = false := by rfl) :
    PE X (.Call (.Name x p) (e :: es) [] pos) (fun σ H Q => σ[i]? = some (some (.ref f)) ∧ t σ H fun vs H1 => sp vs H1 Q E) := by
  have aft : ∀ {pins σ H s}, Inv X pins σ H s → Aft X.H_0 H X.s_0.heap s.heap := fun {pins σ H s} I => by
    have b := I.base
    rw [hex] at b
    exact ⟨_, b⟩
  refine ⟨fun pins s σ H Q I h => ?_⟩
  obtain ⟨hs, ht⟩ := h
  refine wpAny_Call_Name_kw (thn ((pe_var (pos := p) hN hv hdb hcd).run pins s σ H (fun v H1 => v = .ref f ∧ H1 = H) I ⟨.ref f, hs, rfl, rfl⟩) fun u s1 ⟨v, H1, I1, r1, q1⟩ => ?_)
  obtain ⟨rfl, rfl⟩ := q1
  cases r1
  refine PySem.W.callWith_F (C X.A X.stack s1 _ I1.env0 (aft I1)).1 (thn (ha.run pos pins s1 σ _ _ I1 ht) fun us s2 ⟨vs, H2, I2, r, q⟩ => ⟨(C X.A X.stack s2 _ I2.env0 (aft I2)).1, ?_⟩) he hpl
  refine wpAny_call (codeAny_mono ((C X.A X.stack s2 _ I2.env0 (aft I2)).2 us vs Q E hr r q) fun r s' hq => ?_)
  cases r with
  | error e => exact hx pins σ H2 s2 e s' I2 hq
  | ok fl => cases fl with
    | ret u => exact I2.after hq
    | next => exact False.elim hq
    | brk => exact False.elim hq
    | cont => exact False.elim hq
end

/-! ### the lambda's body -/
/-- its parameters ps, captured names, globals -/
structure LamP (sc scope : Scope) (ps : List Str) : Prop where
  kind : scope.kind = .function
  co : scope.isCoroutine = false
  gen : scope.isGenerator = false
  par : ∀ x ∈ ps, scope.names.lookup x = some .local
  own : ∀ y ∈ scope.names, y.2 ≠ .cell ∧ (y.2 = .local → y.1 ∈ ps)
  free : ∀ y ∈ scope.names, y.2 = .free → sc.names.lookup y.1 = some .cell ∨ sc.names.lookup y.1 = some .free
def lamPB (sc scope : Scope) (ps : List Str) : Bool :=
  decide (scope.kind = .function) && !scope.isCoroutine && !scope.isGenerator && ps.all (fun x => decide (scope.names.lookup x = some .local)) &&
    scope.names.all fun y => !decide (y.2 = .cell) && (!decide (y.2 = .local) || decide (y.1 ∈ ps)) && (!decide (y.2 = .free) || decide (sc.names.lookup y.1 = some .cell) || decide (sc.names.lookup y.1 = some .free))
theorem lamP_by {sc scope : Scope} {ps : List Str} (h : lamPB sc scope ps = true) : LamP sc scope ps := by
  unfold lamPB at h
  simp only [Bool.and_eq_true, Bool.or_eq_true, Bool.not_eq_true', decide_eq_true_eq, decide_eq_false_iff_not, List.all_eq_true] at h
  obtain ⟨⟨⟨⟨h1, h2⟩, h3⟩, h4⟩, h5⟩ := h
  refine ⟨h1, h2, h3, h4, fun y hy => ⟨(h5 y hy).1.1, fun e => ?_⟩, fun y hy e => ?_⟩
  · rcases (h5 y hy).1.2 with z | z
    · exact absurd e z
    · exact z
  · rcases (h5 y hy).2 with (z | z) | z
    · exact absurd e z
    · exact .inl z
    · exact .inr z
theorem LamP.has {X : Cx} {scope : Scope} {ps : List Str} (L : LamP X.env.scope scope ps) (ok : X.Ok) : ∀ y ∈ scope.names, y.2 = .free → ∃ c, X.env.cells.lookup y.1 = some c :=
  fun y hy e => ok.has _ ((L.free y hy e).elim (fun z => .inl z) fun z => .inr z)
/-- the context of its body -/
def lamC (X : Cx) (A : Around) (outer : List Env) (s : Shared) (H : Hp) (E : XK) (scope : Scope) (f c' : Addr) (ps : List Str) : Cx := { LamX.lamCx X A outer s H E scope f c' with N := X.N ++ ps }
theorem zip_look : ∀ {ps : List Str} {us : List Value} {i : Nat} {x : Str} {u : Value}, ps.Nodup → ps[i]? = some x → us[i]? = some u → (ps.zip us).reverse.lookup x = some u := by
  intro ps us i x u nd h1 h2
  have hm : (x, u) ∈ (ps.zip us).reverse := by
    rw [List.mem_reverse]
    refine List.mem_of_getElem? (i := i) ?_
    rw [List.getElem?_zip_eq_some]
    exact ⟨h1, h2⟩
  have key : ∀ {l : List (Str × Value)}, (l.map (·.1)).Nodup → (x, u) ∈ l → l.lookup x = some u := by
    intro l
    induction l with
    | nil => intro _ h; cases h
    | cons q l ih =>
      intro hn h
      obtain ⟨q1, q2⟩ := q
      rw [List.map_cons, List.nodup_cons] at hn
      rcases List.mem_cons.mp h with e | h
      · rw [← e]
        simp [List.lookup]
      · have ne : ¬ x = q1 := fun z => hn.1 (by rw [← z]; exact List.mem_map.mpr ⟨_, h, rfl⟩)
        have e2 : (x == q1) = false := by simpa using ne
        simp only [List.lookup, e2]
        exact ih hn.2 h
  refine key ?_ hm
  rw [List.map_reverse]
  exact (List.reverse_perm _).nodup_iff.mpr (nd.sublist (zip_keys ps us))
section
variable {X : Cx} {pins : List (Addr × Obj)} {σ : L2.St} {H HZ : Hp} {s s1 : Shared}
theorem lam_begin {A : Around} {outer : List Env} {E : XK} {scope : Scope} {f c' : Addr} {h₁ : Heap} {tk : Nat} {ps : List Str} {us : List Value} {vs : List V} (I : Inv X pins σ H s) (L : LamP X.env.scope scope ps) (nd : ps.Nodup) (e0 : Env0 X.prog X.w X.K X.mg X.base A outer s1 HZ) (hd : A.handled = none)
    (af : Aft H HZ s.heap s1.heap) (r : Vals vs us) (hl : vs.length = ps.length) (dj : ∀ x ∈ ps, x ∉ X.N) (hns : h₁.Ns s1.heap.objs.size fun y => (ps.zip us).reverse.lookup y) (kp : ∀ b o, s1.heap.get? b = some o → h₁.get? b = some o) :
    Inv (lamC X A outer s1 HZ E scope f c' ps) [] (σ ++ vs.map some) HZ { s1 with heap := h₁, toks := tk } := by
  obtain ⟨fr, un⟩ := af
  have hfree := L.has I.ok
  have back : ∀ {y c}, (LamX.lamEnv X scope s1.heap.objs.size f c').cells.lookup y = some c → X.env.cells.lookup y = some c := fun {y c} e => by
    rcases cloFrom_mem (PySem.mem_of_lookup e) with z | ⟨z1, z2⟩
    · cases z
    · obtain ⟨c1, h1⟩ := hfree _ z1 rfl
      have h1 : X.env.cells.lookup y = some c1 := h1
      rw [h1] at z2
      rw [h1, show c = c1 from z2]
  have there : ∀ {y}, scope.names.lookup y = some .free → ∃ c, (LamX.lamEnv X scope s1.heap.objs.size f c').cells.lookup y = some c := fun {y} z =>
    mem_lookup (cloFrom_has (cells := X.env.cells) (acc := []) (PySem.mem_of_lookup z : (y, NameKind.free) ∈ scope.names))
  have cellK : ∀ {c : Addr} {v : Option Value}, H c = none → s.heap.IsCell c v → h₁.IsCell c v := fun {c v} n ⟨o, ho, hd⟩ => by
    obtain ⟨sl, q⟩ := un.any ho n (by simp)
    exact ⟨_, kp _ _ q, hd⟩
  have noX : ∀ b : Addr, b ∉ (lamC X A outer s1 HZ E scope f c' ps).ex := fun b z => absurd (show b ∈ ([] : List Addr) from z) (by simp)
  refine ⟨⟨e0.mod, L.kind, rfl, rfl, Nat.le_refl _, fun y z c e1 e2 => I.ok.inj y z c (back e1) (back e2), fun y hy => ?has, fun y c z _ => (show False by have z : false = true := z; cases z).elim, fun _ => hd, Around.frames_deeper e0.frames, .inr ⟨rfl, rfl⟩, fun b z => absurd z (noX b), e0.bs, e0.bsz,
    fun b _ _ => noX b, fun b z => absurd z (noX b), e0.funs, e0.frf⟩, rfl, e0.bare, Un.kept kp, ⟨_, hns, fun i y v e1 e2 e3 => ?loc⟩, fun y c e => ?cell, e0.hok.fresh (Nat.le_refl _), fun y c e => ?fc, fun q hq => absurd (show q ∈ ([] : List (Addr × Obj)) ++ [] from hq) (by simp), e0.hok.kept kp, ?len⟩
  case has =>
    have hy : scope.names.lookup y = some .cell ∨ scope.names.lookup y = some .free := hy
    rcases hy with hy | hy
    · exact absurd rfl (L.own _ (PySem.mem_of_lookup hy)).1
    · exact there hy
  case loc =>
    have e1 : (X.N ++ ps)[i]? = some y := e1
    have e3 : Vis scope y := e3
    by_cases hi : i < X.N.length
    · have e1' : X.N[i]? = some y := by rw [List.getElem?_append_left hi] at e1; exact e1
      have e2' : σ[i]? = some (some v) := by rw [List.getElem?_append_left (by rw [I.len]; exact hi)] at e2; exact e2
      rcases e3 with z | z | z
      · exact absurd (List.mem_of_getElem? e1') (dj _ ((L.own _ (PySem.mem_of_lookup z)).2 rfl))
      · exact absurd rfl (L.own _ (PySem.mem_of_lookup z)).1
      · obtain ⟨m, hn, hl'⟩ := I.loc
        obtain ⟨w', rv, q⟩ := hl' i y v e1' e2' ((L.free _ (PySem.mem_of_lookup z) rfl).elim (fun z => .inr (.inl z)) fun z => .inr (.inr z))
        obtain ⟨c2, h2⟩ := there z
        refine ⟨w', rv, .inr ⟨.inr z, c2, h2, ?_⟩⟩
        have c1 := back h2
        rcases q with ⟨k', _⟩ | ⟨_, c3, e', z'⟩
        · have k' : X.env.scope.names.lookup y = some .local := k'
          rcases L.free _ (PySem.mem_of_lookup z) rfl with k2 | k2 <;> rw [show X.env.scope.names.lookup y = _ from k2] at k' <;> cases k'
        · rw [c1] at e'
          cases e'
          exact cellK (I.freeC y _ c1) z'
    · rw [List.getElem?_append_right (by omega)] at e1
      rw [List.getElem?_append_right (by rw [I.len]; omega), I.len, List.getElem?_map] at e2
      obtain ⟨v', e4, e5⟩ := Option.map_eq_some_iff.mp e2
      cases e5
      obtain ⟨u, hu, rv⟩ := r.get e4
      exact ⟨u, rv, .inl ⟨L.par _ (List.mem_of_getElem? e1), zip_look nd e1 hu⟩⟩
  case cell =>
    obtain ⟨w', z⟩ := I.cell y c (back e)
    exact ⟨w', cellK (I.freeC y c (back e)) z⟩
  case fc =>
    obtain ⟨v, o, ho, hd⟩ := I.cell y c (back e)
    exact un.free c o ho (I.freeC y c (back e)) (by simp)
  case len =>
    show (σ ++ vs.map some).length = (X.N ++ ps).length
    rw [List.length_append, List.length_append, List.length_map, I.len, hl]
/-- a made lambda can be called -/
theorem callAt_lam {k : Nat} {f c' : Addr} {pm ctv : Value} {params : Arguments} {body : Expr} {scope : Scope} {ps : List Str} {tb : XK → TE} (I : Inv X pins σ H s) (L : LamP X.env.scope scope ps) (nd : ps.Nodup) (dj : ∀ x ∈ ps, x ∉ X.N)
    (hf : s.heap.get? f = some (PySem.W.kla_obj "<lambda>" (X.env.qual ++ "<lambda>") params body scope (cloFrom X.env.cells scope.names []) pm c' ctv)) (hfn : H f = none)
    (hbind : ∀ us : List Value, us.length = ps.length → bindArgs (PySem.W.kla_fn "<lambda>" (X.env.qual ++ "<lambda>") params body scope (cloFrom X.env.cells scope.names []) pm (.ref c') ctv) ⟨us, []⟩ = pure (ps.zip us))
    (hbody : ∀ (A : Around) (outer : List Env) (s1 : Shared) (H1 : Hp) (E : XK), Room k (A.deeper (lamEnv X scope s1.heap.objs.size f c')) → Aft H H1 s.heap s1.heap → PE (lamC X A outer s1 H1 E scope f c' ps) body (tb E)) :
    CallAt X.prog X.w X.K X.mg X.base (k + 1) f s H (fun vs H1 Q E => vs.length = ps.length ∧ H1 c' = some (CodeO c' (X.env.qual ++ "<lambda>")) ∧ tb E (σ ++ vs.map some) H1 Q) := by
  intro A outer s1 H1 e0 af
  obtain ⟨fr, un⟩ := id af
  obtain ⟨sl, of1⟩ := un.any hf hfn (by simp)
  refine ⟨⟨_, _, _, _, of1⟩, fun us vs Q E hr r h => ?_⟩
  obtain ⟨hl, hc, ht⟩ := h
  obtain ⟨⟨oc, cvs, t, hoc, hdc, hvc⟩, _, _⟩ := e0.hok c' _ hc
  have KX : X.K.In s1.heap := e0.mod.kin.keeps fun b o e => (e0.bs b o e).1
  have lim : s1.heap.NoLimit := e0.mod.nolimit.keeps fun b o e => (e0.bs b o e).1
  refine PySem.W.kla_callFunE hr.depth of1 rfl L.co L.gen rfl ⟨c', oc, cvs, t, rfl, hoc, hdc, hvc⟩ ?_
  rw [hbind us (by rw [← r.length]; exact hl)]
  refine wpAny_pure (wpAny_newFunctionEnv (fun y hy => (L.own y hy).1) (fun y hy => L.par _ (List.of_mem_zip (show (y.1, y.2) ∈ ps.zip us from hy)).1) (fun h₁ hns hsb => ⟨lim.fresh _ hsb, ?_⟩) L.kind)
  show codeAny _ _ (.expr body (lamEnv X scope s1.heap.objs.size f c')) _ _
  have kp : ∀ b o, s1.heap.get? b = some o → h₁.get? b = some o := fun b o e => hsb.extBut b o (Nat.ne_of_lt (Heap.lt_size e)) (Heap.get?_push_of_some _ e)
  have J : Inv (lamC X A outer s1 H1 E scope f c' ps) [] (σ ++ vs.map some) H1 { s1 with heap := h₁, toks := s1.toks + (ps.zip us).length } := lam_begin I L nd e0 hr.hd af r hl dj hns kp
  refine PySem.W.kla_codeExpr (wpAny_mono ((hbody A outer s1 H1 E (hr.deeper _) af).run [] _ _ H1 Q J ht) (fun v s' hq => ?_) fun e s' hq => hq)
  obtain ⟨w', H', J', rv, q⟩ := hq
  exact ⟨w', H', J'.os, J'.bare, J'.base, J'.hok, rv, q⟩
end
end K88

set_option maxHeartbeats 4000000
/-! ## 5. Methods that call what they get -/
namespace K88
open PySem PySem.Spec PyProof.Rows L2
open LamX (CodeO TabS Tabs ExtN TabB lamEnv)
abbrev Can := Nat → Addr → Sp → Prop
/-- a promise that speaks of what can be called -/
def FnS (P : Program) (w : World) (K : PySem.W.Frag) (mg : Str → Option Value) (base : Heap) (k : Nat) (f : Addr) (fd : FuncData) (ps : List Str) (sp : Can → Sp) : Prop :=
  ∀ (A : Around) (outer : List Env) (s : Shared) (H : Hp) (args : Args) (us : List Value) (vs : List V) (Q : VK) (E : XK), Room k A → Env0 P w K mg base A outer s H → BindsTo s fd args (ps.zip us) → Vals vs us → vs.length = ps.length →
    sp (fun j f' sp' => CallAt P w K mg base j f' s H sp') vs H Q E → codeAny (model P w) A (.call (.ref f) args) (CR (L2.CX P w) outer P w H s Q E) s
structure MetS (P : Program) (w : World) (K : PySem.W.Frag) (mg : Str → Option Value) (base : Heap) (k : Nat) (C : Addr) (m : Str) (n : Nat) (sp : Can → Sp) (dvs : List V) : Prop where
  ex : ∃ (f : Addr) (fd : FuncData) (ps : List Str) (ds : List Value), Cls K C ∧ Meth K C m f ∧ FnS P w K mg base k f fd ps sp ∧ Binds K fd ps ds ∧ Vals dvs ds ∧ ps.length = n + dvs.length
/-- such a def's body -/
theorem fnS_ok {P : Program} {w : World} {K : PySem.W.Frag} {mg : Str → Option Value} {base : Heap} {k : Nat} {f : Addr} {name qual : Str} {params : Arguments} {body : List Stmt} {scope : Scope} {dV kV doc pm cdv ct oc : Value} {an od : Option Addr} {osl : Array (Option Value)} {N ps : List Str} {sp : Can → Sp}
    (lk : K.lookup f = some ⟨oc, od, .func (PySem.W.fnOf name qual params body scope dV kV doc pm an cdv ct), osl⟩) (hcd : PySem.W.codeIn K cdv qual = true) (S : FnScope N ps scope)
    (hbody : ∀ (A : Around) (outer : List Env) (s : Shared) (H : Hp) (vs : List V) (Q : VK) (E : XK), Room k (A.deeper (envOfC qual scope s.heap.objs.size f cdv)) → sp (fun j f' sp' => CallAt P w K mg base j f' s H sp') vs H Q E →
      ∃ t, PSs (cxOf (L2.CX P w) P w K mg base N qual scope f cdv A outer s H E) body t ∧ t { nx := fun _ H' => Q .non H', rt := Q } (L2.start N vs) H) :
    FnS P w K mg base (k + 1) f (PySem.W.fnOf name qual params body scope dV kV doc pm an cdv ct) ps sp :=
  fun A outer s H args us vs Q E hr e0 hb r hl hsp => LamX.run_ofS (vs := vs) lk hcd S hr e0 hb r hl fun hr' => hbody A outer s H vs Q E hr' hsp
section
variable {X : Cx} {j k n : Nat} {C : Addr} {m : Str} {sp : Can → Sp} {dvs : List V} {E : XK} {o e : Expr} {es : List Expr} {ta : TE} {t : TA} {apos pos : Pos}
theorem run_fnS {pins : List (Addr × Obj)} {σ : L2.St} {H : Hp} {s : Shared} {Q : VK} {us ds : List Value} {vs : List V} {f : Addr} {fd : FuncData} {ps : List Str} (F : FnS X.prog X.w X.K X.mg X.base k f fd ps sp) (hr : Room k X.A) (hb : Binds X.K fd ps ds) (hd : Vals dvs ds) (hx : Passes (L2.CX X.prog X.w) X E)
    (I : Inv X pins σ H s) (r : Vals vs us) (hl : (vs ++ dvs).length = ps.length) (h : sp (fun j f' sp' => CallAt X.prog X.w X.K X.mg X.base j f' s H sp') (vs ++ dvs) H Q E) : wpAny (model X.prog X.w) X.A (call (.ref f) us) (EP X pins σ Q) X.xe s := by
  have r2 : Vals (vs ++ dvs) (us ++ ds) := r.append hd
  have hl2 : (us ++ ds).length = ps.length := by rw [← r2.length]; exact hl
  refine wpAny_call (codeAny_mono (F X.A X.stack s H ⟨us, []⟩ (us ++ ds) (vs ++ dvs) Q E hr I.env0 (hb s us I.kIn hl2) r2 hl h) fun rr s' hq => ?_)
  cases rr with
  | error e => exact hx pins σ H s e s' I hq
  | ok fl => cases fl with
    | ret u => exact I.after hq
    | next => exact False.elim hq
    | brk => exact False.elim hq
    | cont => exact False.elim hq
/-- o.m(e, ..): what it gets among the arguments are defs of the text -/
def tMtS (C : Addr) (m : Str) (n : Nat) (CanK : Can) (sp : Can → Sp) (dvs : List V) (E : XK) (ta : TE) (t : TA) : TE := fun σ H Q => ta σ H fun x H1 => ∃ a dx fs, x = .ref a ∧ H1 a = some (.ins C dx fs) ∧ fs.lookup m = none ∧
  t σ H1 fun vs H2 => vs.length + 1 = n ∧ ∀ can : Can, (∀ j f s, CanK j f s → can j f s) → sp can (x :: (vs ++ dvs)) H2 Q E
theorem pe_mts {pl : Sem Bool} {CanK : Can} (c : MetS X.prog X.w X.K X.mg X.base k C m n sp dvs) (hK : ∀ j f s, CanK j f s → ∀ st H, CallAt X.prog X.w X.K X.mg X.base j f st H s) (ho : PE X o ta) (hr : Room j X.A) (hk : k ≤ j) (hx : Passes (L2.CX X.prog X.w) X E) (ha : PA X (e :: es) t)
    (hst : starEach (e :: es) X.env = (false, eval e X.env) :: starEach es X.env := by rfl) (hpl : (backTo pos (starEach es X.env)).any (·.1) = false := by rfl)
    (ht : eval (.Call (.Attribute o m apos) (e :: es) [] pos) X.env = (do
      let ov ← eval o X.env
      standAt apos.atName
      let (f, first) ← holding [ov] (getMethod ov m pl)
      callWith pos f first (backTo pos (starEach (e :: es) X.env)) (backToKw pos (keywordEach [] X.env))) := by rfl) : PE X (.Call (.Attribute o m apos) (e :: es) [] pos) (tMtS C m n CanK sp dvs E ta t) := by
  obtain ⟨f, fd, ps, ds, hc, hm, F, hb, hd, hn⟩ := c.ex
  refine ⟨fun pins s σ H Q I h => ?_⟩
  refine PySem.W.methodCall_KW (pl := pl) (thn (ho.run pins s σ H _ I h) fun u s1 ⟨x, H1, I1, rx, a, dx, fs, ex, ea, l, q⟩ => ?_) ht
  subst ex
  obtain rfl : u = Value.ref a := rx
  refine getmeth_ok I1 ea hc hm l ?_
  refine PySem.W.callWith_K (first := [.ref a]) (h₀ := X.base) I.ok.mod.kin hm.kp (thn (ha.run pos pins s1 σ H1 _ I1 q) fun us s2 ⟨vs, H2, I2, r, hv, q2⟩ => ⟨I2.kIn, ?_⟩) hst hpl
  exact run_fnS (us := .ref a :: us) (vs := .ref a :: vs) F (hr.mono hk) hb hd hx I2 (.cons rfl r) (by rw [hn, List.length_append, List.length_cons]; omega) (q2 _ fun j f s z => hK j f s z s2 H2)
/-- o.m(lambda ps: body) -/
def tMtL (C : Addr) (m : Str) (T : List (Addr × Str)) (q : Str) (k : Nat) (np : Nat) (sp : Can → Sp) (dvs : List V) (E : XK) (ta tb : TE) : TE := fun σ H Q => ta σ H fun x H1 => ∃ a dx fs, x = .ref a ∧ H1 a = some (.ins C dx fs) ∧ fs.lookup m = none ∧
  Tabs T H1 ∧ ∀ (f c' : Addr) (H2 : Hp), ExtN H1 H2 → Tabs T H2 → H2 c' = some (CodeO c' q) → ∀ can : Can, can (k + 1) f (fun vs H3 Q3 _ => vs.length = np ∧ H3 c' = some (CodeO c' q) ∧ tb (σ ++ vs.map some) H3 Q3) →
    sp can (x :: .ref f :: dvs) H2 Q E
theorem pe_mtl {pl : Sem Bool} {kl : Nat} {T : List (Addr × Str)} {c P : Addr} {params : Arguments} {body : Expr} {scope : Scope} {lps : List Str} {tb : TE} {lpos : Pos} (cm : MetS X.prog X.w X.K X.mg X.base k C m 2 sp dvs) (ho : PE X o ta) (hr : Room j X.A) (hk : k ≤ j) (hx : Passes (L2.CX X.prog X.w) X E)
    (TB : TabB X.base X.mg c P) (hcode : X.env.code = .ref c) (hmT : (P, X.env.qual ++ "<lambda>") ∈ T) (hu : ∀ p ∈ T, p.1 = P → p.2 = X.env.qual ++ "<lambda>") (L : LamP X.env.scope scope lps) (nd : lps.Nodup) (dj : ∀ x ∈ lps, x ∉ X.N) (hdef : defaultsOf params X.env = ([], []))
    (hbind : ∀ (q : Str) (cl : List (Str × Addr)) (pm cv ctv : Value) (us : List Value), us.length = lps.length → bindArgs (PySem.W.kla_fn "<lambda>" q params body scope cl pm cv ctv) ⟨us, []⟩ = pure (lps.zip us))
    (hbody : ∀ (A : Around) (outer : List Env) (pins : List (Addr × Obj)) (σ : L2.St) (s0 s1 : Shared) (H0 H1 : Hp) (E : XK) (f c' : Addr), Inv X pins σ H0 s0 → Aft H0 H1 s0.heap s1.heap → Room kl (A.deeper (lamEnv X scope s1.heap.objs.size f c')) → PE (lamC X A outer s1 H1 E scope f c' lps) body tb)
    (hst : starEach [Expr.Lambda params body scope lpos] X.env = (false, eval (.Lambda params body scope lpos) X.env) :: starEach [] X.env := by rfl) (hpl : (backTo pos (starEach [] X.env)).any (·.1) = false := by rfl)
    (ht : eval (.Call (.Attribute o m apos) [.Lambda params body scope lpos] [] pos) X.env = (do
      let ov ← eval o X.env
      standAt apos.atName
      let (f, first) ← holding [ov] (getMethod ov m pl)
      callWith pos f first (backTo pos (starEach [Expr.Lambda params body scope lpos] X.env)) (backToKw pos (keywordEach [] X.env))) := by rfl) :
    PE X (.Call (.Attribute o m apos) [.Lambda params body scope lpos] [] pos) (tMtL C m T (X.env.qual ++ "<lambda>") kl lps.length sp dvs E ta tb) := by
  obtain ⟨f, fd, ps, ds, hc, hm, F, hb, hd, hn⟩ := cm.ex
  refine ⟨fun pins s σ H Q I h => ?_⟩
  refine PySem.W.methodCall_KW (pl := pl) (thn (ho.run pins s σ H _ I h) fun u s1 ⟨x, H1, I1, rx, a, dx, fs, ex, ea, l, hT, q⟩ => ?_) ht
  subst ex
  obtain rfl : u = Value.ref a := rx
  refine getmeth_ok I1 ea hc hm l ?_
  refine PySem.W.callWith_K (first := [.ref a]) (h₀ := X.base) I.ok.mod.kin hm.kp ?_ hst hpl
  show wpAny _ _ (spliced ((false, eval (.Lambda params body scope lpos) X.env) :: backTo pos (starEach [] X.env))) _ _ s1
  refine Calls.spliced_cons (LamX.lam_make2 I1 TB hcode hmT hu hT hdef (L.has I.ok) fun fl c' pm' ctv H2 s2 I2 eN T2 hf hfn _ hco => ?_)
  refine Calls.spliced_nil ⟨I2.kIn, ?_⟩
  have cl : CallAt X.prog X.w X.K X.mg X.base (kl + 1) fl s2 H2 (fun vs H3 Q3 _ => vs.length = lps.length ∧ H3 c' = some (CodeO c' (X.env.qual ++ "<lambda>")) ∧ tb (σ ++ vs.map some) H3 Q3) :=
    callAt_lam (tb := fun _ => tb) I2 L nd dj hf hfn (fun us hl => hbind _ _ _ _ _ us hl) fun A outer s3 H3 E3 hr3 af => hbody A outer pins σ s2 s3 H2 H3 E3 fl c' I2 af hr3
  exact run_fnS (us := [.ref a, .ref fl]) (vs := [.ref a, .ref fl]) F (hr.mono hk) hb hd hx I2 (.cons rfl (.cons rfl .nil)) (by rw [hn]; simp; omega) (q fl c' H2 eN T2 hco _ cl)
end
end K88

set_option maxHeartbeats 2000000
/-! ## 6. Short words for readings: new objects, comprehensions that change nothing -/
namespace K88
open PySem PySem.Spec PyProof.Rows L2
theorem same_upd {H : Hp} {p : Addr} {o : HO} (n : H p = none) : Same H (upd H p o) := fun b u e => by
  rw [upd_ne (ne_of_none e n)]
  exact e
theorem same_mut {H H' : Hp} {p : Addr} {o : HO} (s : Same H H') (n : H p = none) : Same H (upd H' p o) := fun b u e => by
  rw [upd_ne (ne_of_none e n)]
  exact s b u e
/-- a new object: all that was stands, it stands at a new place -/
theorem newO {H : Hp} {o : HO} {Q : V → Hp → Prop} (h : ∀ p H1, Same H H1 → H p = none → H1 p = some o → Q (.ref p) H1) : ∀ p, H p = none → Q (.ref p) (upd H p o) := fun p n => h p _ (same_upd n) n upd_same
theorem Same.seqT {K : PySem.W.Frag} {H H' : Hp} {a : Addr} {xs : List V} (e : Same H H') (h : SqT K H a xs) : SqT K H' a xs := by
  rcases h with (h | ⟨o, h⟩) | h
  · exact .inl (.inl (e _ _ h))
  · exact .inl (.inr ⟨o, e _ _ h⟩)
  · exact .inr h
/-- a list or a tuple of these -/
def Sq (K : PySem.W.Frag) (H : Hp) (a : Addr) (xs : List V) : Prop := SqL K H a xs ∨ SqT K H a xs
theorem Sq.same {K : PySem.W.Frag} {H H' : Hp} {a : Addr} {xs : List V} (e : Same H H') (h : Sq K H a xs) : Sq K H' a xs := h.elim (fun h => .inl (e.seq h)) fun h => .inr (Same.seqT e h)
theorem walk_signs {z : Str} : Walk (Its z) ((signs z).map V.str).length (fun _ => True) (YAt ((signs z).map V.str)) := by
  have hl : ((signs z).map V.str).length = z.cps.size := by rw [List.length_map, signs_len]
  rw [hl]
  refine walk_str.mono (fun _ h => h) fun i H x H' hi _ y => ⟨y.1, ?_⟩
  obtain ⟨c, e, rfl⟩ := y.2
  unfold signs
  rw [List.getElem?_map, List.getElem?_map, Array.getElem?_toList, e]
  rfl
theorem take_next {α : Type} {l : List α} {i : Nat} {x : α} (h : l[i]? = some x) : l.take (i + 1) = l.take i ++ [x] := by
  rw [List.take_succ, h]
  rfl
section
variable {J : It} {xs : List V} {G : Hp → Prop}
/-- a comprehension whose turns leave all that stands as it stands: f is what an item gives -/
theorem lc_read (w : Walk J xs.length G (YAt xs)) {g : TG} {tt : TT} {te : TE} {vs : List Nat} {σ : L2.St} {H1 : Hp} {D : Addr} {Qd : Hp → Prop} (hD : H1 D = none) (f : V → Option V) (hG : ∀ H', Same H1 H' → G H') (hlen : xs.length < sizeLine)
    (turn : ∀ (i : Nat) (x : V) (H2 : Hp), xs[i]? = some x → Same H1 H2 → ∀ R : Option V → Hp → Prop, (∀ H3, Same H2 H3 → R (f x) H3) → g x (wipe σ vs) H2 fun σ2 H3 => wipe σ2 vs = wipe σ vs ∧ tt σ2 H3 fun b H4 => if b = true then te σ2 H4 (fun y H5 => R (some y) H5) else R none H4)
    (fin : ∀ H', Same H1 H' → H' D = some (.lst (xs.filterMap f)) → Qd H') :
    ∃ W : Nat → Nat → Hp → Prop, (∃ m, W 0 m (upd H1 D (.lst []))) ∧ ∀ i m H, W i m H →
      (J.stop i H ∧ Qd H) ∨ (J.go i H ∧ ∃ Nx : Hp → Prop, (∀ H', Nx H' → ∃ m', m' < m ∧ W (i + 1) m' H') ∧ ∀ x H', J.yld i H x H' → g x (wipe σ vs) H' fun σ2 H2 => wipe σ2 vs = wipe σ vs ∧ tt σ2 H2 fun b H3 =>
        if b = true then te σ2 H3 fun y H4 => ∃ acc, H4 D = some (.lst acc) ∧ acc.length < sizeLine ∧ Nx (upd H4 D (.lst (acc ++ [y]))) else Nx H3) := by
  refine lc_it w (fun i H => Same H1 H ∧ H D = some (.lst ((xs.take i).filterMap f))) ⟨same_upd hD, by rw [upd_same]; rfl⟩ (fun i H _ p => hG H p.1) (fun i x H H' hi p y => ?_) (fun H p => ?_)
  · obtain ⟨eH, ex⟩ := y
    subst eH
    have e1 := take_next ex
    refine turn i x H' ex p.1 (fun o H5 => match o with
      | some y => ∃ acc, H5 D = some (.lst acc) ∧ acc.length < sizeLine ∧ (Same H1 (upd H5 D (.lst (acc ++ [y]))) ∧ upd H5 D (.lst (acc ++ [y])) D = some (.lst ((xs.take (i + 1)).filterMap f)))
      | none => Same H1 H5 ∧ H5 D = some (.lst ((xs.take (i + 1)).filterMap f))) fun H3 s3 => ?_
    cases hf : f x with
    | none =>
      refine ⟨p.1.trans s3, ?_⟩
      rw [s3 _ _ p.2, e1, List.filterMap_append]
      simp [hf]
    | some y =>
      refine ⟨_, s3 _ _ p.2, ?_, same_mut (p.1.trans s3) hD, ?_⟩
      · refine Nat.lt_of_le_of_lt (List.length_filterMap_le _ _) (Nat.lt_of_le_of_lt ?_ hlen)
        rw [List.length_take]
        exact Nat.min_le_right _ _
      · rw [upd_same, e1, List.filterMap_append]
        simp [hf]
  · have e := p.2
    rw [List.take_length] at e
    exact fin H p.1 e
/-- the items, each once, in the order in which they come first -/
instance memK (k : Key) (L : List Key) : Decidable (k ∈ L) := decidable_of_iff ((L.any fun a => decide (a = k)) = true) (by
  rw [List.any_eq_true]
  exact ⟨fun ⟨a, h, e⟩ => (of_decide_eq_true e) ▸ h, fun h => ⟨k, h, decide_eq_true rfl⟩⟩)
def insK (L : List Key) (k : Key) : List Key := if k ∈ L then L else L ++ [k]
def dedupK (ks : List Key) : List Key := ks.foldl insK []
theorem dedupK_snoc (ks : List Key) (k : Key) : dedupK (ks ++ [k]) = insK (dedupK ks) k := by unfold dedupK; rw [List.foldl_append]; rfl
def yesK (ks : List Key) : List (Key × V) := ks.map fun k => (k, V.bl true)
theorem putK_yes (L : List Key) (k : Key) : putK (yesK L) k (.bl true) = yesK (insK L k) := by
  unfold putK insK yesK
  by_cases h : k ∈ L
  · have h2 : ((L.map fun k => (k, V.bl true)).any fun kv => decide (kv.1 = k)) = true := by
      rw [List.any_map, List.any_eq_true]
      exact ⟨k, h, by simp⟩
    rw [if_pos h2, if_pos h, List.map_map]
    refine List.map_congr_left fun a _ => ?_
    show (if a = k then (a, V.bl true) else (a, V.bl true)) = _
    split <;> rfl
  · have h2 : ¬ ((L.map fun k => (k, V.bl true)).any fun kv => decide (kv.1 = k)) = true := by
      rw [List.any_map, List.any_eq_true]
      rintro ⟨a, ha, e⟩
      have e' : a = k := by simpa using e
      exact h (e' ▸ ha)
    rw [if_neg h2, if_neg h, List.map_append]
    rfl
theorem insK_le (L : List Key) (k : Key) : (insK L k).length ≤ L.length + 1 := by
  unfold insK
  split
  · omega
  · simp
theorem dedupK_le (ks : List Key) : (dedupK ks).length ≤ ks.length := by
  suffices h : ∀ (ks L : List Key), (ks.foldl insK L).length ≤ L.length + ks.length by
    have z := h ks []
    rwa [List.length_nil, Nat.zero_add] at z
  intro ks
  induction ks with
  | nil => intro L; simp
  | cons k r ih =>
    intro L
    have h1 := ih (insK L k)
    have h2 := insK_le L k
    rw [List.foldl_cons, List.length_cons]
    omega
/-- {key: True for item in ..} -/
theorem dc_read (w : Walk J xs.length G (YAt xs)) {g : TG} {tt : TT} {tk tv : TE} {vs : List Nat} {σ : L2.St} {H1 : Hp} {D : Addr} {Qd : Hp → Prop} (hD : H1 D = none) (f : V → Key) (hG : ∀ H', Same H1 H' → G H') (hlen : xs.length < sizeLine)
    (turn : ∀ (i : Nat) (x : V) (H2 : Hp), xs[i]? = some x → Same H1 H2 → ∀ R : Option (V × V) → Hp → Prop, (∀ H3, Same H2 H3 → R (some (kV (f x), .bl true)) H3) → g x (wipe σ vs) H2 fun σ2 H3 => wipe σ2 vs = wipe σ vs ∧ tt σ2 H3 fun b H4 => if b = true then tk σ2 H4 (fun y H5 => tv σ2 H5 fun z H6 => R (some (y, z)) H6) else R none H4)
    (fin : ∀ H', Same H1 H' → H' D = some (.dK (yesK (dedupK (xs.map f)))) → Qd H') :
    ∃ W : Nat → Nat → Hp → Prop, (∃ m, W 0 m (upd H1 D (.dK []))) ∧ ∀ i m H, W i m H →
      (J.stop i H ∧ Qd H) ∨ (J.go i H ∧ ∃ Nx : Hp → Prop, (∀ H', Nx H' → ∃ m', m' < m ∧ W (i + 1) m' H') ∧ ∀ x H', J.yld i H x H' → g x (wipe σ vs) H' fun σ2 H2 => wipe σ2 vs = wipe σ vs ∧ tt σ2 H2 fun b H3 =>
        if b = true then tk σ2 H3 fun y H4 => tv σ2 H4 fun z H5 => ∃ kvs k, y = kV k ∧ H5 D = some (.dK kvs) ∧ kvs.length < sizeLine ∧ Nx (upd H5 D (.dK (putK kvs k z))) else Nx H3) := by
  have inv0 : Same H1 (upd H1 D (.dK [])) ∧ upd H1 D (.dK []) D = some (.dK (yesK (dedupK ((xs.take 0).map f)))) := ⟨same_upd hD, by rw [upd_same]; rfl⟩
  refine ⟨fun i m H => m = xs.length - i ∧ i ≤ xs.length ∧ (Same H1 H ∧ H D = some (.dK (yesK (dedupK ((xs.take i).map f))))), ⟨xs.length, by simp, Nat.zero_le _, inv0⟩, ?_⟩
  rintro i m H ⟨rfl, hi, p⟩
  by_cases lt : i < xs.length
  · refine .inr ⟨w.goes i H lt (hG H p.1), fun H' => Same H1 H' ∧ H' D = some (.dK (yesK (dedupK ((xs.take (i + 1)).map f)))), fun H' p' => ⟨xs.length - (i + 1), by omega, rfl, lt, p'⟩, fun x H' y => ?_⟩
    obtain ⟨eH, ex⟩ := w.yields i H x H' lt (hG H p.1) y
    subst eH
    have e1 := take_next ex
    refine turn i x H' ex p.1 (fun o H5 => match o with
      | some (y, z) => ∃ kvs k, y = kV k ∧ H5 D = some (.dK kvs) ∧ kvs.length < sizeLine ∧ (Same H1 (upd H5 D (.dK (putK kvs k z))) ∧ upd H5 D (.dK (putK kvs k z)) D = some (.dK (yesK (dedupK ((xs.take (i + 1)).map f)))))
      | none => Same H1 H5 ∧ H5 D = some (.dK (yesK (dedupK ((xs.take (i + 1)).map f))))) fun H3 s3 => ?_
    refine ⟨_, f x, rfl, s3 _ _ p.2, ?_, same_mut (p.1.trans s3) hD, ?_⟩
    · unfold yesK
      rw [List.length_map]
      refine Nat.lt_of_le_of_lt (dedupK_le _) ?_
      rw [List.length_map, List.length_take]
      omega
    · rw [upd_same, putK_yes, e1, List.map_append]
      show _ = some (HO.dK (yesK (dedupK ((xs.take i).map f ++ [f x]))))
      rw [dedupK_snoc]
  · have e : i = xs.length := by omega
    subst e
    have q := p.2
    rw [List.take_length] at q
    exact .inl ⟨w.stops H (hG H p.1), fin H p.1 q⟩
end
end K88

set_option maxHeartbeats 2000000
/-! ## 7. x(k = v): keywords alone -/
namespace K88
open PySem PySem.Spec PyProof.Rows L2
structure CalK (P : Program) (w : World) (K : PySem.W.Frag) (mg : Str → Option Value) (base : Heap) (CX : CXT) (k : Nat) (x : Str) (ks : List Str) (sp : Sp) : Prop where
  ex : ∃ (f : Addr) (fd : FuncData) (ps : List Str), mg x = some (.ref f) ∧ PySem.W.keepIn K (.ref f) = true ∧ FnOk P w K mg base CX k f fd ps sp ∧ KBn K fd ps 0 ks (fun _ ws => ws) (fun _ zs => zs)
theorem kb1 {K : PySem.W.Frag} {x qual : Str} {st : Stmt} {f : Addr} {fd : FuncData} {p : Str} (F : Fun K x qual st f fd)
    (h : ∀ (kV doc pm : Value) (an : Option Addr) (cdv ct : Value) (u : Value), bindArgs (PySem.W.fnOf x qual (defArgs st) (defBody st) (defScope st) .none kV doc pm an cdv ct) ⟨[], [(p, u)]⟩ = pure [(p, u)]) : KBn K fd [p] 0 [p] (fun _ ws => ws) (fun _ zs => zs) := by
  obtain ⟨oc, od, kV, doc, pm, an, cdv, ct, osl, rfl, lk, hcd⟩ := F.ex
  refine ⟨fun s us ws X l1 l2 => ?_, fun _ r => r⟩
  match us, ws, l1, l2 with
  | [], [u], _, _ =>
    show BindsTo s _ ⟨[], [(p, u)]⟩ [(p, u)]
    refine BindsTo.of_looks fun M => ?_
    rw [h]
    exact PySem.W.Looks.of_pure rfl
section
variable {X : Cx} {CX : CXT} {j k : Nat} {x : Str} {ks : List Str} {sp : Sp} {E : XK} {kws : List Keyword} {tk : TA} {p pos : Pos}
theorem pe_ck (c : CalK X.prog X.w X.K X.mg X.base CX k x ks sp) (hr : Room j X.A) (hk : k ≤ j) (hx : Passes CX X E) (hg : Gl X x) (hkw : PK X kws tk)
    (hall : (backToKw pos (keywordEach kws X.env)).all (·.1.isSome) = true := by rfl) (hks : (backToKw pos (keywordEach kws X.env)).filterMap (·.1) = ks := by rfl) (hdb : (x == ("__debug__" : Str)) = false := by decide)
    (hpl : ((backTo pos (starEach [] X.env)).any (·.1) || (backToKw pos (keywordEach kws X.env)).any (·.1.isNone)) = false := by rfl) : PE X (.Call (.Name x p) [] kws pos) (fun σ H Q => tk σ H fun zs H1 => zs.length = ks.length ∧ sp zs H1 Q E) := by
  obtain ⟨f, fd, ps, h1, h2, F, hb⟩ := c.ex
  refine ⟨fun pins s σ H Q I h => ?_⟩
  refine wpAny_Call_Name_kw (ld_glob I hg h1 ?_ hdb)
  refine PySem.W.callWith_KW0 (h₀ := X.base) I.ok.mod.kin h2 hall ?_ hpl
  refine thn (hkw.run pos pins s σ H _ I h) fun ws s2 ⟨zs, H2, I2, rz, l2, q2⟩ => ⟨I2.kIn, ?_⟩
  rw [hks]
  exact run_fnN (us := []) (vs := []) F (hr.mono hk) hb hx I2 .nil rz rfl l2 q2
end
end K88

set_option maxHeartbeats 2000000
/-! ## 7. The text by places, what its top leaves -/
namespace K88
open PySem PySem.Spec PyProof.Rows L2
open LamX (CodeO TabS Tabs ExtN TabB lamEnv)
def top (i : Nat) : Stmt := PySem.Challenge.pw_everytext_k88_texts_of_manners.main.body.getD i (.Pass ⟨0, 0, 0, 0⟩)
/-- InvalidText.__init__: 0 self, 1 line, 2 word -/
abbrev s_InvalidTextx_initx : Stmt := inClass (top 4) 0
abbrev N_InvalidTextx_initx : List Str := ["self", "line", "word"]
theorem sc_InvalidTextx_initx : FnScope N_InvalidTextx_initx ["self", "line", "word"] (defScope s_InvalidTextx_initx) := ⟨rfl, rfl, rfl, by decide +kernel, rfl, by decide +kernel, by decide +kernel⟩
/-- is_letter: 0 value -/
abbrev s_is_letter : Stmt := top 7
abbrev N_is_letter : List Str := ["value"]
theorem sc_is_letter : FnScope N_is_letter ["value"] (defScope s_is_letter) := ⟨rfl, rfl, rfl, by decide +kernel, rfl, by decide +kernel, by decide +kernel⟩
/-- pair_in: 0 word, 1 sign -/
abbrev s_pair_in : Stmt := top 8
abbrev N_pair_in : List Str := ["word", "sign"]
theorem sc_pair_in : FnScope N_pair_in ["word"] (defScope s_pair_in) := ⟨rfl, rfl, rfl, by decide +kernel, rfl, by decide +kernel, by decide +kernel⟩
/-- letters_row: 0 word, 1 sign -/
abbrev s_letters_row : Stmt := top 9
abbrev N_letters_row : List Str := ["word", "sign"]
theorem sc_letters_row : FnScope N_letters_row ["word"] (defScope s_letters_row) := ⟨rfl, rfl, rfl, by decide +kernel, rfl, by decide +kernel, by decide +kernel⟩
/-- manner_in: 0 line, 1 firsts, 2 lasts, 3 pairs -/
abbrev s_manner_in : Stmt := top 10
abbrev N_manner_in : List Str := ["line", "firsts", "lasts", "pairs"]
theorem sc_manner_in : FnScope N_manner_in ["line"] (defScope s_manner_in) := ⟨rfl, rfl, rfl, by decide +kernel, rfl, by decide +kernel, by decide +kernel⟩
/-- fresh: 0 told, 1 found -/
abbrev s_fresh : Stmt := top 11
abbrev N_fresh : List Str := ["told", "found"]
theorem sc_fresh : FnScope N_fresh ["told", "found"] (defScope s_fresh) := ⟨rfl, rfl, rfl, by decide +kernel, rfl, by decide +kernel, by decide +kernel⟩
/-- Line.__init__: 0 self, 1 text, 2 number -/
abbrev s_Linex_initx : Stmt := inClass (top 12) 0
abbrev N_Linex_initx : List Str := ["self", "text", "number"]
theorem sc_Linex_initx : FnScope N_Linex_initx ["self", "text", "number"] (defScope s_Linex_initx) := ⟨rfl, rfl, rfl, by decide +kernel, rfl, by decide +kernel, by decide +kernel⟩
/-- Line.refuse: 0 self -/
abbrev s_Line_refuse : Stmt := inClass (top 12) 1
abbrev N_Line_refuse : List Str := ["self"]
theorem sc_Line_refuse : FnScope N_Line_refuse ["self"] (defScope s_Line_refuse) := ⟨rfl, rfl, rfl, by decide +kernel, rfl, by decide +kernel, by decide +kernel⟩
/-- Line.is_over: 0 self -/
abbrev s_Line_is_over : Stmt := inClass (top 12) 2
abbrev N_Line_is_over : List Str := ["self"]
theorem sc_Line_is_over : FnScope N_Line_is_over ["self"] (defScope s_Line_is_over) := ⟨rfl, rfl, rfl, by decide +kernel, rfl, by decide +kernel, by decide +kernel⟩
/-- Line.take: 0 self, 1 meaning, 2 found -/
abbrev s_Line_take : Stmt := inClass (top 12) 3
abbrev N_Line_take : List Str := ["self", "meaning", "found"]
theorem sc_Line_take : FnScope N_Line_take ["self", "meaning"] (defScope s_Line_take) := ⟨rfl, rfl, rfl, by decide +kernel, rfl, by decide +kernel, by decide +kernel⟩
/-- Line.collected: 0 self, 1 meaning, 2 ends, 3 least, 4 found, 5 key, 6 thing -/
abbrev s_Line_collected : Stmt := inClass (top 12) 7
abbrev N_Line_collected : List Str := ["self", "meaning", "ends", "least", "found", "key", "thing"]
theorem sc_Line_collected : FnScope N_Line_collected ["self", "meaning", "ends", "least"] (defScope s_Line_collected) := ⟨rfl, rfl, rfl, by decide +kernel, rfl, by decide +kernel, by decide +kernel⟩
/-- line_of: 0 text -/
abbrev s_line_of : Stmt := top 13
abbrev N_line_of : List Str := ["text"]
theorem sc_line_of : FnScope N_line_of ["text"] (defScope s_line_of) := ⟨rfl, rfl, rfl, by decide +kernel, rfl, by decide +kernel, by decide +kernel⟩
/-- is_sign: 0 thing -/
abbrev s_is_sign : Stmt := top 15
abbrev N_is_sign : List Str := ["thing"]
theorem sc_is_sign : FnScope N_is_sign ["thing"] (defScope s_is_sign) := ⟨rfl, rfl, rfl, by decide +kernel, rfl, by decide +kernel, by decide +kernel⟩
/-- signs_in: 0 value, 1 reason, 2 sign -/
abbrev s_signs_in : Stmt := top 17
abbrev N_signs_in : List Str := ["value", "reason", "sign"]
theorem sc_signs_in : FnScope N_signs_in ["value", "reason"] (defScope s_signs_in) := ⟨rfl, rfl, rfl, by decide +kernel, rfl, by decide +kernel, by decide +kernel⟩
/-- is_pair: 0 value -/
abbrev s_is_pair : Stmt := top 18
abbrev N_is_pair : List Str := ["value"]
theorem sc_is_pair : FnScope N_is_pair ["value"] (defScope s_is_pair) := ⟨rfl, rfl, rfl, by decide +kernel, rfl, by decide +kernel, by decide +kernel⟩
/-- pairs_in: 0 value, 1 reason, 2 pair -/
abbrev s_pairs_in : Stmt := top 19
abbrev N_pairs_in : List Str := ["value", "reason", "pair"]
theorem sc_pairs_in : FnScope N_pairs_in ["value", "reason"] (defScope s_pairs_in) := ⟨rfl, rfl, rfl, by decide +kernel, rfl, by decide +kernel, by decide +kernel⟩
/-- reached: 0 signs, 1 pairs, 2 found, 3 at, 4 pair -/
abbrev s_reached : Stmt := top 20
abbrev N_reached : List Str := ["signs", "pairs", "found", "at", "pair"]
theorem sc_reached : FnScope N_reached ["signs", "pairs"] (defScope s_reached) := ⟨rfl, rfl, rfl, by decide +kernel, rfl, by decide +kernel, by decide +kernel⟩
/-- Manner.__init__: 0 self, 1 firsts, 2 follows, 3 lasts, 4 ahead, 5 behind, 6 pair, 7 letter -/
abbrev s_Mannerx_initx : Stmt := inClass (top 21) 0
abbrev N_Mannerx_initx : List Str := ["self", "firsts", "follows", "lasts", "ahead", "behind", "pair", "letter"]
theorem sc_Mannerx_initx : FnScope N_Mannerx_initx ["self", "firsts", "follows", "lasts"] (defScope s_Mannerx_initx) := ⟨rfl, rfl, rfl, by decide +kernel, rfl, by decide +kernel, by decide +kernel⟩
/-- Manner.__eq__: 0 self, 1 other -/
abbrev s_Mannerx_eqx : Stmt := inClass (top 21) 3
abbrev N_Mannerx_eqx : List Str := ["self", "other"]
theorem sc_Mannerx_eqx : FnScope N_Mannerx_eqx ["self", "other"] (defScope s_Mannerx_eqx) := ⟨rfl, rfl, rfl, by decide +kernel, rfl, by decide +kernel, by decide +kernel⟩
/-- read_manner: 0 text, 1 firsts, 2 follows, 3 lasts -/
abbrev s_read_manner : Stmt := top 23
abbrev N_read_manner : List Str := ["text", "firsts", "follows", "lasts"]
theorem sc_read_manner : FnScope N_read_manner ["text"] (defScope s_read_manner) := ⟨rfl, rfl, rfl, by decide +kernel, rfl, by decide +kernel, by decide +kernel⟩
/-- manner_text: 0 manner, 1 words, 2 letters -/
abbrev s_manner_text : Stmt := top 25
abbrev N_manner_text : List Str := ["manner", "words", "letters"]
theorem sc_manner_text : FnScope N_manner_text ["manner"] (defScope s_manner_text) := ⟨rfl, rfl, rfl, by decide +kernel, rfl, by decide +kernel, by decide +kernel⟩
/-- _law_pen: 0 script, 1 cell -/
abbrev s__law_pen : Stmt := top 27
abbrev N__law_pen : List Str := ["script", "cell"]
theorem sc__law_pen : FnScope N__law_pen ["script"] (defScope s__law_pen) := ⟨rfl, rfl, rfl, by decide +kernel, rfl, by decide +kernel, by decide +kernel⟩
/-- _law_draw: 0 pen, 1 many, 2 at, 3 cell, 4 mixed, 5 digit, 6 great -/
abbrev s__law_draw : Stmt := top 28
abbrev N__law_draw : List Str := ["pen", "many", "at", "cell", "mixed", "digit", "great"]
theorem sc__law_draw : FnScope N__law_draw ["pen", "many"] (defScope s__law_draw) := ⟨rfl, rfl, rfl, by decide +kernel, rfl, by decide +kernel, by decide +kernel⟩
/-- _law_pick: 0 pen, 1 some -/
abbrev s__law_pick : Stmt := top 29
abbrev N__law_pick : List Str := ["pen", "some"]
theorem sc__law_pick : FnScope N__law_pick ["pen", "some"] (defScope s__law_pick) := ⟨rfl, rfl, rfl, by decide +kernel, rfl, by decide +kernel, by decide +kernel⟩
/-- _law_some: 0 pen, 1 pool, 2 least, 3 most, 4 rest, 5 found, 6 turn -/
abbrev s__law_some : Stmt := top 30
abbrev N__law_some : List Str := ["pen", "pool", "least", "most", "rest", "found", "turn"]
theorem sc__law_some : FnScope N__law_some ["pen", "pool", "least", "most"] (defScope s__law_some) := ⟨rfl, rfl, rfl, by decide +kernel, rfl, by decide +kernel, by decide +kernel⟩
/-- _law_parts: 0 pen, 1 names, 2 firsts, 3 lasts, 4 every, 5 one, 6 other -/
abbrev s__law_parts : Stmt := top 38
abbrev N__law_parts : List Str := ["pen", "names", "firsts", "lasts", "every", "one", "other"]
theorem sc__law_parts : FnScope N__law_parts ["pen"] (defScope s__law_parts) := ⟨rfl, rfl, rfl, by decide +kernel, rfl, by decide +kernel, by decide +kernel⟩
/-- _law_word: 0 letters -/
abbrev s__law_word : Stmt := top 39
abbrev N__law_word : List Str := ["letters"]
theorem sc__law_word : FnScope N__law_word ["letters"] (defScope s__law_word) := ⟨rfl, rfl, rfl, by decide +kernel, rfl, by decide +kernel, by decide +kernel⟩
/-- _law_is_row: 0 word, 1 signs, 2 sign -/
abbrev s__law_is_row : Stmt := top 40
abbrev N__law_is_row : List Str := ["word", "signs", "sign"]
theorem sc__law_is_row : FnScope N__law_is_row ["word"] (defScope s__law_is_row) := ⟨rfl, rfl, rfl, by decide +kernel, rfl, by decide +kernel, by decide +kernel⟩
/-- _law_fault: 0 words, 1 at, 2 word, 3 sign -/
abbrev s__law_fault : Stmt := top 41
abbrev N__law_fault : List Str := ["words", "at", "word", "sign"]
theorem sc__law_fault : FnScope N__law_fault ["words"] (defScope s__law_fault) := ⟨rfl, rfl, rfl, by decide +kernel, rfl, by decide +kernel, by decide +kernel⟩
/-- _law_read: 0 text, 1 told, 2 error -/
abbrev s__law_read : Stmt := top 42
abbrev N__law_read : List Str := ["text", "told", "error"]
theorem sc__law_read : FnScope N__law_read ["text"] (defScope s__law_read) := ⟨rfl, rfl, rfl, by decide +kernel, rfl, by decide +kernel, by decide +kernel⟩
/-- _law_bent: 0 pen, 1 words, 2 at, 3 way, 4 odd -/
abbrev s__law_bent : Stmt := top 43
abbrev N__law_bent : List Str := ["pen", "words", "at", "way", "odd"]
theorem sc__law_bent : FnScope N__law_bent ["pen", "words"] (defScope s__law_bent) := ⟨rfl, rfl, rfl, by decide +kernel, rfl, by decide +kernel, by decide +kernel⟩
/-- law: 0 script, 1 pen, 2 turn, 3 firsts, 4 follows, 5 lasts, 6 made, 7 due, 8 words, 9 lap, 10 odd, 11 bent, 12 fault, 13 told, 14 some, 15 rows, 16 word -/
abbrev s_law : Stmt := top 44
abbrev N_law : List Str := ["script", "pen", "turn", "firsts", "follows", "lasts", "made", "due", "words", "lap", "odd", "bent", "fault", "told", "some", "rows", "word"]
theorem sc_law : FnScope N_law ["script"] (defScope s_law) := ⟨rfl, rfl, rfl, by decide +kernel, rfl, by decide +kernel, by decide +kernel⟩

structure Ad where
  f_InvalidTextx_initx : Addr
  f_is_letter : Addr
  f_pair_in : Addr
  f_letters_row : Addr
  f_manner_in : Addr
  f_fresh : Addr
  f_Linex_initx : Addr
  f_Line_refuse : Addr
  f_Line_is_over : Addr
  f_Line_take : Addr
  f_Line_collected : Addr
  f_line_of : Addr
  f_is_sign : Addr
  f_signs_in : Addr
  f_is_pair : Addr
  f_pairs_in : Addr
  f_reached : Addr
  f_Mannerx_initx : Addr
  f_Mannerx_eqx : Addr
  f_read_manner : Addr
  f_manner_text : Addr
  f__law_pen : Addr
  f__law_draw : Addr
  f__law_pick : Addr
  f__law_some : Addr
  f__law_parts : Addr
  f__law_word : Addr
  f__law_is_row : Addr
  f__law_fault : Addr
  f__law_read : Addr
  f__law_bent : Addr
  f_law : Addr
  d_InvalidTextx_initx : FuncData
  d_is_letter : FuncData
  d_pair_in : FuncData
  d_letters_row : FuncData
  d_manner_in : FuncData
  d_fresh : FuncData
  d_Linex_initx : FuncData
  d_Line_refuse : FuncData
  d_Line_is_over : FuncData
  d_Line_take : FuncData
  d_Line_collected : FuncData
  d_line_of : FuncData
  d_is_sign : FuncData
  d_signs_in : FuncData
  d_is_pair : FuncData
  d_pairs_in : FuncData
  d_reached : FuncData
  d_Mannerx_initx : FuncData
  d_Mannerx_eqx : FuncData
  d_read_manner : FuncData
  d_manner_text : FuncData
  d__law_pen : FuncData
  d__law_draw : FuncData
  d__law_pick : FuncData
  d__law_some : FuncData
  d__law_parts : FuncData
  d__law_word : FuncData
  d__law_is_row : FuncData
  d__law_fault : FuncData
  d__law_read : FuncData
  d__law_bent : FuncData
  d_law : FuncData
  c_Line : Addr
  c_Manner : Addr
  c_InvalidText : Addr
  t_L : Tok
  k_m : Addr
  p_m : Addr
  k_c : Addr
  p_c : Addr
  e_0 : Addr
structure Txt (K : PySem.W.Frag) (mg : Str → Option Value) (a : Ad) : Prop where
  F_InvalidTextx_initx : Fun K "__init__" "InvalidText.__init__" s_InvalidTextx_initx a.f_InvalidTextx_initx a.d_InvalidTextx_initx
  b_InvalidTextx_initx : Binds K a.d_InvalidTextx_initx ["self", "line", "word"] []
  g_is_letter : mg "is_letter" = some (.ref a.f_is_letter)
  F_is_letter : Fun K "is_letter" "is_letter" s_is_letter a.f_is_letter a.d_is_letter
  b_is_letter : Binds K a.d_is_letter ["value"] []
  g_pair_in : mg "pair_in" = some (.ref a.f_pair_in)
  F_pair_in : Fun K "pair_in" "pair_in" s_pair_in a.f_pair_in a.d_pair_in
  b_pair_in : Binds K a.d_pair_in ["word"] []
  g_letters_row : mg "letters_row" = some (.ref a.f_letters_row)
  F_letters_row : Fun K "letters_row" "letters_row" s_letters_row a.f_letters_row a.d_letters_row
  b_letters_row : Binds K a.d_letters_row ["word"] []
  g_manner_in : mg "manner_in" = some (.ref a.f_manner_in)
  F_manner_in : Fun K "manner_in" "manner_in" s_manner_in a.f_manner_in a.d_manner_in
  b_manner_in : Binds K a.d_manner_in ["line"] []
  g_fresh : mg "fresh" = some (.ref a.f_fresh)
  F_fresh : Fun K "fresh" "fresh" s_fresh a.f_fresh a.d_fresh
  b_fresh : Binds K a.d_fresh ["told", "found"] []
  m_Linex_initx : Meth K a.c_Line "__init__" a.f_Linex_initx
  F_Linex_initx : Fun K "__init__" "Line.__init__" s_Linex_initx a.f_Linex_initx a.d_Linex_initx
  b_Linex_initx : Binds K a.d_Linex_initx ["self", "text", "number"] []
  m_Line_refuse : Meth K a.c_Line "refuse" a.f_Line_refuse
  F_Line_refuse : Fun K "refuse" "Line.refuse" s_Line_refuse a.f_Line_refuse a.d_Line_refuse
  b_Line_refuse : Binds K a.d_Line_refuse ["self"] []
  m_Line_is_over : Meth K a.c_Line "is_over" a.f_Line_is_over
  F_Line_is_over : Fun K "is_over" "Line.is_over" s_Line_is_over a.f_Line_is_over a.d_Line_is_over
  b_Line_is_over : Binds K a.d_Line_is_over ["self"] []
  m_Line_take : Meth K a.c_Line "take" a.f_Line_take
  F_Line_take : Fun K "take" "Line.take" s_Line_take a.f_Line_take a.d_Line_take
  b_Line_take : Binds K a.d_Line_take ["self", "meaning"] []
  m_Line_collected : Meth K a.c_Line "collected" a.f_Line_collected
  g_line_of : mg "line_of" = some (.ref a.f_line_of)
  F_line_of : Fun K "line_of" "line_of" s_line_of a.f_line_of a.d_line_of
  b_line_of : Binds K a.d_line_of ["text"] []
  g_is_sign : mg "is_sign" = some (.ref a.f_is_sign)
  F_is_sign : Fun K "is_sign" "is_sign" s_is_sign a.f_is_sign a.d_is_sign
  b_is_sign : Binds K a.d_is_sign ["thing"] []
  g_signs_in : mg "signs_in" = some (.ref a.f_signs_in)
  F_signs_in : Fun K "signs_in" "signs_in" s_signs_in a.f_signs_in a.d_signs_in
  b_signs_in : Binds K a.d_signs_in ["value", "reason"] []
  g_is_pair : mg "is_pair" = some (.ref a.f_is_pair)
  F_is_pair : Fun K "is_pair" "is_pair" s_is_pair a.f_is_pair a.d_is_pair
  b_is_pair : Binds K a.d_is_pair ["value"] []
  g_pairs_in : mg "pairs_in" = some (.ref a.f_pairs_in)
  F_pairs_in : Fun K "pairs_in" "pairs_in" s_pairs_in a.f_pairs_in a.d_pairs_in
  b_pairs_in : Binds K a.d_pairs_in ["value", "reason"] []
  g_reached : mg "reached" = some (.ref a.f_reached)
  F_reached : Fun K "reached" "reached" s_reached a.f_reached a.d_reached
  b_reached : Binds K a.d_reached ["signs", "pairs"] []
  m_Mannerx_initx : Meth K a.c_Manner "__init__" a.f_Mannerx_initx
  F_Mannerx_initx : Fun K "__init__" "Manner.__init__" s_Mannerx_initx a.f_Mannerx_initx a.d_Mannerx_initx
  b_Mannerx_initx : Binds K a.d_Mannerx_initx ["self", "firsts", "follows", "lasts"] []
  m_Mannerx_eqx : Meth K a.c_Manner "__eq__" a.f_Mannerx_eqx
  F_Mannerx_eqx : Fun K "__eq__" "Manner.__eq__" s_Mannerx_eqx a.f_Mannerx_eqx a.d_Mannerx_eqx
  b_Mannerx_eqx : Binds K a.d_Mannerx_eqx ["self", "other"] []
  g_read_manner : mg "read_manner" = some (.ref a.f_read_manner)
  F_read_manner : Fun K "read_manner" "read_manner" s_read_manner a.f_read_manner a.d_read_manner
  b_read_manner : Binds K a.d_read_manner ["text"] []
  g_manner_text : mg "manner_text" = some (.ref a.f_manner_text)
  F_manner_text : Fun K "manner_text" "manner_text" s_manner_text a.f_manner_text a.d_manner_text
  b_manner_text : Binds K a.d_manner_text ["manner"] []
  g__law_pen : mg "_law_pen" = some (.ref a.f__law_pen)
  F__law_pen : Fun K "_law_pen" "_law_pen" s__law_pen a.f__law_pen a.d__law_pen
  b__law_pen : Binds K a.d__law_pen ["script"] []
  g__law_draw : mg "_law_draw" = some (.ref a.f__law_draw)
  F__law_draw : Fun K "_law_draw" "_law_draw" s__law_draw a.f__law_draw a.d__law_draw
  b__law_draw : Binds K a.d__law_draw ["pen", "many"] []
  g__law_pick : mg "_law_pick" = some (.ref a.f__law_pick)
  F__law_pick : Fun K "_law_pick" "_law_pick" s__law_pick a.f__law_pick a.d__law_pick
  b__law_pick : Binds K a.d__law_pick ["pen", "some"] []
  g__law_some : mg "_law_some" = some (.ref a.f__law_some)
  F__law_some : Fun K "_law_some" "_law_some" s__law_some a.f__law_some a.d__law_some
  b__law_some : Binds K a.d__law_some ["pen", "pool", "least", "most"] []
  g__law_parts : mg "_law_parts" = some (.ref a.f__law_parts)
  F__law_parts : Fun K "_law_parts" "_law_parts" s__law_parts a.f__law_parts a.d__law_parts
  b__law_parts : Binds K a.d__law_parts ["pen"] []
  g__law_word : mg "_law_word" = some (.ref a.f__law_word)
  F__law_word : Fun K "_law_word" "_law_word" s__law_word a.f__law_word a.d__law_word
  b__law_word : Binds K a.d__law_word ["letters"] []
  g__law_is_row : mg "_law_is_row" = some (.ref a.f__law_is_row)
  F__law_is_row : Fun K "_law_is_row" "_law_is_row" s__law_is_row a.f__law_is_row a.d__law_is_row
  b__law_is_row : Binds K a.d__law_is_row ["word"] []
  g__law_fault : mg "_law_fault" = some (.ref a.f__law_fault)
  F__law_fault : Fun K "_law_fault" "_law_fault" s__law_fault a.f__law_fault a.d__law_fault
  b__law_fault : Binds K a.d__law_fault ["words"] []
  g__law_read : mg "_law_read" = some (.ref a.f__law_read)
  F__law_read : Fun K "_law_read" "_law_read" s__law_read a.f__law_read a.d__law_read
  b__law_read : Binds K a.d__law_read ["text"] []
  g__law_bent : mg "_law_bent" = some (.ref a.f__law_bent)
  F__law_bent : Fun K "_law_bent" "_law_bent" s__law_bent a.f__law_bent a.d__law_bent
  b__law_bent : Binds K a.d__law_bent ["pen", "words"] []
  g_law : mg "law" = some (.ref a.f_law)
  F_law : Fun K "law" "law" s_law a.f_law a.d_law
  b_law : Binds K a.d_law ["script"] []
  n_len : mg "len" = none
  n_isinstance : mg "isinstance" = none
  n_str : mg "str" = none
  n_list : mg "list" = none
  n_tuple : mg "tuple" = none
  n_all : mg "all" = none
  n_sorted : mg "sorted" = none
  n_int : mg "int" = none
  n_abs : mg "abs" = none
  n_min : mg "min" = none
  n_range : mg "range" = none
  n_set : mg "set" = none
  n_repr : mg "repr" = none
  g_LETTERS : mg "LETTERS" = some (.str (Str.ofString "abcdefghijklmnopqrstuvwxyz") a.t_L)
  cl_Line : Cls K a.c_Line
  g_Line : mg "Line" = some (.ref a.c_Line)
  mk_Line : Mk K a.c_Line a.f_Linex_initx
  cl_Manner : Cls K a.c_Manner
  g_Manner : mg "Manner" = some (.ref a.c_Manner)
  mk_Manner : Mk K a.c_Manner a.f_Mannerx_initx
  no_Line_words : NoAttr K a.c_Line "words"
  no_Line_number : NoAttr K a.c_Line "number"
  no_Line_passed : NoAttr K a.c_Line "passed"
  no_Manner_firsts : NoAttr K a.c_Manner "firsts"
  no_Manner_follows : NoAttr K a.c_Manner "follows"
  no_Manner_lasts : NoAttr K a.c_Manner "lasts"
  no_Manner_letters : NoAttr K a.c_Manner "letters"
  no_Manner_used : NoAttr K a.c_Manner "used"
  no_Manner_starts : NoAttr K a.c_Manner "starts"
  no_Manner_ends : NoAttr K a.c_Manner "ends"
  F_Line_collected : FunD K "collected" "Line.collected" (defArgs s_Line_collected) (defBody s_Line_collected) (defScope s_Line_collected) [] [("ends", V.ref a.e_0), ("least", V.int 0)] a.f_Line_collected a.d_Line_collected
  l_collected : ∃ oc od dV kV doc pm an ct osl, K.lookup a.f_Line_collected = some ⟨oc, od, .func a.d_Line_collected, osl⟩ ∧ a.d_Line_collected = PySem.W.fnOf "collected" "Line.collected" (defArgs s_Line_collected) (defBody s_Line_collected) (defScope s_Line_collected) dV kV doc pm an (.ref a.k_c) ct ∧ PySem.W.codeIn K (.ref a.k_c) "Line.collected" = true
  l_manner_in : ∃ oc od dV kV doc pm an ct osl, K.lookup a.f_manner_in = some ⟨oc, od, .func a.d_manner_in, osl⟩ ∧ a.d_manner_in = PySem.W.fnOf "manner_in" "manner_in" (defArgs s_manner_in) (defBody s_manner_in) (defScope s_manner_in) dV kV doc pm an (.ref a.k_m) ct ∧ PySem.W.codeIn K (.ref a.k_m) "manner_in" = true
  l_e0 : ∃ od n sl, K.lookup a.e_0 = some ⟨.type "tuple", od, .seq #[] n, sl⟩
  ne_p : a.p_m ≠ a.p_c
  kt_Manner : PySem.W.kitOne K (.ref a.c_Manner) (.type "str") = some false
  neM : NeC K a.c_Manner a.f_Mannerx_eqx
  insM : C8.InsC K a.c_Manner
  oex : OexC K a.c_InvalidText
  g_InvalidText : mg "InvalidText" = some (.ref a.c_InvalidText)
  i_InvalidText : PySem.W.findIn K (.ref a.c_InvalidText) "__init__" = some (some (.ref a.f_InvalidTextx_initx))
  t_InvalidText : PySem.W.typeIn K (.ref a.f_InvalidTextx_initx) = some (.type "function")
  no_line : PySem.W.findIn K (.ref a.c_InvalidText) "line" = some none
  no_word : PySem.W.findIn K (.ref a.c_InvalidText) "word" = some none
  xf : XfC K a.c_InvalidText
  te : PySem.W.exmOne K (.ref a.c_InvalidText) (.ref a.c_InvalidText) = some true
end K88

set_option maxHeartbeats 2000000
/-! ## 8. Letters, pairs, rows of letters -/
namespace K88
open PySem PySem.Spec PyProof.Rows L2
open LamX (CodeO TabS Tabs ExtN TabB lamEnv)

abbrev c_LETTERS : Str := Str.ofString "abcdefghijklmnopqrstuvwxyz"
def letc (c : Nat) : Bool := decide (97 ≤ c ∧ c ≤ 122)
theorem letters_cps : (Str.ofString "abcdefghijklmnopqrstuvwxyz").cps.toList = [97, 98, 99, 100, 101, 102, 103, 104, 105, 106, 107, 108, 109, 110, 111, 112, 113, 114, 115, 116, 117, 118, 119, 120, 121, 122] := by decide +kernel
theorem mem_letters (c : Nat) : decide (c ∈ (Str.ofString "abcdefghijklmnopqrstuvwxyz").cps.toList) = letc c := by
  rw [letters_cps]
  unfold letc
  refine decide_eq_decide.mpr ?_
  simp only [List.mem_cons, List.not_mem_nil, or_false]
  omega
/-- one sign of a .. z -/
def isLet (s : Str) : Bool := match s.cps.toList with
  | [c] => letc c
  | _ => false
theorem isLet_one (c : Nat) : isLet ⟨#[c]⟩ = letc c := rfl
theorem one_of {s : Str} (h : s.length = 1) : ∃ c, s = ⟨#[c]⟩ := by
  obtain ⟨l⟩ := s
  obtain ⟨l⟩ := l
  match l, h with
  | [c], _ => exact ⟨c, rfl⟩
theorem isLet_not {s : Str} (h : ¬ s.length = 1) : isLet s = false := by
  obtain ⟨l⟩ := s
  obtain ⟨l⟩ := l
  match l, h with
  | [], _ => rfl
  | [c], h => exact absurd rfl h
  | _ :: _ :: _, _ => rfl
theorem size1 {n : Nat} (h : n ≤ 1000000) : n ≤ sizeLine := Nat.le_trans h (by rw [sizeLine_eq]; decide)
theorem str_is (K : PySem.W.Frag) (H : Hp) (s : Str) : TyX K H (.str s) (.type "str") := .base (.str s)

/-- e.f, the written part named -/
theorem pe_fldK {X : Cx} {K : PySem.W.Frag} {o : Expr} {f : Str} {pos : Pos} {ta : TE} (hK : X.K = K) (ha : PE X o ta) (hb : attributeBase o f X.env (eval o X.env) = eval o X.env := by rfl) : PE X (.Attribute o f pos) (tFld K ta f) := hK ▸ pe_fld ha hb
theorem pe_joinK {X : Cx} {K : PySem.W.Frag} {o e : Expr} {to te : TE} {apos pos : Pos} (hK : X.K = K) (ho : PE X o to) (he : PE X e te) (hs : starEach [e] X.env = [(false, eval e X.env)] := by rfl) (hbase : attributeBase o "join" X.env (eval o X.env) = eval o X.env := by rfl)
    (hline : (apos.endLine == pos.line) = true := by rfl) : PE X (.Call (.Attribute o "join" apos) [e] [] pos) (tM1 (fun x xs H Q => ∃ a p, ∃ ys : List Str, x = .str a ∧ xs = [.ref p] ∧ (SqL K H p (ys.map V.str) ∨ SqT K H p (ys.map V.str)) ∧
      (ys.map (·.length)).sum + ys.length * a.length ≤ 16777216 ∧ Q (.str (Txt.join a ys)) H) to te) := hK ▸ pe_join ho he hs hbase hline
/-! ### comprehensions over texts -/
def overS (g : Str → Option V) : V → Option V
  | .str s => g s
  | _ => none
theorem overS_map (g : Str → Option V) (ss : List Str) : (ss.map V.str).filterMap (overS g) = ss.filterMap g := by
  rw [List.filterMap_map]
  rfl
theorem strs_get {ss : List Str} {i : Nat} {x : V} (h : (ss.map V.str)[i]? = some x) : ∃ s, ss[i]? = some s ∧ x = .str s := by
  rw [List.getElem?_map] at h
  obtain ⟨s, e1, e2⟩ := Option.map_eq_some_iff.mp h
  exact ⟨s, e1, e2.symm⟩
theorem lc_strs {J : It} {ss : List Str} {G : Hp → Prop} (w : Walk J (ss.map V.str).length G (YAt (ss.map V.str))) {g : TG} {tt : TT} {te : TE} {vs : List Nat} {σ : L2.St} {H1 : Hp} {D : Addr} {Qd : Hp → Prop} (hD : H1 D = none) (f : Str → Option V) (hG : ∀ H', Same H1 H' → G H') (hlen : ss.length ≤ 1000000)
    (turn : ∀ (i : Nat) (s : Str) (H2 : Hp), ss[i]? = some s → Same H1 H2 → ∀ R : Option V → Hp → Prop, (∀ H3, Same H2 H3 → R (f s) H3) → g (.str s) (wipe σ vs) H2 fun σ2 H3 => wipe σ2 vs = wipe σ vs ∧ tt σ2 H3 fun b H4 => if b = true then te σ2 H4 (fun y H5 => R (some y) H5) else R none H4)
    (fin : ∀ H', Same H1 H' → H' D = some (.lst (ss.filterMap f)) → Qd H') :
    ∃ W : Nat → Nat → Hp → Prop, (∃ m, W 0 m (upd H1 D (.lst []))) ∧ ∀ i m H, W i m H →
      (J.stop i H ∧ Qd H) ∨ (J.go i H ∧ ∃ Nx : Hp → Prop, (∀ H', Nx H' → ∃ m', m' < m ∧ W (i + 1) m' H') ∧ ∀ x H', J.yld i H x H' → g x (wipe σ vs) H' fun σ2 H2 => wipe σ2 vs = wipe σ vs ∧ tt σ2 H2 fun b H3 =>
        if b = true then te σ2 H3 fun y H4 => ∃ acc, H4 D = some (.lst acc) ∧ acc.length < sizeLine ∧ Nx (upd H4 D (.lst (acc ++ [y]))) else Nx H3) := by
  refine lc_read w hD (overS f) hG (by rw [List.length_map, sizeLine_eq]; omega) (fun i x H2 hx s R k => ?_) fun H' s e => fin H' s (by rw [e, overS_map])
  obtain ⟨t, h1, rfl⟩ := strs_get hx
  exact turn i t H2 h1 s R k
def insS (L : List Str) (s : Str) : List Str := if s ∈ L then L else L ++ [s]
def dedupS (ss : List Str) : List Str := ss.foldl insS []
theorem dedupK_strs (ss : List Str) : dedupK (ss.map Sum.inr) = (dedupS ss).map Sum.inr := by
  suffices h : ∀ (ss L : List Str), (ss.map Sum.inr).foldl insK (L.map Sum.inr) = ((ss.foldl insS L).map Sum.inr : List Key) from h ss []
  intro ss
  induction ss with
  | nil => intro L; rfl
  | cons s r ih =>
    intro L
    rw [List.map_cons, List.foldl_cons, List.foldl_cons, ← ih]
    refine congrArg (fun z => List.foldl insK z (r.map Sum.inr)) ?_
    unfold insK insS
    by_cases h : s ∈ L
    · rw [if_pos (List.mem_map.mpr ⟨s, h, rfl⟩), if_pos h]
    · rw [if_neg (fun z => by obtain ⟨t, h1, h2⟩ := List.mem_map.mp z; cases h2; exact h h1), if_neg h, List.map_append]
      rfl
theorem keys_yes (ss : List Str) : (yesK (dedupK (ss.map Sum.inr))).map (fun kv => kV kv.1) = (dedupS ss).map V.str := by
  rw [dedupK_strs]
  unfold yesK
  rw [List.map_map, List.map_map]
  rfl
theorem len_yes (ss : List Str) : (yesK (dedupK (ss.map Sum.inr))).length = (dedupS ss).length := by
  rw [dedupK_strs]
  unfold yesK
  rw [List.length_map, List.length_map]
def keyOf : V → Key
  | .str s => .inr s
  | _ => .inl 0
theorem dc_strs {J : It} {ss : List Str} {G : Hp → Prop} (w : Walk J (ss.map V.str).length G (YAt (ss.map V.str))) {g : TG} {tt : TT} {tk tv : TE} {vs : List Nat} {σ : L2.St} {H1 : Hp} {D : Addr} {Qd : Hp → Prop} (hD : H1 D = none) (hG : ∀ H', Same H1 H' → G H') (hlen : ss.length ≤ 1000000)
    (turn : ∀ (i : Nat) (s : Str) (H2 : Hp), ss[i]? = some s → Same H1 H2 → ∀ R : Option (V × V) → Hp → Prop, (∀ H3, Same H2 H3 → R (some (.str s, .bl true)) H3) → g (.str s) (wipe σ vs) H2 fun σ2 H3 => wipe σ2 vs = wipe σ vs ∧ tt σ2 H3 fun b H4 => if b = true then tk σ2 H4 (fun y H5 => tv σ2 H5 fun z H6 => R (some (y, z)) H6) else R none H4)
    (fin : ∀ H', Same H1 H' → H' D = some (.dK (yesK (dedupK (ss.map Sum.inr)))) → Qd H') :
    ∃ W : Nat → Nat → Hp → Prop, (∃ m, W 0 m (upd H1 D (.dK []))) ∧ ∀ i m H, W i m H →
      (J.stop i H ∧ Qd H) ∨ (J.go i H ∧ ∃ Nx : Hp → Prop, (∀ H', Nx H' → ∃ m', m' < m ∧ W (i + 1) m' H') ∧ ∀ x H', J.yld i H x H' → g x (wipe σ vs) H' fun σ2 H2 => wipe σ2 vs = wipe σ vs ∧ tt σ2 H2 fun b H3 =>
        if b = true then tk σ2 H3 fun y H4 => tv σ2 H4 fun z H5 => ∃ kvs k, y = kV k ∧ H5 D = some (.dK kvs) ∧ kvs.length < sizeLine ∧ Nx (upd H5 D (.dK (putK kvs k z))) else Nx H3) := by
  refine dc_read w hD keyOf hG (by rw [List.length_map, sizeLine_eq]; omega) (fun i x H2 hx s R k => ?_) fun H' s e => fin H' s (by rw [e, List.map_map]; rfl)
  obtain ⟨t, h1, rfl⟩ := strs_get hx
  exact turn i t H2 h1 s R k
theorem mem_insS {L : List Str} {s t : Str} : t ∈ insS L s ↔ t ∈ L ∨ t = s := by
  unfold insS
  by_cases h : s ∈ L
  · rw [if_pos h]
    exact ⟨.inl, fun z => z.elim id fun e => e ▸ h⟩
  · rw [if_neg h]
    simp
theorem nodup_insS {L : List Str} {s : Str} (h : L.Nodup) : (insS L s).Nodup := by
  unfold insS
  by_cases hs : s ∈ L
  · rw [if_pos hs]; exact h
  · rw [if_neg hs]
    refine List.nodup_append.mpr ⟨h, by simp, fun x hx y hy e => ?_⟩
    rw [List.mem_singleton] at hy
    exact hs (by rw [← hy, ← e]; exact hx)
theorem foldS_facts (ss : List Str) : ∀ L : List Str, L.Nodup → (ss.foldl insS L).Nodup ∧ (∀ t, t ∈ ss.foldl insS L ↔ t ∈ L ∨ t ∈ ss) ∧ (ss.foldl insS L).length ≤ L.length + ss.length ∧ ((ss.foldl insS L).length = L.length + ss.length → ss.Nodup ∧ ∀ t ∈ ss, t ∉ L) ∧
    (ss.Nodup → (∀ t ∈ ss, t ∉ L) → ss.foldl insS L = L ++ ss) := by
  induction ss with
  | nil => intro L h; exact ⟨h, by simp, by simp, by simp, by simp⟩
  | cons s r ih =>
    intro L h
    obtain ⟨h1, h2, h3, h4, h5⟩ := ih (insS L s) (nodup_insS h)
    rw [List.foldl_cons]
    have hl : (insS L s).length = if s ∈ L then L.length else L.length + 1 := by
      unfold insS
      by_cases z : s ∈ L
      · rw [if_pos z, if_pos z]
      · rw [if_neg z, if_neg z]; simp
    refine ⟨h1, fun t => ?_, ?_, fun e => ?_, fun nd dj => ?_⟩
    · rw [h2, mem_insS, List.mem_cons]
      exact or_assoc
    · rw [List.length_cons]
      split at hl <;> omega
    · rw [List.length_cons] at e
      have z : s ∉ L := fun z => by rw [if_pos z] at hl; omega
      rw [if_neg z] at hl
      obtain ⟨g1, g2⟩ := h4 (by omega)
      refine ⟨List.nodup_cons.mpr ⟨fun hm => g2 s hm (mem_insS.mpr (.inr rfl)), g1⟩, fun t ht => ?_⟩
      rcases List.mem_cons.mp ht with rfl | ht
      · exact z
      · exact fun q => g2 t ht (mem_insS.mpr (.inl q))
    · have z : s ∉ L := dj s List.mem_cons_self
      obtain ⟨n1, n2⟩ := List.nodup_cons.mp nd
      rw [h5 n2 fun t ht q => ?_]
      · unfold insS
        rw [if_neg z]
        simp
      · rcases mem_insS.mp q with q | rfl
        · exact dj t (List.mem_cons_of_mem _ ht) q
        · exact n1 ht
theorem dedupS_nodup (ss : List Str) : (dedupS ss).Nodup := (foldS_facts ss [] List.nodup_nil).1
theorem mem_dedupS {ss : List Str} {t : Str} : t ∈ dedupS ss ↔ t ∈ ss := by
  have h := (foldS_facts ss [] List.nodup_nil).2.1 t
  show t ∈ ss.foldl insS [] ↔ t ∈ ss
  simpa using h
theorem dedupS_le (ss : List Str) : (dedupS ss).length ≤ ss.length := by
  show (ss.foldl insS []).length ≤ ss.length
  simpa using (foldS_facts ss [] List.nodup_nil).2.2.1
theorem dedupS_of {ss : List Str} (h : ss.Nodup) : dedupS ss = ss := by
  show ss.foldl insS [] = ss
  simpa using (foldS_facts ss [] List.nodup_nil).2.2.2.2 h (by simp)
theorem dedupS_len {ss : List Str} : (dedupS ss).length = ss.length ↔ ss.Nodup :=
  ⟨fun e => ((foldS_facts ss [] List.nodup_nil).2.2.2.1 (by rw [List.length_nil, Nat.zero_add]; exact e)).1, fun h => by rw [dedupS_of h]⟩
theorem filterMap_some {α β : Type} (f : α → β) (l : List α) : l.filterMap (fun x => some (f x)) = l.map f := by
  induction l with
  | nil => rfl
  | cons x l ih => simp [ih]
/-- no test: each item gives f of it -/
theorem lc_map {J : It} {ss : List Str} {G : Hp → Prop} (w : Walk J (ss.map V.str).length G (YAt (ss.map V.str))) {g : TG} {te : TE} {vs : List Nat} {σ : L2.St} {H1 : Hp} {D : Addr} {Qd : Hp → Prop} (hD : H1 D = none) (f : Str → V) (hG : ∀ H', Same H1 H' → G H') (hlen : ss.length ≤ 1000000)
    (turn : ∀ (i : Nat) (s : Str) (H2 : Hp), ss[i]? = some s → Same H1 H2 → ∀ R : V → Hp → Prop, (∀ H3, Same H2 H3 → R (f s) H3) → g (.str s) (wipe σ vs) H2 fun σ2 H3 => wipe σ2 vs = wipe σ vs ∧ te σ2 H3 R)
    (fin : ∀ H', Same H1 H' → H' D = some (.lst (ss.map f)) → Qd H') :
    ∃ W : Nat → Nat → Hp → Prop, (∃ m, W 0 m (upd H1 D (.lst []))) ∧ ∀ i m H, W i m H →
      (J.stop i H ∧ Qd H) ∨ (J.go i H ∧ ∃ Nx : Hp → Prop, (∀ H', Nx H' → ∃ m', m' < m ∧ W (i + 1) m' H') ∧ ∀ x H', J.yld i H x H' → g x (wipe σ vs) H' fun σ2 H2 => wipe σ2 vs = wipe σ vs ∧ tYes σ2 H2 fun b H3 =>
        if b = true then te σ2 H3 fun y H4 => ∃ acc, H4 D = some (.lst acc) ∧ acc.length < sizeLine ∧ Nx (upd H4 D (.lst (acc ++ [y]))) else Nx H3) := by
  refine lc_strs w hD (fun s => some (f s)) hG hlen (fun i s H2 hs s2 R k => ?_) fun H' s e => fin H' s (by rw [e, filterMap_some])
  exact turn i s H2 hs s2 (fun y H5 => R (some y) H5) k
theorem dc_map {J : It} {ss : List Str} {G : Hp → Prop} (w : Walk J (ss.map V.str).length G (YAt (ss.map V.str))) {g : TG} {tk tv : TE} {vs : List Nat} {σ : L2.St} {H1 : Hp} {D : Addr} {Qd : Hp → Prop} (hD : H1 D = none) (hG : ∀ H', Same H1 H' → G H') (hlen : ss.length ≤ 1000000)
    (turn : ∀ (i : Nat) (s : Str) (H2 : Hp), ss[i]? = some s → Same H1 H2 → ∀ R : V → V → Hp → Prop, (∀ H3, Same H2 H3 → R (.str s) (.bl true) H3) → g (.str s) (wipe σ vs) H2 fun σ2 H3 => wipe σ2 vs = wipe σ vs ∧ tk σ2 H3 (fun y H5 => tv σ2 H5 fun z H6 => R y z H6))
    (fin : ∀ H', Same H1 H' → H' D = some (.dK (yesK (dedupK (ss.map Sum.inr)))) → Qd H') :
    ∃ W : Nat → Nat → Hp → Prop, (∃ m, W 0 m (upd H1 D (.dK []))) ∧ ∀ i m H, W i m H →
      (J.stop i H ∧ Qd H) ∨ (J.go i H ∧ ∃ Nx : Hp → Prop, (∀ H', Nx H' → ∃ m', m' < m ∧ W (i + 1) m' H') ∧ ∀ x H', J.yld i H x H' → g x (wipe σ vs) H' fun σ2 H2 => wipe σ2 vs = wipe σ vs ∧ tYes σ2 H2 fun b H3 =>
        if b = true then tk σ2 H3 fun y H4 => tv σ2 H4 fun z H5 => ∃ kvs k, y = kV k ∧ H5 D = some (.dK kvs) ∧ kvs.length < sizeLine ∧ Nx (upd H5 D (.dK (putK kvs k z))) else Nx H3) := by
  refine dc_strs w hD hG hlen (fun i s H2 hs s2 R k => ?_) fin
  exact turn i s H2 hs s2 (fun y z H5 => R (some (y, z)) H5) k
section
variable {P : Program} {w : World} {K : PySem.W.Frag} {mg : Str → Option Value} {base : Heap} {a : Ad}
def sp_is_letter : Sp := fun vs H Q _ => ∃ s : Str, vs = [.str s] ∧ s.length ≤ 1000000 ∧ Q (.bl (isLet s)) H
theorem ok_is_letter (T : Txt K mg a) : CalX P w K mg base CX0 1 "is_letter" sp_is_letter [] := by
  refine ⟨_, _, _, _, T.g_is_letter, T.F_is_letter.kp, T.F_is_letter.ok sc_is_letter (fun vs H Q E h => ?_) (fun cdv A outer s H vs Q E hr h => ?_), T.b_is_letter, .nil⟩
  · obtain ⟨s, rfl, _⟩ := h
    rfl
  · obtain ⟨s, rfl, hs, k⟩ := h
    refine ⟨_, (pss_one (ps_ret (pe_and (pe_callB call_isi (by rfl) T.n_isinstance (by decide +kernel) (pa_cons (pv 0) (pa_cons (pe_bltn (v := .ty "str") (by rfl) T.n_str (by decide +kernel) rfl) pa_nil))) (pe_and (pe_cmpR op_eq (pe_callB call_len_str (by rfl) T.n_len (by decide +kernel) (pa_cons (pv 0) pa_nil)) pe_int (nomark _)) (pe_one (pe_cmpR op_in_sign (pv 0) (C8.pe_gc (v := .str c_LETTERS) (by rfl) ⟨_, T.g_LETTERS, _, rfl⟩) (by rfl))))))), ?_⟩
    refine ⟨_, rfl, _, _, _, _, true, rfl, .ty _, str_is _ _ _, kit_ty (by decide +kernel), true, rfl, iteT ?_⟩
    refine ⟨_, rfl, s, rfl, size1 hs, rfl, _, rfl, ite2 (fun e => ?_) (fun e => ?_)⟩
    · have e1 : V.int (s.length : Int) = V.int 1 := of_decide_eq_true e
      have e2 : s.length = 1 := by have := V.int.inj e1; omega
      obtain ⟨c, rfl⟩ := one_of e2
      refine ⟨_, rfl, c, _, rfl, rfl, ?_⟩
      rw [mem_letters]
      exact k
    · have e2 : ¬ s.length = 1 := fun q => e (decide_eq_true (by rw [q]; rfl))
      rw [isLet_not e2] at k
      exact k
end

/-- two signs of a .. z -/
def isPr (s : Str) : Bool := match s.cps.toList with
  | [c, d] => letc c && letc d
  | _ => false
theorem two_of {s : Str} (h : s.length = 2) : ∃ c d, s = ⟨#[c, d]⟩ := by
  obtain ⟨l⟩ := s
  obtain ⟨l⟩ := l
  match l, h with
  | [c, d], _ => exact ⟨c, d, rfl⟩
theorem isPr_two (c d : Nat) : isPr ⟨#[c, d]⟩ = (letc c && letc d) := rfl
theorem isPr_not {s : Str} (h : ¬ s.length = 2) : isPr s = false := by
  obtain ⟨l⟩ := s
  obtain ⟨l⟩ := l
  match l, h with
  | [], _ => rfl
  | [_], _ => rfl
  | [c, d], h => exact absurd rfl h
  | _ :: _ :: _ :: _, _ => rfl
theorem signs_two (c d : Nat) : signs ⟨#[c, d]⟩ = [⟨#[c]⟩, ⟨#[d]⟩] := rfl
theorem mem_signs {z s : Str} (h : s ∈ signs z) : ∃ c, c ∈ z.cps.toList ∧ s = ⟨#[c]⟩ := by
  unfold signs at h
  obtain ⟨c, h1, h2⟩ := List.mem_map.mp h
  exact ⟨c, h1, h2.symm⟩
section
variable {P : Program} {w : World} {K : PySem.W.Frag} {mg : Str → Option Value} {base : Heap} {a : Ad}
def sp_pair_in : Sp := fun vs H Q _ => ∃ s : Str, vs = [.str s] ∧ s.length ≤ 1000000 ∧ ∀ H', Same H H' → Q (if isPr s = true then .str s else .non) H'
theorem ok_pair_in (T : Txt K mg a) : CalX P w K mg base CX0 1 "pair_in" sp_pair_in [] := by
  refine ⟨_, _, _, _, T.g_pair_in, T.F_pair_in.kp, T.F_pair_in.ok sc_pair_in (fun vs H Q E h => ?_) (fun cdv A outer s H vs Q E hr h => ?_), T.b_pair_in, .nil⟩
  · obtain ⟨s, rfl, _⟩ := h
    rfl
  · obtain ⟨s, rfl, hs, k⟩ := h
    refine ⟨_, (pss_one (ps_ret (pe_ifExp (PW.pt (pw_and (pt_cmpR op_eq (pe_callB call_len_str (by rfl) T.n_len (by decide +kernel) (pa_cons (pv 0) pa_nil)) pe_int (nomark _)) (pw_and1 (pt_val (pe_callB (cr_all rfl) (by rfl) T.n_all (by decide +kernel) (pa_cons (pe_lc (own := [("sign", 1)]) rfl sc_pair_in.nd (pi_str (pv 0)) (blkOk_by (own := [("sign", 1)]) (N := N_pair_in) (sc := defScope s_pair_in) (by decide +kernel)) (fun _ _ _ _ _ => (pg_name (i := 1) sc_pair_in.nd rfl (by first | exact Or.inl rfl | exact Or.inr rfl))) (fun _ _ _ _ _ => pts_nil) (fun _ _ _ _ _ => (pe_cmpR op_in_sign (pv 1) (C8.pe_gc (v := .str c_LETTERS) (by rfl) ⟨_, T.g_LETTERS, _, rfl⟩) (by rfl)))) pa_nil)))))) (pv 0) pe_non))), ?_⟩
    refine ⟨_, rfl, s, rfl, size1 hs, rfl, _, rfl, ite2 (fun e => ?_) (fun e => ?_)⟩
    · have e1 : V.int (s.length : Int) = V.int 2 := of_decide_eq_true e
      have e2 : s.length = 2 := by have := V.int.inj e1; omega
      obtain ⟨c, d, rfl⟩ := two_of e2
      refine ⟨_, rfl, _, rfl, fun D nD => lc_map walk_signs nD (fun s => .bl (isLet s)) (fun _ _ => True.intro) (by rw [signs_two c d]; simp) (fun i t H2 ht s2 R kR => ?_) (fun H' sD eD => ?_)⟩
      · obtain ⟨x, hx, rfl⟩ := mem_signs (List.mem_of_getElem? ht)
        refine ⟨rfl, _, rfl, x, _, rfl, rfl, ?_⟩
        rw [mem_letters]
        exact kR H2 (Same.refl _)
      · refine ⟨D, [letc c, letc d], rfl, SqL.of (by rw [eD]; rfl), _, rfl, ?_⟩
        have e3 : ([letc c, letc d].all id) = isPr ⟨#[c, d]⟩ := by rw [isPr_two]; simp
        rw [e3]
        refine ite2 (fun z => ⟨_, rfl, ?_⟩) (fun z => ?_)
        · have q := k H' sD
          rw [if_pos z] at q
          exact q
        · have q := k H' sD
          rw [if_neg z] at q
          exact q
    · have e2 : ¬ s.length = 2 := fun q => e (decide_eq_true (by rw [q]; rfl))
      refine iteF ?_
      have q := k H (Same.refl H)
      rw [isPr_not e2, if_neg Bool.false_ne_true] at q
      exact q
end
end K88

set_option maxHeartbeats 2000000
namespace K88
open PySem PySem.Spec PyProof.Rows L2
open LamX (CodeO TabS Tabs ExtN TabB lamEnv)
/-- the unlike letters that a word is made of -/
def rowOf (s : Str) : Option (List Str) := if s = "-" then some [] else if s = "" ∨ (signs s).all isLet = false then none else if (signs s).Nodup then some (signs s) else none
theorem ge_sign (c : Nat) : (!decide (([c] : List Nat) < [97])) = decide (97 ≤ c) := by
  by_cases h : c < 97
  · have h2 : ([c] : List Nat) < [97] := List.Lex.rel h
    simp [h2, h]
  · have h2 : ¬ ([c] : List Nat) < [97] := by
      intro z
      cases z with
      | rel z => exact h z
      | cons z => cases z
    simp [h2]
    omega
theorem le_sign (c : Nat) : (!decide (([122] : List Nat) < [c])) = decide (c ≤ 122) := by
  by_cases h : 122 < c
  · have h2 : ([122] : List Nat) < [c] := List.Lex.rel h
    simp [h2, h]
  · have h2 : ¬ ([122] : List Nat) < [c] := by
      intro z
      cases z with
      | rel z => exact h z
      | cons z => cases z
    simp [h2]
    omega
theorem signs_size (s : Str) : (signs s).length = s.length := by
  rw [signs_len]
  rfl
theorem sign_len {z s : Str} (h : s ∈ signs z) : s.length = 1 := by
  obtain ⟨c, _, rfl⟩ := mem_signs h
  rfl
theorem all_map_id {α : Type} (f : α → Bool) (l : List α) : (l.map f).all id = l.all f := by
  rw [List.all_map]
  rfl
theorem if_true_of {b : Bool} {A B : Prop} (h : b = true) (q : A) : if b = true then A else B := by
  rw [if_pos h]
  exact q
theorem if_false_of {b : Bool} {A B : Prop} (h : b = false) (q : B) : if b = true then A else B := by
  subst h
  rw [if_neg Bool.false_ne_true]
  exact q
section
variable {P : Program} {w : World} {K : PySem.W.Frag} {mg : Str → Option Value} {base : Heap} {a : Ad}
def sp_letters_row : Sp := fun vs H Q _ => ∃ s : Str, vs = [.str s] ∧ s.length ≤ 1000000 ∧ (rowOf s = none → ∀ H', Same H H' → Q .non H') ∧ (∀ row, rowOf s = some row → ∀ H' p, Same H H' → H p = none → H' p = some (.tup (row.map V.str)) → Q (.ref p) H')
theorem fn_letters_row (T : Txt K mg a) : FnOk P w K mg base CX0 2 a.f_letters_row a.d_letters_row ["word"] sp_letters_row := by
  refine T.F_letters_row.ok sc_letters_row (fun vs H Q E h => ?_) (fun cdv A outer s H vs Q E hr h => ?_)
  · obtain ⟨s, rfl, _⟩ := h
    rfl
  · obtain ⟨s, rfl, hs, k1, k2⟩ := h
    refine ⟨_, (pss_cons (ps_if (pt_cmpR op_eq (pv 0) pe_str (nomark _))
            (pss_one (ps_ret (pe_tup pa_nil)))
            pss_nil)
          (pss_cons (ps_if (PW.pt (pw_or (pt_cmpR op_eq (pv 0) pe_str (nomark _)) (pw_or1 (pt_not (pt_val (pe_callB (cr_all rfl) (by rfl) T.n_all (by decide +kernel) (pa_cons (pe_lc (own := [("sign", 1)]) rfl sc_letters_row.nd (pi_str (pv 0)) (blkOk_by (own := [("sign", 1)]) (N := N_letters_row) (sc := defScope s_letters_row) (by decide +kernel)) (fun _ _ _ _ _ => (pg_name (i := 1) sc_letters_row.nd rfl (by first | exact Or.inl rfl | exact Or.inr rfl))) (fun _ _ _ _ _ => pts_nil) (fun _ _ _ _ _ => (pe_cx (ok_is_letter T) hr (by decide) pass0 (by rfl) (pa_cons (pv 1) pa_nil)))) pa_nil)))))))
            (pss_one (ps_ret pe_non))
            pss_nil)
          (pss_one (ps_ret (pe_ifExp (pt_cmpR op_eq (pe_callB call_lenD (by rfl) T.n_len (by decide +kernel) (pa_cons (pe_dc (own := [("sign", 1)]) rfl sc_letters_row.nd (pi_str (pv 0)) (blkOk_by (own := [("sign", 1)]) (N := N_letters_row) (sc := defScope s_letters_row) (by decide +kernel)) (fun _ _ _ _ _ => (pg_name (i := 1) sc_letters_row.nd rfl (by first | exact Or.inl rfl | exact Or.inr rfl))) (fun _ _ _ _ _ => pts_nil) (fun _ _ _ _ _ => (pv 1)) (fun _ _ _ _ _ => pe_bl)) pa_nil)) (pe_callB call_len_str (by rfl) T.n_len (by decide +kernel) (pa_cons (pv 0) pa_nil)) (nomark _)) (pe_callTy call_tupleS (by rfl) T.n_tuple (by decide +kernel) (pa_cons (pv 0) pa_nil)) pe_non))))), ?_⟩
    have hl : (signs s).length ≤ 1000000 := by rw [signs_size]; exact hs
    unfold rowOf at k1 k2
    refine ⟨_, rfl, rfl, _, rfl, ite2 (fun e => ?_) (fun e => ?_)⟩
    · have e1 : s = "-" := V.str.inj (of_decide_eq_true e)
      rw [if_pos e1] at k2
      exact ⟨Nat.zero_le _, newO fun p H1 s1 n1 e2 => k2 [] rfl H1 p s1 n1 e2⟩
    · have e1 : ¬ s = "-" := fun z => e (decide_eq_true (by rw [z]))
      rw [if_neg e1] at k1 k2
      refine ⟨_, rfl, rfl, _, rfl, ite2 (fun e => ?_) (fun e => ?_)⟩
      · have e2 : s = "" := V.str.inj (of_decide_eq_true e)
        rw [if_pos (.inl e2)] at k1
        refine iteT ?_
        exact k1 rfl H (Same.refl H)
      · have e2 : ¬ s = "" := fun z => e (decide_eq_true (by rw [z]))
        refine ⟨_, rfl, s, rfl, fun D nD => lc_map walk_signs nD (fun s => .bl (isLet s)) (fun _ _ => True.intro) hl (fun i t H2 ht s2 R kR => ?_) (fun H1 s1 eD => ?_)⟩
        · exact ⟨rfl, _, rfl, t, rfl, by rw [sign_len (List.mem_of_getElem? ht)]; decide, kR H2 (Same.refl _)⟩
        · refine ⟨D, (signs s).map isLet, rfl, SqL.of (by rw [eD, List.map_map]; rfl), _, rfl, ?_⟩
          rw [all_map_id]
          cases ha : (signs s).all isLet with
          | false =>
            rw [if_pos (.inr ha)] at k1
            refine iteT ?_
            exact k1 rfl H1 s1
          | true =>
            rw [if_neg (fun z => z.elim e2 fun q => by rw [ha] at q; cases q)] at k1 k2
            refine iteF ?_
            refine ⟨_, rfl, s, rfl, fun D2 nD2 => dc_map walk_signs nD2 (fun _ _ => True.intro) hl (fun i t H2 ht s2 R kR => ⟨rfl, _, rfl, kR H2 (Same.refl _)⟩) (fun H2 s2 eD2 => ?_)⟩
            refine ⟨D2, _, rfl, eD2, _, rfl, s, rfl, size1 hs, rfl, _, rfl, ?_⟩
            rw [len_yes, ← signs_size]
            by_cases nd : (signs s).Nodup
            · rw [if_pos nd] at k2
              rw [dedupS_of nd]
              refine if_true_of (decide_eq_true rfl) ?_
              exact ⟨_, rfl, s, rfl, hs, hr.hd, newO fun p H3 s3 n3 e3 => k2 _ rfl H3 p ((s1.trans s2).trans s3) ((s1.trans s2).free n3) e3⟩
            · rw [if_neg nd] at k1
              have ne : ¬ (dedupS (signs s)).length = (signs s).length := fun z => nd (dedupS_len.mp z)
              refine if_false_of (decide_eq_false fun z => ne ?_) ?_
              · have z := V.int.inj z
                omega
              · exact k1 rfl H2 (s1.trans s2)
def sp_is_sign : Sp := fun vs H Q _ => ∃ s : Str, vs = [.str s] ∧ s.length ≤ 1000000 ∧ Q (.bl (isLet s)) H
theorem ok_is_sign (T : Txt K mg a) : CalX P w K mg base CX0 1 "is_sign" sp_is_sign [] := by
  refine ⟨_, _, _, _, T.g_is_sign, T.F_is_sign.kp, T.F_is_sign.ok sc_is_sign (fun vs H Q E h => ?_) (fun cdv A outer s H vs Q E hr h => ?_), T.b_is_sign, .nil⟩
  · obtain ⟨s, rfl, _⟩ := h
    rfl
  · obtain ⟨s, rfl, hs, k⟩ := h
    refine ⟨_, (pss_one (ps_ret (pe_and (pe_callB call_isi (by rfl) T.n_isinstance (by decide +kernel) (pa_cons (pv 0) (pa_cons (pe_bltn (v := .ty "str") (by rfl) T.n_str (by decide +kernel) rfl) pa_nil))) (pe_and (pe_cmpR op_eq (pe_callB call_len_str (by rfl) T.n_len (by decide +kernel) (pa_cons (pv 0) pa_nil)) pe_int (nomark _)) (pe_one (pe_chain op_le_str op_le_str pe_str (pv 0) pe_str)))))), ?_⟩
    refine ⟨_, rfl, _, _, _, _, true, rfl, .ty _, str_is _ _ _, kit_ty (by decide +kernel), true, rfl, iteT ?_⟩
    refine ⟨_, rfl, s, rfl, size1 hs, rfl, _, rfl, ite2 (fun e => ?_) (fun e => ?_)⟩
    · have e1 : V.int (s.length : Int) = V.int 1 := of_decide_eq_true e
      have e2 : s.length = 1 := by have := V.int.inj e1; omega
      obtain ⟨c, rfl⟩ := one_of e2
      refine ⟨_, rfl, _, _, rfl, rfl, _, rfl, ?_⟩
      have g1 := ge_sign c
      have g2 := le_sign c
      rw [isLet_one] at k
      unfold letc at k
      refine ite2 (fun z => ⟨_, _, rfl, rfl, ?_⟩) (fun z => ?_)
      · have z1 : 97 ≤ c := of_decide_eq_true (g1.symm.trans z)
        have z2 : (!decide (([122] : List Nat) < [c])) = decide (97 ≤ c ∧ c ≤ 122) := by rw [g2]; simp [z1]
        rw [← z2] at k
        exact k
      · have z1 : ¬ 97 ≤ c := fun q => z (g1.trans (decide_eq_true q))
        have z2 : decide (97 ≤ c ∧ c ≤ 122) = false := by simp [z1]
        rw [z2] at k
        exact k
    · have e2 : ¬ s.length = 1 := fun q => e (decide_eq_true (by rw [q]; rfl))
      rw [isLet_not e2] at k
      exact k
def sp_is_pair : Sp := fun vs H Q _ => ∃ s : Str, vs = [.str s] ∧ s.length ≤ 1000000 ∧ Q (.bl (isPr s)) H
theorem ok_is_pair (T : Txt K mg a) : CalX P w K mg base CX0 2 "is_pair" sp_is_pair [] := by
  refine ⟨_, _, _, _, T.g_is_pair, T.F_is_pair.kp, T.F_is_pair.ok sc_is_pair (fun vs H Q E h => ?_) (fun cdv A outer s H vs Q E hr h => ?_), T.b_is_pair, .nil⟩
  · obtain ⟨s, rfl, _⟩ := h
    rfl
  · obtain ⟨s, rfl, hs, k⟩ := h
    refine ⟨_, (pss_one (ps_ret (pe_and (pe_callB call_isi (by rfl) T.n_isinstance (by decide +kernel) (pa_cons (pv 0) (pa_cons (pe_bltn (v := .ty "str") (by rfl) T.n_str (by decide +kernel) rfl) pa_nil))) (pe_and (pe_cmpR op_eq (pe_callB call_len_str (by rfl) T.n_len (by decide +kernel) (pa_cons (pv 0) pa_nil)) pe_int (nomark _)) (pe_and (pe_cx (ok_is_sign T) hr (by decide) pass0 (by rfl) (pa_cons (pe_item_str (pv 0) pe_int (fun _ _ => rfl)) pa_nil)) (pe_one (pe_cx (ok_is_sign T) hr (by decide) pass0 (by rfl) (pa_cons (pe_item_str (pv 0) pe_int (fun _ _ => rfl)) pa_nil)))))))), ?_⟩
    refine ⟨_, rfl, _, _, _, _, true, rfl, .ty _, str_is _ _ _, kit_ty (by decide +kernel), true, rfl, iteT ?_⟩
    refine ⟨_, rfl, s, rfl, size1 hs, rfl, _, rfl, ite2 (fun e => ?_) (fun e => ?_)⟩
    · have e1 : V.int (s.length : Int) = V.int 2 := of_decide_eq_true e
      have e2 : s.length = 2 := by have := V.int.inj e1; omega
      obtain ⟨c, d, rfl⟩ := two_of e2
      rw [isPr_two] at k
      refine ⟨_, rfl, _, _, c, rfl, rfl, by decide, by decide, by show (0 : Int) < 2; decide, rfl, _, rfl, by show 1 ≤ 1000000; decide, _, rfl, ?_⟩
      rw [isLet_one]
      cases hc : letc c with
      | true =>
        rw [hc] at k
        refine iteT ⟨_, rfl, _, _, d, rfl, rfl, by decide, by decide, by show (1 : Int) < 2; decide, rfl, _, rfl, by show 1 ≤ 1000000; decide, ?_⟩
        rw [isLet_one]
        exact k
      | false =>
        rw [hc] at k
        exact iteF k
    · have e2 : ¬ s.length = 2 := fun q => e (decide_eq_true (by rw [q]; rfl))
      rw [isPr_not e2] at k
      exact k
/-- fresh(told, found) -/
def sp_fresh : Sp := fun vs H Q _ => ∃ (v : V) (d : Addr) (kvs : List (Key × V)), vs = [v, .ref d] ∧ H d = some (.dK kvs) ∧ ((v = .non ∧ Q .non H) ∨ ∃ p k t, v = .ref p ∧ SqT K H p [kV k, t] ∧ Q (if (valV kvs k).isSome = true then .non else v) H)
theorem ok_fresh (T : Txt K mg a) : CalX P w K mg base CX0 1 "fresh" (sp_fresh (K := K)) [] := by
  refine ⟨_, _, _, _, T.g_fresh, T.F_fresh.kp, T.F_fresh.ok sc_fresh (fun vs H Q E h => ?_) (fun cdv A outer s H vs Q E hr h => ?_), T.b_fresh, .nil⟩
  · obtain ⟨v, d, kvs, rfl, _⟩ := h
    rfl
  · obtain ⟨v, d, kvs, rfl, hd, h⟩ := h
    refine ⟨_, (pss_one (ps_ret (pe_ifExp (PW.pt (pw_or (pt_cmpR op_isN (pv 0) pe_non (nomark _)) (pw_or1 (pt_cmp (pc_din (hu_of hr) (pe_ix (show IxR _ (rIxT K) from ix_tup) (pv 0) pe_int (fun _ _ => rfl)) (pv 1)))))) pe_non (pv 0)))), ?_⟩
    rcases h with ⟨rfl, k⟩ | ⟨p, ky, t, rfl, hp, k⟩
    · exact ⟨_, rfl, rfl, _, rfl, iteT (iteT k)⟩
    · refine ⟨_, rfl, rfl, _, rfl, iteF ?_⟩
      refine ⟨_, rfl, p, _, _, _, rfl, rfl, hp, atI_nat (j := 0) rfl, _, rfl, d, _, rfl, DGet.k hd, _, rfl, ?_⟩
      refine ite2 (fun z => ?_) (fun z => ?_)
      · rw [if_pos z] at k
        exact k
      · rw [if_neg z] at k
        exact ⟨_, rfl, k⟩
end
end K88

set_option maxHeartbeats 2000000
/-! ## 9. The words of a line, taken one by one -/
namespace K88
open PySem PySem.Spec PyProof.Rows L2
open LamX (CodeO TabS Tabs ExtN TabB lamEnv)
/-- at d: what an InvalidText holds -/
def ErrAt (H : Hp) (d : Addr) (n p : Int) : Prop := ∃ fs, H d = some (.xd fs) ∧ fs.lookup ("line" : Str) = some (.int n) ∧ fs.lookup ("word" : Str) = some (.int p)
def fL (l : Addr) (n p : Int) : List (Str × V) := [("words", .ref l), ("number", .int n), ("passed", .int p)]
/-- at s: a Line of the words ws, of the number n, p of them passed -/
def LineAt (C : Addr) (H : Hp) (s : Addr) (ws : List Str) (n p : Int) : Prop := ∃ dx l, H s = some (.ins C dx (fL l n p)) ∧ H l = some (.lst (ws.map V.str))
theorem LineAt.same {C : Addr} {H H' : Hp} {s : Addr} {ws : List Str} {n p : Int} (h : LineAt C H s ws n p) (e : Same H H') : LineAt C H' s ws n p := by
  obtain ⟨dx, l, h1, h2⟩ := h
  exact ⟨dx, l, e _ _ h1, e _ _ h2⟩
theorem lk_words (l : Addr) (n p : Int) : (fL l n p).lookup ("words" : Str) = some (.ref l) := by unfold fL; rfl
theorem lk_number (l : Addr) (n p : Int) : (fL l n p).lookup ("number" : Str) = some (.int n) := by
  have e1 : (("number" : Str) == "words") = false := by decide +kernel
  unfold fL
  simp only [List.lookup, e1]
  rfl
theorem lk_passed (l : Addr) (n p : Int) : (fL l n p).lookup ("passed" : Str) = some (.int p) := by
  have e1 : (("passed" : Str) == "words") = false := by decide +kernel
  have e2 : (("passed" : Str) == "number") = false := by decide +kernel
  unfold fL
  simp only [List.lookup, e1, e2]
  rfl
theorem lk_none {l : Addr} {n p : Int} {m : Str} (h1 : (m == ("words" : Str)) = false) (h2 : (m == ("number" : Str)) = false) (h3 : (m == ("passed" : Str)) = false) : (fL l n p).lookup m = none := by
  unfold fL
  simp only [List.lookup, h1, h2, h3]
theorem put_passed (l : Addr) (n p q : Int) : putF "passed" (.int q) (fL l n p) = fL l n q := by
  have e1 : ¬ (("words" : Str) = "passed") := by decide +kernel
  have e2 : ¬ (("number" : Str) = "passed") := by decide +kernel
  unfold fL
  simp only [putF, e1, e2, if_false, if_true]
theorem put_three (l : Addr) (n p : Int) : putF "passed" (.int p) (putF "number" (.int n) (putF "words" (.ref l) [])) = fL l n p := by
  have e0 : ¬ (("words" : Str) = "number") := by decide +kernel
  have e1 : ¬ (("words" : Str) = "passed") := by decide +kernel
  have e2 : ¬ (("number" : Str) = "passed") := by decide +kernel
  unfold fL
  simp only [putF, e0, e1, e2, if_false]
/-- all but what stands at a -/
def SameB (a : Addr) (H H' : Hp) : Prop := ∀ b o, b ≠ a → H b = some o → H' b = some o
theorem Same.b {a : Addr} {H H' : Hp} (s : Same H H') : SameB a H H' := fun b o _ e => s b o e
theorem SameB.trans {a : Addr} {H H1 H2 : Hp} (s : SameB a H H1) (t : SameB a H1 H2) : SameB a H H2 := fun b o n e => t b o n (s b o n e)
theorem SameB.upd {a : Addr} {H H' : Hp} {o : HO} (s : SameB a H H') : SameB a H (L2.upd H' a o) := fun b u n e => by
  rw [upd_ne n]
  exact s b u n e
section
variable {P : Program} {w : World} {K : PySem.W.Frag} {mg : Str → Option Value} {base : Heap} {a : Ad}
def sp_IT (C : Addr) : Sp := fun vs H Q _ => ∃ (s : Addr) (l p : V), vs = [.ref s, l, p] ∧ H s = some (exo s C none) ∧ ∀ d, H d = none → d ≠ s → Q .non (upd (upd (upd H d (exd d [("line", l)])) s (exo s C (some d))) d (exd d [("word", p), ("line", l)]))
theorem ok_InvalidText_init (T : Txt K mg a) : FnOk P w K mg base CX0 1 a.f_InvalidTextx_initx a.d_InvalidTextx_initx ["self", "line", "word"] (sp_IT a.c_InvalidText) := by
  refine T.F_InvalidTextx_initx.ok sc_InvalidTextx_initx (fun vs H Q E h => ?_) (fun cdv A outer s H vs Q E hr h => ?_)
  · obtain ⟨s, l, p, rfl, _⟩ := h
    rfl
  · obtain ⟨s, l, p, rfl, hs, k⟩ := h
    refine ⟨_, (pss_cons (ps_ost (pv 0) (pv 1))
          (pss_one (ps_ost (pv 0) (pv 2)))), ?_⟩
    refine ⟨_, rfl, _, rfl, s, _, rfl, T.oex, T.no_line, .inl ⟨hs, fun d nd ne => ?_⟩⟩
    refine ⟨_, rfl, _, rfl, s, _, rfl, T.oex, T.no_word, .inr ⟨d, _, upd_same, by rw [upd_ne ne, upd_same], by show 1 ≤ 900; decide, k d nd ne⟩⟩
/-- InvalidText(n, p) is raised -/
def Raised (C : Addr) (H : Hp) (n p : Int) (E : XK) : Prop := ∀ d H', Same H H' → ErrAt H' d n p → E (.ref C) (some d) H'
theorem Raised.same {C : Addr} {H H1 : Hp} {n p : Int} {E : XK} (r : Raised C H n p E) (s : Same H H1) : Raised C H1 n p E := fun d H' s' e => r d H' (s.trans s') e
/-- what the making of the error asks -/
theorem raise_it {C : Addr} {H : Hp} {n p : Int} {E : XK} (r : Raised C H n p E) : ([V.int n, V.int p] : List V).length ≤ 1000 ∧ ∀ x, H x = none → sp_IT C (.ref x :: ([V.int n, V.int p] ++ [])) (upd H x (exo x C none))
    (fun v H2 => v = .non ∧ ∃ (d : Addr) (fs : List (Str × V)), H2 x = some (exo x C (some d)) ∧ H2 d = some (exd d fs) ∧ H d = none ∧ E (.ref C) (some d) (upd (L2.del H2 x) d (.xd fs))) E0 := by
  refine ⟨by show 2 ≤ 1000; decide, fun x nx => ⟨x, _, _, rfl, upd_same, fun d nd ne => ⟨rfl, d, _, ?_, upd_same, ?_, ?_⟩⟩⟩
  · rw [upd_ne ne.symm, upd_same]
  · rw [upd_ne ne] at nd
    exact nd
  · have nd' : H d = none := by
      rw [upd_ne ne] at nd
      exact nd
    refine r d _ (fun b o e => ?_) ⟨_, upd_same, ?_, ?_⟩
    · have b1 : b ≠ d := ne_of_none e nd'
      have b2 : b ≠ x := ne_of_none e nx
      rw [upd_ne b1, L2.del_ne b2, upd_ne b1, upd_ne b2, upd_ne b1, upd_ne b2]
      exact e
    · have e1 : (("line" : Str) == "word") = false := by decide +kernel
      simp only [List.lookup, e1]
      rfl
    · rfl
def sp_is_over (C : Addr) : Sp := fun vs H Q _ => ∃ (s : Addr) (ws : List Str) (n : Int) (p : Nat), vs = [.ref s] ∧ LineAt C H s ws n p ∧ Q (.bl (decide (p = ws.length))) H
theorem ok_Line_is_over (T : Txt K mg a) : MetX P w K mg base CX0 1 a.c_Line "is_over" (sp_is_over a.c_Line) [] := by
  refine ⟨_, _, _, _, T.cl_Line, T.m_Line_is_over, T.F_Line_is_over.ok sc_Line_is_over (fun vs H Q E h => ?_) (fun cdv A outer s H vs Q E hr h => ?_), T.b_Line_is_over, .nil⟩
  · obtain ⟨s, ws, n, p, rfl, _⟩ := h
    rfl
  · obtain ⟨s, ws, n, p, rfl, ⟨dx, l, hs, hl⟩, k⟩ := h
    refine ⟨_, (pss_one (ps_ret (pe_cmpR op_eq (pe_fldK (K := K) rfl (pv 0) rfl) (pe_callB call_len_seq (by rfl) T.n_len (by decide +kernel) (pa_cons (pe_fldK (K := K) rfl (pv 0) rfl) pa_nil)) (nomark _)))), ?_⟩
    refine ⟨_, rfl, s, _, dx, _, _, rfl, hs, T.cl_Line, T.no_Line_passed, lk_passed _ _ _, _, rfl, s, _, dx, _, _, rfl, hs, T.cl_Line, T.no_Line_words, lk_words _ _ _, l, _, rfl, .inl (SqL.of hl), rfl, ?_⟩
    have e : decide (V.int (p : Int) = V.int ((ws.map V.str).length : Nat)) = decide (p = ws.length) := by
      rw [List.length_map]
      refine decide_eq_decide.mpr ⟨fun z => ?_, fun z => by rw [z]⟩
      have := V.int.inj z
      omega
    show Q (.bl (decide (V.int (p : Int) = V.int ((ws.map V.str).length : Nat)))) H
    rw [e]
    exact k
def sp_refuse (C CI : Addr) : Sp := fun vs H _ E => ∃ (s : Addr) (ws : List Str) (n p : Int), vs = [.ref s] ∧ LineAt C H s ws n p ∧ Raised CI H n p E
theorem ok_Line_refuse (T : Txt K mg a) : MetX P w K mg base (L2.CX P w) 3 a.c_Line "refuse" (sp_refuse a.c_Line a.c_InvalidText) [] := by
  refine ⟨_, _, _, _, T.cl_Line, T.m_Line_refuse, T.F_Line_refuse.okX sc_Line_refuse (fun vs H Q E h => ?_) (fun cdv A outer s H vs Q E hr h => ?_), T.b_Line_refuse, .nil⟩
  · obtain ⟨s, ws, n, p, rfl, _⟩ := h
    rfl
  · obtain ⟨s, ws, n, p, rfl, ⟨dx, l, hs, hl⟩, r⟩ := h
    refine ⟨_, (pss_one (ps_raise rfl (takes_of rfl rfl rfl rfl) (pmk_oex T.oex T.i_InvalidText T.t_InvalidText (ok_InvalidText_init T) hr T.b_InvalidTextx_initx .nil (fun _ _ _ _ _ _ _ z => z.elim) rfl T.g_InvalidText (pa_cons (pe_fldK (K := K) rfl (pv 0) rfl) (pa_cons (pe_fldK (K := K) rfl (pv 0) rfl) pa_nil))))), ?_⟩
    exact ⟨_, rfl, s, _, dx, _, _, rfl, hs, T.cl_Line, T.no_Line_number, lk_number _ _ _, _, rfl, s, _, dx, _, _, rfl, hs, T.cl_Line, T.no_Line_passed, lk_passed _ _ _, raise_it r⟩

/-- Line(t, n) -/
def sp_Line (C : Addr) : Sp := fun vs H Q _ => ∃ (s dx : Addr) (t : Str) (n : Int), vs = [.ref s, .str t, .int n] ∧ t.length ≤ 1000000 ∧ H s = some (.ins C dx []) ∧ ∀ H', SameB s H H' → LineAt C H' s (Txt.split t " ") n 0 → Q .non H'
theorem ok_Line (T : Txt K mg a) : MakX P w K mg base CX0 1 "Line" a.c_Line (sp_Line a.c_Line) [] := by
  refine ⟨_, _, _, _, T.g_Line, T.mk_Line, T.F_Linex_initx.ok sc_Linex_initx (fun vs H Q E h => ?_) (fun cdv A outer s H vs Q E hr h => ?_), T.b_Linex_initx, .nil⟩
  · obtain ⟨s, dx, t, n, rfl, _⟩ := h
    rfl
  · obtain ⟨s, dx, t, n, rfl, ht, hs, k⟩ := h
    refine ⟨_, (pss_cons (ps_fld (pv 0) (pe_split (pv 1) pe_str) rfl)
          (pss_cons (ps_fld (pv 0) (pv 2) rfl)
          (pss_one (ps_fld (pv 0) pe_int rfl)))), ?_⟩
    refine ⟨_, rfl, ⟨_, rfl⟩, t, _, rfl, rfl, rfl, by rw [sizeLine_eq]; omega, fun l nl => ?_⟩
    have e1 : upd H l (.lst ((Txt.split t " ").map V.str)) s = some (.ins a.c_Line dx []) := by rw [upd_ne (ne_of_none hs nl)]; exact hs
    refine ⟨_, rfl, s, _, dx, _, rfl, e1, T.cl_Line, T.no_Line_words, by decide, ?_⟩
    refine ⟨_, rfl, _, rfl, s, _, dx, _, rfl, upd_same, T.cl_Line, T.no_Line_number, by show 1 < 1000; decide, ?_⟩
    refine ⟨_, rfl, s, _, dx, _, rfl, upd_same, T.cl_Line, T.no_Line_passed, by show 2 < 1000; decide, ?_⟩
    refine k _ (fun b o n1 e => ?_) ⟨dx, l, by rw [upd_same, put_three], ?_⟩
    · rw [upd_ne n1, upd_ne n1, upd_ne n1, upd_ne (ne_of_none e nl)]
      exact e
    · have n2 : l ≠ s := (ne_of_none hs nl).symm
      rw [upd_ne n2, upd_ne n2, upd_ne n2, upd_same]
/-- self.take(meaning): f can be called, its promise spf -/
def sp_take (C CI : Addr) (can : Can) : Sp := fun vs H Q E => ∃ (s f : Addr) (ws : List Str) (n : Int) (p j : Nat) (spf : Sp), vs = [.ref s, .ref f] ∧ LineAt C H s ws n p ∧ j ≤ 4 ∧ can j f spf ∧ p ≤ ws.length ∧ (p = ws.length → Raised CI H n p E) ∧
  ∀ t, ws[p]? = some t → ∀ R : VK, (∀ v H1, Same H H1 → (v = .non → Raised CI H1 n p E) → (v ≠ .non → ∀ H', SameB s H1 H' → LineAt C H' s ws n ((p : Int) + 1) → Q v H') → R v H1) → spf [.str t] H R E0
theorem ok_Line_take (T : Txt K mg a) : MetS P w K mg base 5 a.c_Line "take" 2 (sp_take a.c_Line a.c_InvalidText) [] := by
  obtain ⟨oc, od, kV, doc, pm, an, cdv, ct, osl, ed, lk, hcd⟩ := T.F_Line_take.ex
  refine ⟨_, _, _, _, T.cl_Line, T.m_Line_take, ?_, T.b_Line_take, .nil, rfl⟩
  rw [ed] at lk ⊢
  refine fnS_ok lk hcd sc_Line_take fun A outer s0 H vs Q E hr h => ?_
  obtain ⟨s, f, ws, n, p, j, spf, rfl, hL, hj, hcan, hp, k1, k2⟩ := h
  obtain ⟨dx, l, hs, hl⟩ := id hL
  refine ⟨_, (pss_cons (ps_set (i := 2) sc_Line_take.nd rfl (by first | exact Or.inl rfl | exact Or.inr rfl) (pe_ifExp (pt_val (pe_mtx0 (ok_Line_is_over T) (pv 0) hr (by decide) pass0)) pe_non (pe_callF (i := 1) hcan rfl (hr.mono (by omega)) rfl (Or.inl rfl) passL (pa_cons (pe_ix (show IxR _ (rIxL K) from ix_list) (pe_fldK (K := K) rfl (pv 0) rfl) (pe_fldK (K := K) rfl (pv 0) rfl) (fun _ _ => rfl)) pa_nil))))
          (pss_cons (ps_if (pt_cmpR op_isN (pv 2) pe_non (nomark _))
            (pss_one (ps_expr (pe_mtx0 (ok_Line_refuse T) (pv 0) hr (by decide) (passes_call (takes_of rfl rfl rfl rfl) (fun _ _ _ _ h => h)))))
            pss_nil)
          (pss_cons (ps_fldaug (pv 0) pe_int in_add)
          (pss_one (ps_ret (pv 2)))))), ?_⟩
  refine ⟨_, rfl, s, dx, _, rfl, hs, lk_none (by decide +kernel) (by decide +kernel) (by decide +kernel), s, ws, n, p, rfl, hL, _, rfl, ?_⟩
  have raise : ∀ (v : Option V) H1, Same H H1 → Raised a.c_InvalidText H1 n p E → ∀ Q', tMeth a.c_Line "refuse" (sp_refuse a.c_Line a.c_InvalidText) [] E (tVar 0) tNil [some (.ref s), some (.ref f), v] H1 Q' := fun v H1 s1 r Q' =>
    ⟨_, rfl, s, dx, _, rfl, s1 _ _ hs, lk_none (by decide +kernel) (by decide +kernel) (by decide +kernel), s, ws, n, p, rfl, hL.same s1, r⟩
  refine ite2 (fun e => ?_) (fun e => ?_)
  · have e1 : p = ws.length := of_decide_eq_true e
    refine ⟨_, rfl, rfl, _, rfl, iteT ?_⟩
    exact raise _ H (Same.refl H) (k1 e1) _
  · have e1 : p < ws.length := Nat.lt_of_le_of_ne hp fun z => e (decide_eq_true z)
    have hw : ws[p]? = some ws[p] := List.getElem?_eq_getElem e1
    refine ⟨rfl, _, rfl, s, _, dx, _, _, rfl, hs, T.cl_Line, T.no_Line_words, lk_words _ _ _, _, rfl, s, _, dx, _, _, rfl, hs, T.cl_Line, T.no_Line_passed, lk_passed _ _ _, l, _, _, _, rfl, rfl, SqL.of hl, atI_nat (j := p) (by rw [List.getElem?_map, hw]; rfl), ?_⟩
    refine k2 _ hw _ fun v H1 s1 r1 r2 => ?_
    refine ⟨_, rfl, rfl, _, rfl, ?_⟩
    by_cases ev : v = .non
    · refine if_true_of (decide_eq_true ev) ?_
      exact raise _ H1 s1 (r1 ev) _
    · refine if_false_of (decide_eq_false ev) ?_
      refine ⟨_, rfl, s, _, dx, _, _, rfl, s1 _ _ hs, T.cl_Line, T.no_Line_passed, lk_passed _ _ _, ?_⟩
      refine ⟨_, _, rfl, rfl, dx, _, s1 _ _ hs, by show 3 < 1000; decide, _, rfl, ?_⟩
      rw [put_passed]
      have nl : l ≠ s := ne_of hl hs (fun z => by cases z)
      exact r2 ev _ (SameB.upd fun b o _ e => e) ⟨dx, l, upd_same, by rw [upd_ne nl]; exact s1 _ _ hl⟩
end
end K88

set_option maxHeartbeats 4000000
/-! ## 10. The pairs of a line; the manner that a line writes -/
namespace K88
open PySem PySem.Spec PyProof.Rows L2
open LamX (CodeO TabS Tabs ExtN TabB lamEnv)
/-- the tables of the code objects of the two lambdas -/
def TT (a : Ad) : List (Addr × Str) := [(a.p_m, (("manner_in" : Str) ++ ".<locals>.") ++ "<lambda>"), (a.p_c, (("Line.collected" : Str) ++ ".<locals>.") ++ "<lambda>")]
theorem TT_m (a : Ad) : (a.p_m, (("manner_in" : Str) ++ ".<locals>.") ++ "<lambda>") ∈ TT a := List.mem_cons_self
theorem TT_c (a : Ad) : (a.p_c, (("Line.collected" : Str) ++ ".<locals>.") ++ "<lambda>") ∈ TT a := List.mem_cons_of_mem _ List.mem_cons_self
theorem TT_um {K : PySem.W.Frag} {mg : Str → Option Value} {a : Ad} (T : Txt K mg a) : ∀ p ∈ TT a, p.1 = a.p_m → p.2 = (("manner_in" : Str) ++ ".<locals>.") ++ "<lambda>" := fun p hp e => by
  rcases List.mem_cons.mp hp with rfl | hp
  · rfl
  · rw [List.mem_singleton] at hp
    subst hp
    exact absurd e.symm T.ne_p
theorem TT_uc {K : PySem.W.Frag} {mg : Str → Option Value} {a : Ad} (T : Txt K mg a) : ∀ p ∈ TT a, p.1 = a.p_c → p.2 = (("Line.collected" : Str) ++ ".<locals>.") ++ "<lambda>" := fun p hp e => by
  rcases List.mem_cons.mp hp with rfl | hp
  · exact absurd e T.ne_p
  · rw [List.mem_singleton] at hp
    subst hp
    rfl
structure Tb (base : Heap) (mg : Str → Option Value) (a : Ad) : Prop where
  m : TabB base mg a.k_m a.p_m
  c : TabB base mg a.k_c a.p_c
/-- all but what stands at s, and the tables -/
def ExtB (s : Addr) (H H' : Hp) : Prop := ∀ b o, H b = some o → b ≠ s → (∀ ps, o ≠ .tbl ps) → H' b = some o
theorem ExtB.refl {s : Addr} {H : Hp} : ExtB s H H := fun _ _ e _ _ => e
theorem ExtB.trans {s : Addr} {H H1 H2 : Hp} (a : ExtB s H H1) (b : ExtB s H1 H2) : ExtB s H H2 := fun c o h n t => b c o (a c o h n t) n t
theorem ExtB.of {s : Addr} {H H' : Hp} (e : Same H H') : ExtB s H H' := fun b o h _ _ => e b o h
theorem ExtB.ofN {s : Addr} {H H' : Hp} (e : ExtN H H') : ExtB s H H' := fun b o h _ t => e b o h t
theorem ExtB.ofB {s : Addr} {H H' : Hp} (e : SameB s H H') : ExtB s H H' := fun b o h n _ => e b o n h
theorem ExtB.mut {s d : Addr} {H H' : Hp} {o : HO} (e : ExtB s H H') (h : H d = none) : ExtB s H (upd H' d o) := fun b u z n t => by
  rw [upd_ne (ne_of_none z h)]
  exact e b u z n t
theorem Tabs.sameB {s : Addr} {a : Ad} {H H' : Hp} (t : Tabs (TT a) H) (e : SameB s H H') (hs : ∀ ps, H s ≠ some (.tbl ps)) (hc : ∀ c q, H s ≠ some (CodeO c q)) : Tabs (TT a) H' := fun p hp => by
  obtain ⟨ps, h1, h2, h3⟩ := t p hp
  refine ⟨ps, e _ _ (fun z => hs ps (by rw [← z]; exact h1)) h1, h2, fun pos cv hcv => ?_⟩
  obtain ⟨c, e1, e2⟩ := h3 pos cv hcv
  exact ⟨c, e1, e _ _ (fun z => hc c p.2 (by rw [← z]; exact e2)) e2⟩
theorem Tabs.same {a : Ad} {H H' : Hp} (t : Tabs (TT a) H) (e : Same H H') : Tabs (TT a) H' := LamX.Tabs.ext t e
/-- the first word that is no pair, or that stood before -/
def badAt (seen : List Str) : List Str → Option Nat
  | [] => none
  | w :: r => if isPr w = true ∧ w ∉ seen then (badAt (seen ++ [w]) r).map (· + 1) else some 0
def yesP (ws : List Str) : List (Key × V) := ws.map fun w => (Sum.inr w, V.bl true)
theorem valV_yes (ws : List Str) (t : Str) : (valV (yesP ws) (Sum.inr t)).isSome = decide (t ∈ ws) := by
  unfold valV yesP
  rw [Option.isSome_map]
  refine Bool.eq_iff_iff.mpr ?_
  rw [List.find?_isSome, decide_eq_true_iff]
  constructor
  · rintro ⟨x, hx, e⟩
    obtain ⟨y, hy, rfl⟩ := List.mem_map.mp hx
    have e1 : (Sum.inr y : Key) = Sum.inr t := by simpa using e
    cases e1
    exact hy
  · intro h
    exact ⟨(Sum.inr t, V.bl true), List.mem_map.mpr ⟨t, h, rfl⟩, by simp⟩
theorem put_yes {ws : List Str} {t : Str} (h : t ∉ ws) : putK (yesP ws) (Sum.inr t) (.bl true) = yesP (ws ++ [t]) := by
  unfold putK yesP
  rw [if_neg, List.map_append]
  · rfl
  · rw [List.any_map, List.any_eq_true]
    rintro ⟨x, hx, e⟩
    have e1 : (Sum.inr x : Key) = Sum.inr t := by simpa using e
    cases e1
    exact h hx
/-- InvalidText(n, i) is raised, the tables may have grown, s may have changed -/
def RaisedT (a : Ad) (s : Addr) (H : Hp) (n i : Int) (E : XK) : Prop := ∀ d H', ExtB s H H' → Tabs (TT a) H' → ErrAt H' d n i → E (.ref a.c_InvalidText) (some d) H'
section
variable {P : Program} {w : World} {K : PySem.W.Frag} {mg : Str → Option Value} {base : Heap} {a : Ad}
/-- what the meaning of a pair's word does -/
def PairSp (s : Addr) (H : Hp) (spf : Sp) : Prop := ∀ (H1 : Hp) (t : Str) (R : VK), ExtB s H H1 → t.length ≤ 1000000 → (isPr t = false → ∀ H2, Same H1 H2 → R .non H2) → (isPr t = true → ∀ H2 q, Same H1 H2 → H1 q = none → H2 q = some (.tup [.str t, .bl true]) → R (.ref q) H2) → spf [.str t] H1 R E0
def sp_collected (a : Ad) (K : PySem.W.Frag) (can : Can) : Sp := fun vs H Q E => ∃ (s f : Addr) (ws : List Str) (n : Int) (p j : Nat) (spf : Sp), vs = [.ref s, .ref f, .ref a.e_0, .int 0] ∧ LineAt a.c_Line H s ws n p ∧ Tabs (TT a) H ∧ j ≤ 2 ∧ can j f spf ∧ PairSp s H spf ∧ p ≤ ws.length ∧ (∀ t ∈ ws, t.length ≤ 1000000) ∧ ws.length ≤ 16000000 ∧
  (∀ i, badAt [] (ws.drop p) = some i → RaisedT a s H n ((p : Int) + i) E) ∧
  (badAt [] (ws.drop p) = none → ∀ d H', ExtB s H H' → Tabs (TT a) H' → H d = none → H' d = some (.dK (yesP (ws.drop p))) → Q (.ref d) H')
theorem ok_Line_collected (T : Txt K mg a) (B : Tb base mg a) : MetS P w K mg base 7 a.c_Line "collected" 2 (sp_collected a K) [.ref a.e_0, .int 0] := by
  obtain ⟨ds, hds, hb⟩ := T.F_Line_collected.binds0 (ps := ["self", "meaning", "ends", "least"]) 2 (by simp) rfl (fun D doc pm an cdv ct us ks h1 h2 => match us, ks, h1, h2 with | [_, _], [_, _], _, _ => ⟨_, _, _, _, _, _, rfl, rfl, _, _, _, _, _, _, rfl, rfl, rfl⟩)
  refine ⟨_, _, _, ds, T.cl_Line, T.m_Line_collected, ?_, hb, hds, rfl⟩
  obtain ⟨oc, od, dV, kV, doc, pm, an, ct, osl, lk, ed, hcd⟩ := T.l_collected
  rw [ed] at lk ⊢
  refine fnS_ok lk hcd sc_Line_collected fun A outer s0 H vs Q E hr h => ?_
  obtain ⟨s, f, ws, n, p, j, spf, rfl, hL, hT, hj, hcan, hsp, hp, hlen, hsz, k1, k2⟩ := h
  obtain ⟨oe, ne_, sle, he0⟩ := T.l_e0
  refine ⟨_, (pss_cons (ps_set (i := 4) sc_Line_collected.nd rfl (by first | exact Or.inl rfl | exact Or.inr rfl) pe_dnewK)
          (pss_cons (ps_while (passes_of rfl) (PW.pt (pw_or (pt_cmpR op_lt (pe_callB call_lenD (by rfl) T.n_len (by decide +kernel) (pa_cons (pv 4) pa_nil)) (pv 3) (nomark _)) (pw_or1 (PW.pt (pw_and (pt_not (pt_val (pe_mtx0 (ok_Line_is_over T) (pv 0) hr (by decide) pass0))) (pw_and1 (pt_cmpR (show OpR _ (compareOp .NotIn) (rIn K true) from op_notIn_seq) (pe_ix (show IxR _ (rIxL K) from ix_list) (pe_fldK (K := K) rfl (pv 0) rfl) (pe_fldK (K := K) rfl (pv 0) rfl) (fun _ _ => rfl)) (pv 2) (by rfl))))))))
            (pss_cons (ps_asg (pe_mtl (lps := ["word"]) (kl := 2) (T := TT a) (ok_Line_take T) (pv 0) hr (by decide) (passes_call (takes_of rfl rfl rfl rfl) (fun _ _ _ _ h => h)) B.c rfl (TT_c a) (TT_uc T) (lamP_by (sc := defScope s_Line_collected) (by decide +kernel)) (by decide) (show ∀ x ∈ (["word"] : List Str), x ∉ N_Line_collected by decide +kernel) rfl (fun _ _ _ _ _ us hl => match us, hl with | [_], _ => rfl) (fun A' outer' pins' σ' s0' s1' H0' H1' E' f' c' I' af' hr' => pe_cx (ok_fresh T) hr' (by decide) pass0 (by rfl) (pa_cons (pe_callF (i := 1) (hcan.later (Aft.trans ⟨_, I'.base⟩ af')) rfl (hr'.mono (by omega)) rfl (Or.inr (Or.inr rfl)) passL (pa_cons (pv 7) pa_nil)) (pa_cons (pv 4) pa_nil)))) (pg_tup rfl (pgs_cons (pg_name (i := 5) sc_Line_collected.nd rfl (by first | exact Or.inl rfl | exact Or.inr rfl)) (pgs_cons (pg_name (i := 6) sc_Line_collected.nd rfl (by first | exact Or.inl rfl | exact Or.inr rfl)) pgs_nil))))
            (pss_one (ps_dput (hu_of hr) (pv 4) (pv 5) (pv 6) rfl))))
          (pss_one (ps_ret (pv 4))))), ?_⟩
  refine fun d nd => ?_
  have s0 : Same H (upd H d (.dK [])) := same_upd nd
  -- behind k words
  let Pv : Nat → L2.St → Hp → Prop := fun k σ H1 => ∃ (v1 v2 : Option V), σ = [some (.ref s), some (.ref f), some (.ref a.e_0), some (.int 0), some (.ref d), v1, v2] ∧ p + k ≤ ws.length ∧ ExtB s H H1 ∧ Tabs (TT a) H1 ∧ LineAt a.c_Line H1 s ws n ((p + k : Nat) : Int) ∧
    H1 d = some (.dK (yesP ((ws.drop p).take k))) ∧ badAt [] (ws.drop p) = (badAt ((ws.drop p).take k) (ws.drop (p + k))).map (· + k)
  refine ⟨fun m σ H1 => ∃ k, m = ws.length - (p + k) ∧ Pv k σ H1, ⟨_, 0, rfl, none, none, rfl, hp, ExtB.of s0, Tabs.same hT s0, hL.same s0, by rw [upd_same]; rfl, by simp⟩, ?_⟩
  rintro m σ H1 ⟨k, rfl, v1, v2, rfl, hk, hx, hT1, hL1, hd1, hb1⟩
  obtain ⟨dx, l, hs1, hl1⟩ := id hL1
  refine ⟨_, rfl, d, _, rfl, hd1, _, rfl, _, _, rfl, rfl, _, rfl, ?_⟩
  have hfl : ∀ m : Str, (m == ("words" : Str)) = false → (m == ("number" : Str)) = false → (m == ("passed" : Str)) = false → (fL l n ((p + k : Nat) : Int)).lookup m = none := fun m h1 h2 h3 => lk_none h1 h2 h3
  refine if_false_of (decide_eq_false (by omega)) ?_
  refine ⟨_, rfl, s, dx, _, rfl, hs1, hfl _ (by decide +kernel) (by decide +kernel) (by decide +kernel), s, ws, n, p + k, rfl, hL1, _, rfl, ?_⟩
  by_cases hov : p + k = ws.length
  · -- all words are passed
    refine if_false_of (by rw [decide_eq_true hov]; rfl) ?_
    refine iteF ⟨_, rfl, ?_⟩
    have e1 : (ws.drop p).take k = ws.drop p := List.take_of_length_le (by rw [List.length_drop]; omega)
    have e2 : ws.drop (p + k) = [] := List.drop_eq_nil_of_le (by omega)
    rw [e1] at hd1
    rw [e2] at hb1
    exact k2 hb1 d H1 hx hT1 nd hd1
  · have hlt : p + k < ws.length := by omega
    obtain ⟨t, ht⟩ : ∃ t, ws[p + k]? = some t := ⟨_, List.getElem?_eq_getElem hlt⟩
    have hdrop : ws.drop (p + k) = t :: ws.drop (p + k + 1) := by
      rw [List.drop_eq_getElem_cons hlt]
      rw [List.getElem?_eq_getElem hlt] at ht
      rw [Option.some.inj ht]
    refine if_true_of (by rw [decide_eq_false hov]; rfl) ?_
    refine ⟨_, rfl, s, _, dx, _, _, rfl, hs1, T.cl_Line, T.no_Line_words, lk_words _ _ _, _, rfl, s, _, dx, _, _, rfl, hs1, T.cl_Line, T.no_Line_passed, lk_passed _ _ _, l, _, _, _, rfl, rfl, SqL.of hl1, atI_nat (j := p + k) (by rw [List.getElem?_map, ht]; rfl), _, rfl, a.e_0, [], rfl, .inr ?_, rfl, rfl, _, rfl, ?_⟩
    · exact .inr ⟨_, #[], ne_, he0, rfl, rfl, Nat.zero_le _, .nil⟩
    refine ⟨fun σ' H' => Pv (k + 1) σ' H', fun σ' H' z => ⟨ws.length - (p + (k + 1)), by omega, k + 1, rfl, z⟩, ?_⟩
    have htl := hlen t (List.mem_of_getElem? ht)
    have e_take : (ws.drop p).take (k + 1) = (ws.drop p).take k ++ [t] := take_next (by rw [List.getElem?_drop]; exact ht)
    have hds : d ≠ s := ne_of hd1 hs1 (fun z => by cases z)
    refine ⟨_, rfl, s, dx, _, rfl, hs1, hfl _ (by decide +kernel) (by decide +kernel) (by decide +kernel), hT1, fun fl c' H2 eN T2 hco can hc => ?_⟩
    have nt : ∀ {b : Addr} {o : HO}, H1 b = some o → (∀ ps, o ≠ .tbl ps) → H2 b = some o := fun {b o} e h => eN b o e h
    have hs2 := nt hs1 (fun ps z => by cases z)
    have hl2 := nt hl1 (fun ps z => by cases z)
    have hd2 := nt hd1 (fun ps z => by cases z)
    have hx2 : ExtB s H H2 := hx.trans (ExtB.ofN eN)
    refine ⟨s, fl, ws, n, p + k, 3, _, rfl, ⟨dx, l, hs2, hl2⟩, by decide, hc, by omega, fun z => absurd z hov, fun t' ht' R hR => ?_⟩
    rw [ht] at ht'
    cases ht'
    have bad : badAt ((ws.drop p).take k) (ws.drop (p + k)) = some 0 → ∀ {H3 : Hp}, Same H2 H3 → Raised a.c_InvalidText H3 n ((p + k : Nat) : Int) E := fun z H3 s3 dd H4 s4 er => by
      have q := k1 k (by rw [hb1, z]; simp)
      exact q dd H4 (hx2.trans (ExtB.of (s3.trans s4))) (Tabs.same (Tabs.same T2 s3) s4) (by rw [show ((p : Int) + (k : Nat)) = ((p + k : Nat) : Int) by omega]; exact er)
    refine ⟨rfl, hco, rfl, ⟨_, rfl, hsp H2 t _ hx2 htl (fun ep H3 s3 => ?_) (fun ep H3 q s3 nq eq => ?_)⟩⟩
    · -- no pair
      refine ⟨_, rfl, .non, d, _, rfl, s3 _ _ hd2, .inl ⟨rfl, hR _ _ s3 (fun _ => bad ?_ s3) (fun z => absurd rfl z)⟩⟩
      rw [hdrop]
      unfold badAt
      rw [if_neg (fun z => by rw [ep] at z; exact Bool.false_ne_true z.1)]
    · refine ⟨_, rfl, .ref q, d, _, rfl, s3 _ _ hd2, .inr ⟨q, Sum.inr t, .bl true, rfl, SqT.of eq, ?_⟩⟩
      rw [valV_yes]
      by_cases hm : t ∈ (ws.drop p).take k
      · rw [if_pos (decide_eq_true hm)]
        refine hR _ _ s3 (fun _ => bad ?_ s3) (fun z => absurd rfl z)
        rw [hdrop]
        unfold badAt
        rw [if_neg (fun z => z.2 hm)]
      · rw [if_neg (fun z => hm (of_decide_eq_true z))]
        refine hR _ _ s3 (fun z => by cases z) (fun _ H4 sB hL4 => ?_)
        have hqs : q ≠ s := ne_of eq (s3 _ _ hs2) (fun z => by cases z)
        have hd4 := sB d _ hds (s3 _ _ hd2)
        refine ⟨q, _, rfl, SqT.of (sB q _ hqs eq), rfl, _, _, rfl, _, _, rfl, rfl, ?_⟩
        refine ⟨_, rfl, _, rfl, _, rfl, d, _, rfl, DPut.k (k := Sum.inr t) hd4 ?_, ?_⟩
        · unfold yesP
          rw [List.length_map, List.length_take, List.length_drop, sizeLine_eq]
          have hwl : ws.length ≤ 16000000 := hsz
          omega
        · refine ⟨_, _, rfl, by omega, (hx2.trans ((ExtB.of s3).trans (ExtB.ofB sB))).mut nd, ?_, ?_, ?_, ?_⟩
          · refine Tabs.sameB (s := d) (Tabs.sameB (s := s) (Tabs.same T2 s3) sB (fun ps z => ?_) (fun c q z => ?_)) (fun b o n0 e => by rw [upd_ne n0]; exact e) (fun ps z => ?_) (fun c q z => ?_)
            · rw [s3 _ _ hs2] at z; cases z
            · rw [s3 _ _ hs2] at z; cases z
            · rw [hd4] at z; cases z
            · rw [hd4] at z; cases z
          · obtain ⟨dx4, l4, g1, g2⟩ := hL4
            have hdl : l4 ≠ d := ne_of g2 hd4 (fun z => by cases z)
            refine ⟨dx4, l4, by rw [upd_ne hds.symm, g1]; rfl, by rw [upd_ne hdl]; exact g2⟩
          · rw [upd_same, e_take, put_yes hm]
          · rw [hb1, hdrop, e_take, show p + (k + 1) = p + k + 1 by omega]
            show Option.map (· + k) (if isPr t = true ∧ t ∉ (ws.drop p).take k then (badAt ((ws.drop p).take k ++ [t]) (ws.drop (p + k + 1))).map (· + 1) else some 0) = _
            rw [if_pos ⟨ep, hm⟩, Option.map_map]
            refine congrArg (fun g => Option.map g _) ?_
            funext x
            show x + 1 + k = x + (k + 1)
            omega
end
end K88

set_option maxHeartbeats 4000000
namespace K88
open PySem PySem.Spec PyProof.Rows L2
open LamX (CodeO TabS Tabs ExtN TabB lamEnv)
/-- the first word that cannot stand in a manner's text, or that lacks -/
def faultOf : List Str → Option Nat
  | [] => some 0
  | [w] => if rowOf w = none then some 0 else some 1
  | w0 :: w1 :: r => if rowOf w0 = none then some 0 else if rowOf w1 = none then some 1 else (badAt [] r).map (· + 2)
theorem nodup_of_bad : ∀ {r seen : List Str}, badAt seen r = none → r.Nodup ∧ (∀ t ∈ r, isPr t = true ∧ t ∉ seen)
  | [], _, _ => ⟨List.nodup_nil, fun t h => by cases h⟩
  | w :: r, seen, h => by
    unfold badAt at h
    by_cases c : isPr w = true ∧ w ∉ seen
    · rw [if_pos c, Option.map_eq_none_iff] at h
      obtain ⟨h1, h2⟩ := nodup_of_bad h
      refine ⟨List.nodup_cons.mpr ⟨fun z => (h2 w z).2 (by simp), h1⟩, fun t ht => ?_⟩
      rcases List.mem_cons.mp ht with rfl | ht
      · exact c
      · exact ⟨(h2 t ht).1, fun z => (h2 t ht).2 (List.mem_append_left _ z)⟩
    · rw [if_neg c] at h
      cases h
theorem keys_yesP (ws : List Str) : (yesP ws).map (fun kv => kV kv.1) = ws.map V.str := by
  unfold yesP
  rw [List.map_map]
  rfl
section
variable {P : Program} {w : World} {K : PySem.W.Frag} {mg : Str → Option Value} {base : Heap} {a : Ad}
theorem callAt_row (T : Txt K mg a) (st : Shared) (H : Hp) : CallAt P w K mg base 2 a.f_letters_row st H sp_letters_row := by
  obtain ⟨oc, od, kV, doc, pm, an, cdv, ct, osl, ed, lk, hcd⟩ := T.F_letters_row.ex
  exact callAt_def (fn_letters_row T) T.b_letters_row ⟨oc, od, osl, lk⟩ st H
def sp_manner_in (a : Ad) : Sp := fun vs H Q E => ∃ (s : Addr) (ws : List Str) (n : Int), vs = [.ref s] ∧ LineAt a.c_Line H s ws n 0 ∧ Tabs (TT a) H ∧ (∀ t ∈ ws, t.length ≤ 1000000) ∧ ws.length ≤ 16000000 ∧
  (∀ i, faultOf ws = some i → RaisedT a s H n i E) ∧
  (∀ w0 w1 r r0 r1, ws = w0 :: w1 :: r → rowOf w0 = some r0 → rowOf w1 = some r1 → badAt [] r = none → ∀ q q0 ql q1 H', ExtB s H H' → Tabs (TT a) H' → H' q = some (.tup [.ref q0, .ref ql, .ref q1]) → H' q0 = some (.tup (r0.map V.str)) → H' q1 = some (.tup (r1.map V.str)) → H' ql = some (.lst (r.map V.str)) → Q (.ref q) H')
theorem ok_manner_in (T : Txt K mg a) (B : Tb base mg a) : CalX P w K mg base (L2.CX P w) 8 "manner_in" (sp_manner_in a) [] := by
  refine ⟨_, _, ["line"], _, T.g_manner_in, T.F_manner_in.kp, ?_, T.b_manner_in, .nil⟩
  obtain ⟨oc, od, dV, kV, doc, pm, an, ct, osl, lk, ed, hcd⟩ := T.l_manner_in
  rw [ed] at lk ⊢
  refine fn_of lk hcd sc_manner_in (fun vs H Q E h => ?_) (fun A outer s0 H vs Q E hr h => ?_)
  · obtain ⟨s, ws, n, rfl, _⟩ := h
    rfl
  · obtain ⟨s, ws, n, rfl, hL, hT, hlen, hsz, k1, k2⟩ := h
    obtain ⟨dx, l, hs, hl⟩ := id hL
    refine ⟨_, (pss_cons (ps_par (i := 1) (j := 2) (by rfl) sc_manner_in.nd rfl rfl (by decide) rfl rfl (pa_cons (pe_mts (CanK := fun j f s => j = 2 ∧ f = a.f_letters_row ∧ s = sp_letters_row) (ok_Line_take T) (fun j f s z st H => by obtain ⟨rfl, rfl, rfl⟩ := z; exact callAt_row T st H) (pv 0) hr (by decide) (passes_call (takes_of rfl rfl rfl rfl) (fun _ _ _ _ h => h)) (pa_cons (C8.pe_gc (v := .ref a.f_letters_row) (by rfl) ⟨_, T.g_letters_row, rfl⟩) pa_nil)) (pa_cons (pe_mts (CanK := fun j f s => j = 2 ∧ f = a.f_letters_row ∧ s = sp_letters_row) (ok_Line_take T) (fun j f s z st H => by obtain ⟨rfl, rfl, rfl⟩ := z; exact callAt_row T st H) (pv 0) hr (by decide) (passes_call (takes_of rfl rfl rfl rfl) (fun _ _ _ _ h => h)) (pa_cons (C8.pe_gc (v := .ref a.f_letters_row) (by rfl) ⟨_, T.g_letters_row, rfl⟩) pa_nil)) pa_nil)) (by rfl))
          (pss_cons (ps_set (i := 3) sc_manner_in.nd rfl (by first | exact Or.inl rfl | exact Or.inr rfl) (pe_mtl (lps := ["word"]) (kl := 1) (T := TT a) (ok_Line_collected T B) (pv 0) hr (by decide) (passes_call (takes_of rfl rfl rfl rfl) (fun _ _ _ _ h => h)) B.m rfl (TT_m a) (TT_um T) (lamP_by (sc := defScope s_manner_in) (by decide +kernel)) (by decide) (show ∀ x ∈ (["word"] : List Str), x ∉ N_manner_in by decide +kernel) rfl (fun _ _ _ _ _ us hl => match us, hl with | [_], _ => rfl) (fun A' outer' pins' σ' s0' s1' H0' H1' E' f' c' I' af' hr' => pe_ifExp (pt_cmpR op_isN (pe_cx (ok_pair_in T) hr' (by decide) pass0 (by rfl) (pa_cons (pv 4) pa_nil)) pe_non (nomark _)) pe_non (pe_tup (pa_cons (pv 4) (pa_cons pe_bl pa_nil))))))
          (pss_one (ps_ret (pe_tup (pa_cons (pv 1) (pa_cons (pe_callTy (call_list_dK rfl) (by rfl) T.n_list (by decide +kernel) (pa_cons (pv 3) pa_nil)) (pa_cons (pv 2) pa_nil)))))))), ?_⟩
    have raised : ∀ i, faultOf ws = some i → ∀ H1, ExtB s H H1 → Tabs (TT a) H1 → Raised a.c_InvalidText H1 n i E := fun i hi H1 x t d H' s' er => k1 i hi d H' (x.trans (ExtB.of s')) (Tabs.same t s') er
    refine ⟨_, rfl, s, dx, _, rfl, hs, lk_none (by decide +kernel) (by decide +kernel) (by decide +kernel), rfl, fun can hcan => ?_⟩
    refine ⟨s, _, ws, n, 0, 2, _, rfl, hL, by decide, hcan _ _ _ ⟨rfl, rfl, rfl⟩, Nat.zero_le _, fun z => ?_, fun t ht R hR => ?_⟩
    · have e : ws = [] := List.length_eq_zero_iff.mp z.symm
      exact raised 0 (by rw [e]; rfl) H ExtB.refl hT
    · cases ws with
      | nil => cases ht
      | cons w0 ws1 =>
      cases ht
      have hlen0 := hlen t List.mem_cons_self
      have hdl : ∀ {b : Addr} {o : HO} {H1 : Hp}, H b = some o → Same H H1 → H1 b = some o := fun e s => s _ _ e
      refine ⟨t, rfl, hlen0, fun e0 H1 s1 => hR _ _ s1 (fun _ => ?_) (fun z => absurd rfl z), fun r0 e0 H1 q0 s1 n0 eq0 => hR _ _ s1 (fun z => by cases z) (fun _ H2 sB2 hL2 => ?_)⟩
      · refine raised 0 ?_ H1 (ExtB.of s1) (Tabs.same hT s1)
        cases ws1 with
        | nil => show (if rowOf t = none then some 0 else some 1) = some 0; rw [if_pos e0]
        | cons w1 r => show (if rowOf t = none then some 0 else _) = some 0; rw [if_pos e0]
      -- the second word
      have hq0s : q0 ≠ s := ne_of eq0 (s1 _ _ hs) (fun z => by cases z)
      have eq0' := sB2 q0 _ hq0s eq0
      have x2 : ExtB s H H2 := (ExtB.of s1).trans (ExtB.ofB sB2)
      have T2 : Tabs (TT a) H2 := Tabs.sameB (s := s) (Tabs.same hT s1) sB2 (fun ps z => by rw [s1 _ _ hs] at z; cases z) (fun c q z => by rw [s1 _ _ hs] at z; cases z)
      obtain ⟨dx2, l2, hs2, hl2⟩ := id hL2
      refine ⟨_, rfl, s, dx2, _, rfl, hs2, lk_none (by decide +kernel) (by decide +kernel) (by decide +kernel), rfl, fun can hcan => ?_⟩
      refine ⟨s, _, t :: ws1, n, 1, 2, _, rfl, hL2, by decide, hcan _ _ _ ⟨rfl, rfl, rfl⟩, by simp, fun z => ?_, fun t1 ht1 R1 hR1 => ?_⟩
      · have e : ws1 = [] := by simpa using z
        subst e
        refine raised 1 ?_ H2 x2 T2
        show (if rowOf t = none then some 0 else some 1) = some 1
        rw [if_neg (by rw [e0]; exact fun z => by cases z)]
      cases ws1 with
      | nil => cases ht1
      | cons w1 r =>
      cases ht1
      have n0' : ¬ rowOf t = none := by rw [e0]; exact fun z => by cases z
      refine ⟨t1, rfl, hlen t1 (by simp), fun e1 H3 s3 => hR1 _ _ s3 (fun _ => ?_) (fun z => absurd rfl z), fun r1 e1 H3 q1 s3 n1 eq1 => hR1 _ _ s3 (fun z => by cases z) (fun _ H4 sB4 hL4 => ?_)⟩
      · refine raised 1 ?_ H3 (x2.trans (ExtB.of s3)) (Tabs.same T2 s3)
        show (if rowOf t = none then some 0 else if rowOf t1 = none then some 1 else _) = some 1
        rw [if_neg n0', if_pos e1]
      have n1' : ¬ rowOf t1 = none := by rw [e1]; exact fun z => by cases z
      have hq1s : q1 ≠ s := ne_of eq1 (s3 _ _ hs2) (fun z => by cases z)
      have eq1' := sB4 q1 _ hq1s eq1
      have eq0'' := sB4 q0 _ hq0s (s3 _ _ eq0')
      have x4 : ExtB s H H4 := x2.trans ((ExtB.of s3).trans (ExtB.ofB sB4))
      have T4 : Tabs (TT a) H4 := Tabs.sameB (s := s) (Tabs.same T2 s3) sB4 (fun ps z => by rw [s3 _ _ hs2] at z; cases z) (fun c q z => by rw [s3 _ _ hs2] at z; cases z)
      obtain ⟨dx4, l4, hs4, hl4⟩ := id hL4
      refine ⟨_, _, rfl, ?_⟩
      -- the pairs
      refine ⟨_, rfl, s, dx4, _, rfl, hs4, lk_none (by decide +kernel) (by decide +kernel) (by decide +kernel), T4, fun fl c' H5 eN T5 hco can hc => ?_⟩
      have x5 : ExtB s H H5 := x4.trans (ExtB.ofN eN)
      have hs5 := eN _ _ hs4 (fun ps z => by cases z)
      have hl5 := eN _ _ hl4 (fun ps z => by cases z)
      have hcs : c' ≠ s := ne_of hco hs5 (fun z => by cases z)
      refine ⟨s, fl, t :: t1 :: r, n, 2, 2, _, rfl, ⟨dx4, l4, hs5, hl5⟩, T5, Nat.le_refl _, hc, fun H6 t6 R6 x6 hl6 b6 g6 => ?_, by simp, hlen, hsz, fun i hi => ?_, fun hn d H6 x6 T6 nd6 ed6 => ?_⟩
      · -- the lambda's body
        refine ⟨rfl, x6 _ _ hco hcs (fun ps z => by cases z), ?_⟩
        refine ⟨_, rfl, t6, rfl, hl6, fun H7 s7 => ?_⟩
        cases hp : isPr t6 with
        | false =>
          rw [if_neg Bool.false_ne_true]
          exact ⟨rfl, _, rfl, iteT (b6 hp H7 s7)⟩
        | true =>
          rw [if_pos rfl]
          refine ⟨rfl, _, rfl, iteF ⟨_, rfl, by show 2 ≤ sizeLine; rw [sizeLine_eq]; decide, newO fun q H8 s8 n8 e8 => ?_⟩⟩
          exact g6 hp H8 q (s7.trans s8) (s7.free n8) e8
      · have e : faultOf (t :: t1 :: r) = some (i + 2) := by
          show (if rowOf t = none then some 0 else if rowOf t1 = none then some 1 else (badAt [] r).map (· + 2)) = _
          rw [if_neg n0', if_neg n1', show badAt [] r = some i from hi]
          rfl
        intro dd H7 x7 T7 er
        refine k1 _ e dd H7 (x5.trans x7) T7 ?_
        rw [show (((i + 2 : Nat)) : Int) = ((2 : Nat) : Int) + (i : Int) by omega]
        exact er
      · have hn' : badAt [] r = none := hn
        have keep : ∀ {b : Addr} {o : HO}, H4 b = some o → (∀ ps, o ≠ .tbl ps) → b ≠ s → H6 b = some o := fun {b o} e1 h1 h2 => x6 _ _ (eN _ _ e1 h1) h2 h1
        have f0 := keep eq0'' (fun ps z => by cases z) hq0s
        have f1 := keep eq1' (fun ps z => by cases z) hq1s
        refine ⟨_, rfl, _, rfl, d, _, rfl, ed6, fun ql n7 => ?_⟩
        have s7 : Same H6 (upd H6 ql (.lst ((yesP ((t :: t1 :: r).drop 2)).map fun kv => L2.kV kv.1))) := same_upd n7
        refine ⟨_, rfl, by show 3 ≤ sizeLine; rw [sizeLine_eq]; decide, newO fun q H8 s8 n8 e8 => ?_⟩
        refine k2 t t1 r r0 r1 rfl e0 e1 hn' q q0 ql q1 H8 (x5.trans (x6.trans (ExtB.of (s7.trans s8)))) (Tabs.same (Tabs.same T6 s7) s8) e8 (s8 _ _ (s7 _ _ f0)) (s8 _ _ (s7 _ _ f1)) (s8 _ _ ?_)
        rw [upd_same]
        exact congrArg (fun z => some (HO.lst z)) (keys_yesP r)
end
end K88

set_option maxHeartbeats 4000000
/-! ## 11. A line of a text; lists of letters and of pairs -/
namespace K88
open PySem PySem.Spec PyProof.Rows L2
open LamX (CodeO TabS Tabs ExtN TabB lamEnv)
section
variable {P : Program} {w : World} {K : PySem.W.Frag} {mg : Str → Option Value} {base : Heap} {a : Ad}
/-- no text -/
def NoText (K : PySem.W.Frag) (H : Hp) (v : V) : Prop := ∃ t, TyX K H v t ∧ PySem.W.kitOne K t (.type "str") = some false
def sp_line_of (a : Ad) (K : PySem.W.Frag) : Sp := fun vs H Q E => ∃ v : V, vs = [v] ∧ ((∃ t : Str, v = .str t ∧ t ≠ "" ∧ t.length ≤ 1000000 ∧ ∀ H' s, Same H H' → H s = none → LineAt a.c_Line H' s (Txt.split t " ") 0 0 → Q (.ref s) H') ∨
  ((v = .str "" ∨ NoText K H v) ∧ Raised a.c_InvalidText H 0 0 E))
theorem ok_line_of (T : Txt K mg a) : CalX P w K mg base (L2.CX P w) 4 "line_of" (sp_line_of a K) [] := by
  refine ⟨_, _, _, _, T.g_line_of, T.F_line_of.kp, T.F_line_of.okX sc_line_of (fun vs H Q E h => ?_) (fun cdv A outer s H vs Q E hr h => ?_), T.b_line_of, .nil⟩
  · obtain ⟨v, rfl, _⟩ := h
    rfl
  · obtain ⟨v, rfl, h⟩ := h
    refine ⟨_, (pss_cons (ps_if (PW.pt (pw_or (pt_not (pt_val (pe_callB call_isi (by rfl) T.n_isinstance (by decide +kernel) (pa_cons (pv 0) (pa_cons (pe_bltn (v := .ty "str") (by rfl) T.n_str (by decide +kernel) rfl) pa_nil))))) (pw_or1 (pt_cmpR op_eq (pv 0) pe_str (nomark _)))))
            (pss_one (ps_raise rfl (takes_of rfl rfl rfl rfl) (pmk_oex T.oex T.i_InvalidText T.t_InvalidText (ok_InvalidText_init T) (hr.mono (by decide)) T.b_InvalidTextx_initx .nil (fun _ _ _ _ _ _ _ z => z.elim) rfl T.g_InvalidText (pa_cons pe_int (pa_cons pe_int pa_nil)))))
            pss_nil)
          (pss_one (ps_ret (pe_mx (ok_Line T) hr (by decide) pass0 (by rfl) (pa_cons (pv 0) (pa_cons pe_int pa_nil)))))), ?_⟩
    rcases h with ⟨t, rfl, ht, hl, k⟩ | ⟨hv, r⟩
    · refine ⟨_, rfl, _, _, _, _, true, rfl, .ty _, str_is _ _ _, kit_ty (by decide +kernel), true, rfl, iteF ?_⟩
      refine ⟨_, rfl, rfl, _, rfl, ?_⟩
      refine if_false_of (decide_eq_false fun z => ht (V.str.inj z)) ?_
      refine ⟨_, rfl, fun s dx ns nd ne => ⟨s, dx, t, 0, rfl, hl, upd_same, fun H' sB hL => ⟨rfl, k H' s (fun b o e => ?_) ns hL⟩⟩⟩
      have b1 : b ≠ s := ne_of_none e ns
      refine sB b o b1 ?_
      rw [upd_ne b1, upd_ne (ne_of_none e nd)]
      exact e
    · have fin : ([V.int 0, V.int 0] : List V).length ≤ 1000 ∧ _ := raise_it r
      rcases hv with rfl | ⟨t, ht, hk⟩
      · refine ⟨_, rfl, _, _, _, _, true, rfl, .ty _, str_is _ _ _, kit_ty (by decide +kernel), true, rfl, iteF ?_⟩
        refine ⟨_, rfl, rfl, _, rfl, ?_⟩
        refine if_true_of (decide_eq_true rfl) ?_
        exact fin
      · refine ⟨_, rfl, _, _, _, _, false, rfl, .ty _, ht, hk, false, rfl, iteT ?_⟩
        refine iteT ?_
        exact fin
theorem tyx_list {H : Hp} {x : Addr} {xs : List V} (h : SqL K H x xs) : TyX K H (.ref x) (.type "list") := by
  rcases h with (h | ⟨o, h⟩) | ⟨o, its, n, h, hc, _⟩
  · exact .base (.lst h)
  · exact .base (.frz h)
  · exact .kList h hc
theorem tyx_tup {H : Hp} {x : Addr} {xs : List V} (h : SqT K H x xs) : TyX K H (.ref x) (.type "tuple") := by
  rcases h with (h | ⟨o, h⟩) | ⟨o, its, n, h, hc, _⟩
  · exact .base (.tup h)
  · exact .fTuple h
  · exact .kTuple h hc
theorem kit_lt (K : PySem.W.Frag) (t : String) (ht : t = "list" ∨ t = "tuple") : PySem.W.kitAny K (.type t) [.type "list", .type "tuple"] = some true := by
  have l1 : PySem.W.kitOne K (.type "list") (.type "list") = some true := kit_ty (by decide +kernel)
  have l2 : PySem.W.kitOne K (.type "tuple") (.type "list") = some false := kit_ty (by decide +kernel)
  have l3 : PySem.W.kitOne K (.type "tuple") (.type "tuple") = some true := kit_ty (by decide +kernel)
  rcases ht with rfl | rfl
  · unfold PySem.W.kitAny
    rw [l1]
  · unfold PySem.W.kitAny
    rw [l2]
    show PySem.W.kitAny K (.type "tuple") [.type "tuple"] = some true
    unfold PySem.W.kitAny
    rw [l3]
/-- signs_in, pairs_in: of letters, of pairs, each once, sorted -/
def sp_sorted (K : PySem.W.Frag) (ok : Str → Bool) : Sp := fun vs H Q _ => ∃ (x : Addr) (r : V) (ss : List Str), vs = [.ref x, r] ∧ Sq K H x (ss.map V.str) ∧ (∀ t ∈ ss, ok t = true ∧ t.length ≤ 1000000) ∧ ss.length < 64 ∧
  ∀ H' p ys, Same H H' → H p = none → H' p = some (.tup (ys.map V.str)) → ys.Perm (dedupS ss) → sortedS ys = true → Q (.ref p) H'
theorem ok_signs_in (T : Txt K mg a) : CalX P w K mg base CX0 2 "signs_in" (sp_sorted K isLet) [] := by
  refine ⟨_, _, _, _, T.g_signs_in, T.F_signs_in.kp, T.F_signs_in.ok sc_signs_in (fun vs H Q E h => ?_) (fun cdv A outer s H vs Q E hr h => ?_), T.b_signs_in, .nil⟩
  · obtain ⟨x, r, ss, rfl, _⟩ := h
    rfl
  · obtain ⟨x, r, ss, rfl, hq, hok, h64, k⟩ := h
    have hl : ss.length ≤ 1000000 := by omega
    have hall : ((ss.map isLet).all id) = true := by
      rw [all_map_id, List.all_eq_true]
      exact fun t ht => (hok t ht).1
    rcases hq with hq | hq
    · refine ⟨_, (pss_cons (ps_if (PW.pt (pw_or (pt_not (pt_val (pe_callB call_isiT (by rfl) T.n_isinstance (by decide +kernel) (pa_cons (pv 0) (pa_cons (pe_tup (pa_cons (pe_bltn (v := .ty "list") (by rfl) T.n_list (by decide +kernel) rfl) (pa_cons (pe_bltn (v := .ty "tuple") (by rfl) T.n_tuple (by decide +kernel) rfl) pa_nil))) pa_nil))))) (pw_or1 (pt_not (pt_val (pe_callB (cr_all rfl) (by rfl) T.n_all (by decide +kernel) (pa_cons (pe_lc (own := [("sign", 2)]) rfl sc_signs_in.nd (pi_list (pv 0)) (blkOk_by (own := [("sign", 2)]) (N := N_signs_in) (sc := defScope s_signs_in) (by decide +kernel)) (fun _ _ _ _ _ => (pg_name (i := 2) sc_signs_in.nd rfl (by first | exact Or.inl rfl | exact Or.inr rfl))) (fun _ _ _ _ _ => pts_nil) (fun _ _ _ _ _ => (pe_cx (ok_is_sign T) hr (by decide) pass0 (by rfl) (pa_cons (pv 2) pa_nil)))) pa_nil)))))))
            (pss_one ps_never)
            pss_nil)
          (pss_one (ps_ret (pe_callTy call_tuple_of (by rfl) T.n_tuple (by decide +kernel) (pa_cons (pe_callB cr_sortedS (by rfl) T.n_sorted (by decide +kernel) (pa_cons (pe_callTy (call_list_dK rfl) (by rfl) T.n_list (by decide +kernel) (pa_cons (pe_dc (own := [("sign", 2)]) rfl sc_signs_in.nd (pi_list (pv 0)) (blkOk_by (own := [("sign", 2)]) (N := N_signs_in) (sc := defScope s_signs_in) (by decide +kernel)) (fun _ _ _ _ _ => (pg_name (i := 2) sc_signs_in.nd rfl (by first | exact Or.inl rfl | exact Or.inr rfl))) (fun _ _ _ _ _ => pts_nil) (fun _ _ _ _ _ => (pv 2)) (fun _ _ _ _ _ => pe_bl)) pa_nil)) pa_nil)) pa_nil))))), ?_⟩
      refine ⟨_, rfl, by show 2 ≤ sizeLine; rw [sizeLine_eq]; decide, fun tp n1 => ?_⟩
      have s1 : Same H (upd H tp (.tup [.ty "list", .ty "tuple"])) := same_upd n1
      refine ⟨_, tp, _, _, _, true, rfl, upd_same, .cons (.ty _) (.cons (.ty _) .nil), tyx_list (s1.seq hq), kit_lt K _ (.inl rfl), true, rfl, iteF ?_⟩
      refine ⟨_, rfl, x, rfl, ⟨_, s1.seq hq⟩, fun D nD => lc_map walk_list nD (fun s => .bl (isLet s)) (fun _ s => (s1.trans s).seq hq) hl (fun i t H2 ht s2 R kR => ?_) (fun H2 s2 eD => ?_)⟩
      · exact ⟨rfl, _, rfl, t, rfl, (hok t (List.mem_of_getElem? ht)).2, kR H2 (Same.refl _)⟩
      refine ⟨D, ss.map isLet, rfl, SqL.of (by rw [eD, List.map_map]; rfl), _, rfl, ?_⟩
      rw [hall]
      refine iteF ?_
      refine ⟨_, rfl, x, rfl, ⟨_, (s1.trans s2).seq hq⟩, fun D2 nD2 => dc_map walk_list nD2 (fun _ s => ((s1.trans s2).trans s).seq hq) hl (fun i t H3 ht s3 R kR => ⟨rfl, _, rfl, kR H3 (Same.refl _)⟩) (fun H3 s3 eD2 => ?_)⟩
      refine ⟨D2, _, rfl, eD2, fun l4 n4 => ?_⟩
      have s4 : Same H3 (upd H3 l4 (.lst ((yesK (dedupK (ss.map Sum.inr))).map fun kv => L2.kV kv.1))) := same_upd n4
      refine ⟨l4, dedupS ss, rfl, SqL.of (by rw [upd_same, keys_yes]), Nat.lt_of_le_of_lt (dedupS_le ss) h64, fun ys l5 hp hs n5 => ?_⟩
      refine ⟨l5, _, rfl, .inl ⟨SqL.of upd_same, newO fun p H6 s6 n6 e6 => ?_⟩⟩
      have s5 := same_upd (o := HO.lst (ys.map V.str)) n5
      have sall := ((s1.trans s2).trans s3).trans (s4.trans s5)
      exact k H6 p ys (sall.trans s6) (sall.free n6) e6 hp hs
    · refine ⟨_, (pss_cons (ps_if (PW.pt (pw_or (pt_not (pt_val (pe_callB call_isiT (by rfl) T.n_isinstance (by decide +kernel) (pa_cons (pv 0) (pa_cons (pe_tup (pa_cons (pe_bltn (v := .ty "list") (by rfl) T.n_list (by decide +kernel) rfl) (pa_cons (pe_bltn (v := .ty "tuple") (by rfl) T.n_tuple (by decide +kernel) rfl) pa_nil))) pa_nil))))) (pw_or1 (pt_not (pt_val (pe_callB (cr_all rfl) (by rfl) T.n_all (by decide +kernel) (pa_cons (pe_lc (own := [("sign", 2)]) rfl sc_signs_in.nd (pi_tup (pv 0)) (blkOk_by (own := [("sign", 2)]) (N := N_signs_in) (sc := defScope s_signs_in) (by decide +kernel)) (fun _ _ _ _ _ => (pg_name (i := 2) sc_signs_in.nd rfl (by first | exact Or.inl rfl | exact Or.inr rfl))) (fun _ _ _ _ _ => pts_nil) (fun _ _ _ _ _ => (pe_cx (ok_is_sign T) hr (by decide) pass0 (by rfl) (pa_cons (pv 2) pa_nil)))) pa_nil)))))))
            (pss_one ps_never)
            pss_nil)
          (pss_one (ps_ret (pe_callTy call_tuple_of (by rfl) T.n_tuple (by decide +kernel) (pa_cons (pe_callB cr_sortedS (by rfl) T.n_sorted (by decide +kernel) (pa_cons (pe_callTy (call_list_dK rfl) (by rfl) T.n_list (by decide +kernel) (pa_cons (pe_dc (own := [("sign", 2)]) rfl sc_signs_in.nd (pi_tup (pv 0)) (blkOk_by (own := [("sign", 2)]) (N := N_signs_in) (sc := defScope s_signs_in) (by decide +kernel)) (fun _ _ _ _ _ => (pg_name (i := 2) sc_signs_in.nd rfl (by first | exact Or.inl rfl | exact Or.inr rfl))) (fun _ _ _ _ _ => pts_nil) (fun _ _ _ _ _ => (pv 2)) (fun _ _ _ _ _ => pe_bl)) pa_nil)) pa_nil)) pa_nil))))), ?_⟩
      refine ⟨_, rfl, by show 2 ≤ sizeLine; rw [sizeLine_eq]; decide, fun tp n1 => ?_⟩
      have s1 : Same H (upd H tp (.tup [.ty "list", .ty "tuple"])) := same_upd n1
      refine ⟨_, tp, _, _, _, true, rfl, upd_same, .cons (.ty _) (.cons (.ty _) .nil), tyx_tup (Same.seqT s1 hq), kit_lt K _ (.inr rfl), true, rfl, iteF ?_⟩
      refine ⟨_, rfl, x, rfl, ⟨_, Same.seqT s1 hq⟩, fun D nD => lc_map walk_tup nD (fun s => .bl (isLet s)) (fun _ s => Same.seqT (s1.trans s) hq) hl (fun i t H2 ht s2 R kR => ?_) (fun H2 s2 eD => ?_)⟩
      · exact ⟨rfl, _, rfl, t, rfl, (hok t (List.mem_of_getElem? ht)).2, kR H2 (Same.refl _)⟩
      refine ⟨D, ss.map isLet, rfl, SqL.of (by rw [eD, List.map_map]; rfl), _, rfl, ?_⟩
      rw [hall]
      refine iteF ?_
      refine ⟨_, rfl, x, rfl, ⟨_, Same.seqT (s1.trans s2) hq⟩, fun D2 nD2 => dc_map walk_tup nD2 (fun _ s => Same.seqT ((s1.trans s2).trans s) hq) hl (fun i t H3 ht s3 R kR => ⟨rfl, _, rfl, kR H3 (Same.refl _)⟩) (fun H3 s3 eD2 => ?_)⟩
      refine ⟨D2, _, rfl, eD2, fun l4 n4 => ?_⟩
      have s4 : Same H3 (upd H3 l4 (.lst ((yesK (dedupK (ss.map Sum.inr))).map fun kv => L2.kV kv.1))) := same_upd n4
      refine ⟨l4, dedupS ss, rfl, SqL.of (by rw [upd_same, keys_yes]), Nat.lt_of_le_of_lt (dedupS_le ss) h64, fun ys l5 hp hs n5 => ?_⟩
      refine ⟨l5, _, rfl, .inl ⟨SqL.of upd_same, newO fun p H6 s6 n6 e6 => ?_⟩⟩
      have s5 := same_upd (o := HO.lst (ys.map V.str)) n5
      have sall := ((s1.trans s2).trans s3).trans (s4.trans s5)
      exact k H6 p ys (sall.trans s6) (sall.free n6) e6 hp hs
theorem ok_pairs_in (T : Txt K mg a) : CalX P w K mg base CX0 3 "pairs_in" (sp_sorted K isPr) [] := by
  refine ⟨_, _, _, _, T.g_pairs_in, T.F_pairs_in.kp, T.F_pairs_in.ok sc_pairs_in (fun vs H Q E h => ?_) (fun cdv A outer s H vs Q E hr h => ?_), T.b_pairs_in, .nil⟩
  · obtain ⟨x, r, ss, rfl, _⟩ := h
    rfl
  · obtain ⟨x, r, ss, rfl, hq, hok, h64, k⟩ := h
    have hl : ss.length ≤ 1000000 := by omega
    have hall : ((ss.map isPr).all id) = true := by
      rw [all_map_id, List.all_eq_true]
      exact fun t ht => (hok t ht).1
    rcases hq with hq | hq
    · refine ⟨_, (pss_cons (ps_if (PW.pt (pw_or (pt_not (pt_val (pe_callB call_isiT (by rfl) T.n_isinstance (by decide +kernel) (pa_cons (pv 0) (pa_cons (pe_tup (pa_cons (pe_bltn (v := .ty "list") (by rfl) T.n_list (by decide +kernel) rfl) (pa_cons (pe_bltn (v := .ty "tuple") (by rfl) T.n_tuple (by decide +kernel) rfl) pa_nil))) pa_nil))))) (pw_or1 (pt_not (pt_val (pe_callB (cr_all rfl) (by rfl) T.n_all (by decide +kernel) (pa_cons (pe_lc (own := [("pair", 2)]) rfl sc_pairs_in.nd (pi_list (pv 0)) (blkOk_by (own := [("pair", 2)]) (N := N_pairs_in) (sc := defScope s_pairs_in) (by decide +kernel)) (fun _ _ _ _ _ => (pg_name (i := 2) sc_pairs_in.nd rfl (by first | exact Or.inl rfl | exact Or.inr rfl))) (fun _ _ _ _ _ => pts_nil) (fun _ _ _ _ _ => (pe_cx (ok_is_pair T) hr (by decide) pass0 (by rfl) (pa_cons (pv 2) pa_nil)))) pa_nil)))))))
            (pss_one ps_never)
            pss_nil)
          (pss_one (ps_ret (pe_callTy call_tuple_of (by rfl) T.n_tuple (by decide +kernel) (pa_cons (pe_callB cr_sortedS (by rfl) T.n_sorted (by decide +kernel) (pa_cons (pe_callTy (call_list_dK rfl) (by rfl) T.n_list (by decide +kernel) (pa_cons (pe_dc (own := [("pair", 2)]) rfl sc_pairs_in.nd (pi_list (pv 0)) (blkOk_by (own := [("pair", 2)]) (N := N_pairs_in) (sc := defScope s_pairs_in) (by decide +kernel)) (fun _ _ _ _ _ => (pg_name (i := 2) sc_pairs_in.nd rfl (by first | exact Or.inl rfl | exact Or.inr rfl))) (fun _ _ _ _ _ => pts_nil) (fun _ _ _ _ _ => (pv 2)) (fun _ _ _ _ _ => pe_bl)) pa_nil)) pa_nil)) pa_nil))))), ?_⟩
      refine ⟨_, rfl, by show 2 ≤ sizeLine; rw [sizeLine_eq]; decide, fun tp n1 => ?_⟩
      have s1 : Same H (upd H tp (.tup [.ty "list", .ty "tuple"])) := same_upd n1
      refine ⟨_, tp, _, _, _, true, rfl, upd_same, .cons (.ty _) (.cons (.ty _) .nil), tyx_list (s1.seq hq), kit_lt K _ (.inl rfl), true, rfl, iteF ?_⟩
      refine ⟨_, rfl, x, rfl, ⟨_, s1.seq hq⟩, fun D nD => lc_map walk_list nD (fun s => .bl (isPr s)) (fun _ s => (s1.trans s).seq hq) hl (fun i t H2 ht s2 R kR => ?_) (fun H2 s2 eD => ?_)⟩
      · exact ⟨rfl, _, rfl, t, rfl, (hok t (List.mem_of_getElem? ht)).2, kR H2 (Same.refl _)⟩
      refine ⟨D, ss.map isPr, rfl, SqL.of (by rw [eD, List.map_map]; rfl), _, rfl, ?_⟩
      rw [hall]
      refine iteF ?_
      refine ⟨_, rfl, x, rfl, ⟨_, (s1.trans s2).seq hq⟩, fun D2 nD2 => dc_map walk_list nD2 (fun _ s => ((s1.trans s2).trans s).seq hq) hl (fun i t H3 ht s3 R kR => ⟨rfl, _, rfl, kR H3 (Same.refl _)⟩) (fun H3 s3 eD2 => ?_)⟩
      refine ⟨D2, _, rfl, eD2, fun l4 n4 => ?_⟩
      have s4 : Same H3 (upd H3 l4 (.lst ((yesK (dedupK (ss.map Sum.inr))).map fun kv => L2.kV kv.1))) := same_upd n4
      refine ⟨l4, dedupS ss, rfl, SqL.of (by rw [upd_same, keys_yes]), Nat.lt_of_le_of_lt (dedupS_le ss) h64, fun ys l5 hp hs n5 => ?_⟩
      refine ⟨l5, _, rfl, .inl ⟨SqL.of upd_same, newO fun p H6 s6 n6 e6 => ?_⟩⟩
      have s5 := same_upd (o := HO.lst (ys.map V.str)) n5
      have sall := ((s1.trans s2).trans s3).trans (s4.trans s5)
      exact k H6 p ys (sall.trans s6) (sall.free n6) e6 hp hs
    · refine ⟨_, (pss_cons (ps_if (PW.pt (pw_or (pt_not (pt_val (pe_callB call_isiT (by rfl) T.n_isinstance (by decide +kernel) (pa_cons (pv 0) (pa_cons (pe_tup (pa_cons (pe_bltn (v := .ty "list") (by rfl) T.n_list (by decide +kernel) rfl) (pa_cons (pe_bltn (v := .ty "tuple") (by rfl) T.n_tuple (by decide +kernel) rfl) pa_nil))) pa_nil))))) (pw_or1 (pt_not (pt_val (pe_callB (cr_all rfl) (by rfl) T.n_all (by decide +kernel) (pa_cons (pe_lc (own := [("pair", 2)]) rfl sc_pairs_in.nd (pi_tup (pv 0)) (blkOk_by (own := [("pair", 2)]) (N := N_pairs_in) (sc := defScope s_pairs_in) (by decide +kernel)) (fun _ _ _ _ _ => (pg_name (i := 2) sc_pairs_in.nd rfl (by first | exact Or.inl rfl | exact Or.inr rfl))) (fun _ _ _ _ _ => pts_nil) (fun _ _ _ _ _ => (pe_cx (ok_is_pair T) hr (by decide) pass0 (by rfl) (pa_cons (pv 2) pa_nil)))) pa_nil)))))))
            (pss_one ps_never)
            pss_nil)
          (pss_one (ps_ret (pe_callTy call_tuple_of (by rfl) T.n_tuple (by decide +kernel) (pa_cons (pe_callB cr_sortedS (by rfl) T.n_sorted (by decide +kernel) (pa_cons (pe_callTy (call_list_dK rfl) (by rfl) T.n_list (by decide +kernel) (pa_cons (pe_dc (own := [("pair", 2)]) rfl sc_pairs_in.nd (pi_tup (pv 0)) (blkOk_by (own := [("pair", 2)]) (N := N_pairs_in) (sc := defScope s_pairs_in) (by decide +kernel)) (fun _ _ _ _ _ => (pg_name (i := 2) sc_pairs_in.nd rfl (by first | exact Or.inl rfl | exact Or.inr rfl))) (fun _ _ _ _ _ => pts_nil) (fun _ _ _ _ _ => (pv 2)) (fun _ _ _ _ _ => pe_bl)) pa_nil)) pa_nil)) pa_nil))))), ?_⟩
      refine ⟨_, rfl, by show 2 ≤ sizeLine; rw [sizeLine_eq]; decide, fun tp n1 => ?_⟩
      have s1 : Same H (upd H tp (.tup [.ty "list", .ty "tuple"])) := same_upd n1
      refine ⟨_, tp, _, _, _, true, rfl, upd_same, .cons (.ty _) (.cons (.ty _) .nil), tyx_tup (Same.seqT s1 hq), kit_lt K _ (.inr rfl), true, rfl, iteF ?_⟩
      refine ⟨_, rfl, x, rfl, ⟨_, Same.seqT s1 hq⟩, fun D nD => lc_map walk_tup nD (fun s => .bl (isPr s)) (fun _ s => Same.seqT (s1.trans s) hq) hl (fun i t H2 ht s2 R kR => ?_) (fun H2 s2 eD => ?_)⟩
      · exact ⟨rfl, _, rfl, t, rfl, (hok t (List.mem_of_getElem? ht)).2, kR H2 (Same.refl _)⟩
      refine ⟨D, ss.map isPr, rfl, SqL.of (by rw [eD, List.map_map]; rfl), _, rfl, ?_⟩
      rw [hall]
      refine iteF ?_
      refine ⟨_, rfl, x, rfl, ⟨_, Same.seqT (s1.trans s2) hq⟩, fun D2 nD2 => dc_map walk_tup nD2 (fun _ s => Same.seqT ((s1.trans s2).trans s) hq) hl (fun i t H3 ht s3 R kR => ⟨rfl, _, rfl, kR H3 (Same.refl _)⟩) (fun H3 s3 eD2 => ?_)⟩
      refine ⟨D2, _, rfl, eD2, fun l4 n4 => ?_⟩
      have s4 : Same H3 (upd H3 l4 (.lst ((yesK (dedupK (ss.map Sum.inr))).map fun kv => L2.kV kv.1))) := same_upd n4
      refine ⟨l4, dedupS ss, rfl, SqL.of (by rw [upd_same, keys_yes]), Nat.lt_of_le_of_lt (dedupS_le ss) h64, fun ys l5 hp hs n5 => ?_⟩
      refine ⟨l5, _, rfl, .inl ⟨SqL.of upd_same, newO fun p H6 s6 n6 e6 => ?_⟩⟩
      have s5 := same_upd (o := HO.lst (ys.map V.str)) n5
      have sall := ((s1.trans s2).trans s3).trans (s4.trans s5)
      exact k H6 p ys (sall.trans s6) (sall.free n6) e6 hp hs
end
end K88

set_option maxHeartbeats 4000000
/-! ## 12. What is reached by pairs -/
namespace K88
open PySem PySem.Spec PyProof.Rows L2
open LamX (CodeO TabS Tabs ExtN TabB lamEnv)
theorem inV_strs (x : Str) (L : List Str) : inV (.str x) (L.map V.str) = decide (x ∈ L) := by
  unfold inV
  refine Bool.eq_iff_iff.mpr ?_
  rw [List.any_map, List.any_eq_true, decide_eq_true_iff]
  constructor
  · rintro ⟨y, hy, e⟩
    have e1 : (y == x) = true := e
    rw [beq_iff_eq] at e1
    exact e1 ▸ hy
  · intro h
    exact ⟨x, h, (show (x == x) = true from beq_self_eq_true x)⟩
theorem flat_texts (L : List Str) : (L.map V.str).all flatV = true := flat_strs L
theorem pr_shape {s : Str} (h : isPr s = true) : ∃ c d, s = ⟨#[c, d]⟩ ∧ letc c = true ∧ letc d = true := by
  by_cases e : s.length = 2
  · obtain ⟨c, d, rfl⟩ := two_of e
    rw [isPr_two, Bool.and_eq_true] at h
    exact ⟨c, d, rfl, h.1, h.2⟩
  · rw [isPr_not e] at h
    cases h
theorem let_shape {s : Str} (h : isLet s = true) : ∃ c, s = ⟨#[c]⟩ ∧ letc c = true := by
  by_cases e : s.length = 1
  · obtain ⟨c, rfl⟩ := one_of e
    exact ⟨c, rfl, h⟩
  · rw [isLet_not e] at h
    cases h
def fstS (s : Str) : Str := ⟨#[s.cps.getD 0 0]⟩
def sndS (s : Str) : Str := ⟨#[s.cps.getD 1 0]⟩
theorem fst_two (c d : Nat) : fstS ⟨#[c, d]⟩ = ⟨#[c]⟩ := rfl
theorem snd_two (c d : Nat) : sndS ⟨#[c, d]⟩ = ⟨#[d]⟩ := rfl
theorem pr_ext {s t : Str} (hs : isPr s = true) (ht : isPr t = true) (h1 : fstS s = fstS t) (h2 : sndS s = sndS t) : s = t := by
  obtain ⟨c, d, rfl, _⟩ := pr_shape hs
  obtain ⟨c', d', rfl, _⟩ := pr_shape ht
  rw [fst_two, fst_two] at h1
  rw [snd_two, snd_two] at h2
  cases h1
  cases h2
  rfl
/-- what one turn adds -/
def nextOf (L : List Str) (x : Str) (Ps : List Str) : List Str := Ps.filterMap fun q => if fstS q = x ∧ sndS q ∉ L then some (sndS q) else none
theorem nodup_filterMap {α β : Type} (f : α → Option β) : ∀ {l : List α}, l.Nodup → (∀ x ∈ l, ∀ y ∈ l, ∀ b, f x = some b → f y = some b → x = y) → (l.filterMap f).Nodup
  | [], _, _ => List.nodup_nil
  | x :: l, nd, h => by
    obtain ⟨n1, n2⟩ := List.nodup_cons.mp nd
    have ih := nodup_filterMap f n2 fun a ha b hb c => h a (List.mem_cons_of_mem _ ha) b (List.mem_cons_of_mem _ hb) c
    cases e : f x with
    | none => rw [List.filterMap_cons_none e]; exact ih
    | some b =>
      rw [List.filterMap_cons_some e]
      refine List.nodup_cons.mpr ⟨fun z => ?_, ih⟩
      obtain ⟨y, hy, ey⟩ := List.mem_filterMap.mp z
      exact n1 (h x List.mem_cons_self y (List.mem_cons_of_mem _ hy) b e ey ▸ hy)
theorem next_facts {L Ps : List Str} {x : Str} (hP : Ps.Nodup) (hpr : ∀ q ∈ Ps, isPr q = true) : (nextOf L x Ps).Nodup ∧ (∀ t ∈ nextOf L x Ps, t ∉ L ∧ isLet t = true) := by
  refine ⟨nodup_filterMap _ hP fun q hq r hr b e1 e2 => ?_, fun t ht => ?_⟩
  · by_cases h1 : fstS q = x ∧ sndS q ∉ L
    · by_cases h2 : fstS r = x ∧ sndS r ∉ L
      · rw [if_pos h1] at e1
        rw [if_pos h2] at e2
        exact pr_ext (hpr q hq) (hpr r hr) (h1.1.trans h2.1.symm) ((Option.some.inj e1).trans (Option.some.inj e2).symm)
      · rw [if_neg h2] at e2
        cases e2
    · rw [if_neg h1] at e1
      cases e1
  · obtain ⟨q, hq, e⟩ := List.mem_filterMap.mp ht
    by_cases h1 : fstS q = x ∧ sndS q ∉ L
    · rw [if_pos h1] at e
      have e' := Option.some.inj e
      subst e'
      refine ⟨h1.2, ?_⟩
      obtain ⟨c, d, rfl, _, hd⟩ := pr_shape (hpr q hq)
      exact hd
    · rw [if_neg h1] at e
      cases e
theorem nodup_below : ∀ (n : Nat) (l : List Nat), l.Nodup → (∀ x ∈ l, x < n) → l.length ≤ n
  | 0, [], _, _ => Nat.le_refl _
  | 0, x :: l, _, h => absurd (h x List.mem_cons_self) (Nat.not_lt_zero _)
  | n + 1, l, nd, h => by
    by_cases hm : n ∈ l
    · have e := List.length_erase_of_mem hm
      have ih := nodup_below n (l.erase n) (nd.erase n) fun x hx => by
        have h1 := h x (List.mem_of_mem_erase hx)
        have h2 : x ≠ n := ((List.Nodup.mem_erase_iff nd).mp hx).1
        omega
      omega
    · have ih := nodup_below n l nd fun x hx => by
        have h1 := h x hx
        have h2 : x ≠ n := fun z => hm (z ▸ hx)
        omega
      omega
theorem letters_few {L : List Str} (nd : L.Nodup) (h : ∀ t ∈ L, isLet t = true) : L.length ≤ 26 := by
  have e : (L.map fun s => s.cps.getD 0 0 - 97).length ≤ 26 := by
    refine nodup_below 26 _ ?_ fun x hx => ?_
    · refine List.pairwise_map.mpr (nd.imp_of_mem fun {s t} hs ht ne z => ?_)
      obtain ⟨c, rfl, hc⟩ := let_shape (h s hs)
      obtain ⟨d, rfl, hd⟩ := let_shape (h t ht)
      have z' : c - 97 = d - 97 := z
      have h1 := of_decide_eq_true hc
      have h2 := of_decide_eq_true hd
      exact ne (by rw [show c = d by omega])
    · obtain ⟨s, hs, rfl⟩ := List.mem_map.mp hx
      obtain ⟨c, rfl, hc⟩ := let_shape (h s hs)
      have := of_decide_eq_true hc
      show c - 97 < 26
      omega
  rwa [List.length_map] at e
section
variable {P : Program} {w : World} {K : PySem.W.Frag} {mg : Str → Option Value} {base : Heap} {a : Ad}
def sp_reached (K : PySem.W.Frag) : Sp := fun vs H Q _ => ∃ (x y : Addr) (S Ps : List Str), vs = [.ref x, .ref y] ∧ SqT K H x (S.map V.str) ∧ Sq K H y (Ps.map V.str) ∧ S.Nodup ∧ (∀ t ∈ S, isLet t = true) ∧ Ps.Nodup ∧ (∀ q ∈ Ps, isPr q = true) ∧ Ps.length ≤ 1000000 ∧
  ∀ (H' : Hp) (f : Addr) (L : List Str), Same H H' → H f = none → H' f = some (.lst (L.map V.str)) → L.Nodup → (∀ t ∈ L, isLet t = true) → Q (.ref f) H'
theorem ok_reached (T : Txt K mg a) : CalX P w K mg base CX0 1 "reached" (sp_reached K) [] := by
  refine ⟨_, _, _, _, T.g_reached, T.F_reached.kp, T.F_reached.ok sc_reached (fun vs H Q E h => ?_) (fun cdv A outer s H vs Q E hr h => ?_), T.b_reached, .nil⟩
  · obtain ⟨x, y, S, Ps, rfl, _⟩ := h
    rfl
  · obtain ⟨x, y, S, Ps, rfl, hx, hy, ndS, lS, ndP, prP, hsz, k⟩ := h
    rcases hy with hy | hy
    · refine ⟨_, (pss_cons (ps_asg (pe_tup (pa_cons (pe_callTy call_list_of (by rfl) T.n_list (by decide +kernel) (pa_cons (pv 0) pa_nil)) (pa_cons pe_int pa_nil))) (pg_tup rfl (pgs_cons (pg_name (i := 2) sc_reached.nd rfl (by first | exact Or.inl rfl | exact Or.inr rfl)) (pgs_cons (pg_name (i := 3) sc_reached.nd rfl (by first | exact Or.inl rfl | exact Or.inr rfl)) pgs_nil))))
          (pss_cons (ps_while PassesOwn.never (pt_cmpR op_lt (pv 3) (pe_callB call_len_seq (by rfl) T.n_len (by decide +kernel) (pa_cons (pv 2) pa_nil)) (nomark _))
            (pss_cons (ps_expr (pe_bm PySem.F.plainAttrs_list PySem.F.slot_list_extend PySem.F.type_list_extend mt_extend (pv 2) (pa_cons (pe_lc (own := [("pair", 4)]) rfl sc_reached.nd (pi_list (pv 1)) (blkOk_by (own := [("pair", 4)]) (N := N_reached) (sc := defScope s_reached) (by decide +kernel)) (fun _ _ _ _ _ => (pg_name (i := 4) sc_reached.nd rfl (by first | exact Or.inl rfl | exact Or.inr rfl))) (fun _ _ _ _ _ => (pts_one (PW.pt (pw_and (pt_cmpR op_eq (pe_item_str (pv 4) pe_int (fun _ _ => rfl)) (pe_ix (show IxR _ (rIxL K) from ix_list) (pv 2) (pv 3) (fun _ _ => rfl)) (nomark _)) (pw_and1 (pt_cmpR (show OpR _ (compareOp .NotIn) (rIn K true) from op_notIn_seq) (pe_item_str (pv 4) pe_int (fun _ _ => rfl)) (pv 2) (by rfl))))))) (fun _ _ _ _ _ => (pe_item_str (pv 4) pe_int (fun _ _ => rfl)))) pa_nil)))
            (pss_one (ps_aug (i := 3) sc_reached.nd rfl (by first | exact Or.inl rfl | exact Or.inr rfl) pe_int ip_add))))
          (pss_one (ps_ret (pv 2))))), ?_⟩
      refine ⟨_, rfl, x, _, rfl, .inr hx, fun f nf => ?_⟩
      have s1 : Same H (upd H f (.lst (S.map V.str))) := same_upd nf
      refine ⟨by show 2 ≤ sizeLine; rw [sizeLine_eq]; decide, fun t nt => ?_⟩
      have s2 : Same (upd H f (.lst (S.map V.str))) (upd (upd H f (.lst (S.map V.str))) t (.tup [.ref f, .int 0])) := same_upd nt
      refine ⟨t, _, rfl, SqT.of upd_same, rfl, _, _, rfl, _, _, rfl, rfl, ?_⟩
      let Pv : Nat → L2.St → Hp → Prop := fun i σ H1 => ∃ (v : Option V) (L : List Str), σ = [some (.ref x), some (.ref y), some (.ref f), some (.int (i : Nat)), v] ∧ i ≤ L.length ∧ Same H H1 ∧ H1 f = some (.lst (L.map V.str)) ∧ L.Nodup ∧ (∀ t ∈ L, isLet t = true)
      refine ⟨fun m σ H1 => ∃ i, m = 200 - i ∧ Pv i σ H1, ⟨_, 0, rfl, none, S, rfl, Nat.zero_le _, s1.trans s2, s2 _ _ upd_same, ndS, lS⟩, ?_⟩
      rintro m σ H1 ⟨i, rfl, v, L, rfl, hi, sH, ef, ndL, lL⟩
      have few := letters_few ndL lL
      refine ⟨_, rfl, _, rfl, f, _, rfl, .inl (SqL.of ef), _, _, rfl, rfl, _, rfl, ?_⟩
      rw [List.length_map]
      by_cases hlt : i < L.length
      · refine if_true_of (decide_eq_true (by omega)) ?_
        refine ⟨fun σ' H' => Pv (i + 1) σ' H', fun σ' H' z => ⟨200 - (i + 1), by omega, i + 1, rfl, z⟩, ?_⟩
        obtain ⟨z, hz⟩ : ∃ z, L[i]? = some z := ⟨_, List.getElem?_eq_getElem hlt⟩
        refine ⟨_, rfl, .inl ⟨rfl, _, SqL.of ef⟩, _, rfl, y, rfl, ⟨_, sH.seq hy⟩, fun D nD => lc_strs walk_list nD (fun q => if fstS q = z ∧ sndS q ∉ L then some (.str (sndS q)) else none) (fun _ s => (sH.trans s).seq hy) hsz (fun j q H2 hq s2 R kR => ?_) (fun H2 s2 eD => ?_)⟩
        · have hp := prP q (List.mem_of_getElem? hq)
          obtain ⟨c, d, rfl, _⟩ := pr_shape hp
          rw [fst_two, snd_two] at kR
          refine ⟨rfl, _, rfl, _, _, c, rfl, rfl, by decide, by decide, by show (0 : Int) < 2; decide, rfl, _, rfl, _, rfl, f, _, _, _, rfl, rfl, SqL.of (s2 _ _ ef), atI_nat (j := i) (by rw [List.getElem?_map, hz]; rfl), rfl, _, rfl, ?_⟩
          by_cases h1 : (⟨#[c]⟩ : Str) = z
          · refine if_true_of (decide_eq_true (by rw [h1])) ?_
            refine ⟨_, rfl, _, _, d, rfl, rfl, by decide, by decide, by show (1 : Int) < 2; decide, rfl, _, rfl, f, _, rfl, .inl (SqL.of (s2 _ _ ef)), rfl, flat_texts L, _, rfl, ?_⟩
            rw [inV_strs]
            by_cases h2 : (⟨#[d]⟩ : Str) ∈ L
            · rw [if_neg (fun z => z.2 h2)] at kR
              refine if_false_of (by rw [decide_eq_true h2]; rfl) ?_
              exact kR H2 (Same.refl _)
            · rw [if_pos ⟨h1, h2⟩] at kR
              refine if_true_of (by rw [decide_eq_false h2]; rfl) ?_
              exact ⟨_, rfl, _, _, d, rfl, rfl, by decide, by decide, by show (1 : Int) < 2; decide, rfl, kR H2 (Same.refl _)⟩
          · rw [if_neg (fun z => h1 z.1)] at kR
            refine if_false_of (decide_eq_false (fun q => h1 (V.str.inj q))) ?_
            exact kR H2 (Same.refl _)
        · have e1 : Ps.filterMap (fun q => if fstS q = z ∧ sndS q ∉ L then some (V.str (sndS q)) else none) = (nextOf L z Ps).map V.str := by
            unfold nextOf
            rw [List.map_filterMap]
            refine congrArg (fun g => List.filterMap g Ps) ?_
            funext q
            split <;> rfl
          rw [e1] at eD
          obtain ⟨n1, n2⟩ := next_facts (L := L) (x := z) ndP prP
          have nd2 : (L ++ nextOf L z Ps).Nodup := List.nodup_append.mpr ⟨ndL, n1, fun u hu v hv e => (n2 v hv).1 (e ▸ hu)⟩
          have lt2 : ∀ t ∈ L ++ nextOf L z Ps, isLet t = true := fun t ht => (List.mem_append.mp ht).elim (lL t) fun q => (n2 t q).2
          have few2 := letters_few nd2 lt2
          rw [List.length_append] at few2
          refine ⟨f, D, _, _, rfl, rfl, s2 _ _ ef, eD, by rw [List.length_map, List.length_map, sizeLine_eq]; omega, ?_⟩
          refine ⟨_, rfl, _, _, rfl, rfl, ?_⟩
          exact ⟨v, L ++ nextOf L z Ps, rfl, by rw [List.length_append]; omega, same_mut (sH.trans s2) nf, by rw [upd_same, List.map_append], nd2, lt2⟩
      · refine if_false_of (decide_eq_false (by omega)) ?_
        exact ⟨_, rfl, k H1 f L sH nf ef ndL lL⟩
    · refine ⟨_, (pss_cons (ps_asg (pe_tup (pa_cons (pe_callTy call_list_of (by rfl) T.n_list (by decide +kernel) (pa_cons (pv 0) pa_nil)) (pa_cons pe_int pa_nil))) (pg_tup rfl (pgs_cons (pg_name (i := 2) sc_reached.nd rfl (by first | exact Or.inl rfl | exact Or.inr rfl)) (pgs_cons (pg_name (i := 3) sc_reached.nd rfl (by first | exact Or.inl rfl | exact Or.inr rfl)) pgs_nil))))
          (pss_cons (ps_while PassesOwn.never (pt_cmpR op_lt (pv 3) (pe_callB call_len_seq (by rfl) T.n_len (by decide +kernel) (pa_cons (pv 2) pa_nil)) (nomark _))
            (pss_cons (ps_expr (pe_bm PySem.F.plainAttrs_list PySem.F.slot_list_extend PySem.F.type_list_extend mt_extend (pv 2) (pa_cons (pe_lc (own := [("pair", 4)]) rfl sc_reached.nd (pi_tup (pv 1)) (blkOk_by (own := [("pair", 4)]) (N := N_reached) (sc := defScope s_reached) (by decide +kernel)) (fun _ _ _ _ _ => (pg_name (i := 4) sc_reached.nd rfl (by first | exact Or.inl rfl | exact Or.inr rfl))) (fun _ _ _ _ _ => (pts_one (PW.pt (pw_and (pt_cmpR op_eq (pe_item_str (pv 4) pe_int (fun _ _ => rfl)) (pe_ix (show IxR _ (rIxL K) from ix_list) (pv 2) (pv 3) (fun _ _ => rfl)) (nomark _)) (pw_and1 (pt_cmpR (show OpR _ (compareOp .NotIn) (rIn K true) from op_notIn_seq) (pe_item_str (pv 4) pe_int (fun _ _ => rfl)) (pv 2) (by rfl))))))) (fun _ _ _ _ _ => (pe_item_str (pv 4) pe_int (fun _ _ => rfl)))) pa_nil)))
            (pss_one (ps_aug (i := 3) sc_reached.nd rfl (by first | exact Or.inl rfl | exact Or.inr rfl) pe_int ip_add))))
          (pss_one (ps_ret (pv 2))))), ?_⟩
      refine ⟨_, rfl, x, _, rfl, .inr hx, fun f nf => ?_⟩
      have s1 : Same H (upd H f (.lst (S.map V.str))) := same_upd nf
      refine ⟨by show 2 ≤ sizeLine; rw [sizeLine_eq]; decide, fun t nt => ?_⟩
      have s2 : Same (upd H f (.lst (S.map V.str))) (upd (upd H f (.lst (S.map V.str))) t (.tup [.ref f, .int 0])) := same_upd nt
      refine ⟨t, _, rfl, SqT.of upd_same, rfl, _, _, rfl, _, _, rfl, rfl, ?_⟩
      let Pv : Nat → L2.St → Hp → Prop := fun i σ H1 => ∃ (v : Option V) (L : List Str), σ = [some (.ref x), some (.ref y), some (.ref f), some (.int (i : Nat)), v] ∧ i ≤ L.length ∧ Same H H1 ∧ H1 f = some (.lst (L.map V.str)) ∧ L.Nodup ∧ (∀ t ∈ L, isLet t = true)
      refine ⟨fun m σ H1 => ∃ i, m = 200 - i ∧ Pv i σ H1, ⟨_, 0, rfl, none, S, rfl, Nat.zero_le _, s1.trans s2, s2 _ _ upd_same, ndS, lS⟩, ?_⟩
      rintro m σ H1 ⟨i, rfl, v, L, rfl, hi, sH, ef, ndL, lL⟩
      have few := letters_few ndL lL
      refine ⟨_, rfl, _, rfl, f, _, rfl, .inl (SqL.of ef), _, _, rfl, rfl, _, rfl, ?_⟩
      rw [List.length_map]
      by_cases hlt : i < L.length
      · refine if_true_of (decide_eq_true (by omega)) ?_
        refine ⟨fun σ' H' => Pv (i + 1) σ' H', fun σ' H' z => ⟨200 - (i + 1), by omega, i + 1, rfl, z⟩, ?_⟩
        obtain ⟨z, hz⟩ : ∃ z, L[i]? = some z := ⟨_, List.getElem?_eq_getElem hlt⟩
        refine ⟨_, rfl, .inl ⟨rfl, _, SqL.of ef⟩, _, rfl, y, rfl, ⟨_, Same.seqT sH hy⟩, fun D nD => lc_strs walk_tup nD (fun q => if fstS q = z ∧ sndS q ∉ L then some (.str (sndS q)) else none) (fun _ s => Same.seqT (sH.trans s) hy) hsz (fun j q H2 hq s2 R kR => ?_) (fun H2 s2 eD => ?_)⟩
        · have hp := prP q (List.mem_of_getElem? hq)
          obtain ⟨c, d, rfl, _⟩ := pr_shape hp
          rw [fst_two, snd_two] at kR
          refine ⟨rfl, _, rfl, _, _, c, rfl, rfl, by decide, by decide, by show (0 : Int) < 2; decide, rfl, _, rfl, _, rfl, f, _, _, _, rfl, rfl, SqL.of (s2 _ _ ef), atI_nat (j := i) (by rw [List.getElem?_map, hz]; rfl), rfl, _, rfl, ?_⟩
          by_cases h1 : (⟨#[c]⟩ : Str) = z
          · refine if_true_of (decide_eq_true (by rw [h1])) ?_
            refine ⟨_, rfl, _, _, d, rfl, rfl, by decide, by decide, by show (1 : Int) < 2; decide, rfl, _, rfl, f, _, rfl, .inl (SqL.of (s2 _ _ ef)), rfl, flat_texts L, _, rfl, ?_⟩
            rw [inV_strs]
            by_cases h2 : (⟨#[d]⟩ : Str) ∈ L
            · rw [if_neg (fun z => z.2 h2)] at kR
              refine if_false_of (by rw [decide_eq_true h2]; rfl) ?_
              exact kR H2 (Same.refl _)
            · rw [if_pos ⟨h1, h2⟩] at kR
              refine if_true_of (by rw [decide_eq_false h2]; rfl) ?_
              exact ⟨_, rfl, _, _, d, rfl, rfl, by decide, by decide, by show (1 : Int) < 2; decide, rfl, kR H2 (Same.refl _)⟩
          · rw [if_neg (fun z => h1 z.1)] at kR
            refine if_false_of (decide_eq_false (fun q => h1 (V.str.inj q))) ?_
            exact kR H2 (Same.refl _)
        · have e1 : Ps.filterMap (fun q => if fstS q = z ∧ sndS q ∉ L then some (V.str (sndS q)) else none) = (nextOf L z Ps).map V.str := by
            unfold nextOf
            rw [List.map_filterMap]
            refine congrArg (fun g => List.filterMap g Ps) ?_
            funext q
            split <;> rfl
          rw [e1] at eD
          obtain ⟨n1, n2⟩ := next_facts (L := L) (x := z) ndP prP
          have nd2 : (L ++ nextOf L z Ps).Nodup := List.nodup_append.mpr ⟨ndL, n1, fun u hu v hv e => (n2 v hv).1 (e ▸ hu)⟩
          have lt2 : ∀ t ∈ L ++ nextOf L z Ps, isLet t = true := fun t ht => (List.mem_append.mp ht).elim (lL t) fun q => (n2 t q).2
          have few2 := letters_few nd2 lt2
          rw [List.length_append] at few2
          refine ⟨f, D, _, _, rfl, rfl, s2 _ _ ef, eD, by rw [List.length_map, List.length_map, sizeLine_eq]; omega, ?_⟩
          refine ⟨_, rfl, _, _, rfl, rfl, ?_⟩
          exact ⟨v, L ++ nextOf L z Ps, rfl, by rw [List.length_append]; omega, same_mut (sH.trans s2) nf, by rw [upd_same, List.map_append], nd2, lt2⟩
      · refine if_false_of (decide_eq_false (by omega)) ?_
        exact ⟨_, rfl, k H1 f L sH nf ef ndL lL⟩
end
end K88

set_option maxHeartbeats 8000000
/-! ## 13. Manners -/
namespace K88
open PySem PySem.Spec PyProof.Rows L2
open LamX (CodeO TabS Tabs ExtN TabB lamEnv)
def fM (x1 x2 x3 x4 x5 x6 x7 : V) : List (Str × V) := [("firsts", x1), ("follows", x2), ("lasts", x3), ("letters", x4), ("used", x5), ("starts", x6), ("ends", x7)]
/-- at s: a manner of the sorted letters F, pairs Ps, letters L -/
def MannerAt (C : Addr) (H : Hp) (s : Addr) (F Ps L : List Str) : Prop := ∃ dx q1 q2 q3 x4 x5 x6 x7, H s = some (.ins C dx (fM (.ref q1) (.ref q2) (.ref q3) x4 x5 x6 x7)) ∧ H q1 = some (.tup (F.map V.str)) ∧ H q2 = some (.tup (Ps.map V.str)) ∧ H q3 = some (.tup (L.map V.str))
theorem MannerAt.ext {C : Addr} {H H' : Hp} {s p : Addr} {F Ps L : List Str} (h : MannerAt C H s F Ps L) (e : ExtB p H H') (hp : ∀ dx fs, H p ≠ some (.ins C dx fs)) (hp2 : ∀ xs, H p ≠ some (.tup xs)) : MannerAt C H' s F Ps L := by
  obtain ⟨dx, q1, q2, q3, x4, x5, x6, x7, h0, h1, h2, h3⟩ := h
  have go : ∀ {b : Addr} {xs : List V}, H b = some (.tup xs) → H' b = some (.tup xs) := fun {b xs} e1 => e b _ e1 (fun z => hp2 _ (z ▸ e1)) (fun ps z => by cases z)
  exact ⟨dx, q1, q2, q3, x4, x5, x6, x7, e _ _ h0 (fun z => hp _ _ (z ▸ h0)) (fun ps z => by cases z), go h1, go h2, go h3⟩
theorem MannerAt.same {C : Addr} {H H' : Hp} {s : Addr} {F Ps L : List Str} (h : MannerAt C H s F Ps L) (e : Same H H') : MannerAt C H' s F Ps L := by
  obtain ⟨dx, q1, q2, q3, x4, x5, x6, x7, h0, h1, h2, h3⟩ := h
  exact ⟨dx, q1, q2, q3, x4, x5, x6, x7, e _ _ h0, e _ _ h1, e _ _ h2, e _ _ h3⟩
/-- sorted, each once, of these -/
def SortOf (ys xs : List Str) : Prop := ys.Perm (dedupS xs) ∧ sortedS ys = true
theorem SortOf.nodup {ys xs : List Str} (h : SortOf ys xs) : ys.Nodup := h.1.nodup_iff.mpr (dedupS_nodup xs)
theorem SortOf.mem {ys xs : List Str} (h : SortOf ys xs) {t : Str} : t ∈ ys ↔ t ∈ xs := h.1.mem_iff.trans mem_dedupS
theorem SortOf.len {ys xs : List Str} (h : SortOf ys xs) : ys.length ≤ xs.length := by rw [h.1.length_eq]; exact dedupS_le xs
def revP (s : Str) : Str := sndS s ++ fstS s
theorem rev_two (c d : Nat) : revP ⟨#[c, d]⟩ = ⟨#[d, c]⟩ := rfl
theorem rev_facts {Ps : List Str} (nd : Ps.Nodup) (h : ∀ q ∈ Ps, isPr q = true) : (Ps.map revP).Nodup ∧ ∀ q ∈ Ps.map revP, isPr q = true := by
  refine ⟨?_, fun q hq => ?_⟩
  · refine List.pairwise_map.mpr (nd.imp_of_mem ?_)
    intro s t hs ht ne z
    refine ne ?_
    obtain ⟨c, d, rfl, _⟩ := pr_shape (h s hs)
    obtain ⟨c', d', rfl, _⟩ := pr_shape (h t ht)
    rw [rev_two, rev_two] at z
    cases z
    rfl
  · obtain ⟨s, hs, rfl⟩ := List.mem_map.mp hq
    obtain ⟨c, d, rfl, hc, hd⟩ := pr_shape (h s hs)
    rw [rev_two, isPr_two, hc, hd]
    rfl
theorem keep_map (p : Str → Bool) (ss : List Str) : (ss.filterMap fun q => if p q = true then some (V.str q) else none) = (ss.filter p).map V.str := by
  induction ss with
  | nil => rfl
  | cons x l ih =>
    by_cases h : p x = true
    · rw [List.filterMap_cons_some (b := V.str x) (by rw [if_pos h]), List.filter_cons_of_pos h, List.map_cons, ih]
    · rw [List.filterMap_cons_none (by rw [if_neg h]), List.filter_cons_of_neg h, ih]
section
variable {P : Program} {w : World} {K : PySem.W.Frag} {mg : Str → Option Value} {base : Heap} {a : Ad}
def sp_Manner (C : Addr) (K : PySem.W.Frag) : Sp := fun vs H Q _ => ∃ (s dx xf xp xl : Addr) (F Ps L : List Str), vs = [.ref s, .ref xf, .ref xp, .ref xl] ∧ H s = some (.ins C dx []) ∧ Sq K H xf (F.map V.str) ∧ Sq K H xp (Ps.map V.str) ∧ Sq K H xl (L.map V.str) ∧ (∀ t ∈ F, isLet t = true) ∧ (∀ t ∈ Ps, isPr t = true) ∧ (∀ t ∈ L, isLet t = true) ∧ F.length < 64 ∧ Ps.length < 64 ∧ L.length < 64 ∧
  ∀ (H' : Hp) (F' Ps' L' : List Str), SameB s H H' → SortOf F' F → SortOf Ps' Ps → SortOf L' L → MannerAt C H' s F' Ps' L' → Q .non H'
theorem sq_off {C : Addr} {H H' : Hp} {s x dx : Addr} {fs : List (Str × V)} {xs : List V} (hs : H s = some (.ins C dx fs)) (h : Sq K H x xs) (e : SameB s H H') : Sq K H' x xs := by
  rcases h with ((h | ⟨o, h⟩) | h) | ((h | ⟨o, h⟩) | h)
  · exact .inl (.inl (.inl (e _ _ (ne_of h hs fun z => by cases z) h)))
  · exact .inl (.inl (.inr ⟨o, e _ _ (ne_of h hs fun z => by cases z) h⟩))
  · exact .inl (.inr h)
  · exact .inr (.inl (.inl (e _ _ (ne_of h hs fun z => by cases z) h)))
  · exact .inr (.inl (.inr ⟨o, e _ _ (ne_of h hs fun z => by cases z) h⟩))
  · exact .inr (.inr h)
theorem let_len {t : Str} (h : isLet t = true) : t.length ≤ 1000000 := by
  obtain ⟨c, rfl, _⟩ := let_shape h
  show 1 ≤ 1000000
  decide
theorem pr_len {t : Str} (h : isPr t = true) : t.length ≤ 1000000 := by
  obtain ⟨c, d, rfl, _⟩ := pr_shape h
  show 2 ≤ 1000000
  decide
theorem ok_Manner (T : Txt K mg a) : MakX P w K mg base CX0 4 "Manner" a.c_Manner (sp_Manner a.c_Manner K) [] := by
  refine ⟨_, _, _, _, T.g_Manner, T.mk_Manner, T.F_Mannerx_initx.ok sc_Mannerx_initx (fun vs H Q E h => ?_) (fun cdv A outer s H vs Q E hr h => ?_), T.b_Mannerx_initx, .nil⟩
  · obtain ⟨s, dx, xf, xp, xl, F, Ps, L, rfl, _⟩ := h
    rfl
  · obtain ⟨s, dx, xf, xp, xl, F, Ps, L, rfl, hs, hf, hp, hl, oF, oP, oL, lF, lP, lL, k⟩ := h
    refine ⟨_, (pss_cons (ps_fld (pv 0) (pe_cx (ok_signs_in T) hr (by decide) pass0 (by rfl) (pa_cons (pv 1) (pa_cons pe_str pa_nil))) rfl)
          (pss_cons (ps_fld (pv 0) (pe_cx (ok_pairs_in T) hr (by decide) pass0 (by rfl) (pa_cons (pv 2) (pa_cons pe_str pa_nil))) rfl)
          (pss_cons (ps_fld (pv 0) (pe_cx (ok_signs_in T) hr (by decide) pass0 (by rfl) (pa_cons (pv 3) (pa_cons pe_str pa_nil))) rfl)
          (pss_cons (ps_set (i := 4) sc_Mannerx_initx.nd rfl (by first | exact Or.inl rfl | exact Or.inr rfl) (pe_cx (ok_reached T) hr (by decide) pass0 (by rfl) (pa_cons (pe_fldK (K := K) rfl (pv 0) rfl) (pa_cons (pe_fldK (K := K) rfl (pv 0) rfl) pa_nil))))
          (pss_cons (ps_set (i := 5) sc_Mannerx_initx.nd rfl (by first | exact Or.inl rfl | exact Or.inr rfl) (pe_cx (ok_reached T) hr (by decide) pass0 (by rfl) (pa_cons (pe_fldK (K := K) rfl (pv 0) rfl) (pa_cons (pe_lc (own := [("pair", 6)]) rfl sc_Mannerx_initx.nd (pi_tup (pe_fldK (K := K) rfl (pv 0) rfl)) (blkOk_by (own := [("pair", 6)]) (N := N_Mannerx_initx) (sc := defScope s_Mannerx_initx) (by decide +kernel)) (fun _ _ _ _ _ => (pg_name (i := 6) sc_Mannerx_initx.nd rfl (by first | exact Or.inl rfl | exact Or.inr rfl))) (fun _ _ _ _ _ => pts_nil) (fun _ _ _ _ _ => (pe_op op_add_str (pe_item_str (pv 6) pe_int (fun _ _ => rfl)) (pe_item_str (pv 6) pe_int (fun _ _ => rfl))))) pa_nil))))
          (pss_cons (ps_fld (pv 0) (pe_callTy call_tuple_of (by rfl) T.n_tuple (by decide +kernel) (pa_cons (pe_callB cr_sortedS (by rfl) T.n_sorted (by decide +kernel) (pa_cons (pe_lc (own := [("letter", 7)]) rfl sc_Mannerx_initx.nd (pi_list (pv 4)) (blkOk_by (own := [("letter", 7)]) (N := N_Mannerx_initx) (sc := defScope s_Mannerx_initx) (by decide +kernel)) (fun _ _ _ _ _ => (pg_name (i := 7) sc_Mannerx_initx.nd rfl (by first | exact Or.inl rfl | exact Or.inr rfl))) (fun _ _ _ _ _ => (pts_one (pt_cmpR (show OpR _ (compareOp .In) (rIn K false) from op_in_seq) (pv 7) (pv 5) (by rfl)))) (fun _ _ _ _ _ => (pv 7))) pa_nil)) pa_nil)) rfl)
          (pss_cons (ps_fld (pv 0) (pe_callTy call_tuple_of (by rfl) T.n_tuple (by decide +kernel) (pa_cons (pe_lc (own := [("pair", 6)]) rfl sc_Mannerx_initx.nd (pi_tup (pe_fldK (K := K) rfl (pv 0) rfl)) (blkOk_by (own := [("pair", 6)]) (N := N_Mannerx_initx) (sc := defScope s_Mannerx_initx) (by decide +kernel)) (fun _ _ _ _ _ => (pg_name (i := 6) sc_Mannerx_initx.nd rfl (by first | exact Or.inl rfl | exact Or.inr rfl))) (fun _ _ _ _ _ => (pts_one (PW.pt (pw_and (pt_cmpR (show OpR _ (compareOp .In) (rIn K false) from op_in_seq) (pe_item_str (pv 6) pe_int (fun _ _ => rfl)) (pe_fldK (K := K) rfl (pv 0) rfl) (by rfl)) (pw_and1 (pt_cmpR (show OpR _ (compareOp .In) (rIn K false) from op_in_seq) (pe_item_str (pv 6) pe_int (fun _ _ => rfl)) (pe_fldK (K := K) rfl (pv 0) rfl) (by rfl))))))) (fun _ _ _ _ _ => (pv 6))) pa_nil)) rfl)
          (pss_cons (ps_fld (pv 0) (pe_callTy call_tuple_of (by rfl) T.n_tuple (by decide +kernel) (pa_cons (pe_lc (own := [("letter", 7)]) rfl sc_Mannerx_initx.nd (pi_tup (pe_fldK (K := K) rfl (pv 0) rfl)) (blkOk_by (own := [("letter", 7)]) (N := N_Mannerx_initx) (sc := defScope s_Mannerx_initx) (by decide +kernel)) (fun _ _ _ _ _ => (pg_name (i := 7) sc_Mannerx_initx.nd rfl (by first | exact Or.inl rfl | exact Or.inr rfl))) (fun _ _ _ _ _ => (pts_one (pt_cmpR (show OpR _ (compareOp .In) (rIn K false) from op_in_seq) (pv 7) (pe_fldK (K := K) rfl (pv 0) rfl) (by rfl)))) (fun _ _ _ _ _ => (pv 7))) pa_nil)) rfl)
          (pss_one (ps_fld (pv 0) (pe_callTy call_tuple_of (by rfl) T.n_tuple (by decide +kernel) (pa_cons (pe_lc (own := [("letter", 7)]) rfl sc_Mannerx_initx.nd (pi_tup (pe_fldK (K := K) rfl (pv 0) rfl)) (blkOk_by (own := [("letter", 7)]) (N := N_Mannerx_initx) (sc := defScope s_Mannerx_initx) (by decide +kernel)) (fun _ _ _ _ _ => (pg_name (i := 7) sc_Mannerx_initx.nd rfl (by first | exact Or.inl rfl | exact Or.inr rfl))) (fun _ _ _ _ _ => (pts_one (pt_cmpR (show OpR _ (compareOp .In) (rIn K false) from op_in_seq) (pv 7) (pe_fldK (K := K) rfl (pv 0) rfl) (by rfl)))) (fun _ _ _ _ _ => (pv 7))) pa_nil)) rfl)))))))))), ?_⟩
    -- self.firsts
    refine ⟨_, rfl, xf, _, F, rfl, hf, fun t ht => ⟨oF t ht, let_len (oF t ht)⟩, lF, fun H1 q1 F' s1 nq1 e1 p1 r1 => ?_⟩
    have so1 : SortOf F' F := ⟨p1, r1⟩
    refine ⟨_, rfl, s, _, dx, _, rfl, s1 _ _ hs, T.cl_Manner, T.no_Manner_firsts, by decide, ?_⟩
    have c1 : q1 ≠ s := ne_of e1 (s1 _ _ hs) (fun z => by cases z)
    obtain ⟨G1, hG1⟩ : ∃ G, G = upd H1 s (.ins a.c_Manner dx (putF "firsts" (.ref q1) [])) := ⟨_, rfl⟩
    rw [← hG1]
    have b1 : SameB s H G1 := by rw [hG1]; exact (Same.b s1).upd
    have g1 : G1 s = some (.ins a.c_Manner dx [(("firsts" : Str), .ref q1)]) := by rw [hG1]; exact upd_same
    have f1 : G1 q1 = some (.tup (F'.map V.str)) := by rw [hG1, upd_ne c1]; exact e1
    clear hG1
    -- self.follows
    refine ⟨_, rfl, xp, _, Ps, rfl, sq_off hs hp b1, fun t ht => ⟨oP t ht, pr_len (oP t ht)⟩, lP, fun H2 q2 Ps' s2 nq2 e2 p2 r2 => ?_⟩
    have so2 : SortOf Ps' Ps := ⟨p2, r2⟩
    refine ⟨_, rfl, s, _, dx, _, rfl, s2 _ _ g1, T.cl_Manner, T.no_Manner_follows, by show 1 < 1000; decide, ?_⟩
    have c2 : q2 ≠ s := ne_of e2 (s2 _ _ g1) (fun z => by cases z)
    obtain ⟨G2, hG2⟩ : ∃ G, G = upd H2 s (.ins a.c_Manner dx (putF "follows" (.ref q2) [(("firsts" : Str), .ref q1)])) := ⟨_, rfl⟩
    rw [← hG2]
    have b2 : SameB s G1 G2 := by rw [hG2]; exact (Same.b s2).upd
    have g2 : G2 s = some (.ins a.c_Manner dx [(("firsts" : Str), .ref q1), ("follows", .ref q2)]) := by rw [hG2, upd_same]; kernel_rfl
    have f2 : G2 q2 = some (.tup (Ps'.map V.str)) := by rw [hG2, upd_ne c2]; exact e2
    clear hG2
    -- self.lasts
    refine ⟨_, rfl, xl, _, L, rfl, sq_off hs hl (b1.trans b2), fun t ht => ⟨oL t ht, let_len (oL t ht)⟩, lL, fun H3 q3 L' s3 nq3 e3 p3 r3 => ?_⟩
    have so3 : SortOf L' L := ⟨p3, r3⟩
    refine ⟨_, rfl, s, _, dx, _, rfl, s3 _ _ g2, T.cl_Manner, T.no_Manner_lasts, by show 2 < 1000; decide, ?_⟩
    have c3 : q3 ≠ s := ne_of e3 (s3 _ _ g2) (fun z => by cases z)
    obtain ⟨G3, hG3⟩ : ∃ G, G = upd H3 s (.ins a.c_Manner dx (putF "lasts" (.ref q3) [(("firsts" : Str), .ref q1), ("follows", .ref q2)])) := ⟨_, rfl⟩
    rw [← hG3]
    have b3 : SameB s G2 G3 := by rw [hG3]; exact (Same.b s3).upd
    have g3 : G3 s = some (.ins a.c_Manner dx [(("firsts" : Str), .ref q1), ("follows", .ref q2), ("lasts", .ref q3)]) := by rw [hG3, upd_same]; kernel_rfl
    have f3 : G3 q3 = some (.tup (L'.map V.str)) := by rw [hG3, upd_ne c3]; exact e3
    clear hG3
    have f1' := b3 _ _ c1 (b2 _ _ c1 f1)
    have f2' := b3 _ _ c2 f2
    have lF' : ∀ t ∈ F', isLet t = true := fun t ht => oF t (so1.mem.mp ht)
    have lP' : ∀ t ∈ Ps', isPr t = true := fun t ht => oP t (so2.mem.mp ht)
    have lL' : ∀ t ∈ L', isLet t = true := fun t ht => oL t (so3.mem.mp ht)
    have zP' : Ps'.length ≤ 1000000 := Nat.le_trans so2.len (by omega)
    -- ahead, behind
    have k1 : ([(("firsts" : Str), V.ref q1), ("follows", .ref q2), ("lasts", .ref q3)]).lookup ("firsts" : Str) = some (.ref q1) := by kernel_rfl
    have k2 : ([(("firsts" : Str), V.ref q1), ("follows", .ref q2), ("lasts", .ref q3)]).lookup ("follows" : Str) = some (.ref q2) := by kernel_rfl
    have k3 : ([(("firsts" : Str), V.ref q1), ("follows", .ref q2), ("lasts", .ref q3)]).lookup ("lasts" : Str) = some (.ref q3) := by kernel_rfl
    refine ⟨_, rfl, s, _, dx, _, _, rfl, g3, T.cl_Manner, T.no_Manner_firsts, k1, _, rfl, s, _, dx, _, _, rfl, g3, T.cl_Manner, T.no_Manner_follows, k2, q1, q2, F', Ps', rfl, SqT.of f1', .inr (SqT.of f2'), so1.nodup, lF', so2.nodup, lP', zP', fun H4 ah A1 s4 nah eah ndA lA => ?_⟩
    refine ⟨_, rfl, s, _, dx, _, _, rfl, s4 _ _ g3, T.cl_Manner, T.no_Manner_lasts, k3, _, rfl, s, _, dx, _, _, rfl, s4 _ _ g3, T.cl_Manner, T.no_Manner_follows, k2, q2, rfl, ⟨_, SqT.of (s4 _ _ f2')⟩, fun D nD => lc_map walk_tup nD (fun q => .str (revP q)) (fun _ z => Same.seqT z (SqT.of (s4 _ _ f2'))) zP' (fun i q H5 hq s5 R kR => ?_) (fun H5 s5 eD => ?_)⟩
    · obtain ⟨c, d, rfl, _⟩ := pr_shape (lP' q (List.mem_of_getElem? hq))
      exact ⟨rfl, _, rfl, _, _, d, rfl, rfl, by decide, by decide, by show (1 : Int) < 2; decide, rfl, _, rfl, _, _, c, rfl, rfl, by decide, by decide, by show (0 : Int) < 2; decide, rfl, _, _, rfl, rfl, by show 1 + 1 ≤ sizeLine; rw [sizeLine_eq]; decide, kR H5 (Same.refl _)⟩
    obtain ⟨ndR, lR⟩ := rev_facts so2.nodup lP'
    refine ⟨q3, D, L', Ps'.map revP, rfl, SqT.of (s5 _ _ (s4 _ _ f3)), .inl (SqL.of (by rw [eD, List.map_map]; rfl)), so3.nodup, lL', ndR, lR, by rw [List.length_map]; exact zP', fun H6 be B1 s6 nbe ebe ndB lB => ?_⟩
    have s46 : Same G3 H6 := s4.trans (s5.trans s6)
    have eah' : H6 ah = some (.lst (A1.map V.str)) := s6 _ _ (s5 _ _ eah)
    -- letters
    have fewA := letters_few ndA lA
    refine ⟨_, rfl, ah, rfl, ⟨_, SqL.of eah'⟩, fun D2 nD2 => lc_strs walk_list nD2 (fun q => if decide (q ∈ B1) = true then some (.str q) else none) (fun _ z => SqL.of (z _ _ eah')) (by omega) (fun i q H7 hq s7 R kR => ?_) (fun H7 s7 eD2 => ?_)⟩
    · refine ⟨rfl, _, rfl, _, rfl, be, _, rfl, .inl (SqL.of (s7 _ _ ebe)), rfl, flat_texts B1, _, rfl, ?_⟩
      show if inV (V.str q) (B1.map V.str) = true then _ else _
      rw [inV_strs]
      by_cases hm : decide (q ∈ B1) = true
      · rw [if_pos hm] at kR
        exact if_true_of hm ⟨_, rfl, kR H7 (Same.refl _)⟩
      · rw [if_neg hm] at kR
        refine if_false_of (Bool.not_eq_true _ ▸ hm) ?_
        exact kR H7 (Same.refl _)
    rw [keep_map] at eD2
    refine ⟨D2, _, rfl, SqL.of eD2, Nat.lt_of_le_of_lt (List.length_filter_le _ _) (by omega), fun ys l8 _ _ n8 => ?_⟩
    have s8 : Same H7 (upd H7 l8 (.lst (ys.map V.str))) := same_upd n8
    refine ⟨l8, _, rfl, .inl ⟨SqL.of upd_same, fun q4 nq4 => ?_⟩⟩
    have s9 : Same (upd H7 l8 (.lst (ys.map V.str))) (upd (upd H7 l8 (.lst (ys.map V.str))) q4 (.tup (ys.map V.str))) := same_upd nq4
    have s4_9 := s46.trans (s7.trans (s8.trans s9))
    have g9 := s4_9 _ _ g3
    refine ⟨_, rfl, s, _, dx, _, rfl, g9, T.cl_Manner, T.no_Manner_letters, by show 3 < 1000; decide, ?_⟩
    have c4 : q4 ≠ s := fun z => by rw [z] at nq4; rw [s8 _ _ (s7 _ _ (s46 _ _ g3))] at nq4; cases nq4
    obtain ⟨G4, hG4⟩ : ∃ G, G = upd (upd (upd H7 l8 (.lst (ys.map V.str))) q4 (.tup (ys.map V.str))) s (.ins a.c_Manner dx (putF "letters" (.ref q4) [(("firsts" : Str), .ref q1), ("follows", .ref q2), ("lasts", .ref q3)])) := ⟨_, rfl⟩
    rw [← hG4]
    have b4 : SameB s G3 G4 := by rw [hG4]; exact (Same.b s4_9).upd
    have g4 : G4 s = some (.ins a.c_Manner dx [(("firsts" : Str), .ref q1), ("follows", .ref q2), ("lasts", .ref q3), ("letters", .ref q4)]) := by rw [hG4, upd_same]; kernel_rfl
    have f4 : G4 q4 = some (.tup (ys.map V.str)) := by rw [hG4, upd_ne c4, upd_same]
    clear hG4
    have f1'' := b4 _ _ c1 f1'
    have f2'' := b4 _ _ c2 f2'
    have f3'' := b4 _ _ c3 f3
    -- used
    have k4 : ([(("firsts" : Str), V.ref q1), ("follows", .ref q2), ("lasts", .ref q3), ("letters", .ref q4)]).lookup ("letters" : Str) = some (.ref q4) := by kernel_rfl
    have k4b : ([(("firsts" : Str), V.ref q1), ("follows", .ref q2), ("lasts", .ref q3), ("letters", .ref q4)]).lookup ("follows" : Str) = some (.ref q2) := by kernel_rfl
    refine ⟨_, rfl, s, _, dx, _, _, rfl, g4, T.cl_Manner, T.no_Manner_follows, k4b, q2, rfl, ⟨_, SqT.of f2''⟩, fun D3 nD3 => lc_strs walk_tup nD3 (fun q => if (decide (fstS q ∈ ys) && decide (sndS q ∈ ys)) = true then some (.str q) else none) (fun _ z => SqT.of (z _ _ f2'')) zP' (fun i q H8 hq s8 R kR => ?_) (fun H8 s10 eD3 => ?_)⟩
    · obtain ⟨c, d, rfl, _⟩ := pr_shape (lP' q (List.mem_of_getElem? hq))
      rw [fst_two, snd_two] at kR
      refine ⟨rfl, _, rfl, _, _, c, rfl, rfl, by decide, by decide, by show (0 : Int) < 2; decide, rfl, _, rfl, s, _, dx, _, _, rfl, s8 _ _ g4, T.cl_Manner, T.no_Manner_letters, k4, q4, _, rfl, .inr (SqT.of (s8 _ _ f4)), rfl, flat_texts ys, _, rfl, ?_⟩
      show if inV (V.str (⟨#[c]⟩ : Str)) (ys.map V.str) = true then _ else _
      rw [inV_strs]
      cases h1 : decide ((⟨#[c]⟩ : Str) ∈ ys) with
      | false =>
        rw [h1] at kR
        exact iteF (kR H8 (Same.refl _))
      | true =>
        rw [h1] at kR
        refine iteT ⟨_, rfl, _, _, d, rfl, rfl, by decide, by decide, by show (1 : Int) < 2; decide, rfl, _, rfl, s, _, dx, _, _, rfl, s8 _ _ g4, T.cl_Manner, T.no_Manner_letters, k4, q4, _, rfl, .inr (SqT.of (s8 _ _ f4)), rfl, flat_texts ys, _, rfl, ?_⟩
        show if inV (V.str (⟨#[d]⟩ : Str)) (ys.map V.str) = true then _ else _
        rw [inV_strs]
        cases h2 : decide ((⟨#[d]⟩ : Str) ∈ ys) with
        | false =>
          rw [h2] at kR
          exact iteF (kR H8 (Same.refl _))
        | true =>
          rw [h2] at kR
          exact iteT ⟨_, rfl, kR H8 (Same.refl _)⟩
    rw [keep_map] at eD3
    refine ⟨D3, _, rfl, .inl ⟨SqL.of eD3, fun q5 nq5 => ?_⟩⟩
    have s11 := same_upd (o := HO.tup ((Ps'.filter fun q => decide (fstS q ∈ ys) && decide (sndS q ∈ ys)).map V.str)) nq5
    have s12 := Same.trans s10 s11
    refine ⟨_, rfl, s, _, dx, _, rfl, s12 _ _ g4, T.cl_Manner, T.no_Manner_used, by show 4 < 1000; decide, ?_⟩
    obtain ⟨G5, hG5⟩ : ∃ G, G = upd (upd H8 q5 (HO.tup ((Ps'.filter fun q => decide (fstS q ∈ ys) && decide (sndS q ∈ ys)).map V.str))) s (.ins a.c_Manner dx (putF "used" (.ref q5) [(("firsts" : Str), .ref q1), ("follows", .ref q2), ("lasts", .ref q3), ("letters", .ref q4)])) := ⟨_, rfl⟩
    rw [← hG5]
    have b5 : SameB s G4 G5 := by rw [hG5]; exact (Same.b s12).upd
    have g5 : G5 s = some (.ins a.c_Manner dx [(("firsts" : Str), .ref q1), ("follows", .ref q2), ("lasts", .ref q3), ("letters", .ref q4), ("used", .ref q5)]) := by rw [hG5, upd_same]; kernel_rfl
    clear hG5
    have f4' := b5 _ _ c4 f4
    -- starts
    have k5 : ([(("firsts" : Str), V.ref q1), ("follows", .ref q2), ("lasts", .ref q3), ("letters", .ref q4), ("used", .ref q5)]).lookup ("letters" : Str) = some (.ref q4) := by kernel_rfl
    have k5b : ([(("firsts" : Str), V.ref q1), ("follows", .ref q2), ("lasts", .ref q3), ("letters", .ref q4), ("used", .ref q5)]).lookup ("firsts" : Str) = some (.ref q1) := by kernel_rfl
    refine ⟨_, rfl, s, _, dx, _, _, rfl, g5, T.cl_Manner, T.no_Manner_firsts, k5b, q1, rfl, ⟨_, SqT.of (b5 _ _ c1 f1'')⟩, fun D4 nD4 => lc_strs walk_tup nD4 (fun q => if decide (q ∈ ys) = true then some (.str q) else none) (fun _ z => SqT.of (z _ _ (b5 _ _ c1 f1''))) (Nat.le_trans so1.len (by omega)) (fun i q H9 hq s9 R kR => ?_) (fun H9 s13 eD4 => ?_)⟩
    · refine ⟨rfl, _, rfl, _, rfl, s, _, dx, _, _, rfl, s9 _ _ g5, T.cl_Manner, T.no_Manner_letters, k5, q4, _, rfl, .inr (SqT.of (s9 _ _ f4')), rfl, flat_texts ys, _, rfl, ?_⟩
      show if inV (V.str q) (ys.map V.str) = true then _ else _
      rw [inV_strs]
      by_cases hm : decide (q ∈ ys) = true
      · rw [if_pos hm] at kR
        exact if_true_of hm ⟨_, rfl, kR H9 (Same.refl _)⟩
      · rw [if_neg hm] at kR
        refine if_false_of (Bool.not_eq_true _ ▸ hm) ?_
        exact kR H9 (Same.refl _)
    rw [keep_map] at eD4
    refine ⟨D4, _, rfl, .inl ⟨SqL.of eD4, fun q6 nq6 => ?_⟩⟩
    have s14 := same_upd (o := HO.tup ((F'.filter fun q => decide (q ∈ ys)).map V.str)) nq6
    have s15 := Same.trans s13 s14
    refine ⟨_, rfl, s, _, dx, _, rfl, s15 _ _ g5, T.cl_Manner, T.no_Manner_starts, by show 5 < 1000; decide, ?_⟩
    obtain ⟨G6, hG6⟩ : ∃ G, G = upd (upd H9 q6 (HO.tup ((F'.filter fun q => decide (q ∈ ys)).map V.str))) s (.ins a.c_Manner dx (putF "starts" (.ref q6) [(("firsts" : Str), .ref q1), ("follows", .ref q2), ("lasts", .ref q3), ("letters", .ref q4), ("used", .ref q5)])) := ⟨_, rfl⟩
    rw [← hG6]
    have b6 : SameB s G5 G6 := by rw [hG6]; exact (Same.b s15).upd
    have g6 : G6 s = some (.ins a.c_Manner dx [(("firsts" : Str), .ref q1), ("follows", .ref q2), ("lasts", .ref q3), ("letters", .ref q4), ("used", .ref q5), ("starts", .ref q6)]) := by rw [hG6, upd_same]; kernel_rfl
    clear hG6
    have f4'' := b6 _ _ c4 f4'
    -- ends
    have k6 : ([(("firsts" : Str), V.ref q1), ("follows", .ref q2), ("lasts", .ref q3), ("letters", .ref q4), ("used", .ref q5), ("starts", .ref q6)]).lookup ("letters" : Str) = some (.ref q4) := by kernel_rfl
    have k6b : ([(("firsts" : Str), V.ref q1), ("follows", .ref q2), ("lasts", .ref q3), ("letters", .ref q4), ("used", .ref q5), ("starts", .ref q6)]).lookup ("lasts" : Str) = some (.ref q3) := by kernel_rfl
    have f3c := b6 _ _ c3 (b5 _ _ c3 f3'')
    refine ⟨_, rfl, s, _, dx, _, _, rfl, g6, T.cl_Manner, T.no_Manner_lasts, k6b, q3, rfl, ⟨_, SqT.of f3c⟩, fun D5 nD5 => lc_strs walk_tup nD5 (fun q => if decide (q ∈ ys) = true then some (.str q) else none) (fun _ z => SqT.of (z _ _ f3c)) (Nat.le_trans so3.len (by omega)) (fun i q HA hq sA R kR => ?_) (fun HA s16 eD5 => ?_)⟩
    · refine ⟨rfl, _, rfl, _, rfl, s, _, dx, _, _, rfl, sA _ _ g6, T.cl_Manner, T.no_Manner_letters, k6, q4, _, rfl, .inr (SqT.of (sA _ _ f4'')), rfl, flat_texts ys, _, rfl, ?_⟩
      show if inV (V.str q) (ys.map V.str) = true then _ else _
      rw [inV_strs]
      by_cases hm : decide (q ∈ ys) = true
      · rw [if_pos hm] at kR
        exact if_true_of hm ⟨_, rfl, kR HA (Same.refl _)⟩
      · rw [if_neg hm] at kR
        refine if_false_of (Bool.not_eq_true _ ▸ hm) ?_
        exact kR HA (Same.refl _)
    rw [keep_map] at eD5
    refine ⟨D5, _, rfl, .inl ⟨SqL.of eD5, fun q7 nq7 => ?_⟩⟩
    have s17 := same_upd (o := HO.tup ((L'.filter fun q => decide (q ∈ ys)).map V.str)) nq7
    have s18 := Same.trans s16 s17
    refine ⟨_, rfl, s, _, dx, _, rfl, s18 _ _ g6, T.cl_Manner, T.no_Manner_ends, by show 6 < 1000; decide, ?_⟩
    have b7 : SameB s G6 (upd (upd HA q7 (HO.tup ((L'.filter fun q => decide (q ∈ ys)).map V.str))) s (.ins a.c_Manner dx (putF "ends" (.ref q7) [(("firsts" : Str), .ref q1), ("follows", .ref q2), ("lasts", .ref q3), ("letters", .ref q4), ("used", .ref q5), ("starts", .ref q6)]))) := (Same.b s18).upd
    have bB : SameB s G3 G6 := b4.trans (b5.trans b6)
    refine k _ F' Ps' L' ((b1.trans (b2.trans b3)).trans (bB.trans b7)) so1 so2 so3 ⟨dx, q1, q2, q3, .ref q4, .ref q5, .ref q6, .ref q7, ?_, b7 _ _ c1 (bB _ _ c1 f1'), b7 _ _ c2 (bB _ _ c2 f2'), b7 _ _ c3 (bB _ _ c3 f3)⟩
    rw [upd_same]
    kernel_rfl
end
end K88

set_option maxHeartbeats 8000000
/-! ## 14. Manners compared, written, read -/
namespace K88
open PySem PySem.Spec PyProof.Rows L2
open LamX (CodeO TabS Tabs ExtN TabB lamEnv)
/-- a comprehension over any items, no test -/
theorem lc_mapV {J : It} {xs : List V} {G : Hp → Prop} (w : Walk J xs.length G (YAt xs)) {g : TG} {te : TE} {vs : List Nat} {σ : L2.St} {H1 : Hp} {D : Addr} {Qd : Hp → Prop} (hD : H1 D = none) (f : V → V) (hG : ∀ H', Same H1 H' → G H') (hlen : xs.length ≤ 1000000)
    (turn : ∀ (i : Nat) (x : V) (H2 : Hp), xs[i]? = some x → Same H1 H2 → ∀ R : V → Hp → Prop, (∀ H3, Same H2 H3 → R (f x) H3) → g x (wipe σ vs) H2 fun σ2 H3 => wipe σ2 vs = wipe σ vs ∧ te σ2 H3 R)
    (fin : ∀ H', Same H1 H' → H' D = some (.lst (xs.map f)) → Qd H') :
    ∃ W : Nat → Nat → Hp → Prop, (∃ m, W 0 m (upd H1 D (.lst []))) ∧ ∀ i m H, W i m H →
      (J.stop i H ∧ Qd H) ∨ (J.go i H ∧ ∃ Nx : Hp → Prop, (∀ H', Nx H' → ∃ m', m' < m ∧ W (i + 1) m' H') ∧ ∀ x H', J.yld i H x H' → g x (wipe σ vs) H' fun σ2 H2 => wipe σ2 vs = wipe σ vs ∧ tYes σ2 H2 fun b H3 =>
        if b = true then te σ2 H3 fun y H4 => ∃ acc, H4 D = some (.lst acc) ∧ acc.length < sizeLine ∧ Nx (upd H4 D (.lst (acc ++ [y]))) else Nx H3) := by
  refine lc_read w hD (fun s => some (f s)) hG (by rw [sizeLine_eq]; omega) (fun i s H2 hs s2 R k => ?_) fun H' s e => fin H' s (by rw [e, filterMap_some])
  exact turn i s H2 hs s2 (fun y H5 => R (some y) H5) k
def dS (xs : List Str) : List PyData := xs.map PyData.str
theorem dp_strs {K : PySem.W.Frag} {H : Hp} : ∀ xs : List Str, DpAll K H (xs.map V.str) (dS xs)
  | [] => .nil
  | x :: xs => .cons (.str x) (dp_strs xs)
/-- its codes are codes -/
def okS (x : Str) : Prop := x.cps.all (· < 0x110000) = true
theorem okS_of {x : Str} (h : ∀ c ∈ x.cps.toList, c < 0x110000) : okS x := by
  unfold okS
  rw [← Array.all_toList, List.all_eq_true]
  exact fun c hc => decide_eq_true (h c hc)
theorem okS_let {x : Str} (h : isLet x = true) : okS x := by
  obtain ⟨c, rfl, hc⟩ := let_shape h
  refine okS_of fun d hd => ?_
  have e : d = c := by simpa using hd
  have := of_decide_eq_true hc
  omega
theorem okS_pr {x : Str} (h : isPr x = true) : okS x := by
  obtain ⟨c, d, rfl, hc, hd⟩ := pr_shape h
  refine okS_of fun z hz => ?_
  have e : z = c ∨ z = d := by simpa using hz
  have h1 := of_decide_eq_true hc
  have h2 := of_decide_eq_true hd
  omega
theorem lay_strs : ∀ xs : List Str, (∀ x ∈ xs, okS x) → PyData.canLayAll0 (dS xs) = true
  | [], _ => rfl
  | x :: xs, h => by
    show (x.cps.all (· < 0x110000) && PyData.canLayAll0 (dS xs)) = true
    rw [lay_strs xs fun y hy => h y (List.mem_cons_of_mem _ hy), show x.cps.all (· < 0x110000) = true from h x List.mem_cons_self]
    rfl
theorem depth_strs : ∀ xs : List Str, PyData.depthAll (dS xs) = 0
  | [] => rfl
  | x :: xs => by
    show max (PyData.depth (.str x)) (PyData.depthAll (dS xs)) = 0
    rw [depth_strs xs]
    rfl
theorem shaped_tup {xs : List Str} (h : ∀ x ∈ xs, okS x) : SeqAt.shaped (.tuple (dS xs)) = true := by
  unfold SeqAt.shaped
  rw [Bool.and_eq_true, decide_eq_true_eq]
  refine ⟨lay_strs xs h, ?_⟩
  show PyData.depthAll (dS xs) + 1 ≤ 64
  rw [depth_strs]
  decide
theorem shaped_lst {xs : List Str} (h : ∀ x ∈ xs, okS x) : SeqAt.shaped (.list (dS xs)) = true := by
  unfold SeqAt.shaped
  rw [Bool.and_eq_true, decide_eq_true_eq]
  refine ⟨lay_strs xs h, ?_⟩
  show PyData.depthAll (dS xs) + 1 ≤ 64
  rw [depth_strs]
  decide
theorem eqvAll_strs : ∀ xs ys : List Str, PyData.eqvAll (dS xs) (dS ys) = decide (xs = ys)
  | [], [] => rfl
  | [], _ :: _ => rfl
  | _ :: _, [] => rfl
  | x :: xs, y :: ys => by
    show (PyData.eqv (.str x) (.str y) && PyData.eqvAll (dS xs) (dS ys)) = _
    rw [eqvAll_strs xs ys]
    show ((x == y) && decide (xs = ys)) = _
    by_cases h1 : x = y
    · subst h1
      by_cases h2 : xs = ys
      · subst h2; simp
      · simp [h2]
    · simp [h1]
theorem eqv_tup (xs ys : List Str) : PyData.eqv (.tuple (dS xs)) (.tuple (dS ys)) = decide (xs = ys) := by
  rw [PyData.eqv]
  exact eqvAll_strs xs ys
theorem eqv_lst (xs ys : List Str) : PyData.eqv (.list (dS xs)) (.list (dS ys)) = decide (xs = ys) := by
  rw [PyData.eqv]
  exact eqvAll_strs xs ys
section
variable {P : Program} {w : World} {K : PySem.W.Frag} {mg : Str → Option Value} {base : Heap} {a : Ad}
/-- the same manner -/
def EqM (C : Addr) (x y : Addr) (H : Hp) : Prop := ∃ F Ps L, (∀ t ∈ F, isLet t = true) ∧ (∀ t ∈ Ps, isPr t = true) ∧ (∀ t ∈ L, isLet t = true) ∧ MannerAt C H x F Ps L ∧ MannerAt C H y F Ps L
theorem lkM {x1 x2 x3 x4 x5 x6 x7 : V} : (fM x1 x2 x3 x4 x5 x6 x7).lookup ("firsts" : Str) = some x1 ∧ (fM x1 x2 x3 x4 x5 x6 x7).lookup ("follows" : Str) = some x2 ∧ (fM x1 x2 x3 x4 x5 x6 x7).lookup ("lasts" : Str) = some x3 := ⟨by kernel_rfl, by kernel_rfl, by kernel_rfl⟩
theorem fn_eq (T : Txt K mg a) : FnOk P w K mg base CX0 1 a.f_Mannerx_eqx a.d_Mannerx_eqx ["self", "other"] (spEq (EqM a.c_Manner)) := by
  refine T.F_Mannerx_eqx.ok sc_Mannerx_eqx (fun vs H Q E h => ?_) (fun cdv A outer s H vs Q E hr h => ?_)
  · obtain ⟨x, y, rfl, _⟩ := h
    rfl
  · obtain ⟨x, y, rfl, ⟨F, Ps, L, oF, oP, oL, ⟨dx, q1, q2, q3, x4, x5, x6, x7, h0, h1, h2, h3⟩, ⟨dy, r1, r2, r3, y4, y5, y6, y7, g0, g1, g2, g3⟩⟩, k⟩ := h
    refine ⟨_, (pss_cons (ps_if (PW.pt (pw_or (pt_not (pt_val (pe_callB (C8.call_isC T.insM) (by rfl) T.n_isinstance (by decide +kernel) (pa_cons (pv 1) (pa_cons (C8.pe_gc (v := .ref a.c_Manner) (by rfl) ⟨_, T.g_Manner, rfl⟩) pa_nil))))) (pw_or1 (pt_cmpR (show OpR _ (compareOp .NotEq) (rNeD K) from op_neD hr.units) (pe_fldK (K := K) rfl (pv 0) rfl) (pe_fldK (K := K) rfl (pv 1) rfl) (nomark _)))))
            (pss_one (ps_ret pe_bl))
            pss_nil)
          (pss_one (ps_ret (pe_and (pe_cmpR (show OpR _ (compareOp .Eq) (rEqD K) from op_eqD hr.units) (pe_fldK (K := K) rfl (pv 0) rfl) (pe_fldK (K := K) rfl (pv 1) rfl) (nomark _)) (pe_one (pe_cmpR (show OpR _ (compareOp .Eq) (rEqD K) from op_eqD hr.units) (pe_fldK (K := K) rfl (pv 0) rfl) (pe_fldK (K := K) rfl (pv 1) rfl) (nomark _))))))), ?_⟩
    refine ⟨_, rfl, y, dy, _, rfl, g0, true, rfl, iteF ?_⟩
    refine ⟨_, rfl, x, _, dx, _, _, rfl, h0, T.cl_Manner, T.no_Manner_firsts, lkM.1, _, rfl, y, _, dy, _, _, rfl, g0, T.cl_Manner, T.no_Manner_firsts, lkM.1, _, _, .tup (SqT.of h1) (dp_strs F), .tup (SqT.of g1) (dp_strs F), shaped_tup (fun t h => okS_let (oF t h)), shaped_tup (fun t h => okS_let (oF t h)), _, rfl, ?_⟩
    rw [eqv_tup, decide_eq_true (rfl : F = F)]
    refine iteF ?_
    refine ⟨_, rfl, x, _, dx, _, _, rfl, h0, T.cl_Manner, T.no_Manner_follows, lkM.2.1, _, rfl, y, _, dy, _, _, rfl, g0, T.cl_Manner, T.no_Manner_follows, lkM.2.1, _, _, .tup (SqT.of h2) (dp_strs Ps), .tup (SqT.of g2) (dp_strs Ps), shaped_tup (fun t h => okS_pr (oP t h)), shaped_tup (fun t h => okS_pr (oP t h)), _, rfl, ?_⟩
    rw [eqv_tup, decide_eq_true (rfl : Ps = Ps)]
    refine iteT ?_
    refine ⟨_, rfl, x, _, dx, _, _, rfl, h0, T.cl_Manner, T.no_Manner_lasts, lkM.2.2, _, rfl, y, _, dy, _, _, rfl, g0, T.cl_Manner, T.no_Manner_lasts, lkM.2.2, _, _, .tup (SqT.of h3) (dp_strs L), .tup (SqT.of g3) (dp_strs L), shaped_tup (fun t h => okS_let (oL t h)), shaped_tup (fun t h => okS_let (oL t h)), ?_⟩
    rw [eqv_tup, decide_eq_true (rfl : L = L)]
    exact k H Ext.rfl'
/-- a word of letters, - for none -/
def wordOf (F : List Str) : Str := if F = [] then "-" else Txt.join "" F
def textOf (F Ps L : List Str) : Str := Txt.join " " ([wordOf F, wordOf L] ++ Ps)
def sumLen (ws : List Str) : Nat := (ws.map (·.length)).sum
def sp_manner_text (C : Addr) : Sp := fun vs H Q _ => ∃ (s : Addr) (F Ps L : List Str), vs = [.ref s] ∧ MannerAt C H s F Ps L ∧ (∀ t ∈ F, isLet t = true) ∧ (∀ t ∈ L, isLet t = true) ∧ sumLen F ≤ 1000000 ∧ sumLen L ≤ 1000000 ∧ sumLen ([wordOf F, wordOf L] ++ Ps) + (Ps.length + 2) ≤ 1000000 ∧ ∀ H', Same H H' → Q (.str (textOf F Ps L)) H'
theorem fn_manner_text (T : Txt K mg a) : FnOk P w K mg base CX0 1 a.f_manner_text a.d_manner_text ["manner"] (sp_manner_text a.c_Manner) := by
  refine T.F_manner_text.ok sc_manner_text (fun vs H Q E h => ?_) (fun cdv A outer s H vs Q E hr h => ?_)
  · obtain ⟨s, F, Ps, L, rfl, _⟩ := h
    rfl
  · obtain ⟨s, F, Ps, L, rfl, ⟨dx, q1, q2, q3, x4, x5, x6, x7, h0, h1, h2, h3⟩, oF, oL, zF, zL, zT, k⟩ := h
    refine ⟨_, (pss_cons (ps_setLc (i := 1) (own := [("letters", 2)]) rfl sc_manner_text.nd rfl rfl (sw_true rfl rfl rfl (by decide +kernel)) (pi_tup (pe_tup (pa_cons (pe_fldK (K := K) rfl (pv 0) rfl) (pa_cons (pe_fldK (K := K) rfl (pv 0) rfl) pa_nil)))) (blkOk_by (own := [("letters", 2)]) (N := N_manner_text) (sc := defScope s_manner_text) (by decide +kernel)) (fun _ _ _ _ _ => (pg_name (i := 2) sc_manner_text.nd rfl (by first | exact Or.inl rfl | exact Or.inr rfl))) (fun _ _ _ _ _ => pts_nil) (fun _ _ _ _ _ => (pe_ifExp (pt_cmpR (show OpR _ (compareOp .NotEq) (rNeD K) from op_neD hr.units) (pv 2) (pe_tup pa_nil) (nomark _)) (pe_joinK (K := K) rfl pe_str (pv 2)) pe_str)))
          (pss_one (ps_ret (pe_joinK (K := K) rfl pe_str (pe_lst (StX.pa_star (pv 1) (StX.pa_star (pe_fldK (K := K) rfl (pv 0) rfl) pa_nil))))))), ?_⟩
    refine ⟨_, rfl, s, _, dx, _, _, rfl, h0, T.cl_Manner, T.no_Manner_firsts, lkM.1, _, rfl, s, _, dx, _, _, rfl, h0, T.cl_Manner, T.no_Manner_lasts, lkM.2.2, by show 2 ≤ sizeLine; rw [sizeLine_eq]; decide, fun t nt => ?_⟩
    have s1 : Same H (upd H t (.tup [.ref q1, .ref q3])) := same_upd nt
    refine ⟨t, rfl, ⟨_, SqT.of upd_same⟩, fun D nD => lc_mapV walk_tup nD (fun x => if x = .ref q1 then .str (wordOf F) else .str (wordOf L)) (fun _ z => SqT.of (z _ _ upd_same)) (by show 2 ≤ 1000000; decide) (fun i x H2 hx s2 R kR => ?_) (fun H2 s2 eD => ?_)⟩
    · have hh1 := s2 _ _ (s1 _ _ h1)
      have hh3 := s2 _ _ (s1 _ _ h3)
      by_cases e : x = .ref q1
      · rw [if_pos e] at kR
        subst e
        refine ⟨rfl, _, rfl, Nat.zero_le _, fun p np => ?_⟩
        have s3 : Same H2 (upd H2 p (.tup [])) := same_upd np
        refine ⟨.tuple (dS F), .tuple (dS []), .tup (SqT.of (s3 _ _ hh1)) (dp_strs F), .tup (SqT.of upd_same) (dp_strs []), shaped_tup (fun t h => okS_let (oF t h)), shaped_tup (fun t h => by cases h), _, rfl, ?_⟩
        rw [eqv_tup]
        have q := kR _ s3
        unfold wordOf at q
        by_cases hx : F = []
        · rw [if_pos hx] at q
          refine if_false_of (by rw [decide_eq_true hx]; rfl) ?_
          exact q
        · rw [if_neg hx] at q
          refine if_true_of (by rw [decide_eq_false hx]; rfl) ?_
          refine ⟨⟨_, rfl⟩, _, rfl, "", q1, F, rfl, rfl, .inr (SqT.of (s3 _ _ hh1)), ?_, q⟩
          have z : (("" : Str)).length = 0 := rfl
          rw [z, Nat.mul_zero]
          unfold sumLen at zF
          omega
      · rw [if_neg e] at kR
        have e3 : x = .ref q3 := by
          match i, hx with
          | 0, hx => cases hx; exact absurd rfl e
          | 1, hx => cases hx; rfl
        subst e3
        refine ⟨rfl, _, rfl, Nat.zero_le _, fun p np => ?_⟩
        have s3 : Same H2 (upd H2 p (.tup [])) := same_upd np
        refine ⟨.tuple (dS L), .tuple (dS []), .tup (SqT.of (s3 _ _ hh3)) (dp_strs L), .tup (SqT.of upd_same) (dp_strs []), shaped_tup (fun t h => okS_let (oL t h)), shaped_tup (fun t h => by cases h), _, rfl, ?_⟩
        rw [eqv_tup]
        have q := kR _ s3
        unfold wordOf at q
        by_cases hx : L = []
        · rw [if_pos hx] at q
          refine if_false_of (by rw [decide_eq_true hx]; rfl) ?_
          exact q
        · rw [if_neg hx] at q
          refine if_true_of (by rw [decide_eq_false hx]; rfl) ?_
          refine ⟨⟨_, rfl⟩, _, rfl, "", q3, L, rfl, rfl, .inr (SqT.of (s3 _ _ hh3)), ?_, q⟩
          have z : (("" : Str)).length = 0 := rfl
          rw [z, Nat.mul_zero]
          unfold sumLen at zL
          omega
    have eD' : H2 D = some (.lst [.str (wordOf F), .str (wordOf L)]) := by
      rw [eD]
      by_cases e : (V.ref q3) = .ref q1
      · cases e
        rw [h1] at h3
        have e4 : F = L := by
          have z := HO.tup.inj (Option.some.inj h3)
          exact (List.map_inj_right fun x y z => V.str.inj z).mp z
        rw [e4]
        simp
      · simp [e]
    have sA : Same H H2 := s1.trans s2
    refine ⟨⟨_, rfl⟩, _, rfl, D, _, rfl, .inr (SqL.of eD'), _, rfl, s, _, dx, _, _, rfl, sA _ _ h0, T.cl_Manner, T.no_Manner_follows, lkM.2.1, q2, _, rfl, .inl (SqT.of (sA _ _ h2)), ?_, fun l nl => ?_⟩
    · show (([V.str (wordOf F), .str (wordOf L)] ++ (Ps.map V.str ++ [])).length ≤ sizeLine)
      simp only [List.length_append, List.length_map, List.length_cons, List.length_nil]
      rw [sizeLine_eq]
      omega
    · have eL : ([V.str (wordOf F), .str (wordOf L)] ++ (Ps.map V.str ++ [])) = ([wordOf F, wordOf L] ++ Ps).map V.str := by simp
      rw [eL]
      refine ⟨" ", l, [wordOf F, wordOf L] ++ Ps, rfl, rfl, .inl (SqL.of upd_same), ?_, k _ (sA.trans (same_upd nl))⟩
      have z : ((" " : Str)).length = 1 := rfl
      have z2 : ([wordOf F, wordOf L] ++ Ps).length = Ps.length + 2 := by simp
      rw [z, z2]
      unfold sumLen at zT
      omega
end
end K88

set_option maxHeartbeats 8000000
/-! ## 15. read_manner -/
namespace K88
open PySem PySem.Spec PyProof.Rows L2
open LamX (CodeO TabS Tabs ExtN TabB lamEnv)
theorem row_facts {w : Str} {r : List Str} (h : rowOf w = some r) : (∀ t ∈ r, isLet t = true) ∧ r.Nodup := by
  unfold rowOf at h
  by_cases h1 : w = "-"
  · rw [if_pos h1] at h
    cases h
    exact ⟨fun t ht => (by cases ht), List.nodup_nil⟩
  · rw [if_neg h1] at h
    by_cases h2 : w = "" ∨ (signs w).all isLet = false
    · rw [if_pos h2] at h
      cases h
    · rw [if_neg h2] at h
      by_cases h3 : (signs w).Nodup
      · rw [if_pos h3] at h
        cases h
        refine ⟨fun t ht => ?_, h3⟩
        have z : (signs w).all isLet = true := by
          cases e : (signs w).all isLet with
          | true => rfl
          | false => exact absurd (.inr e) h2
        exact List.all_eq_true.mp z t ht
      · rw [if_neg h3] at h
        cases h
/-- InvalidText(0, i) is raised, the tables may have grown -/
def RaisedN (a : Ad) (H : Hp) (i : Int) (E : XK) : Prop := ∀ d H', ExtN H H' → Tabs (TT a) H' → ErrAt H' d 0 i → E (.ref a.c_InvalidText) (some d) H'
/-- how the words fail: all of the line, or which -/
def sp_read_manner (a : Ad) (K : PySem.W.Frag) : Sp := fun vs H Q E => ∃ v : V, vs = [v] ∧ Tabs (TT a) H ∧ ((∃ t : Str, v = .str t ∧ t ≠ "" ∧ t.length ≤ 1000000 ∧ (∀ x ∈ Txt.split t " ", x.length ≤ 1000000) ∧ (Txt.split t " ").length ≤ 60 ∧
    (∀ i : Nat, faultOf (Txt.split t " ") = some i → RaisedN a H i E) ∧
    (∀ w0 w1 r r0 r1, Txt.split t " " = w0 :: w1 :: r → rowOf w0 = some r0 → rowOf w1 = some r1 → badAt [] r = none → ∀ s F' Ps' L' H', ExtN H H' → Tabs (TT a) H' → SortOf F' r0 → SortOf Ps' r → SortOf L' r1 → MannerAt a.c_Manner H' s F' Ps' L' → Q (.ref s) H')) ∨
  ((v = .str "" ∨ NoText K H v) ∧ RaisedN a H 0 E))
theorem put_free {H G : Hp} {s dx : Addr} {o1 o2 : HO} (sG : Same H G) (ns : G s = none) (nd : G dx = none) : Same H (upd (upd G dx o1) s o2) := fun b u e => by
  have e1 := sG _ _ e
  rw [upd_ne (ne_of_none e1 ns), upd_ne (ne_of_none e1 nd)]
  exact e1
section
variable {P : Program} {w : World} {K : PySem.W.Frag} {mg : Str → Option Value} {base : Heap} {a : Ad}
theorem tabs_off {a : Ad} {H H' : Hp} {s : Addr} {C : Addr} {dx : Addr} {fs : List (Str × V)} (t : Tabs (TT a) H) (e : SameB s H H') (hs : H s = some (.ins C dx fs)) : Tabs (TT a) H' :=
  Tabs.sameB t e (fun ps z => by rw [hs] at z; cases z) (fun c q z => by rw [hs] at z; cases z)
theorem fn_read_manner (T : Txt K mg a) (B : Tb base mg a) : FnOk P w K mg base (L2.CX P w) 9 a.f_read_manner a.d_read_manner ["text"] (sp_read_manner a K) := by
  refine T.F_read_manner.okX sc_read_manner (fun vs H Q E h => ?_) (fun cdv A outer s H vs Q E hr h => ?_)
  · obtain ⟨v, rfl, _⟩ := h
    rfl
  · obtain ⟨v, rfl, hT, h⟩ := h
    refine ⟨_, (pss_cons (ps_asg (pe_cx (ok_manner_in T B) hr (by decide) (passes_call (takes_of rfl rfl rfl rfl) (fun _ _ _ _ h => h)) (by rfl) (pa_cons (pe_cx (ok_line_of T) hr (by decide) (passes_call (takes_of rfl rfl rfl rfl) (fun _ _ _ _ h => h)) (by rfl) (pa_cons (pv 0) pa_nil)) pa_nil)) (pg_tup rfl (pgs_cons (pg_name (i := 1) sc_read_manner.nd rfl (by first | exact Or.inl rfl | exact Or.inr rfl)) (pgs_cons (pg_name (i := 2) sc_read_manner.nd rfl (by first | exact Or.inl rfl | exact Or.inr rfl)) (pgs_cons (pg_name (i := 3) sc_read_manner.nd rfl (by first | exact Or.inl rfl | exact Or.inr rfl)) pgs_nil)))))
          (pss_one (ps_ret (pe_mx (ok_Manner T) hr (by decide) pass0 (by rfl) (pa_cons (pv 1) (pa_cons (pv 2) (pa_cons (pv 3) pa_nil))))))), ?_⟩
    rcases h with ⟨t, rfl, ht, hl, hpl, hn, k1, k2⟩ | ⟨hv, r⟩
    · refine ⟨_, rfl, _, rfl, .inl ⟨t, rfl, ht, hl, fun H1 l s1 nl hL => ?_⟩⟩
      have T1 : Tabs (TT a) H1 := Tabs.same hT s1
      have offN : ∀ {H' : Hp}, ExtB l H1 H' → ExtN H H' := fun {H'} x b o e n => x b o (s1 _ _ e) (ne_of_none e nl) n
      refine ⟨l, _, 0, rfl, hL, T1, hpl, by omega, fun i hi dd H' x T' er => k1 i hi dd H' (offN x) T' er, fun w0 w1 r r0 r1 ew e0 e1 eb q q0 ql q1 H2 x2 T2 hq h0 h1 hl2 => ?_⟩
      have f0 := row_facts e0
      have f1 := row_facts e1
      have fb := nodup_of_bad eb
      have hrl : r.length < 64 := by
        rw [ew] at hn
        simp only [List.length_cons] at hn
        omega
      refine ⟨q, _, rfl, SqT.of hq, rfl, _, _, rfl, _, _, rfl, _, _, rfl, rfl, ?_⟩
      refine ⟨_, rfl, _, rfl, _, rfl, fun s dx ns nd ne => ?_⟩
      have s3 : Same H2 (upd (upd H2 dx (.own s)) s (.ins a.c_Manner dx [])) := put_free (Same.refl _) ns nd
      refine ⟨s, dx, q0, ql, q1, r0, r, r1, rfl, upd_same, .inr (SqT.of (s3 _ _ h0)), .inl (SqL.of (s3 _ _ hl2)), .inr (SqT.of (s3 _ _ h1)), f0.1, fun t ht => (fb.2 t ht).1, f1.1, by have := letters_few f0.2 f0.1; omega, hrl, by have := letters_few f1.2 f1.1; omega, fun H4 F' Ps' L' sb so0 so1 so2 hM => ⟨rfl, ?_⟩⟩
      have xx : ExtN H H4 := fun b o e n => sb b o (fun z => by
        have e2 := offN x2 b o e n
        rw [z, ns] at e2
        cases e2) (s3 _ _ (offN x2 b o e n))
      refine k2 w0 w1 r r0 r1 ew e0 e1 eb s F' Ps' L' H4 xx (tabs_off (Tabs.same T2 s3) sb upd_same) so0 so1 so2 hM
    · refine ⟨_, rfl, _, rfl, .inr ⟨hv, fun d H' s' er => r d H' (fun b o e _ => s' b o e) (Tabs.same hT s') er⟩⟩
end
end K88

set_option maxHeartbeats 8000000
/-! ## 16. The law's pen -/
namespace K88
open PySem PySem.Spec PyProof.Rows L2
open LamX (CodeO TabS Tabs ExtN TabB lamEnv)
/-- at p: a pen at a place at most n, its cells at l -/
def PenAt (H : Hp) (p l : Addr) (n : Nat) : Prop := ∃ (ns : List Int) (i : Nat) (g : Int), H p = some (.lst [.ref l, .int i, .int g]) ∧ H l = some (.lst (ns.map V.int)) ∧ ns.length ≤ 63 ∧ i ≤ n
theorem PenAt.same {H H' : Hp} {p l : Addr} {n : Nat} (h : PenAt H p l n) (e : Same H H') : PenAt H' p l n := by
  obtain ⟨ns, i, g, h1, h2, h3, h4⟩ := h
  exact ⟨ns, i, g, e _ _ h1, e _ _ h2, h3, h4⟩
theorem PenAt.le {H : Hp} {p l : Addr} {n m : Nat} (h : PenAt H p l n) (e : n ≤ m) : PenAt H p l m := by
  obtain ⟨ns, i, g, h1, h2, h3, h4⟩ := h
  exact ⟨ns, i, g, h1, h2, h3, Nat.le_trans h4 e⟩
theorem PenAt.ext {H H' : Hp} {p l : Addr} {n : Nat} (h : PenAt H p l n) (e : ExtN H H') : PenAt H' p l n := by
  obtain ⟨ns, i, g, h1, h2, h3, h4⟩ := h
  exact ⟨ns, i, g, e _ _ h1 (fun ps z => by cases z), e _ _ h2 (fun ps z => by cases z), h3, h4⟩
/-- other objects may change -/
theorem PenAt.mut {H : Hp} {p l q : Addr} {n : Nat} {o : HO} (h : PenAt H p l n) (n1 : q ≠ p) (n2 : q ≠ l) : PenAt (upd H q o) p l n := by
  obtain ⟨ns, i, g, h1, h2, h3, h4⟩ := h
  exact ⟨ns, i, g, by rw [upd_ne n1.symm]; exact h1, by rw [upd_ne n2.symm]; exact h2, h3, h4⟩
theorem PenAt.some1 {H : Hp} {p l : Addr} {n : Nat} (h : PenAt H p l n) : H p ≠ none := by
  obtain ⟨ns, i, g, h1, h2, h3, h4⟩ := h
  rw [h1]; exact fun z => by cases z
theorem PenAt.some2 {H : Hp} {p l : Addr} {n : Nat} (h : PenAt H p l n) : H l ≠ none := by
  obtain ⟨ns, i, g, h1, h2, h3, h4⟩ := h
  rw [h2]; exact fun z => by cases z
def dI (ns : List Int) : List PyData := ns.map PyData.int
theorem dp_ints {K : PySem.W.Frag} {H : Hp} : ∀ ns : List Int, DpAll K H (ns.map V.int) (dI ns)
  | [] => .nil
  | x :: ns => .cons (.int x) (dp_ints ns)
theorem lay_ints : ∀ ns : List Int, PyData.canLayAll0 (dI ns) = true
  | [] => rfl
  | x :: ns => by
    show (_ && PyData.canLayAll0 (dI ns)) = true
    rw [lay_ints ns]
    rfl
theorem depth_ints : ∀ ns : List Int, PyData.depthAll (dI ns) = 0
  | [] => rfl
  | x :: ns => by
    show max (PyData.depth (.int x)) (PyData.depthAll (dI ns)) = 0
    rw [depth_ints ns]
    rfl
theorem shaped_ints (ns : List Int) : SeqAt.shaped (.list (dI ns)) = true := by
  unfold SeqAt.shaped
  rw [Bool.and_eq_true, decide_eq_true_eq]
  refine ⟨lay_ints ns, ?_⟩
  show PyData.depthAll (dI ns) + 1 ≤ 64
  rw [depth_ints]
  decide
theorem eqv_nil (ns : List Int) : PyData.eqv (.list (dI ns)) (.list []) = decide (ns = []) := by
  cases ns <;> rfl
/-- all but what stands at p -/
def sp_draw : Sp := fun vs H Q _ => ∃ (p l : Addr) (m : Int) (n : Nat), vs = [.ref p, .int m] ∧ 1 ≤ m ∧ m ≤ 1000 ∧ n ≤ 100000 ∧ PenAt H p l n ∧ ∀ H' (d : Nat), SameB p H H' → PenAt H' p l (n + 1) → (d : Int) < m → Q (.int d) H'
theorem fmod_nat (i m : Int) (h : 1 ≤ m) : ∃ d : Nat, i.fmod m = d ∧ (d : Int) < m := by
  rw [Int.fmod_eq_emod_of_nonneg i (by omega)]
  have h1 := Int.emod_nonneg i (show m ≠ 0 by omega)
  have h2 := Int.emod_lt_of_pos i (show 0 < m by omega)
  exact ⟨(i % m).toNat, by omega, by omega⟩
theorem modQ {g m : Int} {Q : VK} {H : Hp} (h1 : 1 ≤ m) (h : ∀ d : Nat, (d : Int) < m → Q (.int d) H) : Q (.int (g.fmod m)) H := by
  obtain ⟨d, ed, hd⟩ := fmod_nat g m h1
  rw [ed]
  exact h d hd
theorem setMod {g m : Int} {R : V → Prop} (h1 : 1 ≤ m) (h : ∀ d : Nat, (d : Int) < m → R (.int d)) : R (.int (g.fmod m)) := by
  obtain ⟨d, ed, hd⟩ := fmod_nat g m h1
  rw [ed]
  exact h d hd
theorem pen_up {H : Hp} {p l : Addr} {ns : List Int} {i n : Nat} {g v : Int} (hlp : l ≠ p) (hl : H l = some (.lst (ns.map V.int))) (h63 : ns.length ≤ 63) (h : i ≤ n) : PenAt (upd H p (.lst ([.ref l, .int i, .int g].set 2 (.int v)))) p l n := by
  refine ⟨ns, i, v, ?_, ?_, h63, h⟩
  · rw [upd_same]; rfl
  · rw [upd_ne hlp]; exact hl
theorem cdivw {m : Int} (i : Int) (h : 1 ≤ m) (h2 : m ≤ 1000) : CDivW i m := by
  refine ⟨by omega, ?_⟩
  refine Nat.lt_of_le_of_lt (Nat.log2_le_self _) (by omega)
theorem ifx2 {b : Bool} {p : Prop} [Decidable p] {tA tB : TE} {σ : L2.St} {H : Hp} {Q : VK} (e : b = decide p) (h : ∀ c : Int, Q (.int c) H) (ha : (∀ c : Int, Q (.int c) H) → p → tA σ H Q) (hb : (∀ c : Int, Q (.int c) H) → ¬ p → tB σ H Q) : if b = true then tA σ H Q else tB σ H Q := by
  subst e
  by_cases hp : p
  · rw [if_pos (decide_eq_true hp)]; exact ha h hp
  · rw [if_neg (fun z => hp (of_decide_eq_true z))]; exact hb h hp
theorem andx {b : Bool} {A B : Prop} (hB : B) (hA : B → A) : if b = true then A else B := by
  split
  · exact hA hB
  · exact hB
section
variable {P : Program} {w : World} {K : PySem.W.Frag} {mg : Str → Option Value} {base : Heap} {a : Ad}
theorem ok__law_draw (T : Txt K mg a) : CalX P w K mg base CX0 1 "_law_draw" sp_draw [] := by
  refine ⟨_, _, _, _, T.g__law_draw, T.F__law_draw.kp, T.F__law_draw.ok sc__law_draw (fun vs H Q E h => ?_) (fun cdv A outer s H vs Q E hr h => ?_), T.b__law_draw, .nil⟩
  · obtain ⟨p, l, m, n, rfl, _⟩ := h
    rfl
  · obtain ⟨p, l, m, n, rfl, hm1, hm2, hn, ⟨ns, i, g, hp, hl, h63, hi⟩, k⟩ := h
    refine ⟨_, (pss_cons (ps_if (pt_cmpR op_gt (pe_ix (show IxR _ (rIxL K) from ix_list) (pv 0) pe_int (fun _ _ => rfl)) pe_int (nomark _))
            (pss_cons (ps_set (i := 5) sc__law_draw.nd rfl (by first | exact Or.inl rfl | exact Or.inr rfl) (pe_op op_modN (pe_callTy call_int1 (by rfl) T.n_int (by decide +kernel) (pa_cons (pe_ix (show IxR _ (rIxL K) from ix_list) (pv 0) pe_int (fun _ _ => rfl)) pa_nil)) (pv 1)))
            (pss_cons (ps_asg (pe_op op_fdivW (pe_callTy call_int1 (by rfl) T.n_int (by decide +kernel) (pa_cons (pe_ix (show IxR _ (rIxL K) from ix_list) (pv 0) pe_int (fun _ _ => rfl)) pa_nil)) (pv 1)) (pg_sub (pv 0) pe_int set_list))
            (pss_one (ps_ret (pv 5)))))
            pss_nil)
          (pss_cons (ps_set (i := 2) sc__law_draw.nd rfl (by first | exact Or.inl rfl | exact Or.inr rfl) (pe_ix (show IxR _ (rIxL K) from ix_list) (pv 0) pe_int (fun _ _ => rfl)))
          (pss_cons (ps_asg (pe_op op_add (pv 2) pe_int) (pg_sub (pv 0) pe_int set_list))
          (pss_cons (ps_set (i := 3) sc__law_draw.nd rfl (by first | exact Or.inl rfl | exact Or.inr rfl) (pe_ifExp (pt_cmpR (show OpR _ (compareOp .Eq) (rEqD K) from op_eqD hr.units) (pe_ix (show IxR _ (rIxL K) from ix_list) (pv 0) pe_int (fun _ _ => rfl)) (pe_lst pa_nil) (nomark _)) (pe_op op_add (pe_op op_mul pe_int (pv 2)) pe_int) (pe_ix (show IxR _ (rIxL K) from ix_list) (pe_ix (show IxR _ (rIxL K) from ix_list) (pv 0) pe_int (fun _ _ => rfl)) (pe_op op_modN (pe_callTy call_int1 (by rfl) T.n_int (by decide +kernel) (pa_cons (pv 2) pa_nil)) (pe_callB call_len_seq (by rfl) T.n_len (by decide +kernel) (pa_cons (pe_ix (show IxR _ (rIxL K) from ix_list) (pv 0) pe_int (fun _ _ => rfl)) pa_nil))) (fun _ _ => rfl))))
          (pss_cons (ps_if (PW.pt (pw_and (pt_cmpR op_lt (pv 2) (pe_callB call_len_seq (by rfl) T.n_len (by decide +kernel) (pa_cons (pe_ix (show IxR _ (rIxL K) from ix_list) (pv 0) pe_int (fun _ _ => rfl)) pa_nil)) (nomark _)) (pw_and1 (pt_cmpR op_ge (pe_callB call_abs (by rfl) T.n_abs (by decide +kernel) (pa_cons (pv 3) pa_nil)) (pe_op op_pow pe_int pe_int) (nomark _)))))
            (pss_cons (ps_set (i := 6) sc__law_draw.nd rfl (by first | exact Or.inl rfl | exact Or.inr rfl) (pe_op op_add (pe_op op_mul pe_int (pe_op op_sub (pe_callB call_abs (by rfl) T.n_abs (by decide +kernel) (pa_cons (pv 3) pa_nil)) (pe_op op_pow pe_int pe_int))) (pe_callTy call_int1 (by rfl) T.n_int (by decide +kernel) (pa_cons (pe_cmpR op_lt (pv 3) pe_int (nomark _)) pa_nil))))
            (pss_cons (ps_asg (pe_op op_fdivW (pe_callTy call_int1 (by rfl) T.n_int (by decide +kernel) (pa_cons (pv 6) pa_nil)) (pv 1)) (pg_sub (pv 0) pe_int set_list))
            (pss_one (ps_ret (pe_op op_modN (pe_callTy call_int1 (by rfl) T.n_int (by decide +kernel) (pa_cons (pv 6) pa_nil)) (pv 1))))))
            pss_nil)
          (pss_cons (ps_set (i := 4) sc__law_draw.nd rfl (by first | exact Or.inl rfl | exact Or.inr rfl) (pe_op op_modN (pe_callTy call_int1 (by rfl) T.n_int (by decide +kernel) (pa_cons (pe_op op_pow (pe_op op_add (pe_op op_add (pe_op op_modN (pe_callTy call_int1 (by rfl) T.n_int (by decide +kernel) (pa_cons (pv 3) pa_nil)) pe_int) (pe_op op_mul pe_int (pv 2))) pe_int) pe_int) pa_nil)) pe_int))
          (pss_cons (ps_set (i := 4) sc__law_draw.nd rfl (by first | exact Or.inl rfl | exact Or.inr rfl) (pe_op op_modN (pe_callTy call_int1 (by rfl) T.n_int (by decide +kernel) (pa_cons (pe_op op_pow (pe_op op_add (pe_op op_add (pe_op op_mul (pv 4) (pe_op op_add (pe_op op_mul pe_int (pv 2)) pe_int)) (pe_op op_mul (pe_op op_mul pe_int (pv 2)) (pv 2))) pe_int) pe_int) pa_nil)) pe_int))
          (pss_one (ps_ret (pe_op op_modN (pe_callTy call_int1 (by rfl) T.n_int (by decide +kernel) (pa_cons (pe_op op_fdivW (pv 4) pe_int) pa_nil)) (pv 1))))))))))), ?_⟩
    have hlp : l ≠ p := ne_of hl hp (fun z => by
      have z := HO.lst.inj z
      cases ns with
      | nil => cases z
      | cons x ns => cases z)
    have a0 : ∀ x y z : V, atI [x, y, z] 0 = some x := fun _ _ _ => rfl
    have a1 : ∀ x y z : V, atI [x, y, z] 1 = some y := fun _ _ _ => rfl
    have a2 : ∀ x y z : V, atI [x, y, z] 2 = some z := fun _ _ _ => rfl
    refine ⟨_, rfl, p, _, _, _, rfl, rfl, SqL.of hp, a2 _ _ _, _, _, rfl, rfl, _, rfl, ?_⟩
    by_cases hg : g > 0
    · refine if_true_of (decide_eq_true hg) ?_
      refine ⟨_, rfl, p, _, _, _, rfl, rfl, SqL.of hp, a2 _ _ _, .inl ⟨g, rfl, _, rfl, g, m, rfl, rfl, by omega, ?_⟩⟩
      refine ⟨_, rfl, p, _, _, _, rfl, rfl, SqL.of hp, a2 _ _ _, .inl ⟨g, rfl, _, rfl, g, m, rfl, rfl, cdivw g hm1 hm2, _, rfl, p, _, _, 2, rfl, rfl, hp, rfl, _, rfl, ?_⟩⟩
      obtain ⟨d, ed, hd⟩ := fmod_nat g m hm1
      show Q (.int (g.fmod m)) _
      rw [ed]
      refine k _ d (Same.b (Same.refl _)).upd ⟨ns, i, g / m, ?_, ?_, h63, by omega⟩ hd
      · rw [upd_same]; rfl
      · rw [upd_ne hlp]; exact hl
    · refine if_false_of (decide_eq_false hg) ?_
      -- the place
      refine ⟨_, rfl, p, _, _, _, rfl, rfl, SqL.of hp, a1 _ _ _, ?_⟩
      refine ⟨_, rfl, _, _, rfl, rfl, _, rfl, p, _, _, 1, rfl, rfl, hp, rfl, ?_⟩
      obtain ⟨H1, eH⟩ : ∃ G, G = upd H p (.lst ([V.ref l, .int i, .int g].set 1 (.int (i + 1)))) := ⟨_, rfl⟩
      rw [← eH]
      have hp1 : H1 p = some (.lst [.ref l, .int ((i + 1 : Nat) : Int), .int g]) := by rw [eH, upd_same]; rfl
      have hl1 : H1 l = some (.lst (ns.map V.int)) := by rw [eH, upd_ne hlp]; exact hl
      have sB : SameB p H H1 := by rw [eH]; exact (Same.b (Same.refl _)).upd
      clear eH
      -- the cell
      refine ⟨_, rfl, p, _, _, _, rfl, rfl, SqL.of hp1, a0 _ _ _, by show 0 ≤ sizeLine; exact Nat.zero_le _, fun q nq => ⟨_, _, .lst (SqL.of ((same_upd nq) _ _ hl1)) (dp_ints ns), .lst (SqL.of upd_same) .nil, shaped_ints ns, shaped_ints [], _, rfl, ?_⟩⟩
      have sq : Same H1 (upd H1 q (.lst [])) := same_upd nq
      have hp2 := sq _ _ hp1
      have hl2 := sq _ _ hl1
      have iN : i ≤ 100000 := Nat.le_trans hi hn
      have sB2 : SameB p H (upd H1 q (.lst [])) := sB.trans (Same.b sq)
      refine ifx2 (eqv_nil ns) (fun c => ?_) (fun h _ => ?_) (fun h hne => ?_)
      · -- behind the cell
        refine ⟨_, rfl, _, rfl, p, _, _, _, rfl, rfl, SqL.of hp2, a0 _ _ _, l, _, rfl, .inl (SqL.of hl2), _, _, rfl, rfl, _, rfl, ?_⟩
        refine andx ?_ (fun hB => ?_)
        · -- mixed
          obtain ⟨x, ex, hx⟩ := fmod_nat c 2147483629 (by decide)
          refine ⟨_, rfl, .inl ⟨_, rfl, _, _, rfl, rfl, by show (2147483629 : Int) ≠ 0; decide, ?_⟩⟩
          refine ⟨_, rfl, _, _, rfl, rfl, .inl (by decide), _, _, rfl, rfl, _, _, rfl, rfl, _, _, rfl, rfl, ⟨by decide, by decide, ?_⟩, .inl ⟨_, rfl, _, _, rfl, rfl, by show (2147483587 : Int) ≠ 0; decide, ?_⟩⟩
          · show (c.fmod 2147483629 + 61353 * (i : Int) + 2267).natAbs < 2 ^ 64
            rw [ex]
            omega
          refine setMod (R := fun v => gName 4 v _ _ _) (by decide) fun y hy => ?_
          have hi2 : (i : Int) * i ≤ 100000 * 100000 := Int.mul_le_mul (by omega) (by omega) (by omega) (by omega)
          have hyi : (y : Int) * (2 * (i : Int) + 275) ≤ 2147483587 * 200275 := Int.mul_le_mul (by omega) (by omega) (by omega) (by omega)
          have hyi0 : 0 ≤ (y : Int) * (2 * (i : Int) + 275) := Int.mul_nonneg (by omega) (by omega)
          have hii0 : 0 ≤ (i : Int) * i := Int.mul_nonneg (by omega) (by omega)
          refine ⟨_, rfl, _, rfl, _, _, rfl, rfl, .inl (by decide), _, _, rfl, rfl, _, _, rfl, rfl, .inl ⟨by omega, by omega⟩, _, rfl, _, _, rfl, rfl, .inl (by decide), _, rfl, _, _, rfl, rfl, .inr ⟨by omega, by omega⟩, _, _, rfl, rfl, _, _, rfl, rfl, _, _, rfl, rfl, ⟨by decide, by decide, ?_⟩, .inl ⟨_, rfl, _, _, rfl, rfl, by show (2147483579 : Int) ≠ 0; decide, ?_⟩⟩
          · show ((y : Int) * (2 * (i : Int) + 275) + 2267 * (i : Int) * i + 61353).natAbs < 2 ^ 64
            rw [Int.mul_assoc 2267]
            omega
          refine setMod (R := fun v => gName 4 v _ _ _) (by decide) fun z hz => ?_
          refine ⟨_, rfl, _, _, rfl, rfl, ⟨by decide, by decide +kernel⟩, .inl ⟨_, rfl, _, rfl, _, _, rfl, rfl, by omega, ?_⟩⟩
          refine modQ hm1 (Q := Q) fun d hd => ?_
          exact k _ d sB2 ⟨ns, i + 1, g, hp2, hl2, h63, by omega⟩ hd
        · refine ⟨_, rfl, c, rfl, _, _, rfl, rfl, by unfold CPow; decide, _, _, rfl, rfl, _, rfl, ?_⟩
          refine andx hB (fun _ => ?_)
          refine ⟨_, rfl, c, rfl, _, _, rfl, rfl, by unfold CPow; decide, _, _, rfl, rfl, _, _, rfl, rfl, .inl (by decide), _, rfl, _, _, rfl, rfl, .inr ⟨_, rfl, _, _, rfl, rfl, ?_⟩⟩
          refine ⟨_, rfl, .inl ⟨_, rfl, _, rfl, _, _, rfl, rfl, cdivw _ hm1 hm2, _, rfl, p, _, _, 2, rfl, rfl, hp2, rfl, _, rfl, .inl ⟨_, rfl, _, rfl, _, _, rfl, rfl, by omega, ?_⟩⟩⟩
          refine modQ hm1 (Q := Q) fun d hd => ?_
          exact k _ d sB2.upd (pen_up hlp hl2 h63 (by omega)) hd
      · exact ⟨_, rfl, _, _, rfl, rfl, .inl (by decide), _, _, rfl, rfl, h _⟩
      · have hpos : 0 < (ns.map V.int).length := by
          rw [List.length_map]
          exact List.length_pos_iff.mpr hne
        obtain ⟨d, ed, hd⟩ := fmod_nat (i : Int) ((ns.map V.int).length : Int) (by omega)
        have hd2 : d < ns.length := by rw [List.length_map] at hd; omega
        refine ⟨_, rfl, p, _, _, _, rfl, rfl, SqL.of hp2, a0 _ _ _, _, rfl, .inl ⟨_, rfl, _, rfl, p, _, _, _, rfl, rfl, SqL.of hp2, a0 _ _ _, l, _, rfl, .inl (SqL.of hl2), _, _, rfl, rfl, by omega, l, _, _, _, rfl, rfl, SqL.of hl2, ?_, h (ns[d]'hd2)⟩⟩
        show atI (ns.map V.int) ((i : Int).fmod ((ns.map V.int).length : Int)) = _
        rw [ed]
        exact atI_nat (by rw [List.getElem?_map, List.getElem?_eq_getElem hd2]; rfl)
end
end K88

set_option maxHeartbeats 8000000
/-! ## 17. What the law draws -/
namespace K88
open PySem PySem.Spec PyProof.Rows L2
open LamX (CodeO TabS Tabs ExtN TabB lamEnv)
theorem PenAt.off {H : Hp} {p l q : Addr} {n : Nat} {ss : List Str} (h : PenAt H p l n) (e : H q = some (.lst (ss.map V.str))) : q ≠ p := by
  obtain ⟨ns, i, g, h1, h2, h3, h4⟩ := h
  rintro rfl
  rw [e] at h1
  have z := HO.lst.inj (Option.some.inj h1)
  cases ss with
  | nil => cases z
  | cons x l => cases z
theorem cut_ints (ns : List Int) : cutV (ns.map V.int) none (some 63) = (ns.take 63).map V.int := by
  unfold cutV
  rw [HT.sIx_none, show (some (63 : Int)) = some ((63 : Nat) : Int) from rfl, HT.sIx_nat, List.drop_zero, Nat.sub_zero, List.length_map, List.map_take, List.take_eq_take_iff, List.length_map]
  omega
theorem SameB.mut {p d : Addr} {H H' : Hp} {o : HO} (s : SameB p H H') (h : H d = none) : SameB p H (L2.upd H' d o) := fun b u n e => by
  rw [upd_ne (ne_of_none e h)]
  exact s b u n e
theorem map_erase (rs : List Str) (d : Nat) : (rs.eraseIdx d).map V.str = (rs.map V.str).eraseIdx d := by
  rw [List.eraseIdx_eq_take_drop_succ, List.eraseIdx_eq_take_drop_succ, List.map_append, List.map_take, List.map_drop]
section
variable {P : Program} {w : World} {K : PySem.W.Frag} {mg : Str → Option Value} {base : Heap} {a : Ad}
def sp_pen (K : PySem.W.Frag) : Sp := fun vs H Q _ => ∃ (x : Addr) (ns : List Int), vs = [.ref x] ∧ SqL K H x (ns.map V.int) ∧ ∀ H' p l, Same H H' → PenAt H' p l 0 → Q (.ref p) H'
theorem ok__law_pen (T : Txt K mg a) : CalX P w K mg base CX0 1 "_law_pen" (sp_pen K) [] := by
  refine ⟨_, _, _, _, T.g__law_pen, T.F__law_pen.kp, T.F__law_pen.ok sc__law_pen (fun vs H Q E h => ?_) (fun cdv A outer s H vs Q E hr h => ?_), T.b__law_pen, .nil⟩
  · obtain ⟨x, ns, rfl, _⟩ := h
    rfl
  · obtain ⟨x, ns, rfl, hx, k⟩ := h
    refine ⟨_, (pss_one (ps_ret (pe_lst (pa_cons (pe_lc (own := [("cell", 1)]) rfl sc__law_pen.nd (pi_list (pe_slice sl_list (pv 0) po_none (po_some pe_int))) (blkOk_by (own := [("cell", 1)]) (N := N__law_pen) (sc := defScope s__law_pen) (by decide +kernel)) (fun _ _ _ _ _ => (pg_name (i := 1) sc__law_pen.nd rfl (by first | exact Or.inl rfl | exact Or.inr rfl))) (fun _ _ _ _ _ => pts_nil) (fun _ _ _ _ _ => (pe_callTy call_int1 (by rfl) T.n_int (by decide +kernel) (pa_cons (pv 1) pa_nil)))) (pa_cons pe_int (pa_cons pe_int pa_nil)))))), ?_⟩
    refine ⟨_, rfl, 63, rfl, x, _, rfl, hx, fun y ny => ?_⟩
    have s1 : Same H (upd H y (.lst (cutV (ns.map V.int) none (some 63)))) := same_upd ny
    rw [cut_ints] at s1 ⊢
    refine ⟨y, rfl, ⟨_, SqL.of upd_same⟩, fun D nD => lc_mapV walk_list nD (fun v => v) (fun _ z => SqL.of (z _ _ upd_same)) (by rw [List.length_map, List.length_take]; omega) (fun i v H2 hv s2 R kR => ?_) (fun H2 s2 eD => ?_)⟩
    · have hv2 : ∃ z : Int, v = .int z := by
        obtain ⟨z, _, rfl⟩ := List.mem_map.mp (List.mem_of_getElem? hv)
        exact ⟨z, rfl⟩
      obtain ⟨z, rfl⟩ := hv2
      exact ⟨rfl, _, rfl, .inl ⟨z, rfl, kR H2 (Same.refl _)⟩⟩
    refine ⟨by show 3 ≤ sizeLine; rw [sizeLine_eq]; decide, fun p np => ?_⟩
    rw [List.map_id'] at eD
    have s3 := same_upd (o := HO.lst [V.ref D, V.int 0, V.int 0]) np
    refine k _ p D (s1.trans (s2.trans s3)) ⟨ns.take 63, 0, 0, upd_same, s3 _ _ eD, by rw [List.length_take]; omega, Nat.le_refl _⟩
def sp_pick : Sp := fun vs H Q _ => ∃ (p l q : Addr) (n : Nat) (xs : List V), vs = [.ref p, .ref q] ∧ n ≤ 100000 ∧ PenAt H p l n ∧ H q = some (.lst xs) ∧ q ≠ p ∧ xs ≠ [] ∧ xs.length ≤ 1000 ∧ ∀ H' x, SameB p H H' → PenAt H' p l (n + 1) → x ∈ xs → Q x H'
theorem ok__law_pick (T : Txt K mg a) : CalX P w K mg base CX0 2 "_law_pick" sp_pick [] := by
  refine ⟨_, _, _, _, T.g__law_pick, T.F__law_pick.kp, T.F__law_pick.ok sc__law_pick (fun vs H Q E h => ?_) (fun cdv A outer s H vs Q E hr h => ?_), T.b__law_pick, .nil⟩
  · obtain ⟨p, l, q, n, xs, rfl, _⟩ := h
    rfl
  · obtain ⟨p, l, q, n, xs, rfl, hn, hp, hq, hqp, hne, hlen, k⟩ := h
    refine ⟨_, (pss_one (ps_ret (pe_ix (show IxR _ (rIxL K) from ix_list) (pv 1) (pe_cx (ok__law_draw T) hr (by decide) pass0 (by rfl) (pa_cons (pv 0) (pa_cons (pe_callB call_len_seq (by rfl) T.n_len (by decide +kernel) (pa_cons (pv 1) pa_nil)) pa_nil))) (fun _ _ => rfl)))), ?_⟩
    have hpos : 0 < xs.length := List.length_pos_iff.mpr hne
    refine ⟨_, rfl, _, rfl, _, rfl, q, _, rfl, .inl (SqL.of hq), p, l, _, n, rfl, by omega, by omega, hn, hp, fun H1 d sB hp1 hd => ?_⟩
    have hd2 : d < xs.length := by omega
    refine ⟨q, _, _, _, rfl, rfl, SqL.of (sB _ _ hqp hq), atI_nat (List.getElem?_eq_getElem hd2), ?_⟩
    exact k H1 _ sB hp1 (List.getElem_mem hd2)
def sp_some : Sp := fun vs H Q _ => ∃ (p l : Addr) (v : V) (n mo : Nat) (ss : List Str), vs = [.ref p, v, .int 0, .int mo] ∧ ((∃ z : Str, v = .str z ∧ ss = signs z ∧ z.length ≤ 1000000) ∨ ∃ q : Addr, v = .ref q ∧ H q = some (.lst (ss.map V.str))) ∧ mo ≤ ss.length ∧ ss.length ≤ 900 ∧ n ≤ 50000 ∧ PenAt H p l n ∧
  ∀ (H' : Hp) (f : Addr) (fs rs : List Str), SameB p H H' → PenAt H' p l (n + 1 + mo) → H f = none → H' f = some (.lst (fs.map V.str)) → (fs ++ rs).Perm ss → fs.length ≤ mo → Q (.ref f) H'
theorem perm_pop {fs rs ss : List Str} {d : Nat} (h : (fs ++ rs).Perm ss) (hd : d < rs.length) : ((fs ++ [rs[d]'hd]) ++ rs.eraseIdx d).Perm ss := by
  refine List.Perm.trans ?_ h
  rw [List.append_assoc]
  refine List.Perm.append_left _ ?_
  have e : rs = rs.take d ++ rs[d]'hd :: rs.drop (d + 1) := by
    rw [← List.drop_eq_getElem_cons hd, List.take_append_drop]
  rw [List.eraseIdx_eq_take_drop_succ]
  refine List.Perm.trans ?_ (List.Perm.of_eq e.symm)
  exact (List.perm_middle (a := rs[d]'hd) (l₁ := rs.take d) (l₂ := rs.drop (d + 1))).symm
theorem ok__law_some (T : Txt K mg a) : CalX P w K mg base CX0 2 "_law_some" sp_some [] := by
  refine ⟨_, _, _, _, T.g__law_some, T.F__law_some.kp, T.F__law_some.ok sc__law_some (fun vs H Q E h => ?_) (fun cdv A outer s H vs Q E hr h => ?_), T.b__law_some, .nil⟩
  · obtain ⟨p, l, v, n, mo, ss, rfl, _⟩ := h
    rfl
  · obtain ⟨p, l, v, n, mo, ss, rfl, hv, hmo, hss, hn, hp, k⟩ := h
    have hz : ss.length ≤ sizeLine := by rw [sizeLine_eq]; omega
    rcases hv with ⟨z, rfl, ez, hzl⟩ | ⟨q, rfl, hq⟩
    · refine ⟨_, (pss_cons (ps_par (i := 4) (j := 5) (by rfl) sc__law_some.nd rfl rfl (by decide) rfl rfl (pa_cons (pe_callTy call_listT (by rfl) T.n_list (by decide +kernel) (pa_cons (pv 1) pa_nil)) (pa_cons (pe_lst pa_nil) pa_nil)) (by rfl))
          (pss_cons (ps_for PassesOwn.never rfl (pi_range1 (by rfl) T.n_range (pa_cons (pe_op op_add (pv 2) (pe_cx (ok__law_draw T) hr (by decide) pass0 (by rfl) (pa_cons (pv 0) (pa_cons (pe_op op_add (pe_op op_sub (pv 3) (pv 2)) pe_int) pa_nil)))) pa_nil)) (pg_name (i := 6) sc__law_some.nd rfl (by first | exact Or.inl rfl | exact Or.inr rfl))
            (pss_one (ps_expr (pe_bm PySem.F.plainAttrs_list PySem.F.slot_list_append PySem.F.type_list_append mt_append (pv 5) (pa_cons (pe_bm PySem.F.plainAttrs_list PySem.F.slot_list_pop PySem.F.type_list_pop mt_popAt (pv 4) (pa_cons (pe_cx (ok__law_draw T) hr (by decide) pass0 (by rfl) (pa_cons (pv 0) (pa_cons (pe_callB call_len_seq (by rfl) T.n_len (by decide +kernel) (pa_cons (pv 4) pa_nil)) pa_nil))) pa_nil)) pa_nil)))))
          (pss_one (ps_ret (pv 5))))), ?_⟩
      refine ⟨_, rfl, z, rfl, hzl, hr.hd, fun r nr => ?_⟩
      rw [← ez] -- z
      have s1 : Same H (upd H r (.lst (ss.map V.str))) := same_upd nr
      refine ⟨by show 0 ≤ sizeLine; exact Nat.zero_le _, fun f nf => ⟨_, _, rfl, ?_⟩⟩
      have s2 := same_upd (o := HO.lst []) nf
      have hr2 := s2 _ _ (show upd H r (.lst (ss.map V.str)) r = _ from upd_same)
      have s12 := s1.trans s2
      have p2 := hp.same s12
      refine ⟨_, rfl, _, rfl, _, rfl, _, rfl, _, _, rfl, rfl, _, _, rfl, rfl, p, l, _, n, rfl, by omega, by omega, by omega, p2, fun H1 d sB hp1 hd => ?_⟩
      have hrp : r ≠ p := fun z => hp.some1 (by rw [← z]; exact nr)
      have hrl : r ≠ l := fun z => hp.some2 (by rw [← z]; exact nr)
      have nf' : H f = none := s1.free nf
      have hfp : f ≠ p := fun z => hp.some1 (by rw [← z]; exact nf')
      have hfl : f ≠ l := fun z => hp.some2 (by rw [← z]; exact nf')
      have hfr : f ≠ r := fun z => by
        rw [z, upd_same] at nf
        cases nf
      refine ⟨_, _, rfl, rfl, _, rfl, by omega, by omega, ?_⟩
      refine for_range (fun i σ H2 => ∃ (v6 : Option V) (fs rs : List Str), σ = [some (.ref p), some _, some (.int 0), some (.int mo), some (.ref r), some (.ref f), v6] ∧ SameB p H H2 ∧ PenAt H2 p l (n + 1 + i) ∧ H2 r = some (.lst (rs.map V.str)) ∧ H2 f = some (.lst (fs.map V.str)) ∧ (fs ++ rs).Perm ss ∧ fs.length = i) ⟨none, [], ss, rfl, (Same.b s12).trans sB, hp1, sB _ _ hrp hr2, sB _ _ hfp upd_same, List.Perm.refl _, rfl⟩ (fun i σ H2 hi h => ?_) (fun σ H2 h => ?_)
      · obtain ⟨v6, fs, rs, rfl, sb, hpn, hr3, hf3, hperm, hlen⟩ := h
        have hl2 := hperm.length_eq
        rw [List.length_append] at hl2
        refine ⟨_, rfl, .inl ⟨rfl, _, SqL.of hf3⟩, _, rfl, .inl ⟨rfl, _, SqL.of hr3⟩, _, rfl, _, rfl, r, _, rfl, .inl (SqL.of hr3), p, l, _, n + 1 + i, rfl, by rw [List.length_map]; omega, by rw [List.length_map]; omega, by omega, hpn, fun H3 e sB3 hp3 he => ?_⟩
        rw [List.length_map] at he
        have he2 : e < rs.length := by omega
        have hr4 := sB3 _ _ hrp hr3
        have hf4 := sB3 _ _ hfp hf3
        refine ⟨r, _, e, e, _, rfl, rfl, hr4, by omega, by omega, ?_, by rw [List.getElem?_map, List.getElem?_eq_getElem he2]; rfl, f, _, _, rfl, rfl, by rw [upd_ne hfr]; exact hf4, by rw [List.length_map, sizeLine_eq]; omega, ?_⟩
        · rw [List.length_map, seqIndex_of (by omega) (by omega)]; rfl
        refine ⟨_, fs ++ [rs[e]'he2], rs.eraseIdx e, rfl, ?_, ?_, ?_, ?_, perm_pop hperm he2, by rw [List.length_append, hlen]; rfl⟩
        · exact ((sb.trans sB3).mut nr).mut nf'
        · exact (hp3.mut hrp hrl).mut hfp hfl
        · rw [upd_ne hfr.symm, upd_same, map_erase]
        · rw [upd_same, List.map_append]; rfl
      · obtain ⟨v6, fs, rs, rfl, sb, hpn, hr3, hf3, hperm, hlen⟩ := h
        refine ⟨_, rfl, k H2 f fs rs sb (hpn.le (by omega)) nf' hf3 hperm (by omega)⟩
    · refine ⟨_, (pss_cons (ps_par (i := 4) (j := 5) (by rfl) sc__law_some.nd rfl rfl (by decide) rfl rfl (pa_cons (pe_callTy call_list_of (by rfl) T.n_list (by decide +kernel) (pa_cons (pv 1) pa_nil)) (pa_cons (pe_lst pa_nil) pa_nil)) (by rfl))
          (pss_cons (ps_for PassesOwn.never rfl (pi_range1 (by rfl) T.n_range (pa_cons (pe_op op_add (pv 2) (pe_cx (ok__law_draw T) hr (by decide) pass0 (by rfl) (pa_cons (pv 0) (pa_cons (pe_op op_add (pe_op op_sub (pv 3) (pv 2)) pe_int) pa_nil)))) pa_nil)) (pg_name (i := 6) sc__law_some.nd rfl (by first | exact Or.inl rfl | exact Or.inr rfl))
            (pss_one (ps_expr (pe_bm PySem.F.plainAttrs_list PySem.F.slot_list_append PySem.F.type_list_append mt_append (pv 5) (pa_cons (pe_bm PySem.F.plainAttrs_list PySem.F.slot_list_pop PySem.F.type_list_pop mt_popAt (pv 4) (pa_cons (pe_cx (ok__law_draw T) hr (by decide) pass0 (by rfl) (pa_cons (pv 0) (pa_cons (pe_callB call_len_seq (by rfl) T.n_len (by decide +kernel) (pa_cons (pv 4) pa_nil)) pa_nil))) pa_nil)) pa_nil)))))
          (pss_one (ps_ret (pv 5))))), ?_⟩
      refine ⟨_, rfl, q, _, rfl, .inl (SqL.of hq), fun r nr => ?_⟩
      skip
      have s1 : Same H (upd H r (.lst (ss.map V.str))) := same_upd nr
      refine ⟨by show 0 ≤ sizeLine; exact Nat.zero_le _, fun f nf => ⟨_, _, rfl, ?_⟩⟩
      have s2 := same_upd (o := HO.lst []) nf
      have hr2 := s2 _ _ (show upd H r (.lst (ss.map V.str)) r = _ from upd_same)
      have s12 := s1.trans s2
      have p2 := hp.same s12
      refine ⟨_, rfl, _, rfl, _, rfl, _, rfl, _, _, rfl, rfl, _, _, rfl, rfl, p, l, _, n, rfl, by omega, by omega, by omega, p2, fun H1 d sB hp1 hd => ?_⟩
      have hrp : r ≠ p := fun z => hp.some1 (by rw [← z]; exact nr)
      have hrl : r ≠ l := fun z => hp.some2 (by rw [← z]; exact nr)
      have nf' : H f = none := s1.free nf
      have hfp : f ≠ p := fun z => hp.some1 (by rw [← z]; exact nf')
      have hfl : f ≠ l := fun z => hp.some2 (by rw [← z]; exact nf')
      have hfr : f ≠ r := fun z => by
        rw [z, upd_same] at nf
        cases nf
      refine ⟨_, _, rfl, rfl, _, rfl, by omega, by omega, ?_⟩
      refine for_range (fun i σ H2 => ∃ (v6 : Option V) (fs rs : List Str), σ = [some (.ref p), some _, some (.int 0), some (.int mo), some (.ref r), some (.ref f), v6] ∧ SameB p H H2 ∧ PenAt H2 p l (n + 1 + i) ∧ H2 r = some (.lst (rs.map V.str)) ∧ H2 f = some (.lst (fs.map V.str)) ∧ (fs ++ rs).Perm ss ∧ fs.length = i) ⟨none, [], ss, rfl, (Same.b s12).trans sB, hp1, sB _ _ hrp hr2, sB _ _ hfp upd_same, List.Perm.refl _, rfl⟩ (fun i σ H2 hi h => ?_) (fun σ H2 h => ?_)
      · obtain ⟨v6, fs, rs, rfl, sb, hpn, hr3, hf3, hperm, hlen⟩ := h
        have hl2 := hperm.length_eq
        rw [List.length_append] at hl2
        refine ⟨_, rfl, .inl ⟨rfl, _, SqL.of hf3⟩, _, rfl, .inl ⟨rfl, _, SqL.of hr3⟩, _, rfl, _, rfl, r, _, rfl, .inl (SqL.of hr3), p, l, _, n + 1 + i, rfl, by rw [List.length_map]; omega, by rw [List.length_map]; omega, by omega, hpn, fun H3 e sB3 hp3 he => ?_⟩
        rw [List.length_map] at he
        have he2 : e < rs.length := by omega
        have hr4 := sB3 _ _ hrp hr3
        have hf4 := sB3 _ _ hfp hf3
        refine ⟨r, _, e, e, _, rfl, rfl, hr4, by omega, by omega, ?_, by rw [List.getElem?_map, List.getElem?_eq_getElem he2]; rfl, f, _, _, rfl, rfl, by rw [upd_ne hfr]; exact hf4, by rw [List.length_map, sizeLine_eq]; omega, ?_⟩
        · rw [List.length_map, seqIndex_of (by omega) (by omega)]; rfl
        refine ⟨_, fs ++ [rs[e]'he2], rs.eraseIdx e, rfl, ?_, ?_, ?_, ?_, perm_pop hperm he2, by rw [List.length_append, hlen]; rfl⟩
        · exact ((sb.trans sB3).mut nr).mut nf'
        · exact (hp3.mut hrp hrl).mut hfp hfl
        · rw [upd_ne hfr.symm, upd_same, map_erase]
        · rw [upd_same, List.map_append]; rfl
      · obtain ⟨v6, fs, rs, rfl, sb, hpn, hr3, hf3, hperm, hlen⟩ := h
        refine ⟨_, rfl, k H2 f fs rs sb (hpn.le (by omega)) nf' hf3 hperm (by omega)⟩
end
end K88

set_option maxHeartbeats 8000000
/-! ## 18. The parts of a manner that the law draws -/
namespace K88
open PySem PySem.Spec PyProof.Rows L2
open LamX (CodeO TabS Tabs ExtN TabB lamEnv)
/-- two by two -/
def pairsOf (xs ys : List Str) : List Str := xs.flatMap fun o => ys.map fun q => o ++ q
theorem pairs_snoc {xs ys : List Str} {o : Str} : pairsOf (xs ++ [o]) ys = pairsOf xs ys ++ ys.map fun q => o ++ q := by
  unfold pairsOf
  rw [List.flatMap_append]
  simp
theorem let_cat {s t : Str} (h1 : isLet s = true) (h2 : isLet t = true) : isPr (s ++ t) = true := by
  obtain ⟨c, rfl, hc⟩ := let_shape h1
  obtain ⟨d, rfl, hd⟩ := let_shape h2
  show isPr ⟨#[c, d]⟩ = true
  rw [isPr_two, hc, hd]
  rfl
theorem cat_inj {s t u v : Str} (h1 : isLet s = true) (h2 : isLet t = true) (h3 : isLet u = true) (h4 : isLet v = true) (h : s ++ t = u ++ v) : s = u ∧ t = v := by
  obtain ⟨c, rfl, hc⟩ := let_shape h1
  obtain ⟨d, rfl, hd⟩ := let_shape h2
  obtain ⟨c', rfl, hc'⟩ := let_shape h3
  obtain ⟨d', rfl, hd'⟩ := let_shape h4
  have h : (⟨#[c, d]⟩ : Str) = ⟨#[c', d']⟩ := h
  cases h
  exact ⟨rfl, rfl⟩
theorem pairs_facts {xs ys : List Str} (nx : xs.Nodup) (ny : ys.Nodup) (hx : ∀ t ∈ xs, isLet t = true) (hy : ∀ t ∈ ys, isLet t = true) : (pairsOf xs ys).Nodup ∧ (∀ t ∈ pairsOf xs ys, isPr t = true) ∧ (pairsOf xs ys).length = xs.length * ys.length := by
  have hm : ∀ t ∈ pairsOf xs ys, ∃ o ∈ xs, ∃ q ∈ ys, t = o ++ q := fun t ht => by
    unfold pairsOf at ht
    obtain ⟨o, ho, h⟩ := List.mem_flatMap.mp ht
    obtain ⟨q, hq, rfl⟩ := List.mem_map.mp h
    exact ⟨o, ho, q, hq, rfl⟩
  refine ⟨?_, fun t ht => ?_, ?_⟩
  · clear hm
    induction xs with
    | nil => exact List.nodup_nil
    | cons o xs ih =>
      rw [List.nodup_cons] at nx
      have ih := ih nx.2 fun t ht => hx t (List.mem_cons_of_mem _ ht)
      show (ys.map (fun q => o ++ q) ++ pairsOf xs ys).Nodup
      have ho := hx o List.mem_cons_self
      refine List.nodup_append.mpr ⟨?_, ih, fun u hu v hv e => ?_⟩
      · refine List.pairwise_map.mpr (ny.imp_of_mem ?_)
        intro s t hs ht ne z
        exact ne (cat_inj ho (hy s hs) ho (hy t ht) z).2
      · obtain ⟨q, hq, rfl⟩ := List.mem_map.mp hu
        unfold pairsOf at hv
        obtain ⟨o', ho', h⟩ := List.mem_flatMap.mp hv
        obtain ⟨q', hq', rfl⟩ := List.mem_map.mp h
        have z := (cat_inj ho (hy q hq) (hx o' (List.mem_cons_of_mem _ ho')) (hy q' hq') e).1
        exact nx.1 (z ▸ ho')
  · obtain ⟨o, ho, q, hq, rfl⟩ := hm t ht
    exact let_cat (hx o ho) (hy q hq)
  · clear hm nx ny hx hy
    induction xs with
    | nil => simp [pairsOf]
    | cons o xs ih =>
      show (ys.map (fun q => o ++ q) ++ pairsOf xs ys).length = _
      rw [List.length_append, ih, List.length_map, List.length_cons, Nat.succ_mul]
      omega
theorem of_perm {fs rs ss : List Str} (h : (fs ++ rs).Perm ss) : (ss.Nodup → fs.Nodup) ∧ ∀ t ∈ fs, t ∈ ss :=
  ⟨fun nd => (List.nodup_append.mp (h.nodup_iff.mpr nd)).1, fun t ht => h.mem_iff.mp (List.mem_append_left _ ht)⟩
theorem free_of {p x : Addr} {H H' : Hp} (s : SameB p H H') (hp : H' p ≠ none) (n : H' x = none) : H x = none := by
  cases hz : H x with
  | none => rfl
  | some o =>
    have hne : x ≠ p := fun z => hp (by rw [← z]; exact n)
    rw [s _ _ hne hz] at n
    cases n
section
variable {P : Program} {w : World} {K : PySem.W.Frag} {mg : Str → Option Value} {base : Heap} {a : Ad}
def sp_word (K : PySem.W.Frag) : Sp := fun vs H Q _ => ∃ (q : Addr) (ss : List Str), vs = [.ref q] ∧ Sq K H q (ss.map V.str) ∧ sumLen ss ≤ 1000000 ∧ Q (.str (wordOf ss)) H
theorem ok__law_word (T : Txt K mg a) : CalX P w K mg base CX0 1 "_law_word" (sp_word K) [] := by
  refine ⟨_, _, _, _, T.g__law_word, T.F__law_word.kp, T.F__law_word.ok sc__law_word (fun vs H Q E h => ?_) (fun cdv A outer s H vs Q E hr h => ?_), T.b__law_word, .nil⟩
  · obtain ⟨q, ss, rfl, _⟩ := h
    rfl
  · obtain ⟨q, ss, rfl, hq, hs, k⟩ := h
    refine ⟨_, (pss_one (ps_ret (pe_ifExp (pt_cmpR op_eq (pe_callB call_len_seq (by rfl) T.n_len (by decide +kernel) (pa_cons (pv 0) pa_nil)) pe_int (nomark _)) pe_str (pe_joinK (K := K) rfl pe_str (pv 0))))), ?_⟩
    refine ⟨_, rfl, q, _, rfl, hq, rfl, _, rfl, ?_⟩
    rw [List.length_map]
    unfold wordOf at k
    by_cases e : ss = []
    · rw [if_pos e] at k
      refine if_true_of (decide_eq_true (by rw [e]; rfl)) k
    · rw [if_neg e] at k
      have hpos := List.length_pos_iff.mpr e
      refine if_false_of (decide_eq_false (fun z => by have z := V.int.inj z; omega)) ?_
      refine ⟨⟨_, rfl⟩, _, rfl, "", q, ss, rfl, rfl, hq, ?_, k⟩
      have z : (("" : Str)).length = 0 := rfl
      rw [z, Nat.mul_zero]
      unfold sumLen at hs
      omega
def sp_parts : Sp := fun vs H Q _ => ∃ (p l : Addr) (n : Nat), vs = [.ref p] ∧ n ≤ 40000 ∧ PenAt H p l n ∧
  ∀ (H' : Hp) (t qf qw ql : Addr) (F W L : List Str), SameB p H H' → PenAt H' p l (n + 30) → H' t = some (.tup [.ref qf, .ref qw, .ref ql]) → H' qf = some (.lst (F.map V.str)) → H' qw = some (.lst (W.map V.str)) → H' ql = some (.lst (L.map V.str)) →
    H qf = none → H qw = none → H ql = none → F.Nodup → W.Nodup → L.Nodup → (∀ t ∈ F, isLet t = true) → (∀ t ∈ W, isPr t = true) → (∀ t ∈ L, isLet t = true) → F.length ≤ 4 → W.length ≤ 6 → L.length ≤ 4 → Q (.ref t) H'
theorem ok__law_parts (T : Txt K mg a) : CalX P w K mg base CX0 3 "_law_parts" sp_parts [] := by
  refine ⟨_, _, _, _, T.g__law_parts, T.F__law_parts.kp, T.F__law_parts.ok sc__law_parts (fun vs H Q E h => ?_) (fun cdv A outer s H vs Q E hr h => ?_), T.b__law_parts, .nil⟩
  · obtain ⟨p, l, n, rfl, _⟩ := h
    rfl
  · obtain ⟨p, l, n, rfl, hn, hp, k⟩ := h
    refine ⟨_, (pss_cons (ps_set (i := 1) sc__law_parts.nd rfl (by first | exact Or.inl rfl | exact Or.inr rfl) (pe_cx (ok__law_some T) hr (by decide) pass0 (by rfl) (pa_cons (pv 0) (pa_cons pe_str (pa_cons pe_int (pa_cons pe_int pa_nil))))))
          (pss_cons (ps_par (i := 2) (j := 3) (by rfl) sc__law_parts.nd rfl rfl (by decide) rfl rfl (pa_cons (pe_cx (ok__law_some T) hr (by decide) pass0 (by rfl) (pa_cons (pv 0) (pa_cons (pv 1) (pa_cons pe_int (pa_cons (pe_callB call_len_seq (by rfl) T.n_len (by decide +kernel) (pa_cons (pv 1) pa_nil)) pa_nil))))) (pa_cons (pe_cx (ok__law_some T) hr (by decide) pass0 (by rfl) (pa_cons (pv 0) (pa_cons (pv 1) (pa_cons pe_int (pa_cons (pe_callB call_len_seq (by rfl) T.n_len (by decide +kernel) (pa_cons (pv 1) pa_nil)) pa_nil))))) pa_nil)) (by rfl))
          (pss_cons (ps_set (i := 4) sc__law_parts.nd rfl (by first | exact Or.inl rfl | exact Or.inr rfl) (pe_lst pa_nil))
          (pss_cons (ps_for PassesOwn.never rfl (pi_list (pv 1)) (pg_name (i := 5) sc__law_parts.nd rfl (by first | exact Or.inl rfl | exact Or.inr rfl))
            (pss_one (ps_set (i := 4) sc__law_parts.nd rfl (by first | exact Or.inl rfl | exact Or.inr rfl) (pe_op op_cat (pv 4) (pe_lc (own := [("other", 6)]) rfl sc__law_parts.nd (pi_list (pv 1)) (blkOk_by (own := [("other", 6)]) (N := N__law_parts) (sc := defScope s__law_parts) (by decide +kernel)) (fun _ _ _ _ _ => (pg_name (i := 6) sc__law_parts.nd rfl (by first | exact Or.inl rfl | exact Or.inr rfl))) (fun _ _ _ _ _ => pts_nil) (fun _ _ _ _ _ => (pe_op op_add_str (pv 5) (pv 6))))))))
          (pss_one (ps_ret (pe_tup (pa_cons (pv 2) (pa_cons (pe_cx (ok__law_some T) hr (by decide) pass0 (by rfl) (pa_cons (pv 0) (pa_cons (pv 4) (pa_cons pe_int (pa_cons (pe_callB (call_min2 rfl) (by rfl) T.n_min (by decide +kernel) (pa_cons pe_int (pa_cons (pe_callB call_len_seq (by rfl) T.n_len (by decide +kernel) (pa_cons (pv 4) pa_nil)) pa_nil))) pa_nil))))) (pa_cons (pv 3) pa_nil)))))))))), ?_⟩
    refine ⟨_, rfl, p, l, _, n, 4, _, rfl, .inl ⟨_, rfl, rfl, by decide⟩, by decide +kernel, by decide +kernel, by omega, hp, fun H1 qn N rs1 b1 p1 nn hN perm1 len1 => ?_⟩
    have fN := of_perm perm1
    have ndN : N.Nodup := fN.1 (by decide +kernel)
    have lN : ∀ t ∈ N, isLet t = true := fun t ht => (show ∀ t ∈ signs "abcdmxyz", isLet t = true by decide +kernel) t (fN.2 t ht)
    refine ⟨_, rfl, _, rfl, _, rfl, qn, _, rfl, .inl (SqL.of hN), p, l, .ref qn, n + 5, N.length, N, by rw [List.length_map]; rfl, .inr ⟨qn, rfl, hN⟩, Nat.le_refl _, by omega, by omega, p1, fun H2 qf F rs2 b2 p2 nf hF perm2 len2 => ?_⟩
    have offp : ∀ {H : Hp} {q : Addr} {n : Nat} {ss : List Str}, PenAt H p l n → H q = some (.lst (ss.map V.str)) → q ≠ p := fun h e => h.off e
    have hN2 := b2 _ _ (offp p1 hN) hN
    have fF := of_perm perm2
    refine ⟨_, rfl, _, rfl, _, rfl, qn, _, rfl, .inl (SqL.of hN2), p, l, .ref qn, n + 5 + 1 + N.length, N.length, N, by rw [List.length_map]; rfl, .inr ⟨qn, rfl, hN2⟩, Nat.le_refl _, by omega, by omega, p2, fun H3 ql L rs3 b3 p3 nl hL perm3 len3 => ⟨_, _, rfl, ?_⟩⟩
    have fL := of_perm perm3
    have hN3 := b3 _ _ (offp p2 hN2) hN2
    have hF3 := b3 _ _ (offp p2 hF) hF
    refine ⟨by show 0 ≤ sizeLine; exact Nat.zero_le _, fun ev0 ne0 => ?_⟩
    have s4 : Same H3 (upd H3 ev0 (.lst [])) := same_upd ne0
    obtain ⟨H4, e4⟩ : ∃ G, G = upd H3 ev0 (.lst []) := ⟨_, rfl⟩
    have hE4 : H4 ev0 = some (.lst (([] : List Str).map V.str)) := by rw [e4]; exact upd_same
    rw [← e4] at s4 ⊢
    clear e4
    have b13 : SameB p H H3 := b1.trans (b2.trans b3)
    have n4 : H ev0 = none := free_of b13 p3.some1 ne0
    -- every
    refine ⟨_, rfl, qn, rfl, ⟨_, SqL.of (s4 _ _ hN3)⟩, ?_⟩
    refine for_it walk_list (fun i σ G => ∃ (ev : Addr) (v5 v6 : Option V), σ = [some (.ref p), some (.ref qn), some (.ref qf), some (.ref ql), some (.ref ev), v5, v6] ∧ Same H4 G ∧ H ev = none ∧ G ev = some (.lst ((pairsOf (N.take i) N).map V.str))) ⟨ev0, none, none, rfl, Same.refl _, n4, hE4⟩ (fun i σ G _ h => by obtain ⟨ev, v5, v6, rfl, sG, _, _⟩ := h; exact SqL.of (sG _ _ (s4 _ _ hN3))) (fun i x σ G G' hi h y => ?_) (fun σ G h => ?_)
    · obtain ⟨eG, hx⟩ := y
      subst eG
      obtain ⟨ev, v5, v6, rfl, sG, _, hE⟩ := h
      rw [List.getElem?_map] at hx
      obtain ⟨o, ho, rfl⟩ := Option.map_eq_some_iff.mp hx
      have hNG := sG _ _ (s4 _ _ hN3)
      have lo := lN o (List.mem_of_getElem? ho)
      refine ⟨_, rfl, _, rfl, qn, rfl, ⟨_, SqL.of hNG⟩, fun D nD => lc_map walk_list nD (fun q => .str (o ++ q)) (fun _ z => SqL.of (z _ _ hNG)) (by omega) (fun j q G2 hq s5 R kR => ?_) (fun G2 s5 eD => ?_)⟩
      · have lq := lN q (List.mem_of_getElem? hq)
        refine ⟨rfl, _, rfl, _, rfl, o, q, rfl, rfl, ?_, kR G2 (Same.refl _)⟩
        obtain ⟨c, rfl, _⟩ := let_shape lo
        obtain ⟨d, rfl, _⟩ := let_shape lq
        show 1 + 1 ≤ sizeLine
        rw [sizeLine_eq]
        decide
      have fP := (pairs_facts (xs := N.take i) (ys := N) (ndN.sublist (List.take_sublist _ _)) ndN (fun t ht => lN t (List.mem_of_mem_take ht)) lN).2.2
      rw [List.length_take] at fP
      have hmul : min i N.length * N.length ≤ 4 * 4 := Nat.mul_le_mul (by omega) len1
      refine ⟨ev, D, _, _, rfl, rfl, s5 _ _ hE, eD, ?_, fun ev2 nev2 => ?_⟩
      · rw [List.length_map, List.length_map, fP, sizeLine_eq]
        omega
      have s6 := same_upd (o := HO.lst ((pairsOf (N.take i) N).map V.str ++ N.map fun q => V.str (o ++ q))) nev2
      refine ⟨ev2, _, _, rfl, sG.trans (s5.trans s6), ?_, ?_⟩
      · exact free_of b13 p3.some1 ((s4.trans (sG.trans s5)).free nev2)
      · rw [upd_same, take_next ho, pairs_snoc, List.map_append, List.map_map]
        rfl
    · obtain ⟨ev, v5, v6, rfl, sG, ne, hE⟩ := h
      rw [List.length_map, List.take_length] at hE
      have fP := pairs_facts ndN ndN lN lN
      have hmul : N.length * N.length ≤ 4 * 4 := Nat.mul_le_mul len1 len1
      have p5 : PenAt G p l (n + 5 + 1 + N.length + 1 + N.length) := (p3.same s4).same sG
      refine ⟨_, rfl, _, rfl, _, rfl, _, rfl, ev, _, rfl, .inl (SqL.of hE), _, _, rfl, p, l, .ref ev, n + 5 + 1 + N.length + 1 + N.length, min 6 (pairsOf N N).length, pairsOf N N, ?_, .inr ⟨ev, rfl, hE⟩, by omega, by omega, by omega, p5, fun H5 qw W rs5 b5 p6 nw hW perm5 len5 => ?_⟩
      · have z : (if (((pairsOf N N).map V.str).length : Int) < 6 then (((pairsOf N N).map V.str).length : Int) else 6) = ((min 6 (pairsOf N N).length : Nat) : Int) := by
          rw [List.length_map]
          split <;> omega
        rw [z]
        rfl
      have fW := of_perm perm5
      have s34 := s4.trans sG
      have hF5 := b5 _ _ (offp p3 hF3) (s34 _ _ hF3)
      have hL5 := b5 _ _ (offp p3 hL) (s34 _ _ hL)
      refine ⟨_, rfl, by show 3 ≤ sizeLine; rw [sizeLine_eq]; decide, fun t nt => ?_⟩
      have s6 : Same H5 (upd H5 t (.tup [.ref qf, .ref qw, .ref ql])) := same_upd nt
      have bAll : SameB p H G := b13.trans (Same.b s34)
      refine k _ t qf qw ql F W L (bAll.trans (b5.trans (Same.b s6))) ((p6.same s6).le (by omega)) upd_same (s6 _ _ hF5) (s6 _ _ hW) (s6 _ _ hL5) (free_of b1 p1.some1 nf) (free_of bAll p5.some1 nw) (free_of (b1.trans b2) p2.some1 nl) (fF.1 ndN) (fW.1 fP.1) (fL.1 ndN) (fun t ht => lN t (fF.2 t ht)) (fun t ht => fP.2.1 t (fW.2 t ht)) (fun t ht => lN t (fL.2 t ht)) (by omega) (by omega) (by omega)
end
end K88

set_option maxHeartbeats 8000000
/-! ## 19. How the law looks at the words -/
namespace K88
open PySem PySem.Spec PyProof.Rows L2
open LamX (CodeO TabS Tabs ExtN TabB lamEnv)
def notLet (ss : List Str) : List Str := ss.filter fun q => !isLet q
theorem keep_notLet (ss : List Str) : (ss.filterMap fun q => if (!isLet q) = true then some (V.str q) else none) = (notLet ss).map V.str := keep_map (fun q => !isLet q) ss
theorem notLet_nil {ss : List Str} : notLet ss = [] ↔ ss.all isLet = true := by
  unfold notLet
  rw [List.filter_eq_nil_iff, List.all_eq_true]
  exact ⟨fun h x hx => by
    have z := h x hx
    cases e : isLet x with
    | true => rfl
    | false => rw [e] at z; exact absurd rfl z, fun h x hx => by rw [h x hx]; exact Bool.false_ne_true⟩
theorem signs_nil {s : Str} : signs s = [] ↔ s = "" := by
  obtain ⟨⟨l⟩⟩ := s
  cases l with
  | nil => exact ⟨fun _ => rfl, fun _ => rfl⟩
  | cons x l => exact ⟨fun h => (by cases h), fun h => (by cases h)⟩
theorem okS_signs {s : Str} (h : okS s) : ∀ x ∈ signs s, okS x := fun x hx => by
  obtain ⟨c, hc, rfl⟩ := mem_signs hx
  unfold okS at h
  rw [← Array.all_toList, List.all_eq_true] at h
  refine okS_of fun d hd => ?_
  have e : d = c := by simpa using hd
  rw [e]
  exact of_decide_eq_true (h c hc)
theorem okS_filter {ss : List Str} (h : ∀ x ∈ ss, okS x) : ∀ x ∈ notLet ss, okS x := fun x hx => h x (List.mem_filter.mp hx).1
theorem row_some (s : Str) : (rowOf s).isSome = if s = "-" then true else (!decide (signs s = [])) && (decide (notLet (signs s) = []) && decide ((dcount (signs s).reverse : Int) = ((signs s).length : Int))) := by
  unfold rowOf
  by_cases h1 : s = "-"
  · rw [if_pos h1, if_pos h1]; rfl
  · rw [if_neg h1, if_neg h1]
    have e3 : decide ((dcount (signs s).reverse : Int) = ((signs s).length : Int)) = decide ((signs s).Nodup) := by
      refine decide_eq_decide.mpr ?_
      have z := dcount_nodup (signs s).reverse
      rw [List.length_reverse, (List.reverse_perm (signs s)).nodup_iff] at z
      rw [← z]
      omega
    rw [e3]
    by_cases h2 : s = ""
    · rw [if_pos (.inl h2), decide_eq_true (signs_nil.mpr h2)]; rfl
    · have g2 : ¬ signs s = [] := fun z => h2 (signs_nil.mp z)
      rw [decide_eq_false g2]
      by_cases h3 : (signs s).all isLet = false
      · rw [if_pos (.inr h3), decide_eq_false (fun z => by rw [notLet_nil.mp z] at h3; cases h3)]; rfl
      · rw [if_neg (fun z => z.elim h2 h3)]
        have h3' : (signs s).all isLet = true := by
          cases e : (signs s).all isLet with
          | true => rfl
          | false => exact absurd e h3
        rw [decide_eq_true (notLet_nil.mpr h3')]
        by_cases h4 : (signs s).Nodup
        · rw [if_pos h4, decide_eq_true h4]; rfl
        · rw [if_neg h4, decide_eq_false h4]; rfl
theorem pr_some (s : Str) : isPr s = (decide (s.length = 2) && decide (notLet (signs s) = [])) := by
  by_cases h : s.length = 2
  · obtain ⟨c, d, rfl⟩ := two_of h
    rw [decide_eq_true h, isPr_two, signs_two, Bool.true_and]
    have e : (decide (notLet [(⟨#[c]⟩ : Str), ⟨#[d]⟩] = [])) = [(⟨#[c]⟩ : Str), ⟨#[d]⟩].all isLet := by
      rw [Bool.eq_iff_iff, decide_eq_true_iff, notLet_nil]
    rw [e]
    show _ = (letc c && (letc d && true))
    rw [Bool.and_true]
  · rw [decide_eq_false h, isPr_not h]; rfl
section
variable {P : Program} {w : World} {K : PySem.W.Frag} {mg : Str → Option Value} {base : Heap} {a : Ad}
def sp_is_row : Sp := fun vs H Q _ => ∃ s : Str, vs = [.str s] ∧ s.length ≤ 1000 ∧ okS s ∧ ∀ H', Same H H' → Q (.bl (rowOf s).isSome) H'
theorem ok__law_is_row (T : Txt K mg a) : CalX P w K mg base CX0 1 "_law_is_row" sp_is_row [] := by
  refine ⟨_, _, _, _, T.g__law_is_row, T.F__law_is_row.kp, T.F__law_is_row.ok sc__law_is_row (fun vs H Q E h => ?_) (fun cdv A outer s H vs Q E hr h => ?_), T.b__law_is_row, .nil⟩
  · obtain ⟨s, rfl, _⟩ := h
    rfl
  · obtain ⟨s, rfl, hs, ho, k⟩ := h
    refine ⟨_, (pss_cons (ps_set (i := 1) sc__law_is_row.nd rfl (by first | exact Or.inl rfl | exact Or.inr rfl) (pe_callTy call_listT (by rfl) T.n_list (by decide +kernel) (pa_cons (pv 0) pa_nil)))
          (pss_one (ps_ret (pe_or (pe_cmpR op_eq (pv 0) pe_str (nomark _)) (pe_one (pe_and (pe_cmpR (show OpR _ (compareOp .NotEq) (rNeD K) from op_neD hr.units) (pv 1) (pe_lst pa_nil) (nomark _)) (pe_and (pe_cmpR (show OpR _ (compareOp .Eq) (rEqD K) from op_eqD hr.units) (pe_lc (own := [("sign", 2)]) rfl sc__law_is_row.nd (pi_list (pv 1)) (blkOk_by (own := [("sign", 2)]) (N := N__law_is_row) (sc := defScope s__law_is_row) (by decide +kernel)) (fun _ _ _ _ _ => (pg_name (i := 2) sc__law_is_row.nd rfl (by first | exact Or.inl rfl | exact Or.inr rfl))) (fun _ _ _ _ _ => (pts_one (pt_cmpR op_notIn_sign (pv 2) pe_str (by rfl)))) (fun _ _ _ _ _ => (pv 2))) (pe_lst pa_nil) (nomark _)) (pe_one (pe_cmpR op_eq (pe_lenSets rfl (by rfl) T.n_len (by rfl) T.n_set (pv 1)) (pe_callB call_len_seq (by rfl) T.n_len (by decide +kernel) (pa_cons (pv 1) pa_nil)) (nomark _)))))))))), ?_⟩
    rw [row_some] at k
    have hl : (signs s).length ≤ 1000 := by rw [signs_size]; exact hs
    refine ⟨_, rfl, s, rfl, by omega, hr.hd, fun q nq => ?_⟩
    have s1 : Same H (upd H q (.lst ((signs s).map V.str))) := same_upd nq
    refine ⟨_, rfl, rfl, _, rfl, ?_⟩
    by_cases e1 : s = "-"
    · refine if_true_of (decide_eq_true (congrArg V.str e1)) ?_
      rw [if_pos e1] at k
      exact k _ s1
    · refine if_false_of (decide_eq_false fun z => e1 (V.str.inj z)) ?_
      rw [if_neg e1] at k
      refine ⟨_, rfl, by show 0 ≤ sizeLine; exact Nat.zero_le _, fun t nt => ⟨_, _, .lst (SqL.of ((same_upd nt) _ _ upd_same)) (dp_strs (signs s)), .lst (SqL.of upd_same) (dp_strs []), shaped_lst (okS_signs ho), shaped_lst (fun _ h => by cases h), _, rfl, ?_⟩⟩
      rw [eqv_lst]
      have s2 := same_upd (o := HO.lst []) nt
      by_cases e2 : signs s = []
      · refine if_false_of (by rw [decide_eq_true e2]; rfl) ?_
        rw [decide_eq_true e2] at k
        exact k _ (s1.trans s2)
      · refine if_true_of (by rw [decide_eq_false e2]; rfl) ?_
        rw [decide_eq_false e2] at k
        have hq2 := s2 _ _ (show upd H q (.lst ((signs s).map V.str)) q = _ from upd_same)
        refine ⟨_, rfl, q, rfl, ⟨_, SqL.of hq2⟩, fun D nD => lc_strs walk_list nD (fun x => if (!isLet x) = true then some (.str x) else none) (fun _ z => SqL.of (z _ _ hq2)) (by omega) (fun i x H2 hx s3 R kR => ?_) (fun H2 s3 eD => ?_)⟩
        · obtain ⟨c, hc, rfl⟩ := mem_signs (List.mem_of_getElem? hx)
          refine ⟨rfl, _, rfl, c, _, rfl, rfl, _, rfl, ?_⟩
          rw [mem_letters]
          rw [isLet_one] at kR
          by_cases hm : letc c = true
          · rw [hm] at kR ⊢
            exact kR H2 (Same.refl _)
          · have hm2 : letc c = false := (Bool.not_eq_true _).mp hm
            rw [hm2] at kR ⊢
            exact ⟨_, rfl, kR H2 (Same.refl _)⟩
        rw [keep_notLet] at eD
        refine ⟨by show 0 ≤ sizeLine; exact Nat.zero_le _, fun t2 nt2 => ⟨_, _, .lst (SqL.of ((same_upd nt2) _ _ eD)) (dp_strs (notLet (signs s))), .lst (SqL.of upd_same) (dp_strs []), shaped_lst (okS_filter (okS_signs ho)), shaped_lst (fun _ h => by cases h), _, rfl, ?_⟩⟩
        rw [eqv_lst]
        have s4 := same_upd (o := HO.lst []) nt2
        have sA := (s1.trans s2).trans (s3.trans s4)
        by_cases e3 : notLet (signs s) = []
        · refine if_true_of (decide_eq_true e3) ?_
          rw [decide_eq_true e3] at k
          have hq3 := s4 _ _ (s3 _ _ hq2)
          refine ⟨_, rfl, q, signs s, rfl, SqL.of hq3, by omega, _, rfl, q, _, rfl, .inl (SqL.of hq3), rfl, ?_⟩
          have z := k _ sA
          rw [show decide (V.int (dcount (signs s).reverse : Nat) = V.int (((signs s).map V.str).length : Nat)) = decide ((dcount (signs s).reverse : Int) = ((signs s).length : Int)) from by
            rw [List.length_map]
            exact decide_eq_decide.mpr ⟨fun z => V.int.inj z, fun z => by rw [z]⟩]
          exact z
        · refine if_false_of (decide_eq_false e3) ?_
          rw [decide_eq_false e3] at k
          exact k _ sA
end
end K88

set_option maxHeartbeats 8000000
/-! ## 20. Where the words fail, as the law finds it -/
namespace K88
open PySem PySem.Spec PyProof.Rows L2
open LamX (CodeO TabS Tabs ExtN TabB lamEnv)
def optV : Option Nat → V
  | some i => .int i
  | none => .non
theorem fault_early {ws : List Str} {i : Nat} (hi : i < 2) (h : ∀ j, j < i → ∃ w, ws[j]? = some w ∧ (rowOf w).isSome = true) (h2 : ws.length ≤ i ∨ ∃ w, ws[i]? = some w ∧ (rowOf w).isSome = false) : faultOf ws = some i := by
  have none_of : ∀ {w : Str}, (rowOf w).isSome = false → rowOf w = none := fun {w} e => by
    cases h : rowOf w with
    | none => rfl
    | some r => rw [h] at e; cases e
  have some_of : ∀ {w : Str}, (rowOf w).isSome = true → ¬ rowOf w = none := fun {w} e z => by rw [z] at e; cases e
  match i, hi with
  | 0, _ =>
    rcases h2 with h2 | ⟨w, hw, e⟩
    · rw [List.length_eq_zero_iff.mp (Nat.le_zero.mp h2)]
      rfl
    · match ws, hw with
      | [w0], hw => cases hw; show (if rowOf w = none then some 0 else some 1) = some 0; rw [if_pos (none_of e)]
      | w0 :: w1 :: r, hw => cases hw; show (if rowOf w = none then some 0 else _) = some 0; rw [if_pos (none_of e)]
  | 1, _ =>
    match ws with
    | [] =>
      obtain ⟨w, hw, _⟩ := h 0 (by decide)
      cases hw
    | [w0] =>
      show (if rowOf w0 = none then some 0 else some 1) = some 1
      obtain ⟨x, hx, ex⟩ := h 0 (by decide)
      cases hx
      rw [if_neg (some_of ex)]
    | w0 :: w1 :: r =>
      show (if rowOf w0 = none then some 0 else if rowOf w1 = none then some 1 else _) = some 1
      obtain ⟨x, hx, ex⟩ := h 0 (by decide)
      cases hx
      rw [if_neg (some_of ex)]
      rcases h2 with h2 | ⟨w, hw, e⟩
      · simp only [List.length_cons] at h2
        omega
      · cases hw
        rw [if_pos (none_of e)]
theorem cut_2 (ws : List Str) (i : Nat) : cutV (ws.map V.str) (some 2) (some ((2 : Int) + (i : Nat))) = ((ws.drop 2).take i).map V.str := by
  unfold cutV
  rw [show (some (2 : Int)) = some ((2 : Nat) : Int) from rfl, show (some ((2 : Int) + (i : Nat))) = some ((2 + i : Nat) : Int) by congr 1, HT.sIx_nat, HT.sIx_nat, List.length_map, List.map_take, List.map_drop]
  by_cases h : 2 ≤ ws.length
  · rw [Nat.min_eq_left h, List.take_eq_take_iff, List.length_drop, List.length_map]
    omega
  · have e1 : (ws.map V.str).drop 2 = [] := List.drop_eq_nil_of_le (by rw [List.length_map]; omega)
    have e2 : (ws.map V.str).drop (min 2 ws.length) = [] := List.drop_eq_nil_of_le (by rw [List.length_map]; omega)
    rw [e1, e2, List.take_nil, List.take_nil]
section
variable {P : Program} {w : World} {K : PySem.W.Frag} {mg : Str → Option Value} {base : Heap} {a : Ad}
def sp_fault : Sp := fun vs H Q _ => ∃ (q : Addr) (ws : List Str), vs = [.ref q] ∧ H q = some (.lst (ws.map V.str)) ∧ ws ≠ [] ∧ ws.length ≤ 1000 ∧ (∀ t ∈ ws, t.length ≤ 1000 ∧ okS t) ∧ ∀ H', Same H H' → Q (optV (faultOf ws)) H'
theorem ok__law_fault (T : Txt K mg a) : CalX P w K mg base CX0 2 "_law_fault" sp_fault [] := by
  refine ⟨_, _, _, _, T.g__law_fault, T.F__law_fault.kp, T.F__law_fault.ok sc__law_fault (fun vs H Q E h => ?_) (fun cdv A outer s H vs Q E hr h => ?_), T.b__law_fault, .nil⟩
  · obtain ⟨q, ws, rfl, _⟩ := h
    rfl
  · obtain ⟨q, ws, rfl, hq, hne, hlen, hw, k⟩ := h
    refine ⟨_, (pss_cons (ps_for PassesOwn.never rfl (pi_range1 (by rfl) T.n_range (pa_cons pe_int pa_nil)) (pg_name (i := 1) sc__law_fault.nd rfl (by first | exact Or.inl rfl | exact Or.inr rfl))
            (pss_one (ps_if (PW.pt (pw_or (pt_cmpR op_ge (pv 1) (pe_callB call_len_seq (by rfl) T.n_len (by decide +kernel) (pa_cons (pv 0) pa_nil)) (nomark _)) (pw_or1 (pt_not (pt_val (pe_cx (ok__law_is_row T) hr (by decide) pass0 (by rfl) (pa_cons (pe_ix (show IxR _ (rIxL K) from ix_list) (pv 0) (pv 1) (fun _ _ => rfl)) pa_nil)))))))
              (pss_one (ps_ret (pv 1)))
              pss_nil)))
          (pss_cons (ps_for PassesOwn.never rfl (pi_range2 (by rfl) T.n_range (pa_cons pe_int (pa_cons (pe_callB call_len_seq (by rfl) T.n_len (by decide +kernel) (pa_cons (pv 0) pa_nil)) pa_nil))) (pg_name (i := 1) sc__law_fault.nd rfl (by first | exact Or.inl rfl | exact Or.inr rfl))
            (pss_cons (ps_set (i := 2) sc__law_fault.nd rfl (by first | exact Or.inl rfl | exact Or.inr rfl) (pe_ix (show IxR _ (rIxL K) from ix_list) (pv 0) (pv 1) (fun _ _ => rfl)))
            (pss_one (ps_if (PW.pt (pw_or (pt_cmpR op_ne (pe_callB call_len_str (by rfl) T.n_len (by decide +kernel) (pa_cons (pv 2) pa_nil)) pe_int (nomark _)) (pw_or (pt_cmpR (show OpR _ (compareOp .NotEq) (rNeD K) from op_neD hr.units) (pe_lc (own := [("sign", 3)]) rfl sc__law_fault.nd (pi_str (pv 2)) (blkOk_by (own := [("sign", 3)]) (N := N__law_fault) (sc := defScope s__law_fault) (by decide +kernel)) (fun _ _ _ _ _ => (pg_name (i := 3) sc__law_fault.nd rfl (by first | exact Or.inl rfl | exact Or.inr rfl))) (fun _ _ _ _ _ => (pts_one (pt_cmpR op_notIn_sign (pv 3) pe_str (by rfl)))) (fun _ _ _ _ _ => (pv 3))) (pe_lst pa_nil) (nomark _)) (pw_or1 (pt_cmpR (show OpR _ (compareOp .In) (rIn K false) from op_in_seq) (pv 2) (pe_slice sl_list (pv 0) (po_some pe_int) (po_some (pv 1))) (by rfl))))))
              (pss_one (ps_ret (pv 1)))
              pss_nil))))
          (pss_one (ps_ret pe_non)))), ?_⟩
    refine ⟨_, rfl, by decide, by decide, ?_⟩
    refine for_range (fun i σ G => ∃ (v1 v2 v3 : Option V), σ = [some (.ref q), v1, v2, v3] ∧ Same H G ∧ ∀ j, j < i → ∃ w, ws[j]? = some w ∧ (rowOf w).isSome = true) ⟨none, none, none, rfl, Same.refl _, fun j hj => absurd hj (Nat.not_lt_zero _)⟩ (fun i σ G hi h => ?_) (fun σ G h => ?_)
    · have hi : i < 2 := hi
      obtain ⟨v1, v2, v3, rfl, sG, hrow⟩ := h
      have hqG := sG _ _ hq
      refine ⟨_, rfl, _, rfl, q, _, rfl, .inl (SqL.of hqG), _, _, rfl, rfl, _, rfl, ?_⟩
      rw [List.length_map]
      have bad : (ws.length ≤ i ∨ ∃ w, ws[i]? = some w ∧ (rowOf w).isSome = false) → ∀ {G2 : Hp}, Same H G2 → Q (.int ((0 : Int) + (i : Nat))) G2 := fun z {G2} s2 => by
        have q := k G2 s2
        rw [fault_early hi hrow z] at q
        rw [Int.zero_add]
        exact q
      by_cases h1 : ws.length ≤ i
      · refine if_true_of (decide_eq_true (by omega)) ?_
        exact ⟨_, rfl, bad (.inl h1) sG⟩
      · refine if_false_of (decide_eq_false (by omega)) ?_
        obtain ⟨u, hu⟩ : ∃ u, ws[i]? = some u := ⟨_, List.getElem?_eq_getElem (by omega)⟩
        have hu2 := hw u (List.mem_of_getElem? hu)
        refine ⟨_, rfl, _, rfl, q, _, _, _, rfl, rfl, SqL.of hqG, by rw [Int.zero_add]; exact atI_nat (by rw [List.getElem?_map, hu]; rfl), u, rfl, hu2.1, hu2.2, fun G2 s2 => ⟨_, rfl, ?_⟩⟩
        cases hr0 : (rowOf u).isSome with
        | false => exact iteT ⟨_, rfl, bad (.inr ⟨u, hu, hr0⟩) (sG.trans s2)⟩
        | true =>
          refine iteF ⟨_, _, _, rfl, sG.trans s2, fun j hj => ?_⟩
          by_cases e : j = i
          · exact ⟨u, e ▸ hu, hr0⟩
          · exact hrow j (by omega)
    · obtain ⟨v1, v2, v3, rfl, sG, hrow⟩ := h
      have hqG := sG _ _ hq
      obtain ⟨w0, w1, r, rfl⟩ : ∃ w0 w1 r, ws = w0 :: w1 :: r := by
        obtain ⟨x, hx, _⟩ := hrow 1 (by decide)
        match ws, hx with
        | w0 :: w1 :: r, _ => exact ⟨w0, w1, r, rfl⟩
      have eF : faultOf (w0 :: w1 :: r) = (badAt [] r).map (· + 2) := by
        obtain ⟨x, hx, ex⟩ := hrow 0 (by decide)
        cases hx
        obtain ⟨y, hy, ey⟩ := hrow 1 (by decide)
        cases hy
        show (if rowOf w0 = none then some 0 else if rowOf w1 = none then some 1 else _) = _
        rw [if_neg (fun z => by rw [z] at ex; cases ex), if_neg (fun z => by rw [z] at ey; cases ey)]
      refine ⟨_, rfl, q, _, rfl, .inl (SqL.of hqG), _, _, rfl, ⟨by decide, by decide, by omega, ?_⟩, ?_⟩
      · rw [List.length_map]; omega
      have eN : ((((List.map V.str (w0 :: w1 :: r)).length : Nat) : Int) - 2).toNat = r.length := by
        rw [List.length_map, List.length_cons, List.length_cons]
        omega
      refine for_range (fun i σ G => ∃ (v1 v2 v3 : Option V), σ = [some (.ref q), v1, v2, v3] ∧ Same H G ∧ badAt [] r = (badAt (r.take i) (r.drop i)).map (· + i)) ⟨_, _, _, rfl, sG, by simp⟩ (fun i σ G hi h => ?_) (fun σ G h => ?_)
      · rw [eN] at hi
        obtain ⟨v1, v2, v3, rfl, sG, hb⟩ := h
        have hqG := sG _ _ hq
        obtain ⟨u, hu⟩ : ∃ u, r[i]? = some u := ⟨_, List.getElem?_eq_getElem hi⟩
        have hdrop : r.drop i = u :: r.drop (i + 1) := by
          rw [List.drop_eq_getElem_cons hi]
          rw [List.getElem?_eq_getElem hi] at hu
          rw [Option.some.inj hu]
        have hu2 := hw u (List.mem_cons_of_mem _ (List.mem_cons_of_mem _ (List.mem_of_getElem? hu)))
        have bad : ¬ (isPr u = true ∧ u ∉ r.take i) → ∀ {G2 : Hp}, Same H G2 → Q (.int ((2 : Int) + (i : Nat))) G2 := fun z {G2} s2 => by
          have q := k G2 s2
          rw [eF, hb, hdrop] at q
          unfold badAt at q
          rw [if_neg z] at q
          have e : ((2 : Int) + (i : Nat)) = ((0 + i + 2 : Nat) : Int) := by omega
          rw [e]
          exact q
        have hat : atI (List.map V.str (w0 :: w1 :: r)) ((2 : Int) + (i : Nat)) = some (.str u) := by
          have e : ((2 : Int) + (i : Nat)) = ((i + 2 : Nat) : Int) := by omega
          rw [e]
          refine atI_nat ?_
          rw [List.getElem?_map]
          show Option.map V.str r[i]? = _
          rw [hu]; rfl
        refine ⟨_, rfl, _, rfl, q, _, _, _, rfl, rfl, SqL.of hqG, hat, ?_⟩
        have hpr := pr_some u
        refine ⟨_, rfl, u, rfl, size1 (by omega), rfl, _, rfl, ?_⟩
        by_cases h1 : u.length = 2
        · refine if_false_of (by rw [h1]; rfl) ?_
          rw [decide_eq_true h1, Bool.true_and] at hpr
          refine ⟨_, rfl, _, rfl, fun D nD => lc_strs walk_signs nD (fun x => if (!isLet x) = true then some (.str x) else none) (fun _ _ => True.intro) (by rw [signs_size]; omega) (fun j x H2 hx s3 R kR => ?_) (fun H2 s3 eD => ?_)⟩
          · obtain ⟨c, hc, rfl⟩ := mem_signs (List.mem_of_getElem? hx)
            refine ⟨rfl, _, rfl, c, _, rfl, rfl, _, rfl, ?_⟩
            rw [mem_letters]
            rw [isLet_one] at kR
            by_cases hm : letc c = true
            · rw [hm] at kR ⊢
              exact kR H2 (Same.refl _)
            · have hm2 : letc c = false := (Bool.not_eq_true _).mp hm
              rw [hm2] at kR ⊢
              exact ⟨_, rfl, kR H2 (Same.refl _)⟩
          rw [keep_notLet] at eD
          refine ⟨by show 0 ≤ sizeLine; exact Nat.zero_le _, fun t2 nt2 => ⟨_, _, .lst (SqL.of ((same_upd nt2) _ _ eD)) (dp_strs (notLet (signs u))), .lst (SqL.of upd_same) (dp_strs []), shaped_lst (okS_filter (okS_signs hu2.2)), shaped_lst (fun _ h => by cases h), _, rfl, ?_⟩⟩
          rw [eqv_lst]
          have s4 := same_upd (o := HO.lst []) nt2
          have sA := sG.trans (s3.trans s4)
          obtain ⟨G2, eG2⟩ : ∃ G2, G2 = upd H2 t2 (.lst []) := ⟨_, rfl⟩
          rw [← eG2] at sA ⊢
          clear eG2 s4
          by_cases h2 : notLet (signs u) = []
          · refine if_false_of (by rw [decide_eq_true h2]; rfl) ?_
            rw [decide_eq_true h2] at hpr
            refine ⟨_, rfl, _, rfl, 2, rfl, _, rfl, _, rfl, q, _, rfl, SqL.of (sA _ _ hq), fun y ny => ?_⟩
            have s5 : Same G2 (upd G2 y (.lst (cutV (List.map V.str (w0 :: w1 :: r)) (some 2) (some ((2 : Int) + (i : Nat)))))) := same_upd ny
            refine ⟨y, _, rfl, .inl (SqL.of upd_same), rfl, ?_, _, rfl, ?_⟩
            · rw [cut_2]
              exact flat_texts _
            show if inV (V.str u) (cutV (List.map V.str (w0 :: w1 :: r)) (some 2) (some ((2 : Int) + (i : Nat)))) = true then _ else _
            rw [cut_2] at s5 ⊢
            rw [inV_strs]
            by_cases h3 : u ∈ r.take i
            · refine if_true_of (decide_eq_true h3) ?_
              exact ⟨_, rfl, bad (fun z => z.2 h3) (sA.trans s5)⟩
            · refine if_false_of (decide_eq_false h3) ?_
              refine ⟨_, _, _, rfl, sA.trans s5, ?_⟩
              rw [hb, hdrop, take_next hu]
              show Option.map (· + i) (if isPr u = true ∧ u ∉ r.take i then (badAt (r.take i ++ [u]) (r.drop (i + 1))).map (· + 1) else some 0) = _
              rw [if_pos ⟨hpr, h3⟩, Option.map_map]
              refine congrArg (fun g => Option.map g _) ?_
              funext x
              show x + 1 + i = x + (i + 1)
              omega
          · refine if_true_of (by rw [decide_eq_false h2]; rfl) ?_
            rw [decide_eq_false h2] at hpr
            exact ⟨_, rfl, bad (fun z => by rw [hpr] at z; cases z.1) sA⟩
        · refine if_true_of ?_ ⟨_, rfl, bad (fun z => by rw [hpr, decide_eq_false h1] at z; cases z.1) sG⟩
          rw [decide_eq_false (fun z => h1 (by have z := V.int.inj z; omega))]
          rfl
      · obtain ⟨v1, v2, v3, rfl, sG, hb⟩ := h
        have q := k G sG
        rw [eN, List.drop_length] at hb
        rw [eF, hb] at q
        exact q
end
end K88

set_option maxHeartbeats 8000000
/-! ## 21. Bent words -/
namespace K88
open PySem PySem.Spec PyProof.Rows L2
open LamX (CodeO TabS Tabs ExtN TabB lamEnv)
/-- a word without blanks, of at most m signs -/
def okW (m : Nat) (t : Str) : Bool := decide (t.length ≤ m) && (t.cps.all (· < 0x110000) && !decide (32 ∈ t.cps.toList))
theorem okW.len {m : Nat} {t : Str} (h : okW m t = true) : t.length ≤ m := by
  unfold okW at h
  rw [Bool.and_eq_true, decide_eq_true_eq] at h
  exact h.1
theorem okW.s {m : Nat} {t : Str} (h : okW m t = true) : okS t := by
  unfold okW at h
  rw [Bool.and_eq_true, Bool.and_eq_true] at h
  exact h.2.1
theorem okW.blank {m : Nat} {t : Str} (h : okW m t = true) : 32 ∉ t.cps.toList := by
  unfold okW at h
  rw [Bool.and_eq_true, Bool.and_eq_true] at h
  intro z
  have := h.2.2
  rw [decide_eq_true z] at this
  cases this
theorem okW.mk {m : Nat} {t : Str} (h1 : t.length ≤ m) (h2 : ∀ c ∈ t.cps.toList, c < 0x110000) (h3 : 32 ∉ t.cps.toList) : okW m t = true := by
  unfold okW
  rw [Bool.and_eq_true, Bool.and_eq_true, decide_eq_true_eq]
  refine ⟨h1, ?_, by rw [decide_eq_false h3]; rfl⟩
  exact okS_of h2
theorem okS.codes {t : Str} (h : okS t) : ∀ c ∈ t.cps.toList, c < 0x110000 := fun c hc => by
  unfold okS at h
  rw [← Array.all_toList, List.all_eq_true] at h
  exact of_decide_eq_true (h c hc)
theorem okW.mono {m n : Nat} {t : Str} (h : okW m t = true) (e : m ≤ n) : okW n t = true := okW.mk (Nat.le_trans (okW.len h) e) (okS.codes (okW.s h)) (okW.blank h)
theorem okW_a {m : Nat} {t : Str} (h : okW m t = true) : okW (m + 1) (t ++ "a") = true := by
  have e : (t ++ "a").cps.toList = t.cps.toList ++ [97] := by
    have z := TL.tl_append t "a"
    exact z
  refine okW.mk ?_ (fun c hc => ?_) (fun hc => ?_)
  · have e2 : (t ++ "a").length = t.length + 1 := by
      show (t ++ "a").cps.size = t.cps.size + 1
      rw [← Array.length_toList, e, List.length_append, Array.length_toList]
      rfl
    rw [e2]
    exact Nat.succ_le_succ (okW.len h)
  · rw [e] at hc
    rcases List.mem_append.mp hc with hc | hc
    · exact okS.codes (okW.s h) c hc
    · have z : c = 97 := by simpa using hc
      omega
  · rw [e] at hc
    rcases List.mem_append.mp hc with hc | hc
    · exact okW.blank h hc
    · have z : 32 = 97 := by simpa using hc
      omega
theorem okW_cut {m : Nat} {t : Str} (lo hi : Option Int) (h : okW m t = true) : okW m (cutS t lo hi) = true := by
  have hm : ∀ c ∈ (cutS t lo hi).cps.toList, c ∈ t.cps.toList := fun c hc => List.mem_of_mem_drop (List.mem_of_mem_take hc)
  refine okW.mk ?_ (fun c hc => okS.codes (okW.s h) c (hm c hc)) (fun hc => okW.blank h (hm _ hc))
  refine Nat.le_trans ?_ (okW.len h)
  show (cutS t lo hi).cps.size ≤ t.cps.size
  unfold cutS
  rw [← Array.length_toList, ← Array.length_toList, List.length_take, List.length_drop]
  omega
/-- a part of a list -/
def cutL (ws : List Str) (lo hi : Option Int) : List Str := (ws.drop (HT.sIx ws.length 0 lo)).take (HT.sIx ws.length ws.length hi - HT.sIx ws.length 0 lo)
theorem cut_map (ws : List Str) (lo hi : Option Int) : cutV (ws.map V.str) lo hi = (cutL ws lo hi).map V.str := by
  unfold cutV cutL
  rw [List.length_map, List.map_take, List.map_drop]
theorem cut_mem {ws : List Str} {lo hi : Option Int} {t : Str} (h : t ∈ cutL ws lo hi) : t ∈ ws := List.mem_of_mem_drop (List.mem_of_mem_take h)
theorem cut_len (ws : List Str) (lo hi : Option Int) : (cutL ws lo hi).length ≤ ws.length := by
  unfold cutL
  rw [List.length_take, List.length_drop]
  omega
section
variable {P : Program} {w : World} {K : PySem.W.Frag} {mg : Str → Option Value} {base : Heap} {a : Ad}
def sp_bent : Sp := fun vs H Q _ => ∃ (p l q : Addr) (n : Nat) (ws : List Str), vs = [.ref p, .ref q] ∧ n ≤ 50000 ∧ PenAt H p l n ∧ H q = some (.lst (ws.map V.str)) ∧ ws ≠ [] ∧ ws.length ≤ 100 ∧ (∀ t ∈ ws, okW 10 t = true) ∧
  ∀ (H' : Hp) (b : Addr) (bs : List Str), SameB p H H' → PenAt H' p l (n + 3) → H' b = some (.lst (bs.map V.str)) → bs.length ≤ 3 * ws.length + 1 → (∀ t ∈ bs, okW 11 t = true) → Q (.ref b) H'
theorem ok__law_bent (T : Txt K mg a) : CalX P w K mg base CX0 3 "_law_bent" sp_bent [] := by
  refine ⟨_, _, _, _, T.g__law_bent, T.F__law_bent.kp, T.F__law_bent.ok sc__law_bent (fun vs H Q E h => ?_) (fun cdv A outer s H vs Q E hr h => ?_), T.b__law_bent, .nil⟩
  · obtain ⟨p, l, q, n, ws, rfl, _⟩ := h
    rfl
  · obtain ⟨p, l, q, n, ws, rfl, hn, hp, hq, hne, hlen, hw, k⟩ := h
    refine ⟨_, (pss_cons (ps_par (i := 2) (j := 3) (by rfl) sc__law_bent.nd rfl rfl (by decide) rfl rfl (pa_cons (pe_cx (ok__law_draw T) hr (by decide) pass0 (by rfl) (pa_cons (pv 0) (pa_cons (pe_callB call_len_seq (by rfl) T.n_len (by decide +kernel) (pa_cons (pv 1) pa_nil)) pa_nil))) (pa_cons (pe_cx (ok__law_draw T) hr (by decide) pass0 (by rfl) (pa_cons (pv 0) (pa_cons pe_int pa_nil))) pa_nil)) (by rfl))
          (pss_cons (ps_set (i := 4) sc__law_bent.nd rfl (by first | exact Or.inl rfl | exact Or.inr rfl) (pe_cx (ok__law_pick T) hr (by decide) pass0 (by rfl) (pa_cons (pv 0) (pa_cons (pe_lst (pa_cons pe_str (pa_cons pe_str (pa_cons pe_str (pa_cons pe_str (pa_cons pe_str (pa_cons pe_str (pa_cons pe_str (pa_cons pe_str (pa_cons pe_str (pa_cons pe_str (pa_cons pe_str (pa_cons (pe_op op_add_str (pe_ix (show IxR _ (rIxL K) from ix_list) (pv 1) (pv 2) (fun _ _ => rfl)) pe_str) (pa_cons (pe_slice sl_str (pe_ix (show IxR _ (rIxL K) from ix_list) (pv 1) (pv 2) (fun _ _ => rfl)) (po_some pe_int) po_none) (pa_cons pe_str pa_nil))))))))))))))) pa_nil))))
          (pss_cons (ps_if (pt_cmpR op_eq (pv 3) pe_int (nomark _))
            (pss_one (ps_ret (pe_op op_cat (pe_slice sl_list (pv 1) po_none (po_some (pv 2))) (pe_slice sl_list (pv 1) (po_some (pe_op op_add (pv 2) pe_int)) po_none))))
            pss_nil)
          (pss_cons (ps_if (pt_cmpR op_lt (pv 3) pe_int (nomark _))
            (pss_one (ps_ret (pe_op op_cat (pe_op op_cat (pe_slice sl_list (pv 1) po_none (po_some (pv 2))) (pe_lst (pa_cons (pv 4) pa_nil))) (pe_slice sl_list (pv 1) (po_some (pe_op op_sub (pe_op op_add (pv 2) (pv 3)) pe_int)) po_none))))
            pss_nil)
          (pss_one (ps_ret (pe_ifExp (pt_cmpR op_eq (pv 3) pe_int (nomark _)) (pe_op op_cat (pe_op op_cat (pe_slice sl_list (pv 1) po_none (po_some (pv 2))) (pe_slice sl_list (pv 1) (po_some (pv 2)) (po_some (pe_op op_add (pv 2) pe_int)))) (pe_slice sl_list (pv 1) (po_some (pv 2)) po_none)) (pe_ifExp (pt_cmpR op_eq (pv 3) pe_int (nomark _)) (pe_revL (pv 1)) (pv 1))))))))), ?_⟩
    have hqp := hp.off hq
    have hpos : 0 < ws.length := List.length_pos_iff.mpr hne
    have cs : CMul 0 0 := .inl (by decide)
    refine ⟨_, rfl, _, rfl, q, _, rfl, .inl (SqL.of hq), p, l, _, n, rfl, by rw [List.length_map]; omega, by rw [List.length_map]; omega, by omega, hp, fun H1 d b1 p1 hd => ?_⟩
    rw [List.length_map] at hd
    have hd2 : d < ws.length := by omega
    refine ⟨_, rfl, p, l, 6, n + 1, rfl, by omega, by omega, by omega, p1, fun H2 way b2 p2 hway => ⟨_, _, rfl, ?_⟩⟩
    have hq2 := b2 _ _ hqp (b1 _ _ hqp hq)
    have hu : ws[d]? = some (ws[d]'hd2) := List.getElem?_eq_getElem hd2
    obtain ⟨u, eu⟩ : ∃ u, u = ws[d]'hd2 := ⟨_, rfl⟩
    rw [← eu] at hu
    have ou := hw u (List.mem_of_getElem? hu)
    have hat : atI (ws.map V.str) (d : Int) = some (.str u) := atI_nat (by rw [List.getElem?_map, hu]; rfl)
    -- odd
    refine ⟨_, rfl, _, rfl, _, rfl, q, _, _, _, rfl, rfl, SqL.of hq2, hat, _, _, rfl, rfl, ?_, ?_⟩
    · have := okW.len ou
      show u.length + 1 ≤ sizeLine
      rw [sizeLine_eq]
      omega
    refine ⟨_, rfl, _, rfl, q, _, _, _, rfl, rfl, SqL.of hq2, hat, 1, rfl, u, rfl, size1 (by have := okW.len ou; omega), by show 14 ≤ sizeLine; rw [sizeLine_eq]; decide, fun o no => ?_⟩
    obtain ⟨xs, exs⟩ : ∃ xs : List V, xs = [.str "", .str "-", .str "a", .str "ab", .str "aa", .str "aab", .str "A", .str "a-", .str "1", .str "ab\n", .str "abc", .str (u ++ "a"), .str (cutS u (some 1) none), .str "--"] := ⟨_, rfl⟩
    have s3 : Same H2 (upd H2 o (.lst xs)) := same_upd no
    have hall : ∀ x ∈ xs, ∃ t, x = .str t ∧ okW 11 t = true := by
      rw [exs]
      refine List.forall_mem_cons.mpr ⟨⟨_, rfl, by decide +kernel⟩, ?_⟩
      refine List.forall_mem_cons.mpr ⟨⟨_, rfl, by decide +kernel⟩, ?_⟩
      refine List.forall_mem_cons.mpr ⟨⟨_, rfl, by decide +kernel⟩, ?_⟩
      refine List.forall_mem_cons.mpr ⟨⟨_, rfl, by decide +kernel⟩, ?_⟩
      refine List.forall_mem_cons.mpr ⟨⟨_, rfl, by decide +kernel⟩, ?_⟩
      refine List.forall_mem_cons.mpr ⟨⟨_, rfl, by decide +kernel⟩, ?_⟩
      refine List.forall_mem_cons.mpr ⟨⟨_, rfl, by decide +kernel⟩, ?_⟩
      refine List.forall_mem_cons.mpr ⟨⟨_, rfl, by decide +kernel⟩, ?_⟩
      refine List.forall_mem_cons.mpr ⟨⟨_, rfl, by decide +kernel⟩, ?_⟩
      refine List.forall_mem_cons.mpr ⟨⟨_, rfl, by decide +kernel⟩, ?_⟩
      refine List.forall_mem_cons.mpr ⟨⟨_, rfl, by decide +kernel⟩, ?_⟩
      refine List.forall_mem_cons.mpr ⟨⟨_, rfl, okW_a ou⟩, ?_⟩
      refine List.forall_mem_cons.mpr ⟨⟨_, rfl, okW.mono (okW_cut _ _ ou) (by decide)⟩, ?_⟩
      refine List.forall_mem_cons.mpr ⟨⟨_, rfl, by decide +kernel⟩, ?_⟩
      exact fun x hx => (by cases hx)
    have hxl : xs.length = 14 := by rw [exs]; rfl
    refine ⟨p, l, o, n + 2, xs, rfl, by omega, p2.same (by rw [exs] at s3; exact s3), by rw [exs]; exact upd_same, fun z => p2.some1 (by rw [← z]; exact no), fun z => (by rw [z] at hxl; cases hxl), by omega, fun H4 x b4 p4 hx => ?_⟩
    obtain ⟨od, rfl, ood⟩ := hall x hx
    have hq4 : H4 q = some (.lst (ws.map V.str)) := b4 _ _ hqp (by rw [exs] at s3; exact s3 _ _ hq2)
    have bA : SameB p H H4 := b1.trans (b2.trans ((Same.b (by rw [exs] at s3; exact s3)).trans b4))
    have fin : ∀ {G : Hp} {b : Addr} {bs : List Str}, Same H4 G → G b = some (.lst (bs.map V.str)) → bs.length ≤ 3 * ws.length + 1 → (∀ t ∈ bs, t ∈ ws ∨ t = od) → Q (.ref b) G := fun {G b bs} sG hb hl hm => k G b bs (bA.trans (Same.b sG)) (p4.same sG) hb hl fun t ht => (hm t ht).elim (fun z => okW.mono (hw t z) (by decide)) fun z => z ▸ ood
    clear s3 hall exs hx
    refine ⟨_, rfl, rfl, _, rfl, ?_⟩
    by_cases w0 : way = 0
    · refine if_true_of (decide_eq_true (by rw [w0]; rfl)) ?_
      refine ⟨_, rfl, _, rfl, _, rfl, q, _, rfl, SqL.of hq4, fun y1 n1 => ?_⟩
      rw [cut_map]
      have s1 := same_upd (o := HO.lst ((cutL ws none (some (d : Int))).map V.str)) n1
      refine ⟨_, rfl, _, rfl, _, _, rfl, rfl, _, rfl, q, _, rfl, SqL.of (s1 _ _ hq4), fun y2 n2 => ?_⟩
      rw [cut_map]
      have s2 := same_upd (o := HO.lst ((cutL ws (some ((d : Int) + 1)) none).map V.str)) n2
      have l1 := cut_len ws none (some (d : Int))
      have l2 := cut_len ws (some ((d : Int) + 1)) none
      refine ⟨y1, y2, _, _, rfl, rfl, s2 _ _ upd_same, upd_same, by rw [List.length_map, List.length_map, sizeLine_eq]; omega, fun b nb => ?_⟩
      refine fin (bs := cutL ws none (some (d : Int)) ++ cutL ws (some ((d : Int) + 1)) none) (s1.trans (s2.trans (same_upd nb))) (by rw [upd_same, List.map_append]) (by rw [List.length_append]; omega) fun t ht => .inl ((List.mem_append.mp ht).elim cut_mem cut_mem)
    refine if_false_of (decide_eq_false fun z => w0 (by have z := V.int.inj z; omega)) ?_
    refine ⟨_, rfl, _, _, rfl, rfl, _, rfl, ?_⟩
    by_cases w1 : way < 3
    · refine if_true_of (decide_eq_true (by omega)) ?_
      refine ⟨_, rfl, _, rfl, _, rfl, q, _, rfl, SqL.of hq4, fun y1 n1 => ?_⟩
      rw [cut_map]
      have s1 := same_upd (o := HO.lst ((cutL ws none (some (d : Int))).map V.str)) n1
      refine ⟨_, rfl, by show 1 ≤ sizeLine; rw [sizeLine_eq]; decide, fun y2 n2 => ?_⟩
      have s2 := same_upd (o := HO.lst ([od].map V.str)) n2
      have l1 := cut_len ws none (some (d : Int))
      refine ⟨y1, y2, _, _, rfl, rfl, s2 _ _ upd_same, upd_same, by show ((cutL ws none (some (d : Int))).map V.str).length + 1 ≤ sizeLine; rw [List.length_map, sizeLine_eq]; omega, fun y3 n3 => ?_⟩
      have s3 := same_upd (o := HO.lst ((cutL ws none (some (d : Int))).map V.str ++ [V.str od])) n3
      have s123 := s1.trans (s2.trans s3)
      refine ⟨_, rfl, _, rfl, _, rfl, _, _, rfl, rfl, _, _, rfl, rfl, _, rfl, q, _, rfl, SqL.of (s123 _ _ hq4), fun y4 n4 => ?_⟩
      rw [cut_map]
      obtain ⟨lo, elo⟩ : ∃ lo : Option Int, lo = some ((d : Int) + (way : Int) - 1) := ⟨_, rfl⟩
      rw [← elo]
      have s4 := same_upd (o := HO.lst ((cutL ws lo none).map V.str)) n4
      have l2 := cut_len ws lo none
      refine ⟨y3, y4, _, _, rfl, rfl, s4 _ _ upd_same, upd_same, ?_, fun b nb => ?_⟩
      · rw [List.length_append, List.length_map, List.length_map, sizeLine_eq]
        simp only [List.length_cons, List.length_nil]
        omega
      refine fin (bs := cutL ws none (some (d : Int)) ++ [od] ++ cutL ws lo none) (s123.trans (s4.trans (same_upd nb))) (by rw [upd_same, List.map_append, List.map_append]; rfl) (by rw [List.length_append, List.length_append]; simp only [List.length_cons, List.length_nil]; omega) fun t ht => ?_
      rcases List.mem_append.mp ht with ht | ht
      · rcases List.mem_append.mp ht with ht | ht
        · exact .inl (cut_mem ht)
        · exact .inr (by simpa using ht)
      · exact .inl (cut_mem ht)
    refine if_false_of (decide_eq_false (by omega)) ?_
    refine ⟨_, rfl, rfl, _, rfl, ?_⟩
    by_cases w3 : way = 3
    · refine if_true_of (decide_eq_true (by rw [w3]; rfl)) ?_
      refine ⟨_, rfl, _, rfl, _, rfl, q, _, rfl, SqL.of hq4, fun y1 n1 => ?_⟩
      rw [cut_map]
      have s1 := same_upd (o := HO.lst ((cutL ws none (some (d : Int))).map V.str)) n1
      refine ⟨_, rfl, _, rfl, _, rfl, _, rfl, _, _, rfl, rfl, _, rfl, q, _, rfl, SqL.of (s1 _ _ hq4), fun y2 n2 => ?_⟩
      rw [cut_map]
      have s2 := same_upd (o := HO.lst ((cutL ws (some (d : Int)) (some ((d : Int) + 1))).map V.str)) n2
      have l1 := cut_len ws none (some (d : Int))
      have l2 := cut_len ws (some (d : Int)) (some ((d : Int) + 1))
      refine ⟨y1, y2, _, _, rfl, rfl, s2 _ _ upd_same, upd_same, by rw [List.length_map, List.length_map, sizeLine_eq]; omega, fun y3 n3 => ?_⟩
      have s3 := same_upd (o := HO.lst ((cutL ws none (some (d : Int))).map V.str ++ (cutL ws (some (d : Int)) (some ((d : Int) + 1))).map V.str)) n3
      have s123 := s1.trans (s2.trans s3)
      refine ⟨_, rfl, _, rfl, _, rfl, q, _, rfl, SqL.of (s123 _ _ hq4), fun y4 n4 => ?_⟩
      rw [cut_map]
      have s4 := same_upd (o := HO.lst ((cutL ws (some (d : Int)) none).map V.str)) n4
      have l3 := cut_len ws (some (d : Int)) none
      refine ⟨y3, y4, _, _, rfl, rfl, s4 _ _ upd_same, upd_same, by rw [List.length_append, List.length_map, List.length_map, List.length_map, sizeLine_eq]; omega, fun b nb => ?_⟩
      refine fin (bs := cutL ws none (some (d : Int)) ++ cutL ws (some (d : Int)) (some ((d : Int) + 1)) ++ cutL ws (some (d : Int)) none) (s123.trans (s4.trans (same_upd nb))) (by rw [upd_same, List.map_append, List.map_append]) (by rw [List.length_append, List.length_append]; omega) fun t ht => .inl ?_
      rcases List.mem_append.mp ht with ht | ht
      · exact (List.mem_append.mp ht).elim cut_mem cut_mem
      · exact cut_mem ht
    refine if_false_of (decide_eq_false fun z => w3 (by have z := V.int.inj z; omega)) ?_
    refine ⟨_, rfl, rfl, _, rfl, ?_⟩
    by_cases w4 : way = 4
    · refine if_true_of (decide_eq_true (by rw [w4]; rfl)) ?_
      refine ⟨_, rfl, q, _, rfl, SqL.of hq4, fun b nb => ?_⟩
      refine fin (bs := ws.reverse) (same_upd nb) (by rw [upd_same, List.map_reverse]) (by rw [List.length_reverse]; omega) fun t ht => .inl (List.mem_reverse.mp ht)
    refine if_false_of (decide_eq_false fun z => w4 (by have z := V.int.inj z; omega)) ?_
    exact ⟨_, rfl, fin (Same.refl _) hq4 (by omega) fun t ht => .inl ht⟩
end
end K88

set_option maxHeartbeats 8000000
/-! ## 22. What the law reads -/
namespace K88
open PySem PySem.Spec PyProof.Rows L2
open LamX (CodeO TabS Tabs ExtN TabB lamEnv)
section
variable {P : Program} {w : World} {K : PySem.W.Frag} {mg : Str → Option Value} {base : Heap} {a : Ad}
/-- the pair (0, i) -/
def PairQ (a : Ad) (H : Hp) (Q : VK) (i : Int) : Prop := ∀ (H' : Hp) (tp : Addr), ExtN H H' → Tabs (TT a) H' → H' tp = some (.tup [.int 0, .int i]) → Q (.ref tp) H'
def sp_law_read (a : Ad) (K : PySem.W.Frag) : Sp := fun vs H Q _ => ∃ v : V, vs = [v] ∧ Tabs (TT a) H ∧ ((∃ t : Str, v = .str t ∧ t ≠ "" ∧ t.length ≤ 1000000 ∧ (∀ x ∈ Txt.split t " ", x.length ≤ 1000000) ∧ (Txt.split t " ").length ≤ 60 ∧
    (∀ i : Nat, faultOf (Txt.split t " ") = some i → PairQ a H Q i) ∧
    (∀ w0 w1 r r0 r1, Txt.split t " " = w0 :: w1 :: r → rowOf w0 = some r0 → rowOf w1 = some r1 → badAt [] r = none → ∀ (x q1 q2 q3 : Addr) (F' Ps' L' : List Str) (H' : Hp), ExtN H H' → Tabs (TT a) H' → SortOf F' r0 → SortOf Ps' r → SortOf L' r1 →
      H' x = some (.lst [.ref q1, .ref q2, .ref q3]) → H' q1 = some (.tup (F'.map V.str)) → H' q2 = some (.tup (Ps'.map V.str)) → H' q3 = some (.tup (L'.map V.str)) → Q (.ref x) H')) ∨
  ((v = .str "" ∨ NoText K H v) ∧ PairQ a H Q 0))
theorem ok__law_read (T : Txt K mg a) (B : Tb base mg a) : CalX P w K mg base CX0 10 "_law_read" (sp_law_read a K) [] := by
  refine ⟨_, _, _, _, T.g__law_read, T.F__law_read.kp, T.F__law_read.ok sc__law_read (fun vs H Q E h => ?_) (fun cdv A outer s H vs Q E hr h => ?_), T.b__law_read, .nil⟩
  · obtain ⟨v, rfl, _⟩ := h
    rfl
  · obtain ⟨v, rfl, hT, h⟩ := h
    refine ⟨_, (pss_cons (ps_try_as (i := 2) (Wout := fun _ _ _ _ => False) rfl rfl sc__law_read.nd rfl rfl ⟨rfl, by decide, Or.inl T.g_InvalidText⟩ takes0 (fun W pn xe tk _ => pss_one (ps_set (i := 1) sc__law_read.nd rfl (Or.inl rfl) (by exact (pe_callS (fn_read_manner T B) hr rfl T.g_read_manner T.F_read_manner.kp T.b_read_manner (fun σ => passAt tk σ) (by exact (pa_cons (pv 0) pa_nil)))))) (fun a0 oe cls d pn hz hf => pss_one (ps_ret (pe_tup (pa_cons (pe_xf T.xf T.no_line hz hf (pv 2)) (pa_cons (pe_xf T.xf T.no_word hz hf (pv 2)) pa_nil))))))
          (pss_one (ps_ret (pe_lst (pa_cons (pe_fldK (K := K) rfl (pv 1) rfl) (pa_cons (pe_fldK (K := K) rfl (pv 1) rfl) (pa_cons (pe_fldK (K := K) rfl (pv 1) rfl) pa_nil))))))), ?_⟩
    refine ⟨_, rfl, v, rfl, hT, ?_⟩
    rcases h with ⟨t, rfl, h1, h2, h3, h4, h5, h6⟩ | ⟨hv, hp⟩
    · refine .inl ⟨t, rfl, h1, h2, h3, h4, fun i hi d H' eN T' er => ?_, fun w0 w1 r r0 r1 e0 e1 e2 e3 s2 F' Ps' L' H' eN T' so0 so1 so2 hM => ?_⟩
      · obtain ⟨fs, ed, l1, l2⟩ := er
        refine ⟨true, T.te, fun _ a0 na => ?_, fun q => Bool.noConfusion q⟩
        refine ⟨_, rfl, rfl, rfl, d, fs, _, rfl, ed, l1, _, rfl, rfl, rfl, d, fs, _, rfl, ed, l2, by show 2 ≤ sizeLine; rw [sizeLine_eq]; decide, fun tp nt => ?_⟩
        have s := same_upd (o := HO.tup [V.int 0, V.int i]) nt
        exact h5 i hi _ tp (eN.trans (ExtN.of s)) (Tabs.same T' s) upd_same
      · obtain ⟨dx, q1, q2, q3, x4, x5, x6, x7, g0, g1, g2, g3⟩ := hM
        refine ⟨_, rfl, s2, _, dx, _, _, rfl, g0, T.cl_Manner, T.no_Manner_firsts, lkM.1, _, rfl, s2, _, dx, _, _, rfl, g0, T.cl_Manner, T.no_Manner_follows, lkM.2.1, _, rfl, s2, _, dx, _, _, rfl, g0, T.cl_Manner, T.no_Manner_lasts, lkM.2.2, by show 3 ≤ sizeLine; rw [sizeLine_eq]; decide, fun x nx => ?_⟩
        have s := same_upd (o := HO.lst [V.ref q1, V.ref q2, V.ref q3]) nx
        exact h6 w0 w1 r r0 r1 e0 e1 e2 e3 x q1 q2 q3 F' Ps' L' _ (eN.trans (ExtN.of s)) (Tabs.same T' s) so0 so1 so2 upd_same (s _ _ g1) (s _ _ g2) (s _ _ g3)
    · refine .inr ⟨hv, fun d H' eN T' er => ?_⟩
      obtain ⟨fs, ed, l1, l2⟩ := er
      refine ⟨true, T.te, fun _ a0 na => ?_, fun q => Bool.noConfusion q⟩
      refine ⟨_, rfl, rfl, rfl, d, fs, _, rfl, ed, l1, _, rfl, rfl, rfl, d, fs, _, rfl, ed, l2, by show 2 ≤ sizeLine; rw [sizeLine_eq]; decide, fun tp nt => ?_⟩
      have s := same_upd (o := HO.tup [V.int 0, V.int 0]) nt
      exact hp _ tp (eN.trans (ExtN.of s)) (Tabs.same T' s) upd_same
end
end K88

set_option maxHeartbeats 8000000
/-! ## 23. The plain law: sorted once is sorted; words joined and split -/
namespace K88
open PySem PySem.Spec PyProof.Rows L2
open LamX (CodeO TabS Tabs ExtN TabB lamEnv)
def leS (a b : Str) : Prop := a.cps.toList ≤ b.cps.toList
theorem rising_pair : ∀ (l : List Str) (p : Str), risingS p l = true → (p :: l).Pairwise leS
  | [], p, _ => List.pairwise_singleton _ _
  | x :: r, p, h => by
    have h1 : (!ltCps x.cps.toList p.cps.toList && risingS x r) = true := h
    rw [Bool.and_eq_true, ltCps_eq] at h1
    have ih := rising_pair r x h1.2
    have hpx : leS p x := by
      refine List.not_lt.mp fun z => ?_
      have := h1.1
      rw [decide_eq_true z] at this
      cases this
    refine List.pairwise_cons.mpr ⟨fun y hy => ?_, ih⟩
    rcases List.mem_cons.mp hy with rfl | hy
    · exact hpx
    · exact List.le_trans hpx ((List.pairwise_cons.mp ih).1 y hy)
theorem sorted_pair {l : List Str} (h : sortedS l = true) : l.Pairwise leS := by
  cases l with
  | nil => exact List.Pairwise.nil
  | cons x r => exact rising_pair r x h
theorem str_ext {a b : Str} (h : a.cps.toList = b.cps.toList) : a = b := by
  obtain ⟨⟨a⟩⟩ := a
  obtain ⟨⟨b⟩⟩ := b
  cases h
  rfl
theorem sort_unique {ys zs : List Str} (p : ys.Perm zs) (h1 : sortedS ys = true) (h2 : sortedS zs = true) : ys = zs :=
  List.Perm.eq_of_pairwise (le := leS) (fun a b _ _ x y => str_ext (List.le_antisymm x y)) (sorted_pair h1) (sorted_pair h2) p
theorem SortOf.perm {ys xs : List Str} (h : SortOf ys xs) (nd : xs.Nodup) : ys.Perm xs :=
  (List.perm_ext_iff_of_nodup h.nodup nd).mpr fun t => h.mem
theorem SortOf.unique {ys zs xs : List Str} (h : SortOf ys xs) (nd : xs.Nodup) (p : zs.Perm xs) (s : sortedS zs = true) : ys = zs := sort_unique ((h.perm nd).trans p.symm) h.2 s
theorem SortOf.self {ys xs : List Str} (h : SortOf ys xs) (hs : sortedS xs = true) (nd : xs.Nodup) : ys = xs := h.unique nd (List.Perm.refl _) hs
/-! ### words of letters -/
theorem codesF : ∀ {F : List Str}, (∀ t ∈ F, isLet t = true) → ∃ cs : List Nat, F = cs.map (fun c => (⟨#[c]⟩ : Str)) ∧ ∀ c ∈ cs, letc c = true
  | [], _ => ⟨[], rfl, fun c h => by cases h⟩
  | t :: F, h => by
    obtain ⟨cs, e, hc⟩ := codesF fun t ht => h t (List.mem_cons_of_mem _ ht)
    obtain ⟨c, rfl, h1⟩ := let_shape (h t List.mem_cons_self)
    refine ⟨c :: cs, by rw [e]; rfl, fun d hd => ?_⟩
    rcases List.mem_cons.mp hd with rfl | hd
    · exact h1
    · exact hc d hd
theorem joinL_one : ∀ cs : List Nat, TL.joinL [] (cs.map fun c => [c]) = cs
  | [] => rfl
  | [c] => rfl
  | c :: d :: r => by
    show [c] ++ ([] ++ TL.joinL [] ((d :: r).map fun c => [c])) = _
    rw [joinL_one (d :: r)]
    rfl
theorem join_codes (cs : List Nat) : Txt.join "" (cs.map fun c => (⟨#[c]⟩ : Str)) = ⟨cs.toArray⟩ := by
  have e := SX.join_S [] (cs.map fun c => [c])
  rw [joinL_one, List.map_map] at e
  exact e
theorem signs_join {F : List Str} (h : ∀ t ∈ F, isLet t = true) : signs (Txt.join "" F) = F := by
  obtain ⟨cs, e, _⟩ := codesF h
  rw [e, join_codes]
  rfl
theorem row_word {F : List Str} (nd : F.Nodup) (h : ∀ t ∈ F, isLet t = true) : rowOf (wordOf F) = some F := by
  unfold wordOf
  by_cases e : F = []
  · rw [if_pos e, e]; rfl
  · rw [if_neg e]
    unfold rowOf
    have sj := signs_join h
    have n1 : ¬ Txt.join "" F = "-" := fun z => by
      rw [z] at sj
      have q : isLet "-" = true := h "-" (by rw [← sj]; exact List.mem_singleton.mpr rfl)
      exact absurd q (by decide)
    have n2 : ¬ (Txt.join "" F = "" ∨ (signs (Txt.join "" F)).all isLet = false) := by
      rintro (z | z)
      · rw [signs_nil.mpr z] at sj
        exact e sj.symm
      · rw [sj, List.all_eq_true.mpr h] at z
        cases z
    rw [if_neg n1, if_neg n2, sj, if_pos nd]
theorem sum_let : ∀ {F : List Str}, (∀ t ∈ F, isLet t = true) → sumLen F = F.length
  | [], _ => rfl
  | t :: F, h => by
    obtain ⟨c, rfl, _⟩ := let_shape (h t List.mem_cons_self)
    show 1 + sumLen F = F.length + 1
    rw [sum_let fun t ht => h t (List.mem_cons_of_mem _ ht)]
    omega
theorem okW_word {F : List Str} (h : ∀ t ∈ F, isLet t = true) (hl : F.length ≤ 10) : okW 10 (wordOf F) = true := by
  unfold wordOf
  by_cases e : F = []
  · rw [if_pos e]; decide +kernel
  · rw [if_neg e]
    obtain ⟨cs, e2, hc⟩ := codesF h
    have hcl : cs.length = F.length := by rw [e2, List.length_map]
    rw [e2, join_codes]
    have hb : ∀ c ∈ cs, 97 ≤ c ∧ c ≤ 122 := fun c hc' => of_decide_eq_true (hc c hc')
    refine okW.mk (by show cs.toArray.size ≤ 10; rw [List.size_toArray]; omega) (fun c hc => ?_) (fun hc => ?_)
    · have := hb c hc
      omega
    · have := hb 32 hc
      omega
theorem okW_pr {t : Str} (h : isPr t = true) : okW 10 t = true := by
  obtain ⟨c, d, rfl, hc, hd⟩ := pr_shape h
  have h1 := of_decide_eq_true hc
  have h2 := of_decide_eq_true hd
  refine okW.mk (by show 2 ≤ 10; decide) (fun z hz => ?_) (fun hz => ?_)
  · have e : z = c ∨ z = d := by simpa using hz
    omega
  · have e : 32 = c ∨ 32 = d := by simpa using hz
    omega
theorem bad_none : ∀ {r seen : List Str}, r.Nodup → (∀ t ∈ r, isPr t = true) → (∀ t ∈ r, t ∉ seen) → badAt seen r = none
  | [], _, _, _, _ => rfl
  | w :: r, seen, nd, h1, h2 => by
    rw [List.nodup_cons] at nd
    unfold badAt
    rw [if_pos ⟨h1 w List.mem_cons_self, h2 w List.mem_cons_self⟩, bad_none nd.2 (fun t ht => h1 t (List.mem_cons_of_mem _ ht)) (fun t ht z => ?_)]
    · rfl
    · rcases List.mem_append.mp z with z | z
      · exact h2 t (List.mem_cons_of_mem _ ht) z
      · rw [List.mem_singleton] at z
        exact nd.1 (z ▸ ht)
/-! ### words joined, split -/
theorem map_tl_S : ∀ ws : List Str, (ws.map TL.tl).map SX.S = ws
  | [] => rfl
  | w :: ws => by
    show SX.S w.cps.toList :: (ws.map TL.tl).map SX.S = _
    rw [map_tl_S ws, SX.S_tl]
theorem split_join {ws : List Str} (ne : ws ≠ []) (h : ∀ t ∈ ws, 32 ∉ t.cps.toList) : Txt.split (Txt.join " " ws) " " = ws := by
  have e1 : (" " : Str) = SX.S [32] := rfl
  have e2 : Txt.join " " ws = SX.S (TL.joinL [32] (ws.map TL.tl)) := by
    have z := SX.join_S [32] (ws.map TL.tl)
    rw [map_tl_S] at z
    exact z
  rw [e2, e1, SX.split_S (by simp) (by decide), SX.spl_join (by simpa using ne) (fun p hp => ?_), map_tl_S]
  obtain ⟨t, ht, rfl⟩ := List.mem_map.mp hp
  exact h t ht
theorem joinL_len (ps : List (List Nat)) : (TL.joinL [32] ps).length ≤ (ps.map (·.length)).sum + ps.length := by
  induction ps with
  | nil => exact Nat.le_refl _
  | cons p r ih =>
    cases r with
    | nil => show p.length ≤ _; simp
    | cons q r =>
      show (p ++ ([32] ++ TL.joinL [32] (q :: r))).length ≤ _
      rw [List.length_append, List.length_append, List.map_cons, List.sum_cons, List.length_cons]
      simp only [List.length_cons, List.length_nil] at ih ⊢
      omega
theorem join_len (ws : List Str) : (Txt.join " " ws).length ≤ sumLen ws + ws.length := by
  have e2 : Txt.join " " ws = SX.S (TL.joinL [32] (ws.map TL.tl)) := by
    have z := SX.join_S [32] (ws.map TL.tl)
    rw [map_tl_S] at z
    exact z
  rw [e2, SX.S_len]
  have z := joinL_len (ws.map TL.tl)
  rw [List.map_map, List.length_map] at z
  exact z
theorem sum_le {ws : List Str} {m : Nat} (h : ∀ t ∈ ws, t.length ≤ m) : sumLen ws ≤ m * ws.length := by
  induction ws with
  | nil => exact Nat.zero_le _
  | cons w ws ih =>
    show w.length + sumLen ws ≤ m * (ws.length + 1)
    have h1 := h w List.mem_cons_self
    have h2 := ih fun t ht => h t (List.mem_cons_of_mem _ ht)
    rw [Nat.mul_succ]
    omega
theorem join_two {w0 w1 : Str} {r : List Str} (h : ∀ t ∈ w0 :: w1 :: r, 32 ∉ t.cps.toList) : Txt.join " " (w0 :: w1 :: r) ≠ "" := fun z => by
  have e := split_join (by simp) h
  rw [z] at e
  have e2 : Txt.split "" " " = [("" : Str)] := by decide +kernel
  rw [e2] at e
  cases e
theorem join_nil : Txt.join " " [] = "" := by decide +kernel
end K88

set_option maxHeartbeats 8000000
/-! ## 24. The law -/
namespace K88
open PySem PySem.Spec PyProof.Rows L2
open LamX (CodeO TabS Tabs ExtN TabB lamEnv)
theorem passX0 {X : Cx} : Passes (L2.CX X.prog X.w) X E0 := fun _ _ _ _ _ _ _ h => by
  obtain ⟨_, _, _, _, _, _, _, _, _, _, _, _, h⟩ := h
  exact False.elim h
def rTupOf (K : PySem.W.Frag) : List V → Hp → VK → Prop := fun xs H Q => ∃ p ys, xs = [.ref p] ∧ ((SqL K H p ys ∧ ∀ t, H t = none → Q (.ref t) (upd H t (.tup ys))) ∨ (SqT K H p ys ∧ Q (.ref p) H))
theorem call_listTh {X : Cx} (hh : X.A.handled = none) : CallR X (.type "list") (fun xs H Q => ∃ z : Str, xs = [.str z] ∧ z.length ≤ 1000000 ∧ ∀ p, H p = none → Q (.ref p) (upd H p (.lst ((signs z).map V.str)))) := by
  intro pins s σ H xs us Q I r h
  obtain ⟨z, e1, e2, q⟩ := h
  exact call_listT pins s σ H xs us Q I r ⟨z, e1, e2, hh, q⟩
section
variable {P : Program} {w : World} {K : PySem.W.Frag} {mg : Str → Option Value} {base : Heap} {a : Ad}
theorem ok_manner_text (T : Txt K mg a) : CalX P w K mg base CX0 1 "manner_text" (sp_manner_text a.c_Manner) [] := ⟨_, _, _, _, T.g_manner_text, T.F_manner_text.kp, fn_manner_text T, T.b_manner_text, .nil⟩
theorem ck_manner_text (T : Txt K mg a) : CalK P w K mg base CX0 1 "manner_text" ["manner"] (sp_manner_text a.c_Manner) := ⟨_, _, _, T.g_manner_text, T.F_manner_text.kp, fn_manner_text T, kb1 T.F_manner_text (fun _ _ _ _ _ _ _ => rfl)⟩
theorem ok_read_manner (T : Txt K mg a) (B : Tb base mg a) : CalX P w K mg base (L2.CX P w) 9 "read_manner" (sp_read_manner a K) [] := ⟨_, _, _, _, T.g_read_manner, T.F_read_manner.kp, fn_read_manner T B, T.b_read_manner, .nil⟩
theorem ck_read_manner (T : Txt K mg a) (B : Tb base mg a) : CalK P w K mg base (L2.CX P w) 9 "read_manner" ["text"] (sp_read_manner a K) := ⟨_, _, _, T.g_read_manner, T.F_read_manner.kp, fn_read_manner T B, kb1 T.F_read_manner (fun _ _ _ _ _ _ _ => rfl)⟩
/-- the tables stay where the pen moves -/
theorem tabs_pen {H H' : Hp} {p l : Addr} {n : Nat} (hp : PenAt H p l n) (t : Tabs (TT a) H) (e : SameB p H H') : Tabs (TT a) H' := by
  obtain ⟨ns, i, g, h1, _⟩ := hp
  exact Tabs.sameB t e (fun ps z => by rw [h1] at z; cases z) (fun c q z => by rw [h1] at z; cases z)
theorem manner_pen {C : Addr} {H H' : Hp} {p l s : Addr} {n : Nat} {F Ps L : List Str} (hp : PenAt H p l n) (h : MannerAt C H s F Ps L) (e : ExtB p H H') : MannerAt C H' s F Ps L := by
  obtain ⟨ns, i, g, h1, _⟩ := hp
  exact h.ext e (fun dx fs z => by rw [h1] at z; cases z) (fun xs z => by rw [h1] at z; cases z)
/-- the text of these parts, split -/
theorem text_facts {F Ps L : List Str} (ndP : Ps.Nodup) (lF : ∀ t ∈ F, isLet t = true) (pP : ∀ t ∈ Ps, isPr t = true) (lL : ∀ t ∈ L, isLet t = true) (zF : F.length ≤ 4) (zP : Ps.length ≤ 6) (zL : L.length ≤ 4) :
    Txt.split (textOf F Ps L) " " = wordOf F :: wordOf L :: Ps ∧ textOf F Ps L ≠ "" ∧ (textOf F Ps L).length ≤ 1000000 ∧ (∀ t ∈ wordOf F :: wordOf L :: Ps, okW 10 t = true) := by
  have hw : ∀ t ∈ wordOf F :: wordOf L :: Ps, okW 10 t = true := fun t ht => by
    rcases List.mem_cons.mp ht with rfl | ht
    · exact okW_word lF (by omega)
    rcases List.mem_cons.mp ht with rfl | ht
    · exact okW_word lL (by omega)
    exact okW_pr (pP t ht)
  have e : textOf F Ps L = Txt.join " " (wordOf F :: wordOf L :: Ps) := rfl
  refine ⟨?_, ?_, ?_, hw⟩
  · rw [e]
    exact split_join (by simp) fun t ht => okW.blank (hw t ht)
  · rw [e]
    exact join_two fun t ht => okW.blank (hw t ht)
  · have h1 := join_len (wordOf F :: wordOf L :: Ps)
    have h2 := sum_le (m := 10) fun t ht => okW.len (hw t ht)
    rw [← e] at h1
    simp only [List.length_cons] at h1 h2
    omega
theorem fault_none {F Ps L : List Str} (ndF : F.Nodup) (ndP : Ps.Nodup) (ndL : L.Nodup) (lF : ∀ t ∈ F, isLet t = true) (pP : ∀ t ∈ Ps, isPr t = true) (lL : ∀ t ∈ L, isLet t = true) : faultOf (wordOf F :: wordOf L :: Ps) = none := by
  show (if rowOf (wordOf F) = none then some 0 else if rowOf (wordOf L) = none then some 1 else (badAt [] Ps).map (· + 2)) = none
  rw [row_word ndF lF, row_word ndL lL, bad_none ndP pP (fun t _ z => by cases z)]
  rfl
/-- what read_manner asks of the text of these parts -/
theorem read_facts {F Ps L : List Str} (ndF : F.Nodup) (ndP : Ps.Nodup) (ndL : L.Nodup) (lF : ∀ t ∈ F, isLet t = true) (pP : ∀ t ∈ Ps, isPr t = true) (lL : ∀ t ∈ L, isLet t = true) (zF : F.length ≤ 4) (zP : Ps.length ≤ 6) (zL : L.length ≤ 4) :
    textOf F Ps L ≠ "" ∧ (textOf F Ps L).length ≤ 1000000 ∧ (∀ x ∈ Txt.split (textOf F Ps L) " ", x.length ≤ 1000000) ∧ (Txt.split (textOf F Ps L) " ").length ≤ 60 ∧ (∀ i : Nat, ¬ faultOf (Txt.split (textOf F Ps L) " ") = some i) ∧
      ∀ w0 w1 r r0 r1, Txt.split (textOf F Ps L) " " = w0 :: w1 :: r → rowOf w0 = some r0 → rowOf w1 = some r1 → r0 = F ∧ r = Ps ∧ r1 = L := by
  obtain ⟨e1, e2, e3, e4⟩ := text_facts ndP lF pP lL zF zP zL
  refine ⟨e2, e3, ?_, ?_, ?_, ?_⟩
  · rw [e1]
    exact fun t ht => Nat.le_trans (okW.len (e4 t ht)) (by decide)
  · rw [e1]
    simp only [List.length_cons]
    omega
  · rw [e1, fault_none ndF ndP ndL lF pP lL]
    exact fun i z => by cases z
  · rw [e1]
    intro w0 w1 r r0 r1 ew e0 e1'
    cases ew
    rw [row_word ndF lF] at e0
    rw [row_word ndL lL] at e1'
    cases e0
    cases e1'
    exact ⟨rfl, rfl, rfl⟩
end
end K88

set_option maxHeartbeats 8000000
/-! ## 24b. For the laps -/
namespace K88
open PySem PySem.Spec PyProof.Rows L2
open LamX (CodeO TabS Tabs ExtN TabB lamEnv)
/-- a comprehension that makes tuples of texts -/
theorem lc_tups {J : It} {ss : List Str} {G : Hp → Prop} (w : Walk J (ss.map V.str).length G (YAt (ss.map V.str))) {g : TG} {te : TE} {vs : List Nat} {σ : L2.St} {H1 : Hp} {D : Addr} {Qd : Hp → Prop} (hD : H1 D = none) (Rel : Str → List Str → Prop) (hG : ∀ H', Same H1 H' → G H') (hlen : ss.length ≤ 1000000)
    (turn : ∀ (i : Nat) (s : Str) (H2 : Hp), ss[i]? = some s → Same H1 H2 → ∀ R : V → Hp → Prop, (∀ (H3 : Hp) (q : Addr) (ys : List Str), Same H2 H3 → H3 q = some (.tup (ys.map V.str)) → Rel s ys → R (.ref q) H3) → g (.str s) (wipe σ vs) H2 fun σ2 H3 => wipe σ2 vs = wipe σ vs ∧ te σ2 H3 R)
    (fin : ∀ (H' : Hp) (acc : List V), Same H1 H' → H' D = some (.lst acc) → acc.length = ss.length → (∀ (j : Nat) (s : Str), ss[j]? = some s → ∃ (q : Addr) (ys : List Str), acc[j]? = some (V.ref q) ∧ H' q = some (.tup (ys.map V.str)) ∧ Rel s ys) → Qd H') :
    ∃ W : Nat → Nat → Hp → Prop, (∃ m, W 0 m (upd H1 D (.lst []))) ∧ ∀ i m H, W i m H →
      (J.stop i H ∧ Qd H) ∨ (J.go i H ∧ ∃ Nx : Hp → Prop, (∀ H', Nx H' → ∃ m', m' < m ∧ W (i + 1) m' H') ∧ ∀ x H', J.yld i H x H' → g x (wipe σ vs) H' fun σ2 H2 => wipe σ2 vs = wipe σ vs ∧ tYes σ2 H2 fun b H3 =>
        if b = true then te σ2 H3 fun y H4 => ∃ acc, H4 D = some (.lst acc) ∧ acc.length < sizeLine ∧ Nx (upd H4 D (.lst (acc ++ [y]))) else Nx H3) := by
  refine lc_it w (fun i H => Same H1 H ∧ ∃ acc : List V, H D = some (.lst acc) ∧ acc.length = i ∧ ∀ (j : Nat) (s : Str), j < i → ss[j]? = some s → ∃ (q : Addr) (ys : List Str), acc[j]? = some (V.ref q) ∧ H q = some (.tup (ys.map V.str)) ∧ Rel s ys) ⟨same_upd hD, [], upd_same, rfl, fun j s hj => absurd hj (Nat.not_lt_zero _)⟩ (fun i H _ p => hG H p.1) (fun i x H H' hi p y => ?_) (fun H p => ?_)
  · obtain ⟨eH, ex⟩ := y
    subst eH
    rw [List.getElem?_map] at ex
    obtain ⟨s, hs, rfl⟩ := Option.map_eq_some_iff.mp ex
    obtain ⟨s1, acc, hacc, hl, hrel⟩ := p
    rw [List.length_map] at hi
    have z := turn i s H' hs s1 (fun y H5 => ∃ acc, H5 D = some (.lst acc) ∧ acc.length < sizeLine ∧ (Same H1 (upd H5 D (.lst (acc ++ [y]))) ∧ ∃ acc2, upd H5 D (.lst (acc ++ [y])) D = some (.lst acc2) ∧ acc2.length = i + 1 ∧ ∀ j s, j < i + 1 → ss[j]? = some s → ∃ q ys, acc2[j]? = some (.ref q) ∧ upd H5 D (.lst (acc ++ [y])) q = some (.tup (ys.map V.str)) ∧ Rel s ys)) (fun H3 q ys s3 hq hr => ?_)
    · exact z
    · refine ⟨acc, s3 _ _ hacc, by rw [hl, sizeLine_eq]; omega, same_mut (s1.trans s3) hD, acc ++ [V.ref q], upd_same, by rw [List.length_append, hl]; rfl, fun j s' hj hs' => ?_⟩
      have nD : ∀ {b : Addr} {xs : List V}, H3 b = some (.tup xs) → b ≠ D := fun h z => by
        rw [z, s3 _ _ hacc] at h
        cases h
      by_cases e : j = i
      · subst e
        rw [hs] at hs'
        cases hs'
        refine ⟨q, ys, ?_, by rw [upd_ne (nD hq)]; exact hq, hr⟩
        rw [List.getElem?_append_right (by omega), hl, Nat.sub_self]
        rfl
      · obtain ⟨q2, ys2, g1, g2, g3⟩ := hrel j s' (by omega) hs'
        have g2' := s3 _ _ g2
        refine ⟨q2, ys2, ?_, by rw [upd_ne (nD g2')]; exact g2', g3⟩
        rw [List.getElem?_append_left (by omega)]
        exact g1
  · obtain ⟨s1, acc, hacc, hl, hrel⟩ := p
    rw [List.length_map] at hl
    refine fin H acc s1 hacc hl fun j s hs => hrel j s ?_ hs
    rw [List.length_map]
    exact (List.getElem?_eq_some_iff.mp hs).1
theorem cut_first {w0 w1 : Str} {r : List Str} : cutV ((w0 :: w1 :: r).map V.str) none (some 2) = [w0, w1].map V.str := by
  unfold cutV
  rw [HT.sIx_none, show (some (2 : Int)) = some ((2 : Nat) : Int) from rfl, HT.sIx_nat, List.drop_zero, Nat.sub_zero, List.length_map]
  have e : min 2 (w0 :: w1 :: r).length = 2 := by simp only [List.length_cons]; omega
  rw [e]
  rfl
theorem cut_rest {w0 w1 : Str} {r : List Str} : cutV ((w0 :: w1 :: r).map V.str) (some 2) none = r.map V.str := by
  unfold cutV
  rw [HT.sIx_none, show (some (2 : Int)) = some ((2 : Nat) : Int) from rfl, HT.sIx_nat, List.length_map]
  have e : min 2 (w0 :: w1 :: r).length = 2 := by simp only [List.length_cons]; omega
  rw [e]
  show (r.map V.str).take ((w0 :: w1 :: r).length - 2) = _
  refine List.take_of_length_le ?_
  rw [List.length_map]
  simp only [List.length_cons]
  omega
/-- a row's letters, sorted -/
def RowRel (s : Str) (ys : List Str) : Prop := (s = "-" ∧ ys = []) ∨ (s ≠ "-" ∧ ys.Perm (signs s) ∧ sortedS ys = true)
theorem row_rel {s : Str} {r ys zs : List Str} (hr : rowOf s = some r) (h : RowRel s ys) (hz : SortOf zs r) : ys = zs := by
  have nd := (row_facts hr).2
  unfold rowOf at hr
  rcases h with ⟨e, rfl⟩ | ⟨ne, p, st⟩
  · rw [if_pos e] at hr
    cases hr
    exact (List.Perm.eq_nil (hz.perm nd)).symm
  · rw [if_neg ne] at hr
    by_cases h2 : s = "" ∨ (signs s).all isLet = false
    · rw [if_pos h2] at hr
      cases hr
    · rw [if_neg h2] at hr
      by_cases h3 : (signs s).Nodup
      · rw [if_pos h3] at hr
        cases hr
        exact (hz.unique nd p st).symm
      · rw [if_neg h3] at hr
        cases hr
/-! ### repr of what was read -/
theorem short_strs : ∀ xs : List Str, PyData.intsShortAll 13 (dS xs) = true
  | [] => rfl
  | x :: xs => by
    show (PyData.intsShort 13 (.str x) && PyData.intsShortAll 13 (dS xs)) = true
    rw [short_strs xs]
    rfl
theorem show_strs : ∀ xs : List Str, PyData.showableAll (dS xs) = true
  | [] => rfl
  | x :: xs => by
    show (PyData.showable (.str x) && PyData.showableAll (dS xs)) = true
    rw [show_strs xs]
    rfl
theorem weight_strs {m : Nat} : ∀ {xs : List Str}, (∀ t ∈ xs, t.length ≤ m) → PyData.weightAll (dS xs) ≤ (m + 1) * xs.length
  | [], _ => Nat.zero_le _
  | x :: xs, h => by
    show PyData.weight (.str x) + 1 + PyData.weightAll (dS xs) ≤ (m + 1) * (xs.length + 1)
    have h1 := weight_strs fun t ht => h t (List.mem_cons_of_mem _ ht)
    have h2 : PyData.weight (.str x) ≤ m := h x List.mem_cons_self
    rw [Nat.mul_succ]
    omega
/-- the data of three tuples -/
def dR (F Ps L : List Str) : PyData := .list [.tuple (dS F), .tuple (dS Ps), .tuple (dS L)]
theorem dR_facts {F Ps L : List Str} (hF : ∀ t ∈ F, okS t ∧ t.length ≤ 10) (hP : ∀ t ∈ Ps, okS t ∧ t.length ≤ 10) (hL : ∀ t ∈ L, okS t ∧ t.length ≤ 10) (zF : F.length ≤ 1000) (zP : Ps.length ≤ 1000) (zL : L.length ≤ 1000) :
    (dR F Ps L).showable = true ∧ (dR F Ps L).hasDict = false ∧ (dR F Ps L).depth ≤ 8 ∧ (dR F Ps L).shown.length ≤ sizeLine := by
  have hd : (dR F Ps L).depth = 2 := by
    show max (PyData.depthAll (dS F) + 1) (max (PyData.depthAll (dS Ps) + 1) (max (PyData.depthAll (dS L) + 1) 0)) + 1 = 2
    rw [depth_strs, depth_strs, depth_strs]
    rfl
  have hw : (dR F Ps L).weight ≤ 2 ^ 20 := by
    show (PyData.weightAll (dS F) + 1 + (PyData.weightAll (dS Ps) + 1 + (PyData.weightAll (dS L) + 1 + 0))) ≤ 2 ^ 20
    have h1 := weight_strs fun t ht => (hF t ht).2
    have h2 := weight_strs fun t ht => (hP t ht).2
    have h3 := weight_strs fun t ht => (hL t ht).2
    have e : (2 : Nat) ^ 20 = 1048576 := by decide
    omega
  have hc : (dR F Ps L).canLay0 = true := by
    show (PyData.canLayAll0 (dS F) && (PyData.canLayAll0 (dS Ps) && (PyData.canLayAll0 (dS L) && true))) = true
    rw [lay_strs F fun t ht => (hF t ht).1, lay_strs Ps fun t ht => (hP t ht).1, lay_strs L fun t ht => (hL t ht).1]
    rfl
  have hl : PyData.layable0 (dR F Ps L) = true := by
    show (PyData.canLay0 (dR F Ps L) && decide (PyData.depth (dR F Ps L) ≤ 64) && decide (PyData.weight (dR F Ps L) ≤ 2 ^ 20)) = true
    rw [hc, hd, decide_eq_true hw]
    rfl
  refine ⟨?_, PyData.hasDict_of_layable hl, by rw [hd]; decide, ?_⟩
  · show (PyData.showableAll (dS F) && (PyData.showableAll (dS Ps) && (PyData.showableAll (dS L) && true))) = true
    rw [show_strs, show_strs, show_strs]
    rfl
  · have h1 : (dR F Ps L).intsShort 13 = true := by
      show (PyData.intsShortAll 13 (dS F) && (PyData.intsShortAll 13 (dS Ps) && (PyData.intsShortAll 13 (dS L) && true))) = true
      rw [short_strs, short_strs, short_strs]
      rfl
    have h2 := shown_le13 hl h1
    rw [sizeLine_eq]
    omega
theorem eqv_pair (i : Int) : PyData.eqv (.tuple [.int 0, .int i]) (.tuple [.int 0, .int i]) = true := by
  simp [PyData.eqv, PyData.eqvAll]
theorem shaped_pair (i : Int) : SeqAt.shaped (.tuple [.int 0, .int i]) = true := by
  unfold SeqAt.shaped
  rw [Bool.and_eq_true, decide_eq_true_eq]
  exact ⟨lay_ints [0, i], by show PyData.depthAll (dI [0, i]) + 1 ≤ 64; rw [depth_ints]; decide⟩
end K88

set_option maxHeartbeats 8000000
/-! ## 25. The law's body -/
namespace K88
open PySem PySem.Spec PyProof.Rows L2
open LamX (CodeO TabS Tabs ExtN TabB lamEnv)
theorem MannerAt.extN {C : Addr} {H H' : Hp} {s : Addr} {F Ps L : List Str} (h : MannerAt C H s F Ps L) (e : ExtN H H') : MannerAt C H' s F Ps L := by
  obtain ⟨dx, q1, q2, q3, x4, x5, x6, x7, h0, h1, h2, h3⟩ := h
  have nt : ∀ {b : Addr} {xs : List V}, H b = some (.tup xs) → H' b = some (.tup xs) := fun h => e _ _ h (fun ps z => by cases z)
  exact ⟨dx, q1, q2, q3, x4, x5, x6, x7, e _ _ h0 (fun ps z => by cases z), nt h1, nt h2, nt h3⟩
theorem fault_ok {v0 v1 : Str} {r r0 r1 : List Str} (e0 : rowOf v0 = some r0) (e1 : rowOf v1 = some r1) (eb : badAt [] r = none) : faultOf (v0 :: v1 :: r) = none := by
  show (if rowOf v0 = none then some 0 else if rowOf v1 = none then some 1 else (badAt [] r).map (· + 2)) = none
  rw [e0, e1, eb]
  rfl
section
variable {P : Program} {w : World} {K : PySem.W.Frag} {mg : Str → Option Value} {base : Heap} {a : Ad}
theorem law_body (T : Txt K mg a) (B : Tb base mg a) {cdv : Value} {A : Around} {outer : List Env} {s : Shared} {H : Hp} {Q : VK} {E : XK} (hr : Room 10 (A.deeper (envOfC "law" (defScope s_law) s.heap.objs.size a.f_law cdv))) (hg0 : A.guards = some [])
    {x : Addr} {ns : List Int} (hx : SqL K H x (ns.map V.int)) (hT : Tabs (TT a) H) (k : ∀ H', Q (.bl true) H') :
    ∃ t, PSs (cxOf CX0 P w K mg base N_law "law" (defScope s_law) a.f_law cdv A outer s H E).nox (defBody s_law) t ∧ t { nx := fun _ H' => Q .non H', rt := Q } (L2.start N_law [.ref x]) H := by
  have hgd : (A.deeper (envOfC "law" (defScope s_law) s.heap.objs.size a.f_law cdv)).guards = some [] := hg0
  refine ⟨_, (pss_cons (ps_set (i := 1) sc_law.nd rfl (by first | exact Or.inl rfl | exact Or.inr rfl) (pe_cx (ok__law_pen T) hr (by decide) pass0 (by rfl) (pa_cons (pv 0) pa_nil)))
          (pss_cons (ps_for PassesOwn.never rfl (pi_range1 (by rfl) T.n_range (pa_cons pe_int pa_nil)) (pg_name (i := 2) sc_law.nd rfl (by first | exact Or.inl rfl | exact Or.inr rfl))
            (pss_cons (ps_asg (pe_cx (ok__law_parts T) hr (by decide) pass0 (by rfl) (pa_cons (pv 1) pa_nil)) (pg_tup rfl (pgs_cons (pg_name (i := 3) sc_law.nd rfl (by first | exact Or.inl rfl | exact Or.inr rfl)) (pgs_cons (pg_name (i := 4) sc_law.nd rfl (by first | exact Or.inl rfl | exact Or.inr rfl)) (pgs_cons (pg_name (i := 5) sc_law.nd rfl (by first | exact Or.inl rfl | exact Or.inr rfl)) pgs_nil)))))
            (pss_cons (ps_set (i := 6) sc_law.nd rfl (by first | exact Or.inl rfl | exact Or.inr rfl) (pe_mx (ok_Manner T) hr (by decide) pass0 (by rfl) (pa_cons (pv 3) (pa_cons (pv 4) (pa_cons (pv 5) pa_nil)))))
            (pss_cons (ps_set (i := 7) sc_law.nd rfl (by first | exact Or.inl rfl | exact Or.inr rfl) (pe_joinK (K := K) rfl pe_str (pe_op op_cat (pe_lst (pa_cons (pe_cx (ok__law_word T) hr (by decide) pass0 (by rfl) (pa_cons (pe_callB cr_sortedS (by rfl) T.n_sorted (by decide +kernel) (pa_cons (pv 3) pa_nil)) pa_nil)) (pa_cons (pe_cx (ok__law_word T) hr (by decide) pass0 (by rfl) (pa_cons (pe_callB cr_sortedS (by rfl) T.n_sorted (by decide +kernel) (pa_cons (pv 5) pa_nil)) pa_nil)) pa_nil))) (pe_callB cr_sortedS (by rfl) T.n_sorted (by decide +kernel) (pa_cons (pv 4) pa_nil)))))
            (pss_cons (ps_if (PW.pt (pw_or (pt_cmpR op_ne (pe_cx (ok_manner_text T) hr (by decide) pass0 (by rfl) (pa_cons (pv 6) pa_nil)) (pv 7) (nomark _)) (pw_or (pt_cmpR op_ne (pe_ck (ks := ["manner"]) (ck_manner_text T) hr (by decide) pass0 (by rfl) (pk_cons (pv 6) pk_nil)) (pv 7) (nomark _)) (pw_or (pt_cmpR (op_neG T.neM (fn_eq T) T.b_Mannerx_eqx (hr.mono (by decide))) (pe_cx (ok_read_manner T B) hr (by decide) passX0 (by rfl) (pa_cons (pv 7) pa_nil)) (pv 6) (nomark _)) (pw_or1 (pt_cmpR (op_neG T.neM (fn_eq T) T.b_Mannerx_eqx (hr.mono (by decide))) (pe_ck (ks := ["text"]) (ck_read_manner T B) hr (by decide) passX0 (by rfl) (pk_cons (pv 7) pk_nil)) (pv 6) (nomark _)))))))
              (pss_one (ps_ret pe_bl))
              pss_nil)
            (pss_cons (ps_set (i := 8) sc_law.nd rfl (by first | exact Or.inl rfl | exact Or.inr rfl) (pe_op op_cat (pe_lst (pa_cons (pe_cx (ok__law_word T) hr (by decide) pass0 (by rfl) (pa_cons (pv 3) pa_nil)) (pa_cons (pe_cx (ok__law_word T) hr (by decide) pass0 (by rfl) (pa_cons (pv 5) pa_nil)) pa_nil))) (pv 4)))
            (pss_cons (ps_if (pt_cmpR (op_neG T.neM (fn_eq T) T.b_Mannerx_eqx (hr.mono (by decide))) (pe_cx (ok_read_manner T B) hr (by decide) passX0 (by rfl) (pa_cons (pe_joinK (K := K) rfl pe_str (pv 8)) pa_nil)) (pv 6) (nomark _))
              (pss_one (ps_ret pe_bl))
              pss_nil)
            (pss_cons (ps_for PassesOwn.never rfl (pi_range1 (by rfl) T.n_range (pa_cons pe_int pa_nil)) (pg_name (i := 9) sc_law.nd rfl (by first | exact Or.inl rfl | exact Or.inr rfl))
              (pss_cons (ps_set (i := 11) sc_law.nd rfl (by first | exact Or.inl rfl | exact Or.inr rfl) (pe_joinK (K := K) rfl pe_str (pe_cx (ok__law_bent T) hr (by decide) pass0 (by rfl) (pa_cons (pv 1) (pa_cons (pv 8) pa_nil)))))
              (pss_cons (ps_set (i := 12) sc_law.nd rfl (by first | exact Or.inl rfl | exact Or.inr rfl) (pe_ifExp (pt_cmpR op_eq (pv 11) pe_str (nomark _)) pe_int (pe_cx (ok__law_fault T) hr (by decide) pass0 (by rfl) (pa_cons (pe_split (pv 11) pe_str) pa_nil))))
              (pss_cons (ps_set (i := 13) sc_law.nd rfl (by first | exact Or.inl rfl | exact Or.inr rfl) (pe_cx (ok__law_read T B) hr (by decide) pass0 (by rfl) (pa_cons (pv 11) pa_nil)))
              (pss_cons (ps_if (PW.pt (pw_and (pt_cmpR op_notN (pv 12) pe_non (nomark _)) (pw_and1 (pt_cmpR (show OpR _ (compareOp .NotEq) (rNeD K) from op_neD hr.units) (pv 13) (pe_tup (pa_cons pe_int (pa_cons (pv 12) pa_nil))) (nomark _)))))
                (pss_one (ps_ret pe_bl))
                pss_nil)
              (pss_one (ps_if (pt_cmpR op_isN (pv 12) pe_non (nomark _))
                (pss_cons (ps_set (i := 14) sc_law.nd rfl (by first | exact Or.inl rfl | exact Or.inr rfl) (pe_split (pv 11) pe_str))
                (pss_cons (ps_setLc (i := 15) (own := [("word", 16)]) rfl sc_law.nd rfl rfl (sw_true rfl rfl rfl (by decide +kernel)) (pi_list (pe_slice sl_list (pv 14) po_none (po_some pe_int))) (blkOk_by (own := [("word", 16)]) (N := N_law) (sc := defScope s_law) (by decide +kernel)) (fun _ _ _ _ _ => (pg_name (i := 16) sc_law.nd rfl (by first | exact Or.inl rfl | exact Or.inr rfl))) (fun _ _ _ _ _ => pts_nil) (fun _ _ _ _ _ => (pe_ifExp (pt_cmpR op_eq (pv 16) pe_str (nomark _)) (pe_tup pa_nil) (pe_callTy (show CallR _ (.type "tuple") (rTupOf K) from call_tuple_of) (by rfl) T.n_tuple (by decide +kernel) (pa_cons (pe_callB (show CallR _ (.builtin "sorted") (rSortedS K) from cr_sortedS) (by rfl) T.n_sorted (by decide +kernel) (pa_cons (pe_callTy (call_listTh hr.hd) (by rfl) T.n_list (by decide +kernel) (pa_cons (pv 16) pa_nil)) pa_nil)) pa_nil)))))
                (pss_one (ps_if (pt_cmpR op_ne (pe_callB (call_reprD hgd hr.units) (by rfl) T.n_repr (by decide +kernel) (pa_cons (pv 13) pa_nil)) (pe_callB (call_reprD hgd hr.units) (by rfl) T.n_repr (by decide +kernel) (pa_cons (pe_lst (pa_cons (pe_ix (show IxR _ (rIxL K) from ix_list) (pv 15) pe_int (fun _ _ => rfl)) (pa_cons (pe_callTy call_tuple_of (by rfl) T.n_tuple (by decide +kernel) (pa_cons (pe_callB cr_sortedS (by rfl) T.n_sorted (by decide +kernel) (pa_cons (pe_slice sl_list (pv 14) (po_some pe_int) po_none) pa_nil)) pa_nil)) (pa_cons (pe_ix (show IxR _ (rIxL K) from ix_list) (pv 15) pe_int (fun _ _ => rfl)) pa_nil)))) pa_nil)) (nomark _))
                  (pss_one (ps_ret pe_bl))
                  pss_nil))))
                pss_nil)))))))
            (pss_cons (ps_set (i := 10) sc_law.nd rfl (by first | exact Or.inl rfl | exact Or.inr rfl) (pe_cx (ok__law_pick T) hr (by decide) pass0 (by rfl) (pa_cons (pv 1) (pa_cons (pe_lst (pa_cons pe_non (pa_cons pe_int (pa_cons (pe_lst pa_nil) (pa_cons pe_str (pa_cons (pe_tup (pa_cons pe_str pa_nil)) (pa_cons (pv 6) (pa_cons pe_bl pa_nil)))))))) pa_nil))))
            (pss_one (ps_if (pt_cmpR (show OpR _ (compareOp .NotEq) (rNeD K) from op_neD hr.units) (pe_cx (ok__law_read T B) hr (by decide) pass0 (by rfl) (pa_cons (pv 10) pa_nil)) (pe_tup (pa_cons pe_int (pa_cons pe_int pa_nil))) (nomark _))
              (pss_one (ps_ret pe_bl))
              pss_nil)))))))))))
          (pss_one (ps_ret pe_bl)))), ?_⟩
  refine ⟨_, rfl, x, ns, rfl, hx, fun H1 p l s1 hp => ?_⟩
  refine ⟨_, rfl, by decide, by decide, ?_⟩
  refine for_range (fun i σ G => ∃ (o2 o3 o4 o5 o6 o7 o8 o9 o10 o11 o12 o13 o14 o15 o16 : Option V), σ = [some (.ref x), some (.ref p), o2, o3, o4, o5, o6, o7, o8, o9, o10, o11, o12, o13, o14, o15, o16] ∧ Tabs (TT a) G ∧ PenAt G p l (100 * i)) ⟨none, none, none, none, none, none, none, none, none, none, none, none, none, none, none, rfl, Tabs.same hT s1, hp⟩ (fun i σ G hi h => ?_) (fun σ G h => ?_)
  · have hi : i < 6 := hi
    obtain ⟨o2, o3, o4, o5, o6, o7, o8, o9, o10, o11, o12, o13, o14, o15, o16, rfl, T1, p1⟩ := h
    refine ⟨_, rfl, p, l, 100 * i, rfl, by omega, p1, fun H2 t qf qw ql F W L b2 p2 ht hf hw hl nf nw nl ndF ndW ndL lF pW lL zF zW zL => ?_⟩
    have T2 := tabs_pen p1 T1 b2
    refine ⟨t, _, rfl, SqT.of ht, rfl, _, _, rfl, _, _, rfl, _, _, rfl, rfl, ?_⟩
    refine ⟨_, rfl, _, rfl, _, rfl, fun s dx ns nd ne => ⟨s, dx, qf, qw, ql, F, W, L, rfl, upd_same, ?_, ?_, ?_, lF, pW, lL, by omega, by omega, by omega, fun H3 F' W' L' sb so0 so1 so2 hM => ⟨rfl, ?_⟩⟩⟩
    · exact .inl (SqL.of ((put_free (Same.refl _) ns nd) _ _ hf))
    · exact .inl (SqL.of ((put_free (Same.refl _) ns nd) _ _ hw))
    · exact .inl (SqL.of ((put_free (Same.refl _) ns nd) _ _ hl))
    have s3 : Same H2 H3 := fun b o e => sb b o (ne_of_none e ns) ((put_free (Same.refl _) ns nd) _ _ e)
    have hf3 := s3 _ _ hf
    have hw3 := s3 _ _ hw
    have hl3 := s3 _ _ hl
    have pf := so0.perm ndF
    have pw := so1.perm ndW
    have pl := so2.perm ndL
    have lF' : ∀ t ∈ F', isLet t = true := fun t ht => lF t (pf.mem_iff.mp ht)
    have pW' : ∀ t ∈ W', isPr t = true := fun t ht => pW t (pw.mem_iff.mp ht)
    have lL' : ∀ t ∈ L', isLet t = true := fun t ht => lL t (pl.mem_iff.mp ht)
    have ndF' := so0.nodup
    have ndW' := so1.nodup
    have ndL' := so2.nodup
    have zF' : F'.length ≤ 4 := by rw [pf.length_eq]; exact zF
    have zW' : W'.length ≤ 6 := by rw [pw.length_eq]; exact zW
    have zL' : L'.length ≤ 4 := by rw [pl.length_eq]; exact zL
    have sumF : sumLen F' ≤ 1000000 := by rw [sum_let lF']; omega
    have sumL : sumLen L' ≤ 1000000 := by rw [sum_let lL']; omega
    obtain ⟨e1, e2, e3, e4⟩ := text_facts ndW' lF' pW' lL' zF' zW' zL'
    have e5 : sumLen ([wordOf F', wordOf L'] ++ W') + (W'.length + 2) ≤ 1000000 := by
      have h2 := sum_le (m := 10) fun t ht => okW.len (e4 t ht)
      simp only [List.length_cons] at h2
      show sumLen (wordOf F' :: wordOf L' :: W') + (W'.length + 2) ≤ 1000000
      omega
    -- due
    refine ⟨⟨_, rfl⟩, _, rfl, qf, F, rfl, SqL.of hf3, by omega, fun ys1 y1 pm1 sr1 n1 => ?_⟩
    obtain rfl : F' = ys1 := so0.unique ndF pm1 sr1
    have s4 := same_upd (o := HO.lst (F'.map V.str)) n1
    refine ⟨y1, F', rfl, .inl (SqL.of upd_same), sumF, _, rfl, ql, L, rfl, SqL.of (s4 _ _ hl3), by omega, fun ys2 y2 pm2 sr2 n2 => ?_⟩
    obtain rfl : L' = ys2 := so2.unique ndL pm2 sr2
    have s5 := same_upd (o := HO.lst (L'.map V.str)) n2
    refine ⟨y2, L', rfl, .inl (SqL.of upd_same), sumL, by show 2 ≤ sizeLine; rw [sizeLine_eq]; decide, fun d1 n3 => ?_⟩
    have s6 := same_upd (o := HO.lst [V.str (wordOf F'), V.str (wordOf L')]) n3
    have s46 := s4.trans (s5.trans s6)
    refine ⟨_, rfl, qw, W, rfl, SqL.of (s46 _ _ hw3), by omega, fun ys3 y3 pm3 sr3 n4 => ?_⟩
    obtain rfl : W' = ys3 := so1.unique ndW pm3 sr3
    have s7 := same_upd (o := HO.lst (W'.map V.str)) n4
    refine ⟨d1, y3, _, _, rfl, rfl, s7 _ _ upd_same, upd_same, ?_, fun c1 n5 => ?_⟩
    · show 2 + (W'.map V.str).length ≤ sizeLine
      rw [List.length_map, sizeLine_eq]
      omega
    have s8 := same_upd (o := HO.lst ([V.str (wordOf F'), V.str (wordOf L')] ++ W'.map V.str)) n5
    have s48 := s46.trans (s7.trans s8)
    refine ⟨" ", c1, [wordOf F', wordOf L'] ++ W', rfl, rfl, .inl (SqL.of (by rw [upd_same, List.map_append]; rfl)), ?_, ?_⟩
    · have z : ((" " : Str)).length = 1 := rfl
      rw [z]
      have z2 : ([wordOf F', wordOf L'] ++ W').length = W'.length + 2 := by simp
      rw [z2]
      unfold sumLen at e5
      omega
    obtain ⟨H4, eH4⟩ : ∃ G, G = upd (upd (upd (upd (upd H3 y1 (.lst (F'.map V.str))) y2 (.lst (L'.map V.str))) d1 (.lst [V.str (wordOf F'), V.str (wordOf L')])) y3 (.lst (W'.map V.str))) c1 (.lst ([V.str (wordOf F'), V.str (wordOf L')] ++ W'.map V.str)) := ⟨_, rfl⟩
    rw [← eH4] at s48 ⊢
    clear s8 s7 s46 s6 s5 s4 n1 n2 n3 n4 n5 pm1 pm2 pm3 sr1 sr2 sr3 eH4
    have s24 := s3.trans s48
    have hM4 := hM.same s48
    have T4 := Tabs.same T2 s24
    have p4 := p2.same s24
    -- manner_text(made), manner_text(manner=made)
    refine ⟨_, rfl, s, F', W', L', rfl, hM4, lF', lL', sumF, sumL, e5, fun H5 s5 => ⟨_, rfl, rfl, _, rfl, ?_⟩⟩
    refine if_false_of (by rw [show decide (V.str (textOf F' W' L') = V.str (Txt.join " " ([wordOf F', wordOf L'] ++ W'))) = true from decide_eq_true rfl]; rfl) ?_
    refine ⟨_, rfl, rfl, s, F', W', L', rfl, hM4.same s5, lF', lL', sumF, sumL, e5, fun H6 s6 => ⟨_, rfl, rfl, _, rfl, ?_⟩⟩
    refine if_false_of (by rw [show decide (V.str (textOf F' W' L') = V.str (Txt.join " " ([wordOf F', wordOf L'] ++ W'))) = true from decide_eq_true rfl]; rfl) ?_
    have s46 := s5.trans s6
    -- read_manner(due), read_manner(text=due)
    have eqm : ∀ {G : Hp} {u : Addr} {F2 W2 L2 : List Str}, MannerAt a.c_Manner G s F' W' L' → MannerAt a.c_Manner G u F2 W2 L2 → F2 = F' → W2 = W' → L2 = L' → DIns a.c_Manner (EqM a.c_Manner) (.ref u) (.ref s) G := fun {G u F2 W2 L2} h1 h2 e1 e2 e3 => by
      rw [e1, e2, e3] at h2
      obtain ⟨d1, q1, q2, q3, x4, x5, x6, x7, g0, _⟩ := id h1
      obtain ⟨d2, r1, r2, r3, y4, y5, y6, y7, g0', _⟩ := id h2
      exact ⟨u, s, d2, d1, _, _, rfl, rfl, g0', g0, F', W', L', lF', pW', lL', h2, h1⟩
    have sF' : ∀ {Z : List Str}, SortOf Z F' → Z = F' := fun h => h.self so0.2 ndF'
    have sW' : ∀ {Z : List Str}, SortOf Z W' → Z = W' := fun h => h.self so1.2 ndW'
    have sL' : ∀ {Z : List Str}, SortOf Z L' → Z = L' := fun h => h.self so2.2 ndL'
    obtain ⟨f2, f3, f4, f5, f6, f7⟩ := read_facts ndF' ndW' ndL' lF' pW' lL' zF' zW' zL'
    refine ⟨_, rfl, _, rfl, Tabs.same T4 s46, .inl ⟨textOf F' W' L', rfl, f2, f3, f4, f5, fun i z => (f6 i z).elim, fun v0 v1 r r0 r1 ew g0 g1 _ u Fu Wu Lu H7 eN7 T7 sa sb sc hMu => ?_⟩⟩
    obtain ⟨h0, h1, h2⟩ := f7 _ _ _ _ _ ew g0 g1
    rw [h0] at sa
    rw [h1] at sb
    rw [h2] at sc
    refine ⟨_, rfl, eqm ((hM4.same s46).extN eN7) hMu (sF' sa) (sW' sb) (sL' sc), fun H8 x8 => ⟨_, rfl, iteF ?_⟩⟩
    have s78 : Same H7 H8 := x8
    refine ⟨_, rfl, rfl, _, rfl, Tabs.same T7 s78, .inl ⟨textOf F' W' L', rfl, f2, f3, f4, f5, fun i z => (f6 i z).elim, fun v0' v1' r' r0' r1' ew' g0' g1' _ u2 Fu2 Wu2 Lu2 H9 eN9 T9 sa2 sb2 sc2 hMu2 => ?_⟩⟩
    obtain ⟨h0', h1', h2'⟩ := f7 _ _ _ _ _ ew' g0' g1'
    rw [h0'] at sa2
    rw [h1'] at sb2
    rw [h2'] at sc2
    refine ⟨_, rfl, eqm ((((hM4.same s46).extN eN7).same s78).extN eN9) hMu2 (sF' sa2) (sW' sb2) (sL' sc2), fun HA xA => ⟨_, rfl, iteF ?_⟩⟩
    have s9A : Same H9 HA := xA
    have n2A : ExtN H2 HA := (ExtN.of s24).trans ((ExtN.of s46).trans (eN7.trans ((ExtN.of s78).trans (eN9.trans (ExtN.of s9A)))))
    have n4A : ExtN H4 HA := (ExtN.of s46).trans (eN7.trans ((ExtN.of s78).trans (eN9.trans (ExtN.of s9A))))
    have TA := Tabs.same T9 s9A
    have pA := p2.ext n2A
    have hMA := hM4.extN n4A
    have notT : ∀ {b : Addr} {xs : List V}, H2 b = some (.lst xs) → HA b = some (.lst xs) := fun h => n2A _ _ h (fun ps z => by cases z)
    have hfA := notT hf
    have hwA := notT hw
    have hlA := notT hl
    clear s9A xA hMu2 sa2 sb2 sc2 T9 eN9 s78 x8 hMu sa sb sc T7 eN7 s46 s5 s6
    -- words
    have sumF0 : sumLen F ≤ 1000000 := by rw [sum_let lF]; omega
    have sumL0 : sumLen L ≤ 1000000 := by rw [sum_let lL]; omega
    obtain ⟨u1, u2, u3, u4⟩ := text_facts ndW lF pW lL zF zW zL
    refine ⟨_, rfl, qf, F, rfl, .inl (SqL.of hfA), sumF0, _, rfl, ql, L, rfl, .inl (SqL.of hlA), sumL0, by show 2 ≤ sizeLine; rw [sizeLine_eq]; decide, fun d2 n1 => ?_⟩
    have s5 := same_upd (o := HO.lst [V.str (wordOf F), V.str (wordOf L)]) n1
    refine ⟨_, rfl, d2, qw, _, _, rfl, rfl, upd_same, s5 _ _ hwA, ?_, fun wa n2 => ?_⟩
    · show 2 + (W.map V.str).length ≤ sizeLine
      rw [List.length_map, sizeLine_eq]
      omega
    have s6 := same_upd (o := HO.lst ([V.str (wordOf F), V.str (wordOf L)] ++ W.map V.str)) n2
    have s56 := s5.trans s6
    have hwa : (upd (upd HA d2 (.lst [V.str (wordOf F), V.str (wordOf L)])) wa (.lst ([V.str (wordOf F), V.str (wordOf L)] ++ W.map V.str))) wa = some (.lst ((wordOf F :: wordOf L :: W).map V.str)) := by rw [upd_same]; rfl
    obtain ⟨HB, eHB⟩ : ∃ G, G = upd (upd HA d2 (.lst [V.str (wordOf F), V.str (wordOf L)])) wa (.lst ([V.str (wordOf F), V.str (wordOf L)] ++ W.map V.str)) := ⟨_, rfl⟩
    rw [← eHB] at s56 hwa ⊢
    clear s6 s5 n1 n2 eHB
    have TB := Tabs.same TA s56
    -- read_manner(' '.join(words))
    obtain ⟨g2, g3, g4, g5, g6, g7⟩ := read_facts ndF ndW ndL lF pW lL zF zW zL
    refine ⟨⟨_, rfl⟩, _, rfl, " ", wa, wordOf F :: wordOf L :: W, rfl, rfl, .inl (SqL.of hwa), ?_, _, rfl, TB, .inl ⟨textOf F W L, rfl, g2, g3, g4, g5, fun i z => (g6 i z).elim, fun v0 v1 r r0 r1 ew c0 c1 _ u Fu Wu Lu HC eNC TC sa sb sc hMu => ?_⟩⟩
    · have z : ((" " : Str)).length = 1 := rfl
      rw [z]
      have h2 := sum_le (m := 10) fun t ht => okW.len (u4 t ht)
      unfold sumLen at h2
      simp only [List.length_cons] at h2 ⊢
      omega
    obtain ⟨h0, h1, h2⟩ := g7 _ _ _ _ _ ew c0 c1
    rw [h0] at sa
    rw [h1] at sb
    rw [h2] at sc
    have hMC := (hMA.same s56).extN eNC
    refine ⟨_, rfl, eqm hMC hMu (so0.unique ndF (sa.perm ndF) sa.2).symm (so1.unique ndW (sb.perm ndW) sb.2).symm (so2.unique ndL (sc.perm ndL) sc.2).symm, fun HD xD => ⟨_, rfl, iteF ?_⟩⟩
    have sD : Same HC HD := xD
    have TD := Tabs.same TC sD
    have hMD := hMC.same sD
    have pD : PenAt HD p l (100 * i + 30) := ((pA.same s56).ext eNC).same sD
    have hwD : HD wa = some (.lst ((wordOf F :: wordOf L :: W).map V.str)) := sD _ _ (eNC _ _ hwa (fun ps z => by cases z))
    clear hMu sD xD hMC sa sb sc ew
    obtain ⟨ws, ews⟩ : ∃ ws, ws = wordOf F :: wordOf L :: W := ⟨_, rfl⟩
    rw [← ews] at hwD u4
    have wne : ws ≠ [] := by rw [ews]; simp
    have wlen : ws.length ≤ 8 := by rw [ews]; simp only [List.length_cons]; omega
    have wap : wa ≠ p := pD.off hwD
    clear ews
    -- the laps
    refine ⟨_, rfl, by decide, by decide, ?_⟩
    refine for_range (fun j σ G => ∃ (o9 o10 o11 o12 o13 o14 o15 o16 : Option V), σ = [some (.ref x), some (.ref p), some (.int (0 + (i : Nat))), some (.ref qf), some (.ref qw), some (.ref ql), some (.ref s), some (.str (textOf F' W' L')), some (.ref wa), o9, o10, o11, o12, o13, o14, o15, o16] ∧ ExtB p HD G ∧ Tabs (TT a) G ∧ PenAt G p l (100 * i + 30 + 3 * j)) ⟨_, _, _, _, _, _, _, _, rfl, ExtB.refl, TD, pD⟩ (fun j σ G hj h => ?_) (fun σ G h => ?_)
    · have hj : j < 6 := hj
      obtain ⟨o9, o10, o11, o12, o13, o14, o15, o16, rfl, xG, TG, pG⟩ := h
      have hwG := xG _ _ hwD wap (fun ps z => by cases z)
      refine ⟨⟨_, rfl⟩, _, rfl, _, rfl, p, l, wa, _, ws, rfl, by omega, pG, hwG, wne, by omega, u4, fun G1 b bs b1 pG1 hb hbl hbw => ?_⟩
      have xG1 : ExtB p HD G1 := xG.trans (ExtB.ofB b1)
      have TG1 := tabs_pen pG TG b1
      have hbl2 : bs.length ≤ 25 := by omega
      have hbsum := sum_le (m := 11) fun t ht => okW.len (hbw t ht)
      have hjl := join_len bs
      refine ⟨" ", b, bs, rfl, rfl, .inl (SqL.of hb), ?_, ?_⟩
      · have z : ((" " : Str)).length = 1 := rfl
        rw [z]
        unfold sumLen at hbsum
        omega
      refine ⟨_, rfl, rfl, _, rfl, ?_⟩
      by_cases et : Txt.join " " bs = ""
      · refine if_true_of (decide_eq_true (congrArg V.str et)) ?_
        refine ⟨_, rfl, _, rfl, TG1, .inr ⟨.inl (congrArg V.str et), fun G2 tp eN T2 htp => ?_⟩⟩
        have xG2 : ExtB p HD G2 := xG1.trans (ExtB.ofN eN)
        have pG2 := pG1.ext eN
        refine ⟨_, rfl, rfl, _, rfl, iteT ?_⟩
        refine ⟨_, rfl, _, rfl, by show 2 ≤ sizeLine; rw [sizeLine_eq]; decide, fun tq ntq => ?_⟩
        have sq := same_upd (o := HO.tup [V.int 0, V.int (0 : Int)]) ntq
        refine ⟨_, _, .tup (SqT.of (sq _ _ htp)) (dp_ints [0, 0]), .tup (SqT.of upd_same) (dp_ints [0, 0]), shaped_pair 0, shaped_pair 0, _, rfl, ?_⟩
        refine if_false_of (by rw [show PyData.eqv (.tuple (dI [0, 0])) (.tuple (dI [0, 0])) = true from eqv_pair 0]; rfl) ?_
        refine ⟨_, rfl, rfl, _, rfl, iteF ?_⟩
        exact ⟨_, _, _, _, _, _, _, _, rfl, xG2.trans (ExtB.of sq), Tabs.same T2 sq, (pG2.same sq).le (by omega)⟩
      · refine if_false_of (decide_eq_false fun z => et (V.str.inj z)) ?_
        have bne : bs ≠ [] := fun z => et (by rw [z]; exact join_nil)
        have esp : Txt.split (Txt.join " " bs) " " = bs := split_join bne fun t ht => okW.blank (hbw t ht)
        have tlen : (Txt.join " " bs).length ≤ 1000000 := by omega
        refine ⟨_, rfl, ⟨_, rfl⟩, _, " ", rfl, rfl, rfl, by rw [sizeLine_eq]; omega, fun y ny => ?_⟩
        rw [esp]
        have sy := same_upd (o := HO.lst (bs.map V.str)) ny
        refine ⟨y, bs, rfl, upd_same, bne, by omega, fun t ht => ⟨Nat.le_trans (okW.len (hbw t ht)) (by decide), okW.s (hbw t ht)⟩, fun G2 s2 => ?_⟩
        have s12 := sy.trans s2
        cases hfb : faultOf bs with
        | some i2 =>
          refine ⟨_, rfl, _, rfl, Tabs.same TG1 s12, .inl ⟨_, rfl, et, tlen, by rw [esp]; exact fun t ht => Nat.le_trans (okW.len (hbw t ht)) (by decide), by rw [esp]; omega, fun i3 hi3 G3 tp eN T3 htp => ?_, fun v0 v1 r r0 r1 ew e0 e1 eb => ?_⟩⟩
          · rw [esp, hfb] at hi3
            cases hi3
            have xG2 : ExtB p HD G3 := (xG1.trans (ExtB.of s12)).trans (ExtB.ofN eN)
            have pG2 := (pG1.same s12).ext eN
            refine ⟨_, rfl, rfl, _, rfl, iteT ?_⟩
            refine ⟨_, rfl, _, rfl, by show 2 ≤ sizeLine; rw [sizeLine_eq]; decide, fun tq ntq => ?_⟩
            have sq := same_upd (o := HO.tup [V.int 0, V.int ((i2 : Nat) : Int)]) ntq
            refine ⟨_, _, .tup (SqT.of (sq _ _ htp)) (dp_ints [0, ((i2 : Nat) : Int)]), .tup (SqT.of upd_same) (dp_ints [0, ((i2 : Nat) : Int)]), shaped_pair ((i2 : Nat) : Int), shaped_pair ((i2 : Nat) : Int), _, rfl, ?_⟩
            refine if_false_of (by rw [show PyData.eqv (.tuple (dI [0, ((i2 : Nat) : Int)])) (.tuple (dI [0, ((i2 : Nat) : Int)])) = true from eqv_pair ((i2 : Nat) : Int)]; rfl) ?_
            refine ⟨_, rfl, rfl, _, rfl, iteF ?_⟩
            exact ⟨_, _, _, _, _, _, _, _, rfl, xG2.trans (ExtB.of sq), Tabs.same T3 sq, (pG2.same sq).le (by omega)⟩
          · rw [esp] at ew
            rw [ew, fault_ok e0 e1 eb] at hfb
            cases hfb
        | none =>
          refine ⟨_, rfl, _, rfl, Tabs.same TG1 s12, .inl ⟨_, rfl, et, tlen, by rw [esp]; exact fun t ht => Nat.le_trans (okW.len (hbw t ht)) (by decide), by rw [esp]; omega, fun i3 hi3 => ?_, fun v0 v1 r r0 r1 ew e0 e1 eb xr q1 q2 q3 F2 W2 L2 G3 eN T3 so0' so1' so2' hxr hq1 hq2 hq3 => ?_⟩⟩
          · rw [esp, hfb] at hi3
            cases hi3
          · rw [esp] at ew
            have xG3 : ExtB p HD G3 := (xG1.trans (ExtB.of s12)).trans (ExtB.ofN eN)
            have pG3 := (pG1.same s12).ext eN
            obtain ⟨rl0, rn0⟩ := row_facts e0
            obtain ⟨rl1, rn1⟩ := row_facts e1
            obtain ⟨rnd, rpr⟩ := nodup_of_bad eb
            have okr : ∀ {Z R : List Str}, SortOf Z R → (∀ t ∈ R, okS t ∧ t.length ≤ 10) → ∀ t ∈ Z, okS t ∧ t.length ≤ 10 := fun h h2 t ht => h2 t (h.mem.mp ht)
            have few0 := letters_few rn0 rl0
            have few1 := letters_few rn1 rl1
            have hr0 : r.length ≤ 23 := by
              rw [ew] at hbl2
              simp only [List.length_cons] at hbl2
              omega
            have lenL : ∀ {t : Str}, isLet t = true → t.length ≤ 10 := fun h => by
              obtain ⟨c, rfl, _⟩ := let_shape h
              show 1 ≤ 10
              decide
            have lenP : ∀ {t : Str}, isPr t = true → t.length ≤ 10 := fun h => by
              obtain ⟨c, d, rfl, _⟩ := pr_shape h
              show 2 ≤ 10
              decide
            have ok0 := okr so0' fun t ht => ⟨okS_let (rl0 t ht), lenL (rl0 t ht)⟩
            have ok1 := okr so1' fun t ht => ⟨okS_pr (rpr t ht).1, lenP (rpr t ht).1⟩
            have ok2 := okr so2' fun t ht => ⟨okS_let (rl1 t ht), lenL (rl1 t ht)⟩
            obtain ⟨dr1, dr2, dr3, dr4⟩ := dR_facts ok0 ok1 ok2 (Nat.le_trans so0'.len (by omega)) (Nat.le_trans so1'.len (by omega)) (Nat.le_trans so2'.len (by omega))
            refine ⟨_, rfl, rfl, _, rfl, iteF ?_⟩
            refine ⟨_, rfl, rfl, _, rfl, iteT ?_⟩
            refine ⟨_, rfl, ⟨_, rfl⟩, _, " ", rfl, rfl, rfl, by rw [sizeLine_eq]; omega, fun y2 ny2 => ?_⟩
            rw [esp]
            have sy2 := same_upd (o := HO.lst (bs.map V.str)) ny2
            refine ⟨_, rfl, 2, rfl, y2, _, rfl, SqL.of upd_same, fun z nz => ?_⟩
            have sz := same_upd (o := HO.lst (cutV (bs.map V.str) none (some 2))) nz
            rw [ew, cut_first, ← ew] at sz ⊢
            refine ⟨z, rfl, ⟨_, SqL.of upd_same⟩, fun D nD => lc_tups walk_list nD RowRel (fun _ s => SqL.of (s _ _ upd_same)) (by show 2 ≤ 1000000; decide) (fun ii u G4 hu s4 R kR => ?_) (fun G4 acc s4 eD hal hrel => ?_)⟩
            · have hub : okW 11 u = true := hbw u (by rw [ew]; exact List.mem_append_left r (List.mem_of_getElem? hu))
              have hul := okW.len hub
              refine ⟨rfl, _, rfl, rfl, _, rfl, ?_⟩
              by_cases eu : u = "-"
              · refine if_true_of (decide_eq_true (congrArg V.str eu)) ?_
                exact ⟨by show 0 ≤ sizeLine; exact Nat.zero_le _, fun q nq => kR _ q [] (same_upd nq) upd_same (.inl ⟨eu, rfl⟩)⟩
              · refine if_false_of (decide_eq_false fun z => eu (V.str.inj z)) ?_
                refine ⟨_, rfl, u, rfl, by omega, fun l1 n1 => ⟨l1, signs u, rfl, SqL.of upd_same, by rw [signs_size]; omega, fun ys pp pm sr np => ⟨pp, _, rfl, .inl ⟨SqL.of upd_same, fun q nq => ?_⟩⟩⟩⟩
                exact kR _ q ys ((same_upd n1).trans ((same_upd np).trans (same_upd nq))) upd_same (.inr ⟨eu, pm, sr⟩)
            · obtain ⟨qa, ya, ga, ha, ra⟩ := hrel 0 v0 rfl
              obtain ⟨qb, yb, gb, hb2, rb⟩ := hrel 1 v1 rfl
              have ea : ya = F2 := row_rel e0 ra so0'
              have eb2 : yb = L2 := row_rel e1 rb so2'
              rw [ea] at ha
              rw [eb2] at hb2
              have s34 : Same G3 G4 := sy2.trans (sz.trans s4)
              have dpr : Dp K G4 (.ref xr) (dR F2 W2 L2) := .lst (SqL.of (s34 _ _ hxr)) (.cons (.tup (SqT.of (s34 _ _ hq1)) (dp_strs F2)) (.cons (.tup (SqT.of (s34 _ _ hq2)) (dp_strs W2)) (.cons (.tup (SqT.of (s34 _ _ hq3)) (dp_strs L2)) .nil)))
              refine ⟨_, rfl, xr, dR F2 W2 L2, rfl, dpr, dr1, dr2, dr3, dr4, ?_⟩
              have hy4 : G4 y2 = some (.lst (bs.map V.str)) := s4 _ _ (sz _ _ upd_same)
              refine ⟨_, rfl, D, _, _, _, rfl, rfl, SqL.of eD, atI_nat (j := 0) ga, _, rfl, 2, rfl, y2, _, rfl, SqL.of hy4, fun z2 nz2 => ?_⟩
              have sz2 := same_upd (o := HO.lst (cutV (bs.map V.str) (some 2) none)) nz2
              rw [ew, cut_rest] at sz2 ⊢
              refine ⟨z2, r, rfl, SqL.of upd_same, by omega, fun ys pp pm sr np => ?_⟩
              have sp := same_upd (o := HO.lst (ys.map V.str)) np
              have eys : ys = W2 := (so1'.unique rnd pm sr).symm
              refine ⟨pp, _, rfl, .inl ⟨SqL.of upd_same, fun q nq => ?_⟩⟩
              have sq := same_upd (o := HO.tup (ys.map V.str)) nq
              have s4q := sz2.trans (sp.trans sq)
              refine ⟨_, rfl, D, _, _, _, rfl, rfl, SqL.of (s4q _ _ eD), atI_nat (j := 1) gb, by show 3 ≤ sizeLine; rw [sizeLine_eq]; decide, fun li nli => ?_⟩
              have sl := same_upd (o := HO.lst [V.ref qa, V.ref q, V.ref qb]) nli
              have s4l := s4q.trans sl
              refine ⟨li, dR F2 W2 L2, rfl, .lst (SqL.of upd_same) (.cons (.tup (SqT.of (s4l _ _ ha)) (dp_strs F2)) (.cons (.tup (SqT.of (by rw [← eys]; exact sl _ _ upd_same)) (dp_strs W2)) (.cons (.tup (SqT.of (s4l _ _ hb2)) (dp_strs L2)) .nil))), dr1, dr2, dr3, dr4, rfl, _, rfl, ?_⟩
              refine if_false_of (by rw [decide_eq_true rfl]; rfl) ?_
              have s3l := s34.trans s4l
              exact ⟨_, _, _, _, _, _, _, _, rfl, xG3.trans (ExtB.of s3l), Tabs.same T3 s3l, (pG3.same s3l).le (by omega)⟩
    · obtain ⟨o9, o10, o11, o12, o13, o14, o15, o16, rfl, xG, TG, pG⟩ := h
      have hMG := manner_pen pD hMD xG
      refine ⟨_, rfl, by show 0 ≤ sizeLine; exact Nat.zero_le _, fun e1 n1 => ?_⟩
      have s1 := same_upd (o := HO.lst []) n1
      refine ⟨by show 1 ≤ sizeLine; rw [sizeLine_eq]; decide, fun e2 n2 => ?_⟩
      have s2 := same_upd (o := HO.tup [V.str "a"]) n2
      refine ⟨_, rfl, by show 7 ≤ sizeLine; rw [sizeLine_eq]; decide, fun o no => ?_⟩
      obtain ⟨xs, exs⟩ : ∃ xs : List V, xs = [.non, .int 5, .ref e1, .str "", .ref e2, .ref s, .bl true] := ⟨_, rfl⟩
      have s3 : Same (upd (upd G e1 (.lst [])) e2 (.tup [V.str "a"])) (upd (upd (upd G e1 (.lst [])) e2 (.tup [V.str "a"])) o (.lst xs)) := same_upd no
      have ho3 : (upd (upd (upd G e1 (.lst [])) e2 (.tup [V.str "a"])) o (.lst xs)) o = some (.lst xs) := upd_same
      rw [exs] at s3 ho3
      have s13 := s1.trans (s2.trans s3)
      have pO := pG.same s13
      have he1 : (upd (upd (upd G e1 (.lst [])) e2 (.tup [V.str "a"])) o (.lst [.non, .int 5, .ref e1, .str "", .ref e2, .ref s, .bl true])) e1 = some (.lst []) := s3 _ _ (s2 _ _ upd_same)
      have he2 : (upd (upd (upd G e1 (.lst [])) e2 (.tup [V.str "a"])) o (.lst [.non, .int 5, .ref e1, .str "", .ref e2, .ref s, .bl true])) e2 = some (.tup [V.str "a"]) := s3 _ _ upd_same
      have nq : ∀ {b : Addr}, G b = none → b ≠ p := fun h z => pG.some1 (by rw [← z]; exact h)
      refine ⟨p, l, o, _, [.non, .int 5, .ref e1, .str "", .ref e2, .ref s, .bl true], rfl, by omega, pO, ho3, nq ((s1.trans s2).free no), by simp, by show 7 ≤ 1000; decide, fun G5 xo b5 p5 hxo => ?_⟩
      have T5 := tabs_pen pO (Tabs.same TG s13) b5
      have hM5 := manner_pen pO (hMG.same s13) (ExtB.ofB b5)
      have h5a := b5 _ _ (nq n1) he1
      have h5b := b5 _ _ (nq (s1.free n2)) he2
      have hno : xo = .str "" ∨ NoText K G5 xo := by
        obtain ⟨dxm, q1, q2, q3, x4, x5, x6, x7, g0, _⟩ := hM5
        simp only [List.mem_cons, List.not_mem_nil, or_false] at hxo
        rcases hxo with rfl | rfl | rfl | rfl | rfl | rfl | rfl
        · exact .inr ⟨_, .base .non, kit_ty (by decide +kernel)⟩
        · exact .inr ⟨_, .base (.int 5), kit_ty (by decide +kernel)⟩
        · exact .inr ⟨_, .base (.lst h5a), kit_ty (by decide +kernel)⟩
        · exact .inl rfl
        · exact .inr ⟨_, .base (.tup h5b), kit_ty (by decide +kernel)⟩
        · exact .inr ⟨_, .base (.ins g0 T.insM.cl T.insM.ha T.insM.hn T.insM.htk T.insM.hm), T.kt_Manner⟩
        · exact .inr ⟨_, .base (.bl true), kit_ty (by decide +kernel)⟩
      refine ⟨_, rfl, xo, rfl, T5, .inr ⟨hno, fun G6 tp eN T6 htp => ?_⟩⟩
      refine ⟨by show 2 ≤ sizeLine; rw [sizeLine_eq]; decide, fun tq ntq => ?_⟩
      have sq := same_upd (o := HO.tup [V.int 0, V.int (0 : Int)]) ntq
      refine ⟨_, _, .tup (SqT.of (sq _ _ htp)) (dp_ints [0, 0]), .tup (SqT.of upd_same) (dp_ints [0, 0]), shaped_pair 0, shaped_pair 0, _, rfl, ?_⟩
      refine if_false_of (by rw [show PyData.eqv (.tuple (dI [0, 0])) (.tuple (dI [0, 0])) = true from eqv_pair 0]; rfl) ?_
      exact ⟨_, _, _, _, _, _, _, _, _, _, _, _, _, _, _, rfl, Tabs.same T6 sq, ((p5.ext eN).same sq).le (by show 100 * i + 30 + 3 * 6 + 1 ≤ 100 * (i + 1); omega)⟩
  · exact k G
end
end K88

set_option maxHeartbeats 8000000
/-! ## 26. From the head to the law: nothing but the script and the two tables is known -/
namespace K88
open PySem PySem.Spec PyProof.Rows L2
open LamX (CodeO TabS Tabs ExtN TabB lamEnv)
section
variable {P : Program} {w : World} {K : PySem.W.Frag} {mg : Str → Option Value} {base : Heap} {a : Ad}
theorem law_run (T : Txt K mg a) (B : Tb base mg a) {s : Shared} {H : Hp} {x : Addr} {ns : List Int} (e0 : Env0 P w K mg base callerA [] s H) (hx : SqL K H x (ns.map V.int)) (hT : Tabs (TT a) H) :
    codeAny (model P w) callerA (.call (.ref a.f_law) ⟨[.ref x], []⟩) (CR CX0 [] P w H s (fun v _ => v = .bl true) E0) s := by
  have KX : K.In s.heap := e0.mod.kin.keeps fun b o e => (e0.bs b o e).1
  have hb := T.b_law s [.ref x] KX rfl
  obtain ⟨oc, od, kV, doc, pm, an, cdv, ct, osl, ed, lk, hcd⟩ := T.F_law.ex
  rw [ed] at lk hb
  have hr : Room 11 callerA := ⟨rfl, by decide, by decide⟩
  refine LamX.run_ofS (k := 10) (ps := ["script"]) (us := [.ref x]) (vs := [.ref x]) lk hcd sc_law hr e0 hb (.cons rfl .nil) rfl fun hr' => ?_
  obtain ⟨t, h, q⟩ := law_body (P := P) (w := w) (base := base) (mg := mg) (E := E0) (cdv := cdv) (outer := []) (Q := fun v _ => v = .bl true) T B hr' rfl hx hT fun _ => rfl
  exact ⟨t, h.nox, q⟩
end
/-- what is known at the start: tables at ts, at a what u says -/
def startH (ts : List Addr) (a : Addr) (u : Option HO) : Hp := fun b => if b ∈ ts then some (.tbl #[]) else if b = a then u else none
theorem start_tab {ts : List Addr} {a b : Addr} {u : Option HO} (h : b ∈ ts) : startH ts a u b = some (.tbl #[]) := if_pos h
theorem start_scr {ts : List Addr} {a : Addr} {u : Option HO} (h : a ∉ ts) : startH ts a u a = u := (if_neg h).trans (if_pos rfl)
theorem start_free {ts : List Addr} {a b : Addr} {u : Option HO} (h : b ∉ ts) (n : b ≠ a) : startH ts a u b = none := (if_neg h).trans (if_neg n)
theorem start_of {ts : List Addr} {a b : Addr} {u : Option HO} {o : HO} (h : startH ts a u b = some o) : (b ∈ ts ∧ o = .tbl #[]) ∨ (b ∉ ts ∧ b = a ∧ u = some o) := by
  by_cases hb : b ∈ ts
  · rw [start_tab hb] at h
    exact .inl ⟨hb, (Option.some.inj h).symm⟩
  · by_cases e : b = a
    · rw [e] at hb h ⊢
      rw [start_scr hb] at h
      exact .inr ⟨hb, rfl, h⟩
    · rw [start_free hb e] at h
      cases h
/-- the state behind the head, the script laid at a -/
structure Laid (K : PySem.W.Frag) (mg mb : Str → Option Value) (s : Shared) (ts : List Addr) (cd : Addr → Addr) (x : Addr) (vs : List Value) (ns : List Int) : Prop where
  kin : K.In s.heap
  glob : s.heap.Ns mainGlobals mg
  blt : s.heap.Ns builtinsNs mb
  boot : ∀ y : Str, y ≠ "__name__" → mb y = bootBuiltins y
  lim : s.heap.NoLimit
  gens : s.gens = #[]
  tab : ∀ t ∈ ts, s.heap.get? t = some { cls := .none, data := .fields #[] }
  tabK : ∀ t ∈ ts, K.lookup t = none
  code : ∀ t ∈ ts, PySem.W.CodeHd s.heap (cd t) t
  main : ∃ (bm : Addr) (ob : Obj), mg "__builtins__" = some (.ref bm) ∧ bm ≠ builtinsNs ∧ s.heap.get? bm = some ob ∧ ob.cls = .type "module" ∧ ob.dict = some builtinsNs ∧ ob.data = .plain
  scr : s.heap.get? x = some { cls := .type "list", data := .seq vs.toArray }
  isI : IntsAre vs ns
  few : ns.length ≤ sizeLine
section
variable {P : Program} {w : World} {K : PySem.W.Frag} {mg mb : Str → Option Value} {s : Shared} {ts : List Addr} {cd : Addr → Addr} {x : Addr} {vs : List Value} {ns : List Int}
theorem Laid.apart (L : Laid K mg mb s ts cd x vs ns) : x ∉ ts := fun z => by
  have h := L.tab x z
  rw [L.scr] at h
  injection h with h
  injection h with _ _ h
  cases h
/-- what else lies there is not known -/
theorem Laid.not (L : Laid K mg mb s ts cd x vs ns) {b : Addr} {o : Obj} {u : Option HO} (e : s.heap.get? b = some o) (h1 : o.data ≠ .fields #[]) (h2 : ∀ v n, o.data ≠ .seq v n) : startH ts x u b = none := by
  refine start_free (fun z => ?_) (fun z => ?_)
  · rw [L.tab b z] at e
    cases e
    exact h1 rfl
  · rw [z, L.scr] at e
    cases e
    exact h2 _ _ rfl
/-- the script, tracked where the written part has it not -/
def scrH (K : PySem.W.Frag) (x : Addr) (vs : List Value) (ns : List Int) : Option HO := if (K.lookup x).isSome then none else some (.frz { cls := .type "list", data := .seq vs.toArray } (.lst (ns.map V.int)))
theorem Laid.fr (L : Laid K mg mb s ts cd x vs ns) {b : Addr} {o : Obj} (e : K.lookup b = some o) : startH ts x (scrH K x vs ns) b = none := by
  cases h : startH ts x (scrH K x vs ns) b with
  | none => rfl
  | some u =>
    exfalso
    rcases start_of h with ⟨h1, _⟩ | ⟨_, rfl, h2⟩
    · rw [L.tabK b h1] at e
      cases e
    · unfold scrH at h2
      rw [e] at h2
      cases h2
theorem Laid.seq (L : Laid K mg mb s ts cd x vs ns) : SqL K (startH ts x (scrH K x vs ns)) x (ns.map V.int) := by
  cases hk : K.lookup x with
  | some o =>
    have e := L.kin x o hk
    rw [L.scr] at e
    cases e
    exact .inr ⟨_, vs.toArray, _, hk, rfl, rfl, rfl, by rw [List.size_toArray, L.isI.length]; exact L.few, by simpa using vals_ints L.isI⟩
  | none =>
    refine .inl (.inr ⟨{ cls := .type "list", data := .seq vs.toArray }, ?_⟩)
    rw [start_scr L.apart]
    unfold scrH
    rw [hk]
    rfl
theorem Laid.ok (L : Laid K mg mb s ts cd x vs ns) : HOk P w (startH ts x (scrH K x vs ns)) s.heap := fun b u h => by
  rcases start_of h with ⟨h1, rfl⟩ | ⟨_, rfl, h2⟩
  · exact L.tab b h1
  · unfold scrH at h2
    split at h2
    · cases h2
    · cases h2
      exact ⟨L.scr, by rw [List.length_map]; exact L.few, vs, _, vals_ints L.isI, L.scr⟩
theorem Laid.nsK (L : Laid K mg mb s ts cd x vs ns) {b : Addr} {m : Str → Option Value} (h : s.heap.Ns b m) : (hidT s.heap (startH ts x (scrH K x vs ns))).Ns b m := by
  obtain ⟨o, es, ep, e, d, r⟩ := h
  exact ⟨o, es, ep, hidT_get e (L.not e (by rw [d]; exact fun z => by cases z) (by rw [d]; exact fun v n z => by cases z)), d, r⟩
theorem Laid.mod (L : Laid K mg mb s ts cd x vs ns) : L2.Mod K mg (hidT s.heap (startH ts x (scrH K x vs ns))) := by
  obtain ⟨mc, h1, h2⟩ := L.lim
  exact ⟨fun b o e => hidT_get (L.kin b o e) (L.fr e), L.nsK L.glob, ⟨mb, L.nsK L.blt, L.boot⟩, mc, L.nsK h1, h2⟩
theorem Laid.tabB (L : Laid K mg mb s ts cd x vs ns) {t : Addr} (ht : t ∈ ts) : TabB (hidT s.heap (startH ts x (scrH K x vs ns))) mg (cd t) t := by
  refine ⟨?_, ?_, fun z => ?_⟩
  · obtain ⟨o, us, file, tf, flags, tg, inF, text, tt, c1, c2, c3, c4, c5⟩ := L.code t ht
    refine ⟨o, us, file, tf, flags, tg, inF, text, tt, hidT_get c1 (L.not c1 (fun z => ?_) fun v n z => ?_), c2, c3, c4, c5⟩
    · rw [c3] at z
      cases z
      simp at c4
    · rw [c3] at z
      cases z
  · obtain ⟨bm, ob, b1, b2, b3, b4, b5, b6⟩ := L.main
    refine ⟨bm, ob, b1, b2, fun q => ?_, fun q => ?_, hidT_get b3 (L.not b3 (fun z => ?_) fun v n z => ?_), b4, b5, b6⟩
    · obtain ⟨o, es, ep, e, hd, _⟩ := L.glob
      rw [q, e] at b3
      cases b3
      rw [hd] at b6
      cases b6
    · rw [q, L.tab t ht] at b3
      cases b3
      cases b6
    · rw [b6] at z
      cases z
    · rw [b6] at z
      cases z
  · obtain ⟨o, es, ep, e, hd, _⟩ := L.glob
    rw [z, L.tab t ht] at e
    cases e
    cases hd
theorem Laid.env (L : Laid K mg mb s ts cd x vs ns) : Env0 P w K mg (hidT s.heap (startH ts x (scrH K x vs ns))) callerA [] s (startH ts x (scrH K x vs ns)) :=
  ⟨rfl, L.mod, fun _ _ e => of_hidT e, Nat.le_of_eq (hidT_size _ _), trivial, fun b hb => (List.not_mem_nil hb).elim, L.ok, .of_eq L.gens⟩
/-- behind the call: all stands as it stood, the tables grown -/
theorem Laid.behind (L : Laid K mg mb s ts cd x vs ns) {H' : Hp} {s' : Shared} (un : Un (frs []) [] (startH ts x (scrH K x vs ns)) H' s.heap s'.heap) (ok : HOk P w H' s'.heap) : OldK s.heap s'.heap := by
  have grown : ∀ t ∈ ts, ∃ more : Array Value, s'.heap.get? t = some { cls := .none, data := .fields more } := fun t ht => by
    obtain ⟨more, h⟩ := un.tbls t #[] (start_tab ht)
    exact ⟨_, ok t _ h⟩
  have kept : ∀ b o, b ∉ ts → s.heap.get? b = some o → s'.heap.get? b = some o := fun b o nb e => by
    cases q : startH ts x (scrH K x vs ns) b with
    | none => exact un.keep b o e q (List.not_mem_nil) (List.not_mem_nil)
    | some u =>
      rcases start_of q with ⟨h1, _⟩ | ⟨_, rfl, h2⟩
      · exact absurd h1 nb
      · unfold scrH at h2
        split at h2
        · cases h2
        · cases h2
          obtain ⟨e1, _⟩ := ok b _ (un.frzs b _ _ q)
          rw [L.scr] at e
          cases e
          exact e1
  refine ⟨fun b o e => ?_, fun b o e => ?_⟩
  · by_cases hb : b ∈ ts
    · obtain ⟨more, hm⟩ := grown b hb
      rw [L.tab b hb] at e
      cases e
      exact .inr (.inl ⟨((L.code b hb).tab (L.tab b hb)).isCodeTable, rfl, #[], more, rfl, by rw [Array.empty_append]; exact hm⟩)
    · exact .inl (kept b o hb e)
  · by_cases hb : b ∈ ts
    · obtain ⟨more, hm⟩ := grown b hb
      exact ⟨_, hm⟩
    · exact ⟨o, kept b o hb e⟩
theorem Laid.runs {a : Ad} (L : Laid K mg mb s ts cd x vs ns) (T : Txt K mg a) (ets : ts = [a.p_m, a.p_c]) (em : cd a.p_m = a.k_m) (ec : cd a.p_c = a.k_c) :
    codeAny (model P w) callerA (.call (.ref a.f_law) ⟨[.ref x], []⟩) (fun r s' => r = .ok (.ret (.bool true)) ∧ OldK s.heap s'.heap ∧ s'.os = s.os ∧ AllBare s'.gens) s := by
  have m1 : a.p_m ∈ ts := by rw [ets]; exact List.mem_cons_self
  have m2 : a.p_c ∈ ts := by rw [ets]; exact List.mem_cons_of_mem _ List.mem_cons_self
  have B : Tb (hidT s.heap (startH ts x (scrH K x vs ns))) mg a := ⟨em ▸ L.tabB m1, ec ▸ L.tabB m2⟩
  have hT : Tabs (TT a) (startH ts x (scrH K x vs ns)) := fun p hp => by
    rcases List.mem_cons.mp hp with rfl | hp
    · exact TabS.nil (start_tab m1)
    · rw [List.mem_singleton] at hp
      subst hp
      exact TabS.nil (start_tab m2)
  refine codeAny_mono (law_run T B L.env L.seq hT) fun r s' h => ?_
  cases r with
  | error e => exact (show False from h).elim
  | ok fl =>
    cases fl with
    | ret u =>
      obtain ⟨v, H', os, bare, un, ok, rv, q⟩ := h
      have q' : v = .bl true := q
      subst q'
      obtain rfl : u = Value.bool true := rv
      exact ⟨rfl, L.behind un ok, os, bare⟩
    | next => exact (show False from h).elim
    | brk => exact (show False from h).elim
    | cont => exact (show False from h).elim
end
end K88

set_option maxHeartbeats 8000000
/-! ## 27. The text behind the top -/
namespace K88
open PySem PySem.Spec PyProof.Rows L2
open LamX (CodeO TabS Tabs ExtN TabB lamEnv)
/-- a def stands at f -/
def FunAt (K : PySem.W.Frag) (x qual : Str) (st : Stmt) (f : Addr) : Prop := ∃ (oc : Value) (od : Option Addr) (kV doc pm : Value) (an : Option Addr) (cdv ct : Value) (osl : Array (Option Value)),
  K.lookup f = some ⟨oc, od, .func (PySem.W.fnOf x qual (defArgs st) (defBody st) (defScope st) .none kV doc pm an cdv ct), osl⟩ ∧ PySem.W.codeIn K cdv qual = true ∧ PySem.W.keepIn K (.ref f) = true
theorem FunAt.mk {K : PySem.W.Frag} {x qual : Str} {st : Stmt} {f : Addr} {oc : Value} {od : Option Addr} {kV doc pm : Value} {an : Option Addr} {cdv ct : Value} {osl : Array (Option Value)}
    (h1 : K.lookup f = some ⟨oc, od, .func (PySem.W.fnOf x qual (defArgs st) (defBody st) (defScope st) .none kV doc pm an cdv ct), osl⟩) (h2 : PySem.W.codeIn K cdv qual = true) (h3 : PySem.W.keepIn K (.ref f) = true) : FunAt K x qual st f :=
  ⟨oc, od, kV, doc, pm, an, cdv, ct, osl, h1, h2, h3⟩
theorem FunAt.fn {K : PySem.W.Frag} {x qual : Str} {st : Stmt} {f : Addr} (h : FunAt K x qual st f) : ∃ fd, Fun K x qual st f fd := by
  obtain ⟨oc, od, kV, doc, pm, an, cdv, ct, osl, h1, h2, h3⟩ := h
  exact ⟨_, fun_mk h1 h2 h3⟩
set_option maxHeartbeats 0 in
theorem all_mk {K : PySem.W.Frag} {h : Heap} {mg : Str → Option Value} {fa : Addr} (X : K.In h) (G : h.Ns mainGlobals mg) (hfa : mg "law" = some (.ref fa))
    {f_InvalidTextx_initx f_is_letter f_pair_in f_letters_row f_manner_in f_fresh f_Linex_initx f_Line_refuse f_Line_is_over f_Line_take f_Line_collected f_line_of f_is_sign f_signs_in f_is_pair f_pairs_in f_reached f_Mannerx_initx f_Mannerx_eqx f_read_manner f_manner_text f__law_pen f__law_draw f__law_pick f__law_some f__law_parts f__law_word f__law_is_row f__law_fault f__law_read f__law_bent f_law c_Line c_Manner c_InvalidText k_m p_m k_c p_c e0 D0 NM NI : Addr} {tL tl : Tok}
    {oc_Line_collected oc_manner_in dc_Line_collected dc_manner_in pm_Line_collected pm_manner_in ct_Line_collected ct_manner_in kV_m : Value} {od_Line_collected od_manner_in an_Line_collected an_manner_in ode : Option Addr} {sl_Line_collected sl_manner_in sle : Array (Option Value)} {nse : Nat}
    {nmM nmI qM qI : Str} {bsM bsI bmM bmI subM subI : List Value} {snM snI : List Str} {abM abI : Bool} {colM colI : Option Bool} {ddM ddI : Option Addr} {k0M k1M k2M k3M k5M k0I k1I k2I k3I k5I : Option Value} {nidM : String}
    (a_is_letter : PySem.W.nsIn K mainGlobals "is_letter" = some (some (.ref f_is_letter)))
    (a_pair_in : PySem.W.nsIn K mainGlobals "pair_in" = some (some (.ref f_pair_in)))
    (a_letters_row : PySem.W.nsIn K mainGlobals "letters_row" = some (some (.ref f_letters_row)))
    (a_manner_in : PySem.W.nsIn K mainGlobals "manner_in" = some (some (.ref f_manner_in)))
    (a_fresh : PySem.W.nsIn K mainGlobals "fresh" = some (some (.ref f_fresh)))
    (a_line_of : PySem.W.nsIn K mainGlobals "line_of" = some (some (.ref f_line_of)))
    (a_is_sign : PySem.W.nsIn K mainGlobals "is_sign" = some (some (.ref f_is_sign)))
    (a_signs_in : PySem.W.nsIn K mainGlobals "signs_in" = some (some (.ref f_signs_in)))
    (a_is_pair : PySem.W.nsIn K mainGlobals "is_pair" = some (some (.ref f_is_pair)))
    (a_pairs_in : PySem.W.nsIn K mainGlobals "pairs_in" = some (some (.ref f_pairs_in)))
    (a_reached : PySem.W.nsIn K mainGlobals "reached" = some (some (.ref f_reached)))
    (a_read_manner : PySem.W.nsIn K mainGlobals "read_manner" = some (some (.ref f_read_manner)))
    (a_manner_text : PySem.W.nsIn K mainGlobals "manner_text" = some (some (.ref f_manner_text)))
    (a__law_pen : PySem.W.nsIn K mainGlobals "_law_pen" = some (some (.ref f__law_pen)))
    (a__law_draw : PySem.W.nsIn K mainGlobals "_law_draw" = some (some (.ref f__law_draw)))
    (a__law_pick : PySem.W.nsIn K mainGlobals "_law_pick" = some (some (.ref f__law_pick)))
    (a__law_some : PySem.W.nsIn K mainGlobals "_law_some" = some (some (.ref f__law_some)))
    (a__law_parts : PySem.W.nsIn K mainGlobals "_law_parts" = some (some (.ref f__law_parts)))
    (a__law_word : PySem.W.nsIn K mainGlobals "_law_word" = some (some (.ref f__law_word)))
    (a__law_is_row : PySem.W.nsIn K mainGlobals "_law_is_row" = some (some (.ref f__law_is_row)))
    (a__law_fault : PySem.W.nsIn K mainGlobals "_law_fault" = some (some (.ref f__law_fault)))
    (a__law_read : PySem.W.nsIn K mainGlobals "_law_read" = some (some (.ref f__law_read)))
    (a__law_bent : PySem.W.nsIn K mainGlobals "_law_bent" = some (some (.ref f__law_bent)))
    (a_law : PySem.W.nsIn K mainGlobals "law" = some (some (.ref f_law)))
    (a_Line : PySem.W.nsIn K mainGlobals "Line" = some (some (.ref c_Line)))
    (a_Manner : PySem.W.nsIn K mainGlobals "Manner" = some (some (.ref c_Manner)))
    (a_InvalidText : PySem.W.nsIn K mainGlobals "InvalidText" = some (some (.ref c_InvalidText)))
    (i_InvalidTextx_initx : PySem.W.findIn K (.ref c_InvalidText) "__init__" = some (some (.ref f_InvalidTextx_initx)))
    (t_InvalidTextx_initx : PySem.W.typeIn K (.ref f_InvalidTextx_initx) = some (.type "function"))
    (i_Linex_initx : PySem.W.findIn K (.ref c_Line) "__init__" = some (some (.ref f_Linex_initx)))
    (t_Linex_initx : PySem.W.isFn K (.ref f_Linex_initx) = true)
    (i_Line_refuse : PySem.W.findIn K (.ref c_Line) "refuse" = some (some (.ref f_Line_refuse)))
    (t_Line_refuse : PySem.W.isFn K (.ref f_Line_refuse) = true)
    (i_Line_is_over : PySem.W.findIn K (.ref c_Line) "is_over" = some (some (.ref f_Line_is_over)))
    (t_Line_is_over : PySem.W.isFn K (.ref f_Line_is_over) = true)
    (i_Line_take : PySem.W.findIn K (.ref c_Line) "take" = some (some (.ref f_Line_take)))
    (t_Line_take : PySem.W.isFn K (.ref f_Line_take) = true)
    (i_Line_collected : PySem.W.findIn K (.ref c_Line) "collected" = some (some (.ref f_Line_collected)))
    (t_Line_collected : PySem.W.isFn K (.ref f_Line_collected) = true)
    (i_Mannerx_initx : PySem.W.findIn K (.ref c_Manner) "__init__" = some (some (.ref f_Mannerx_initx)))
    (t_Mannerx_initx : PySem.W.isFn K (.ref f_Mannerx_initx) = true)
    (i_Mannerx_eqx : PySem.W.findIn K (.ref c_Manner) "__eq__" = some (some (.ref f_Mannerx_eqx)))
    (t_Mannerx_eqx : PySem.W.isFn K (.ref f_Mannerx_eqx) = true)
    (l_InvalidTextx_initx : FunAt K "__init__" "InvalidText.__init__" s_InvalidTextx_initx f_InvalidTextx_initx)
    (l_is_letter : FunAt K "is_letter" "is_letter" s_is_letter f_is_letter)
    (l_pair_in : FunAt K "pair_in" "pair_in" s_pair_in f_pair_in)
    (l_letters_row : FunAt K "letters_row" "letters_row" s_letters_row f_letters_row)
    (l_manner_in : K.lookup f_manner_in = some ⟨oc_manner_in, od_manner_in, .func (PySem.W.fnOf "manner_in" "manner_in" (defArgs s_manner_in) (defBody s_manner_in) (defScope s_manner_in) .none kV_m dc_manner_in pm_manner_in an_manner_in (.ref k_m) ct_manner_in), sl_manner_in⟩)
    (c_manner_in : PySem.W.codeIn K (.ref k_m) "manner_in" = true)
    (k_manner_in : PySem.W.keepIn K (.ref f_manner_in) = true)
    (l_fresh : FunAt K "fresh" "fresh" s_fresh f_fresh)
    (l_Linex_initx : FunAt K "__init__" "Line.__init__" s_Linex_initx f_Linex_initx)
    (l_Line_refuse : FunAt K "refuse" "Line.refuse" s_Line_refuse f_Line_refuse)
    (l_Line_is_over : FunAt K "is_over" "Line.is_over" s_Line_is_over f_Line_is_over)
    (l_Line_take : FunAt K "take" "Line.take" s_Line_take f_Line_take)
    (l_Line_collected : K.lookup f_Line_collected = some ⟨oc_Line_collected, od_Line_collected, .func (PySem.W.fnOf "collected" "Line.collected" (defArgs s_Line_collected) (defBody s_Line_collected) (defScope s_Line_collected) .none (.ref D0) dc_Line_collected pm_Line_collected an_Line_collected (.ref k_c) ct_Line_collected), sl_Line_collected⟩)
    (c_Line_collected : PySem.W.codeIn K (.ref k_c) "Line.collected" = true)
    (k_Line_collected : PySem.W.keepIn K (.ref f_Line_collected) = true)
    (l_line_of : FunAt K "line_of" "line_of" s_line_of f_line_of)
    (l_is_sign : FunAt K "is_sign" "is_sign" s_is_sign f_is_sign)
    (l_signs_in : FunAt K "signs_in" "signs_in" s_signs_in f_signs_in)
    (l_is_pair : FunAt K "is_pair" "is_pair" s_is_pair f_is_pair)
    (l_pairs_in : FunAt K "pairs_in" "pairs_in" s_pairs_in f_pairs_in)
    (l_reached : FunAt K "reached" "reached" s_reached f_reached)
    (l_Mannerx_initx : FunAt K "__init__" "Manner.__init__" s_Mannerx_initx f_Mannerx_initx)
    (l_Mannerx_eqx : FunAt K "__eq__" "Manner.__eq__" s_Mannerx_eqx f_Mannerx_eqx)
    (l_read_manner : FunAt K "read_manner" "read_manner" s_read_manner f_read_manner)
    (l_manner_text : FunAt K "manner_text" "manner_text" s_manner_text f_manner_text)
    (l__law_pen : FunAt K "_law_pen" "_law_pen" s__law_pen f__law_pen)
    (l__law_draw : FunAt K "_law_draw" "_law_draw" s__law_draw f__law_draw)
    (l__law_pick : FunAt K "_law_pick" "_law_pick" s__law_pick f__law_pick)
    (l__law_some : FunAt K "_law_some" "_law_some" s__law_some f__law_some)
    (l__law_parts : FunAt K "_law_parts" "_law_parts" s__law_parts f__law_parts)
    (l__law_word : FunAt K "_law_word" "_law_word" s__law_word f__law_word)
    (l__law_is_row : FunAt K "_law_is_row" "_law_is_row" s__law_is_row f__law_is_row)
    (l__law_fault : FunAt K "_law_fault" "_law_fault" s__law_fault f__law_fault)
    (l__law_read : FunAt K "_law_read" "_law_read" s__law_read f__law_read)
    (l__law_bent : FunAt K "_law_bent" "_law_bent" s__law_bent f__law_bent)
    (l_law : FunAt K "law" "law" s_law f_law)
    (z_len : PySem.W.nsIn K mainGlobals "len" = some none)
    (z_isinstance : PySem.W.nsIn K mainGlobals "isinstance" = some none)
    (z_str : PySem.W.nsIn K mainGlobals "str" = some none)
    (z_list : PySem.W.nsIn K mainGlobals "list" = some none)
    (z_tuple : PySem.W.nsIn K mainGlobals "tuple" = some none)
    (z_all : PySem.W.nsIn K mainGlobals "all" = some none)
    (z_sorted : PySem.W.nsIn K mainGlobals "sorted" = some none)
    (z_int : PySem.W.nsIn K mainGlobals "int" = some none)
    (z_abs : PySem.W.nsIn K mainGlobals "abs" = some none)
    (z_min : PySem.W.nsIn K mainGlobals "min" = some none)
    (z_range : PySem.W.nsIn K mainGlobals "range" = some none)
    (z_set : PySem.W.nsIn K mainGlobals "set" = some none)
    (z_repr : PySem.W.nsIn K mainGlobals "repr" = some none)
    (a_LET : PySem.W.nsIn K mainGlobals "LETTERS" = some (some (.str (Str.ofString "abcdefghijklmnopqrstuvwxyz") tL)))
    (pg_Line : PySem.W.plainGet K c_Line Str.empty = true)
    (hd_Line : PySem.W.hasDictIn K c_Line = true)
    (po_Line : PySem.W.plainOver K c_Line = true)
    (sa_Line : PySem.W.findIn K (.ref c_Line) "__setattr__" = some (some (.builtin "object.__setattr__")))
    (mk_Line : PySem.W.makesIn K c_Line = true)
    (kp_Line : PySem.W.keepIn K (.ref c_Line) = true)
    (pg_Manner : PySem.W.plainGet K c_Manner Str.empty = true)
    (hd_Manner : PySem.W.hasDictIn K c_Manner = true)
    (po_Manner : PySem.W.plainOver K c_Manner = true)
    (sa_Manner : PySem.W.findIn K (.ref c_Manner) "__setattr__" = some (some (.builtin "object.__setattr__")))
    (mk_Manner : PySem.W.makesIn K c_Manner = true)
    (kp_Manner : PySem.W.keepIn K (.ref c_Manner) = true)
    (no_Line_words : PySem.W.findIn K (.ref c_Line) "words" = some none)
    (no_Line_number : PySem.W.findIn K (.ref c_Line) "number" = some none)
    (no_Line_passed : PySem.W.findIn K (.ref c_Line) "passed" = some none)
    (no_Manner_firsts : PySem.W.findIn K (.ref c_Manner) "firsts" = some none)
    (no_Manner_follows : PySem.W.findIn K (.ref c_Manner) "follows" = some none)
    (no_Manner_lasts : PySem.W.findIn K (.ref c_Manner) "lasts" = some none)
    (no_Manner_letters : PySem.W.findIn K (.ref c_Manner) "letters" = some none)
    (no_Manner_used : PySem.W.findIn K (.ref c_Manner) "used" = some none)
    (no_Manner_starts : PySem.W.findIn K (.ref c_Manner) "starts" = some none)
    (no_Manner_ends : PySem.W.findIn K (.ref c_Manner) "ends" = some none)
    (e_end : PySem.W.nsIn K D0 "ends" = some (some (.ref e0)))
    (e_lst : PySem.W.nsIn K D0 "least" = some (some (.int 0 tl)))
    (e_tup : K.lookup e0 = some ⟨.type "tuple", ode, .seq #[] nse, sle⟩)
    (kt : PySem.W.kitOne K (.ref c_Manner) (.type "str") = some false)
    (xM : K.lookup c_Manner = some (excClassObj nmM qM c_Manner NM bsM bmM true snM subM abM colM ddM k0M k1M k2M k3M k5M nidM))
    (bM : bmM.contains (.type "object") = true)
    (neM : PySem.W.findIn K (.ref c_Manner) "__ne__" = some (some (.builtin "object.__ne__")))
    (haM : PySem.W.findIn K (.ref c_Manner) "__class__" = some (some (.builtin "object.__class__")))
    (hnM : PySem.W.specialIn K (.builtin "object.__class__") "__get__" = some (some (.builtin "getset_descriptor.__get__")))
    (htM : PySem.W.takesIn K (.builtin "object.__class__") = some true)
    (hmM : PySem.W.mroIn K c_Manner (.type "object") = some true)
    (meM : PySem.W.kitOne K (.ref c_Manner) (.ref c_Manner) = some true)
    (xI : K.lookup c_InvalidText = some (excClassObj nmI qI c_InvalidText NI bsI bmI true snI subI abI colI ddI k0I k1I k2I k3I k5I "ValueError.__new__"))
    (bI : PySem.HandSPX.refsVE bmI = true)
    (saI : PySem.W.findIn K (.ref c_InvalidText) "__setattr__" = some (some (.builtin "object.__setattr__")))
    (exI : PySem.W.subIn K (.ref c_InvalidText) (.type "BaseException") = some true)
    (tyI : PySem.W.typeIn K (.ref c_InvalidText) = some (.type "type"))
    (kI : PySem.W.keepIn K (.ref c_InvalidText) = true)
    (nlI : PySem.W.findIn K (.ref c_InvalidText) "line" = some none)
    (nwI : PySem.W.findIn K (.ref c_InvalidText) "word" = some none)
    (gaI : PySem.W.findIn K (.ref c_InvalidText) "__getattribute__" = some (some (.builtin "BaseException.__getattribute__")))
    (ggI : PySem.W.findIn K (.ref c_InvalidText) "__getattr__" = some none)
    (hdI : PySem.W.hasDictIn K c_InvalidText = true)
    (teI : PySem.W.exmOne K (.ref c_InvalidText) (.ref c_InvalidText) = some true)
    (hk_m : PySem.W.codeHdIn K k_m p_m = true)
    (hk_c : PySem.W.codeHdIn K k_c p_c = true)
    (tk_m : K.lookup p_m = none)
    (tk_c : K.lookup p_c = none)
    (nep : p_m ≠ p_c)
    : ∃ a : Ad, fa = a.f_law ∧ Txt K mg a ∧ PySem.W.CodeHd h a.k_m a.p_m ∧ PySem.W.CodeHd h a.k_c a.p_c ∧ K.lookup a.p_m = none ∧ K.lookup a.p_c = none ∧ a.p_m = p_m ∧ a.p_c = p_c := by
  have e := hfa.symm.trans (PySem.W.mg_of X G a_law)
  cases e
  obtain ⟨d_InvalidTextx_initx, F_InvalidTextx_initx⟩ := l_InvalidTextx_initx.fn
  obtain ⟨d_is_letter, F_is_letter⟩ := l_is_letter.fn
  obtain ⟨d_pair_in, F_pair_in⟩ := l_pair_in.fn
  obtain ⟨d_letters_row, F_letters_row⟩ := l_letters_row.fn
  obtain ⟨d_fresh, F_fresh⟩ := l_fresh.fn
  obtain ⟨d_Linex_initx, F_Linex_initx⟩ := l_Linex_initx.fn
  obtain ⟨d_Line_refuse, F_Line_refuse⟩ := l_Line_refuse.fn
  obtain ⟨d_Line_is_over, F_Line_is_over⟩ := l_Line_is_over.fn
  obtain ⟨d_Line_take, F_Line_take⟩ := l_Line_take.fn
  obtain ⟨d_line_of, F_line_of⟩ := l_line_of.fn
  obtain ⟨d_is_sign, F_is_sign⟩ := l_is_sign.fn
  obtain ⟨d_signs_in, F_signs_in⟩ := l_signs_in.fn
  obtain ⟨d_is_pair, F_is_pair⟩ := l_is_pair.fn
  obtain ⟨d_pairs_in, F_pairs_in⟩ := l_pairs_in.fn
  obtain ⟨d_reached, F_reached⟩ := l_reached.fn
  obtain ⟨d_Mannerx_initx, F_Mannerx_initx⟩ := l_Mannerx_initx.fn
  obtain ⟨d_Mannerx_eqx, F_Mannerx_eqx⟩ := l_Mannerx_eqx.fn
  obtain ⟨d_read_manner, F_read_manner⟩ := l_read_manner.fn
  obtain ⟨d_manner_text, F_manner_text⟩ := l_manner_text.fn
  obtain ⟨d__law_pen, F__law_pen⟩ := l__law_pen.fn
  obtain ⟨d__law_draw, F__law_draw⟩ := l__law_draw.fn
  obtain ⟨d__law_pick, F__law_pick⟩ := l__law_pick.fn
  obtain ⟨d__law_some, F__law_some⟩ := l__law_some.fn
  obtain ⟨d__law_parts, F__law_parts⟩ := l__law_parts.fn
  obtain ⟨d__law_word, F__law_word⟩ := l__law_word.fn
  obtain ⟨d__law_is_row, F__law_is_row⟩ := l__law_is_row.fn
  obtain ⟨d__law_fault, F__law_fault⟩ := l__law_fault.fn
  obtain ⟨d__law_read, F__law_read⟩ := l__law_read.fn
  obtain ⟨d__law_bent, F__law_bent⟩ := l__law_bent.fn
  obtain ⟨d_law, F_law⟩ := l_law.fn
  have F_manner_in := fun_mk l_manner_in c_manner_in k_manner_in
  let a : Ad := { f_InvalidTextx_initx := f_InvalidTextx_initx, f_is_letter := f_is_letter, f_pair_in := f_pair_in, f_letters_row := f_letters_row, f_manner_in := f_manner_in, f_fresh := f_fresh, f_Linex_initx := f_Linex_initx, f_Line_refuse := f_Line_refuse, f_Line_is_over := f_Line_is_over, f_Line_take := f_Line_take, f_Line_collected := f_Line_collected, f_line_of := f_line_of, f_is_sign := f_is_sign, f_signs_in := f_signs_in, f_is_pair := f_is_pair, f_pairs_in := f_pairs_in, f_reached := f_reached, f_Mannerx_initx := f_Mannerx_initx, f_Mannerx_eqx := f_Mannerx_eqx, f_read_manner := f_read_manner, f_manner_text := f_manner_text, f__law_pen := f__law_pen, f__law_draw := f__law_draw, f__law_pick := f__law_pick, f__law_some := f__law_some, f__law_parts := f__law_parts, f__law_word := f__law_word, f__law_is_row := f__law_is_row, f__law_fault := f__law_fault, f__law_read := f__law_read, f__law_bent := f__law_bent, f_law := fa, d_InvalidTextx_initx := d_InvalidTextx_initx, d_is_letter := d_is_letter, d_pair_in := d_pair_in, d_letters_row := d_letters_row, d_manner_in := PySem.W.fnOf "manner_in" "manner_in" (defArgs s_manner_in) (defBody s_manner_in) (defScope s_manner_in) .none kV_m dc_manner_in pm_manner_in an_manner_in (.ref k_m) ct_manner_in, d_fresh := d_fresh, d_Linex_initx := d_Linex_initx, d_Line_refuse := d_Line_refuse, d_Line_is_over := d_Line_is_over, d_Line_take := d_Line_take, d_Line_collected := PySem.W.fnOf "collected" "Line.collected" (defArgs s_Line_collected) (defBody s_Line_collected) (defScope s_Line_collected) .none (.ref D0) dc_Line_collected pm_Line_collected an_Line_collected (.ref k_c) ct_Line_collected, d_line_of := d_line_of, d_is_sign := d_is_sign, d_signs_in := d_signs_in, d_is_pair := d_is_pair, d_pairs_in := d_pairs_in, d_reached := d_reached, d_Mannerx_initx := d_Mannerx_initx, d_Mannerx_eqx := d_Mannerx_eqx, d_read_manner := d_read_manner, d_manner_text := d_manner_text, d__law_pen := d__law_pen, d__law_draw := d__law_draw, d__law_pick := d__law_pick, d__law_some := d__law_some, d__law_parts := d__law_parts, d__law_word := d__law_word, d__law_is_row := d__law_is_row, d__law_fault := d__law_fault, d__law_read := d__law_read, d__law_bent := d__law_bent, d_law := d_law, c_Line := c_Line, c_Manner := c_Manner, c_InvalidText := c_InvalidText, t_L := tL, k_m := k_m, p_m := p_m, k_c := k_c, p_c := p_c, e_0 := e0 }
  have cM : Cls K a.c_Manner := ⟨pg_Manner, hd_Manner, po_Manner, sa_Manner⟩
  refine ⟨a, rfl, {
    F_InvalidTextx_initx := F_InvalidTextx_initx,
    b_InvalidTextx_initx := F_InvalidTextx_initx.binds fun _ _ _ _ _ _ us hl => match us, hl with | [_, _, _], _ => rfl,
    g_is_letter := (PySem.W.mg_of X G a_is_letter),
    F_is_letter := F_is_letter,
    b_is_letter := F_is_letter.binds fun _ _ _ _ _ _ us hl => match us, hl with | [_], _ => rfl,
    g_pair_in := (PySem.W.mg_of X G a_pair_in),
    F_pair_in := F_pair_in,
    b_pair_in := F_pair_in.binds fun _ _ _ _ _ _ us hl => match us, hl with | [_], _ => rfl,
    g_letters_row := (PySem.W.mg_of X G a_letters_row),
    F_letters_row := F_letters_row,
    b_letters_row := F_letters_row.binds fun _ _ _ _ _ _ us hl => match us, hl with | [_], _ => rfl,
    g_manner_in := (PySem.W.mg_of X G a_manner_in),
    F_manner_in := F_manner_in,
    b_manner_in := F_manner_in.binds fun _ _ _ _ _ _ us hl => match us, hl with | [_], _ => rfl,
    g_fresh := (PySem.W.mg_of X G a_fresh),
    F_fresh := F_fresh,
    b_fresh := F_fresh.binds fun _ _ _ _ _ _ us hl => match us, hl with | [_, _], _ => rfl,
    m_Linex_initx := ⟨i_Linex_initx, t_Linex_initx, F_Linex_initx.kp⟩,
    F_Linex_initx := F_Linex_initx,
    b_Linex_initx := F_Linex_initx.binds fun _ _ _ _ _ _ us hl => match us, hl with | [_, _, _], _ => rfl,
    m_Line_refuse := ⟨i_Line_refuse, t_Line_refuse, F_Line_refuse.kp⟩,
    F_Line_refuse := F_Line_refuse,
    b_Line_refuse := F_Line_refuse.binds fun _ _ _ _ _ _ us hl => match us, hl with | [_], _ => rfl,
    m_Line_is_over := ⟨i_Line_is_over, t_Line_is_over, F_Line_is_over.kp⟩,
    F_Line_is_over := F_Line_is_over,
    b_Line_is_over := F_Line_is_over.binds fun _ _ _ _ _ _ us hl => match us, hl with | [_], _ => rfl,
    m_Line_take := ⟨i_Line_take, t_Line_take, F_Line_take.kp⟩,
    F_Line_take := F_Line_take,
    b_Line_take := F_Line_take.binds fun _ _ _ _ _ _ us hl => match us, hl with | [_, _], _ => rfl,
    m_Line_collected := ⟨i_Line_collected, t_Line_collected, k_Line_collected⟩,
    g_line_of := (PySem.W.mg_of X G a_line_of),
    F_line_of := F_line_of,
    b_line_of := F_line_of.binds fun _ _ _ _ _ _ us hl => match us, hl with | [_], _ => rfl,
    g_is_sign := (PySem.W.mg_of X G a_is_sign),
    F_is_sign := F_is_sign,
    b_is_sign := F_is_sign.binds fun _ _ _ _ _ _ us hl => match us, hl with | [_], _ => rfl,
    g_signs_in := (PySem.W.mg_of X G a_signs_in),
    F_signs_in := F_signs_in,
    b_signs_in := F_signs_in.binds fun _ _ _ _ _ _ us hl => match us, hl with | [_, _], _ => rfl,
    g_is_pair := (PySem.W.mg_of X G a_is_pair),
    F_is_pair := F_is_pair,
    b_is_pair := F_is_pair.binds fun _ _ _ _ _ _ us hl => match us, hl with | [_], _ => rfl,
    g_pairs_in := (PySem.W.mg_of X G a_pairs_in),
    F_pairs_in := F_pairs_in,
    b_pairs_in := F_pairs_in.binds fun _ _ _ _ _ _ us hl => match us, hl with | [_, _], _ => rfl,
    g_reached := (PySem.W.mg_of X G a_reached),
    F_reached := F_reached,
    b_reached := F_reached.binds fun _ _ _ _ _ _ us hl => match us, hl with | [_, _], _ => rfl,
    m_Mannerx_initx := ⟨i_Mannerx_initx, t_Mannerx_initx, F_Mannerx_initx.kp⟩,
    F_Mannerx_initx := F_Mannerx_initx,
    b_Mannerx_initx := F_Mannerx_initx.binds fun _ _ _ _ _ _ us hl => match us, hl with | [_, _, _, _], _ => rfl,
    m_Mannerx_eqx := ⟨i_Mannerx_eqx, t_Mannerx_eqx, F_Mannerx_eqx.kp⟩,
    F_Mannerx_eqx := F_Mannerx_eqx,
    b_Mannerx_eqx := F_Mannerx_eqx.binds fun _ _ _ _ _ _ us hl => match us, hl with | [_, _], _ => rfl,
    g_read_manner := (PySem.W.mg_of X G a_read_manner),
    F_read_manner := F_read_manner,
    b_read_manner := F_read_manner.binds fun _ _ _ _ _ _ us hl => match us, hl with | [_], _ => rfl,
    g_manner_text := (PySem.W.mg_of X G a_manner_text),
    F_manner_text := F_manner_text,
    b_manner_text := F_manner_text.binds fun _ _ _ _ _ _ us hl => match us, hl with | [_], _ => rfl,
    g__law_pen := (PySem.W.mg_of X G a__law_pen),
    F__law_pen := F__law_pen,
    b__law_pen := F__law_pen.binds fun _ _ _ _ _ _ us hl => match us, hl with | [_], _ => rfl,
    g__law_draw := (PySem.W.mg_of X G a__law_draw),
    F__law_draw := F__law_draw,
    b__law_draw := F__law_draw.binds fun _ _ _ _ _ _ us hl => match us, hl with | [_, _], _ => rfl,
    g__law_pick := (PySem.W.mg_of X G a__law_pick),
    F__law_pick := F__law_pick,
    b__law_pick := F__law_pick.binds fun _ _ _ _ _ _ us hl => match us, hl with | [_, _], _ => rfl,
    g__law_some := (PySem.W.mg_of X G a__law_some),
    F__law_some := F__law_some,
    b__law_some := F__law_some.binds fun _ _ _ _ _ _ us hl => match us, hl with | [_, _, _, _], _ => rfl,
    g__law_parts := (PySem.W.mg_of X G a__law_parts),
    F__law_parts := F__law_parts,
    b__law_parts := F__law_parts.binds fun _ _ _ _ _ _ us hl => match us, hl with | [_], _ => rfl,
    g__law_word := (PySem.W.mg_of X G a__law_word),
    F__law_word := F__law_word,
    b__law_word := F__law_word.binds fun _ _ _ _ _ _ us hl => match us, hl with | [_], _ => rfl,
    g__law_is_row := (PySem.W.mg_of X G a__law_is_row),
    F__law_is_row := F__law_is_row,
    b__law_is_row := F__law_is_row.binds fun _ _ _ _ _ _ us hl => match us, hl with | [_], _ => rfl,
    g__law_fault := (PySem.W.mg_of X G a__law_fault),
    F__law_fault := F__law_fault,
    b__law_fault := F__law_fault.binds fun _ _ _ _ _ _ us hl => match us, hl with | [_], _ => rfl,
    g__law_read := (PySem.W.mg_of X G a__law_read),
    F__law_read := F__law_read,
    b__law_read := F__law_read.binds fun _ _ _ _ _ _ us hl => match us, hl with | [_], _ => rfl,
    g__law_bent := (PySem.W.mg_of X G a__law_bent),
    F__law_bent := F__law_bent,
    b__law_bent := F__law_bent.binds fun _ _ _ _ _ _ us hl => match us, hl with | [_, _], _ => rfl,
    g_law := (PySem.W.mg_of X G a_law),
    F_law := F_law,
    b_law := F_law.binds fun _ _ _ _ _ _ us hl => match us, hl with | [_], _ => rfl,
    n_len := (PySem.W.mg_none_of X G z_len),
    n_isinstance := (PySem.W.mg_none_of X G z_isinstance),
    n_str := (PySem.W.mg_none_of X G z_str),
    n_list := (PySem.W.mg_none_of X G z_list),
    n_tuple := (PySem.W.mg_none_of X G z_tuple),
    n_all := (PySem.W.mg_none_of X G z_all),
    n_sorted := (PySem.W.mg_none_of X G z_sorted),
    n_int := (PySem.W.mg_none_of X G z_int),
    n_abs := (PySem.W.mg_none_of X G z_abs),
    n_min := (PySem.W.mg_none_of X G z_min),
    n_range := (PySem.W.mg_none_of X G z_range),
    n_set := (PySem.W.mg_none_of X G z_set),
    n_repr := (PySem.W.mg_none_of X G z_repr),
    g_LETTERS := (PySem.W.mg_of X G a_LET),
    cl_Line := ⟨pg_Line, hd_Line, po_Line, sa_Line⟩,
    g_Line := (PySem.W.mg_of X G a_Line),
    mk_Line := ⟨mk_Line, i_Linex_initx, t_Linex_initx, kp_Line⟩,
    cl_Manner := cM,
    g_Manner := (PySem.W.mg_of X G a_Manner),
    mk_Manner := ⟨mk_Manner, i_Mannerx_initx, t_Mannerx_initx, kp_Manner⟩,
    no_Line_words := no_Line_words,
    no_Line_number := no_Line_number,
    no_Line_passed := no_Line_passed,
    no_Manner_firsts := no_Manner_firsts,
    no_Manner_follows := no_Manner_follows,
    no_Manner_lasts := no_Manner_lasts,
    no_Manner_letters := no_Manner_letters,
    no_Manner_used := no_Manner_used,
    no_Manner_starts := no_Manner_starts,
    no_Manner_ends := no_Manner_ends,
    F_Line_collected := ⟨⟨_, _, _, _, _, _, _, _, _, _, rfl, l_Line_collected, c_Line_collected, .inl ⟨rfl, rfl⟩, .inr ⟨D0, rfl, fun q hq => ?_⟩⟩, k_Line_collected⟩,
    l_collected := ⟨_, _, _, _, _, _, _, _, _, l_Line_collected, rfl, c_Line_collected⟩,
    l_manner_in := ⟨_, _, _, _, _, _, _, _, _, l_manner_in, rfl, c_manner_in⟩,
    l_e0 := ⟨_, _, _, e_tup⟩,
    ne_p := nep,
    kt_Manner := kt,
    neM := ⟨⟨_, _, _, _, _, _, _, _, _, _, _, _, _, _, _, _, xM, bM⟩, neM, i_Mannerx_eqx, t_Mannerx_eqx⟩,
    insM := ⟨cM, haM, hnM, htM, hmM, meM⟩,
    oex := ⟨⟨_, _, _, _, _, _, _, _, _, _, _, _, _, _, _, xI, bI⟩, saI, exI, tyI, kI⟩,
    g_InvalidText := (PySem.W.mg_of X G a_InvalidText),
    i_InvalidText := i_InvalidTextx_initx,
    t_InvalidText := t_InvalidTextx_initx,
    no_line := nlI,
    no_word := nwI,
    xf := ⟨gaI, ggI, exI, hdI⟩,
    te := teI }, PySem.W.codeHd_of_K X hk_m, PySem.W.codeHd_of_K X hk_c, tk_m, tk_c, rfl, rfl⟩
  rcases List.mem_cons.mp hq with rfl | hq
  · exact ⟨_, e_end, rfl⟩
  · rw [List.mem_singleton] at hq
    subst hq
    exact ⟨_, e_lst, tl, rfl⟩
theorem walk88 {l : PySem.W.OpenLaw} {q : Program} {loose : List Str} {XP : (Str → Option Value) → Heap → Prop} {d : DefRec} {K : Params → PySem.W.Frag} {as ts : List Addr} {e : ∀ P, as = (K P).map (·.1)} (hn : l.most = some 63) (hdf : d.params.defaults = [])
    (F : ∀ (w : World) (mg : Str → Option Value) (fa : Addr) (h : Heap), (K w.params).In h → (∀ t ∈ ts, h.get? t = some (PySem.W.tabObj #[])) → h.Ns mainGlobals mg → mg d.name = some (.ref fa) → ∃ a : Ad, fa = a.f_law ∧ Txt (K w.params) mg a ∧ PySem.W.CodeHd h a.k_m a.p_m ∧ PySem.W.CodeHd h a.k_c a.p_c ∧ (K w.params).lookup a.p_m = none ∧ (K w.params).lookup a.p_c = none ∧
      h.get? a.p_m = some { cls := .none, data := .fields #[] } ∧ h.get? a.p_c = some { cls := .none, data := .fields #[] }) :
    PySem.W.WalkO q loose XP (PySem.W.kmHook K as e ts).says l.row.toRowW d [] (fun f vs => PySem.call f vs) := by
  refine Att.attach_callB hn hdf fun w s₀ s mg mb fa o pm cd doc x vs ns G Y ho hd hcd hmg hobj hints hlen hbits hg => ?_
  have KX := PySem.W.km_in_of Y
  obtain ⟨a, rfl, T, C1, C2, n1, n2, t1, t2⟩ := F w mg fa _ KX (PySem.W.km_tabs_of Y) G.T.g hmg
  have two : ∀ {R : Addr → Prop}, R a.p_m → R a.p_c → ∀ t ∈ [a.p_m, a.p_c], R t := fun h1 h2 t ht => by
    rcases List.mem_cons.mp ht with rfl | ht
    · exact h1
    · rw [List.mem_singleton] at ht
      subst ht
      exact h2
  have em : (fun t => if t = a.p_m then a.k_m else a.k_c) a.p_m = a.k_m := if_pos rfl
  have ec : (fun t => if t = a.p_m then a.k_m else a.k_c) a.p_c = a.k_c := if_neg T.ne_p.symm
  have L : Laid (K w.params) mg mb s [a.p_m, a.p_c] (fun t => if t = a.p_m then a.k_m else a.k_c) x vs ns := ⟨KX, G.T.g, G.T.b, G.T.builtins, G.T.nolimit, hg, two t1 t2, two n1 n2, two (show PySem.W.CodeHd s.heap ((fun t => if t = a.p_m then a.k_m else a.k_c) a.p_m) a.p_m by rw [em]; exact C1) (show PySem.W.CodeHd s.heap ((fun t => if t = a.p_m then a.k_m else a.k_c) a.p_c) a.p_c by rw [ec]; exact C2), G.T.bmain, hobj, hints, Nat.le_trans hlen (by decide)⟩
  exact L.runs T rfl em ec
theorem with_tabs {K : PySem.W.Frag} {mg : Str → Option Value} {h : Heap} {fa p_m p_c : Addr} {ts : List Addr} (KT : ∀ t ∈ ts, h.get? t = some (PySem.W.tabObj #[])) (z : ∃ a : Ad, fa = a.f_law ∧ Txt K mg a ∧ PySem.W.CodeHd h a.k_m a.p_m ∧ PySem.W.CodeHd h a.k_c a.p_c ∧ K.lookup a.p_m = none ∧ K.lookup a.p_c = none ∧ a.p_m = p_m ∧ a.p_c = p_c) (hb : p_m ∈ ts ∧ p_c ∈ ts) :
    ∃ a : Ad, fa = a.f_law ∧ Txt K mg a ∧ PySem.W.CodeHd h a.k_m a.p_m ∧ PySem.W.CodeHd h a.k_c a.p_c ∧ K.lookup a.p_m = none ∧ K.lookup a.p_c = none ∧ h.get? a.p_m = some { cls := .none, data := .fields #[] } ∧ h.get? a.p_c = some { cls := .none, data := .fields #[] } := by
  obtain ⟨a, e, T, c1, c2, n1, n2, e1, e2⟩ := z
  exact ⟨a, e, T, c1, c2, n1, n2, KT _ (e1 ▸ hb.1), KT _ (e2 ▸ hb.2)⟩
end K88

open PySem PySem.W PyProof.Rows in
set_option maxRecDepth 100000 in
set_option maxHeartbeats 0 in
theorem PySem.Challenge.cw_everytext_k88_texts_of_manners_holds : PySem.Challenge.rw_everytext_k88_texts_of_manners.Holds := by
  w_on; o_law; km_head; (case hw => w_witness2)
  k_fill
  refine K88.walk88 (l := PySem.Challenge.rw_everytext_k88_texts_of_manners) rfl rfl ?F
  case F =>
    intro w mg fa h KX KT G hmg
    refine' K88.with_tabs KT (K88.all_mk (p_m := 91) (p_c := 164) KX G hmg ?a_is_letter ?a_pair_in ?a_letters_row ?a_manner_in ?a_fresh ?a_line_of ?a_is_sign ?a_signs_in ?a_is_pair ?a_pairs_in ?a_reached ?a_read_manner ?a_manner_text ?a__law_pen ?a__law_draw ?a__law_pick ?a__law_some ?a__law_parts ?a__law_word ?a__law_is_row ?a__law_fault ?a__law_read ?a__law_bent ?a_law ?a_Line ?a_Manner ?a_InvalidText ?i_InvalidTextx_initx ?t_InvalidTextx_initx ?i_Linex_initx ?t_Linex_initx ?i_Line_refuse ?t_Line_refuse ?i_Line_is_over ?t_Line_is_over ?i_Line_take ?t_Line_take ?i_Line_collected ?t_Line_collected ?i_Mannerx_initx ?t_Mannerx_initx ?i_Mannerx_eqx ?t_Mannerx_eqx ?l_InvalidTextx_initx ?l_is_letter ?l_pair_in ?l_letters_row ?l_manner_in ?c_manner_in ?k_manner_in ?l_fresh ?l_Linex_initx ?l_Line_refuse ?l_Line_is_over ?l_Line_take ?l_Line_collected ?c_Line_collected ?k_Line_collected ?l_line_of ?l_is_sign ?l_signs_in ?l_is_pair ?l_pairs_in ?l_reached ?l_Mannerx_initx ?l_Mannerx_eqx ?l_read_manner ?l_manner_text ?l__law_pen ?l__law_draw ?l__law_pick ?l__law_some ?l__law_parts ?l__law_word ?l__law_is_row ?l__law_fault ?l__law_read ?l__law_bent ?l_law ?z_len ?z_isinstance ?z_str ?z_list ?z_tuple ?z_all ?z_sorted ?z_int ?z_abs ?z_min ?z_range ?z_set ?z_repr ?a_LET ?pg_Line ?hd_Line ?po_Line ?sa_Line ?mk_Line ?kp_Line ?pg_Manner ?hd_Manner ?po_Manner ?sa_Manner ?mk_Manner ?kp_Manner ?no_Line_words ?no_Line_number ?no_Line_passed ?no_Manner_firsts ?no_Manner_follows ?no_Manner_lasts ?no_Manner_letters ?no_Manner_used ?no_Manner_starts ?no_Manner_ends ?e_end ?e_lst ?e_tup ?kt ?xM ?bM ?neM ?haM ?hnM ?htM ?hmM ?meM ?xI ?bI ?saI ?exI ?tyI ?kI ?nlI ?nwI ?gaI ?ggI ?hdI ?teI ?hk_m ?hk_c ?tk_m ?tk_c ?nep) ?tb
    (case a_is_letter => k_is)
    (case a_pair_in => k_is)
    (case a_letters_row => k_is)
    (case a_manner_in => k_is)
    (case a_fresh => k_is)
    (case a_line_of => k_is)
    (case a_is_sign => k_is)
    (case a_signs_in => k_is)
    (case a_is_pair => k_is)
    (case a_pairs_in => k_is)
    (case a_reached => k_is)
    (case a_read_manner => k_is)
    (case a_manner_text => k_is)
    (case a__law_pen => k_is)
    (case a__law_draw => k_is)
    (case a__law_pick => k_is)
    (case a__law_some => k_is)
    (case a__law_parts => k_is)
    (case a__law_word => k_is)
    (case a__law_is_row => k_is)
    (case a__law_fault => k_is)
    (case a__law_read => k_is)
    (case a__law_bent => k_is)
    (case a_law => k_is)
    (case a_Line => k_is)
    (case a_Manner => k_is)
    (case a_InvalidText => k_is)
    (case i_InvalidTextx_initx => k_is)
    (case t_InvalidTextx_initx => k_is)
    (case i_Linex_initx => k_is)
    (case t_Linex_initx => k_is)
    (case i_Line_refuse => k_is)
    (case t_Line_refuse => k_is)
    (case i_Line_is_over => k_is)
    (case t_Line_is_over => k_is)
    (case i_Line_take => k_is)
    (case t_Line_take => k_is)
    (case i_Line_collected => k_is)
    (case t_Line_collected => k_is)
    (case i_Mannerx_initx => k_is)
    (case t_Mannerx_initx => k_is)
    (case i_Mannerx_eqx => k_is)
    (case t_Mannerx_eqx => k_is)
    (case l_InvalidTextx_initx => refine' K88.FunAt.mk ?pal_InvalidTextx_initx ?pbl_InvalidTextx_initx ?pcl_InvalidTextx_initx; (case pal_InvalidTextx_initx => k_is); (case pbl_InvalidTextx_initx => k_is); (case pcl_InvalidTextx_initx => k_is))
    (case l_is_letter => refine' K88.FunAt.mk ?pal_is_letter ?pbl_is_letter ?pcl_is_letter; (case pal_is_letter => k_is); (case pbl_is_letter => k_is); (case pcl_is_letter => k_is))
    (case l_pair_in => refine' K88.FunAt.mk ?pal_pair_in ?pbl_pair_in ?pcl_pair_in; (case pal_pair_in => k_is); (case pbl_pair_in => k_is); (case pcl_pair_in => k_is))
    (case l_letters_row => refine' K88.FunAt.mk ?pal_letters_row ?pbl_letters_row ?pcl_letters_row; (case pal_letters_row => k_is); (case pbl_letters_row => k_is); (case pcl_letters_row => k_is))
    (case l_manner_in => k_is)
    (case c_manner_in => k_is)
    (case k_manner_in => k_is)
    (case l_fresh => refine' K88.FunAt.mk ?pal_fresh ?pbl_fresh ?pcl_fresh; (case pal_fresh => k_is); (case pbl_fresh => k_is); (case pcl_fresh => k_is))
    (case l_Linex_initx => refine' K88.FunAt.mk ?pal_Linex_initx ?pbl_Linex_initx ?pcl_Linex_initx; (case pal_Linex_initx => k_is); (case pbl_Linex_initx => k_is); (case pcl_Linex_initx => k_is))
    (case l_Line_refuse => refine' K88.FunAt.mk ?pal_Line_refuse ?pbl_Line_refuse ?pcl_Line_refuse; (case pal_Line_refuse => k_is); (case pbl_Line_refuse => k_is); (case pcl_Line_refuse => k_is))
    (case l_Line_is_over => refine' K88.FunAt.mk ?pal_Line_is_over ?pbl_Line_is_over ?pcl_Line_is_over; (case pal_Line_is_over => k_is); (case pbl_Line_is_over => k_is); (case pcl_Line_is_over => k_is))
    (case l_Line_take => refine' K88.FunAt.mk ?pal_Line_take ?pbl_Line_take ?pcl_Line_take; (case pal_Line_take => k_is); (case pbl_Line_take => k_is); (case pcl_Line_take => k_is))
    (case l_Line_collected => k_is)
    (case c_Line_collected => k_is)
    (case k_Line_collected => k_is)
    (case l_line_of => refine' K88.FunAt.mk ?pal_line_of ?pbl_line_of ?pcl_line_of; (case pal_line_of => k_is); (case pbl_line_of => k_is); (case pcl_line_of => k_is))
    (case l_is_sign => refine' K88.FunAt.mk ?pal_is_sign ?pbl_is_sign ?pcl_is_sign; (case pal_is_sign => k_is); (case pbl_is_sign => k_is); (case pcl_is_sign => k_is))
    (case l_signs_in => refine' K88.FunAt.mk ?pal_signs_in ?pbl_signs_in ?pcl_signs_in; (case pal_signs_in => k_is); (case pbl_signs_in => k_is); (case pcl_signs_in => k_is))
    (case l_is_pair => refine' K88.FunAt.mk ?pal_is_pair ?pbl_is_pair ?pcl_is_pair; (case pal_is_pair => k_is); (case pbl_is_pair => k_is); (case pcl_is_pair => k_is))
    (case l_pairs_in => refine' K88.FunAt.mk ?pal_pairs_in ?pbl_pairs_in ?pcl_pairs_in; (case pal_pairs_in => k_is); (case pbl_pairs_in => k_is); (case pcl_pairs_in => k_is))
    (case l_reached => refine' K88.FunAt.mk ?pal_reached ?pbl_reached ?pcl_reached; (case pal_reached => k_is); (case pbl_reached => k_is); (case pcl_reached => k_is))
    (case l_Mannerx_initx => refine' K88.FunAt.mk ?pal_Mannerx_initx ?pbl_Mannerx_initx ?pcl_Mannerx_initx; (case pal_Mannerx_initx => k_is); (case pbl_Mannerx_initx => k_is); (case pcl_Mannerx_initx => k_is))
    (case l_Mannerx_eqx => refine' K88.FunAt.mk ?pal_Mannerx_eqx ?pbl_Mannerx_eqx ?pcl_Mannerx_eqx; (case pal_Mannerx_eqx => k_is); (case pbl_Mannerx_eqx => k_is); (case pcl_Mannerx_eqx => k_is))
    (case l_read_manner => refine' K88.FunAt.mk ?pal_read_manner ?pbl_read_manner ?pcl_read_manner; (case pal_read_manner => k_is); (case pbl_read_manner => k_is); (case pcl_read_manner => k_is))
    (case l_manner_text => refine' K88.FunAt.mk ?pal_manner_text ?pbl_manner_text ?pcl_manner_text; (case pal_manner_text => k_is); (case pbl_manner_text => k_is); (case pcl_manner_text => k_is))
    (case l__law_pen => refine' K88.FunAt.mk ?pal__law_pen ?pbl__law_pen ?pcl__law_pen; (case pal__law_pen => k_is); (case pbl__law_pen => k_is); (case pcl__law_pen => k_is))
    (case l__law_draw => refine' K88.FunAt.mk ?pal__law_draw ?pbl__law_draw ?pcl__law_draw; (case pal__law_draw => k_is); (case pbl__law_draw => k_is); (case pcl__law_draw => k_is))
    (case l__law_pick => refine' K88.FunAt.mk ?pal__law_pick ?pbl__law_pick ?pcl__law_pick; (case pal__law_pick => k_is); (case pbl__law_pick => k_is); (case pcl__law_pick => k_is))
    (case l__law_some => refine' K88.FunAt.mk ?pal__law_some ?pbl__law_some ?pcl__law_some; (case pal__law_some => k_is); (case pbl__law_some => k_is); (case pcl__law_some => k_is))
    (case l__law_parts => refine' K88.FunAt.mk ?pal__law_parts ?pbl__law_parts ?pcl__law_parts; (case pal__law_parts => k_is); (case pbl__law_parts => k_is); (case pcl__law_parts => k_is))
    (case l__law_word => refine' K88.FunAt.mk ?pal__law_word ?pbl__law_word ?pcl__law_word; (case pal__law_word => k_is); (case pbl__law_word => k_is); (case pcl__law_word => k_is))
    (case l__law_is_row => refine' K88.FunAt.mk ?pal__law_is_row ?pbl__law_is_row ?pcl__law_is_row; (case pal__law_is_row => k_is); (case pbl__law_is_row => k_is); (case pcl__law_is_row => k_is))
    (case l__law_fault => refine' K88.FunAt.mk ?pal__law_fault ?pbl__law_fault ?pcl__law_fault; (case pal__law_fault => k_is); (case pbl__law_fault => k_is); (case pcl__law_fault => k_is))
    (case l__law_read => refine' K88.FunAt.mk ?pal__law_read ?pbl__law_read ?pcl__law_read; (case pal__law_read => k_is); (case pbl__law_read => k_is); (case pcl__law_read => k_is))
    (case l__law_bent => refine' K88.FunAt.mk ?pal__law_bent ?pbl__law_bent ?pcl__law_bent; (case pal__law_bent => k_is); (case pbl__law_bent => k_is); (case pcl__law_bent => k_is))
    (case l_law => refine' K88.FunAt.mk ?pal_law ?pbl_law ?pcl_law; (case pal_law => k_is); (case pbl_law => k_is); (case pcl_law => k_is))
    (case z_len => k_is)
    (case z_isinstance => k_is)
    (case z_str => k_is)
    (case z_list => k_is)
    (case z_tuple => k_is)
    (case z_all => k_is)
    (case z_sorted => k_is)
    (case z_int => k_is)
    (case z_abs => k_is)
    (case z_min => k_is)
    (case z_range => k_is)
    (case z_set => k_is)
    (case z_repr => k_is)
    (case a_LET => k_is)
    (case pg_Line => k_is)
    (case hd_Line => k_is)
    (case po_Line => k_is)
    (case sa_Line => k_is)
    (case mk_Line => k_is)
    (case kp_Line => k_is)
    (case pg_Manner => k_is)
    (case hd_Manner => k_is)
    (case po_Manner => k_is)
    (case sa_Manner => k_is)
    (case mk_Manner => k_is)
    (case kp_Manner => k_is)
    (case no_Line_words => k_is)
    (case no_Line_number => k_is)
    (case no_Line_passed => k_is)
    (case no_Manner_firsts => k_is)
    (case no_Manner_follows => k_is)
    (case no_Manner_lasts => k_is)
    (case no_Manner_letters => k_is)
    (case no_Manner_used => k_is)
    (case no_Manner_starts => k_is)
    (case no_Manner_ends => k_is)
    (case e_end => k_is)
    (case e_lst => k_is)
    (case e_tup => k_is)
    (case kt => first | kernel_rfl | rfl | with_unfolding_all rfl)
    (case xM => k_is)
    (case bM => first | decide +kernel | k_is | rfl)
    (case neM => k_is)
    (case haM => k_is)
    (case hnM => k_is)
    (case htM => k_is)
    (case hmM => k_is)
    (case meM => first | kernel_rfl | rfl | with_unfolding_all rfl)
    (case xI => k_is)
    (case bI => first | decide +kernel | k_is | rfl)
    (case saI => k_is)
    (case exI => k_is)
    (case tyI => k_is)
    (case kI => k_is)
    (case nlI => k_is)
    (case nwI => k_is)
    (case gaI => k_is)
    (case ggI => k_is)
    (case hdI => k_is)
    (case teI => first | kernel_rfl | rfl | with_unfolding_all rfl)
    (case hk_m => first | k_is | kernel_rfl)
    (case hk_c => first | k_is | kernel_rfl)
    (case tk_m => first | k_is | kernel_rfl)
    (case tk_c => first | k_is | kernel_rfl)
    (case nep => decide)
    (case tb => decide)
