import PyProof.Rows.All
import Wide.All
import OpenK.AllK
import Wide.FinOn
import KE.DataMinMax
import KE.SortKeyHeap
import KE.KDictPairs
import HandS.ForMost
import HandS.TupAny
import HandS.IsInst
import HandS.Wide
import HandS.More
import HandS.SortKw
import HandS.Exc
import HandS.TryOnly
import HandS.ExcOwn
import HandS.Lambda
import HandS.EndTab
import HandS.Defaults
import HandS.Evl
import KE.KSortKey
import HandS.Head0
import HandS.Head1
import HandS.Head2
import HandS.HeadEnd
import HandS.HeadHook1
import HandS.HeadHook2
import HandS.HeadHook3
import HandS.HeadHook4
import HandS.HeadWalk
import PySem.Challenge.RW_newsways_k13_whole_cut_up
set_option Elab.async false
set_option linter.all false
set_option maxRecDepth 100000
set_option maxHeartbeats 0
namespace Cut
open PySem PySem.Spec PyProof.Rows L2
/-! ### the text -/
def topS (i : Nat) : Stmt := PySem.Challenge.pw_newsways_k13_whole_cut_up.main.body.getD i (.Pass ⟨0, 0, 0, 0⟩)
abbrev FnP (K : PySem.W.Frag) (x : Str) (st : Stmt) (f : Addr) (fd : FuncData) : Prop := FunD K x x (defArgs st) (defBody st) (defScope st) [] [] f fd
/-! ### a def that may be called by its name -/
def Callee (P : Program) (w : World) (K : PySem.W.Frag) (mg : Str → Option Value) (base : Heap) (x : Str) (ps : List Str) (k : Nat) (sp : Sp) : Prop :=
  ∃ (f : Addr) (fd : FuncData), FnOk P w K mg base CX0 k f fd ps sp ∧ mg x = some (.ref f) ∧ PySem.W.keepIn K (.ref f) = true ∧ Binds K fd ps []
theorem pc {X : Cx} {x : Str} {ps : List Str} {k : Nat} {sp : Sp} {p pos : Pos} {e : Expr} {es : List Expr} {t : TA} (c : Callee X.prog X.w X.K X.mg X.base x ps k sp) (hr : Room k X.A) (ha : PA X (e :: es) t) (hg : Gl X x := by rfl)
    (hdb : (x == ("__debug__" : Str)) = false := by decide) (he : starEach (e :: es) X.env = (false, eval e X.env) :: starEach es X.env := by rfl) (hpl : (backTo pos (starEach es X.env)).any (·.1) = false := by rfl) :
    PE X (.Call (.Name x p) (e :: es) [] pos) (tCall sp [] E0 t) := by
  obtain ⟨f, fd, F, gm, kp, b⟩ := c
  exact pe_call F hr hg gm kp b .nil pass0 ha hdb he hpl
/-! ### the module's names -/
structure Tx (mg : Str → Option Value) : Prop where
  f_len : mg "len" = none
  f_isinstance : mg "isinstance" = none
  f_sorted : mg "sorted" = none
  f_list : mg "list" = none
  f_tuple : mg "tuple" = none
  f_dict : mg "dict" = none
  f_min : mg "min" = none
  f_abs : mg "abs" = none
  f_range : mg "range" = none
  f_all : mg "all" = none
  f_int : mg "int" = none
  f_bool : mg "bool" = none
  f_str : mg "str" = none
  g_LETTERS : ∃ t, mg "LETTERS" = some (.str "abcdefghijklmnopqrstuvwxyz" t)
  g_LONGEST : ∃ t, mg "LONGEST" = some (.int 8 t)
  g_MOST_WISHES : ∃ t, mg "MOST_WISHES" = some (.int 7 t)
  g_MOST_FIELDS : ∃ t, mg "MOST_FIELDS" = some (.int 3 t)
theorem pk_glob {X : Cx} {x : Str} {v : V} {pos : Pos} (h : ∃ u, X.mg x = some u ∧ RelV v u) (hg : Gl X x := by rfl) (hd : (x == ("__debug__" : Str)) = false := by decide) : PE X (.Name x pos) (tC v) := by
  obtain ⟨u, h1, h2⟩ := h
  exact pe_glob hg h1 h2 hd
theorem Tx.k_LETTERS {X : Cx} {pos : Pos} (T : Tx X.mg) (hg : Gl X "LETTERS" := by rfl) : PE X (.Name "LETTERS" pos) (tC (.str "abcdefghijklmnopqrstuvwxyz")) := pk_glob (T.g_LETTERS.elim fun t h => ⟨_, h, t, rfl⟩) hg
theorem Tx.k_LONGEST {X : Cx} {pos : Pos} (T : Tx X.mg) (hg : Gl X "LONGEST" := by rfl) : PE X (.Name "LONGEST" pos) (tC (.int 8)) := pk_glob (T.g_LONGEST.elim fun t h => ⟨_, h, t, rfl⟩) hg
theorem Tx.k_MOST_WISHES {X : Cx} {pos : Pos} (T : Tx X.mg) (hg : Gl X "MOST_WISHES" := by rfl) : PE X (.Name "MOST_WISHES" pos) (tC (.int 7)) := pk_glob (T.g_MOST_WISHES.elim fun t h => ⟨_, h, t, rfl⟩) hg
theorem Tx.k_MOST_FIELDS {X : Cx} {pos : Pos} (T : Tx X.mg) (hg : Gl X "MOST_FIELDS" := by rfl) : PE X (.Name "MOST_FIELDS" pos) (tC (.int 3)) := pk_glob (T.g_MOST_FIELDS.elim fun t h => ⟨_, h, t, rfl⟩) hg
/-! ### rules with the written part named (within a comprehension) -/
section
variable {X : Cx}
theorem ixTK (K : PySem.W.Frag) (h : X.K = K := by rfl) : IxR X (rIxT K) := h ▸ ix_tup
theorem ixSK (K : PySem.W.Frag) (h : X.K = K := by rfl) : IxR X (rIx K) := h ▸ ix_seq
theorem ixLK (K : PySem.W.Frag) (h : X.K = K := by rfl) : IxR X (rIxL K) := h ▸ ix_list
theorem slAK (K : PySem.W.Frag) (h : X.K = K := by rfl) : SlR X (rSlA K) := h ▸ sl_tupA
theorem slLK (K : PySem.W.Frag) (h : X.K = K := by rfl) : SlR X (rSlL K) := h ▸ sl_list
theorem catAK (K : PySem.W.Frag) (h : X.K = K := by rfl) : OpR X (binaryOp .Add) (rCatA K) := h ▸ op_catA
theorem eqDK (K : PySem.W.Frag) (hu : X.A.units + 64 < cLine) (h : X.K = K := by rfl) : OpR X (compareOp .Eq) (rEqD K) := h ▸ op_eqD hu
theorem neDK (K : PySem.W.Frag) (hu : X.A.units + 64 < cLine) (h : X.K = K := by rfl) : OpR X (compareOp .NotEq) (rNeD K) := h ▸ op_neD hu
theorem inSeqK (K : PySem.W.Frag) (h : X.K = K := by rfl) : OpR X (compareOp .In) (rIn K false) := h ▸ op_in_seq
theorem notInSeqK (K : PySem.W.Frag) (h : X.K = K := by rfl) : OpR X (compareOp .NotIn) (rIn K true) := h ▸ op_notIn_seq
def rLenQ (K : PySem.W.Frag) : List V → Hp → VK → Prop := fun xs H Q => ∃ p ys, xs = [.ref p] ∧ (SqL K H p ys ∨ SqT K H p ys) ∧ Q (.int ys.length) H
theorem lenSeqK (K : PySem.W.Frag) (h : X.K = K := by rfl) : CallR X (.builtin "len") (rLenQ K) := h ▸ call_len_seq
theorem pi_listK (K : PySem.W.Frag) {tg l : Expr} {tl : TE} (hl : PE X l tl) (h : X.K = K := by rfl) : PI X tg l (iList K tl) := h ▸ pi_list hl
theorem pe_bmK (K : PySem.W.Frag) {T : String} {name : Str} {id : String} {r : V → List V → Hp → VK → Prop} {o e : Expr} {es : List Expr} {apos cpos : Pos} {to : TE} {t : TA} (pa : PlainAttrs T) (slot : Slot T name id) (hty : typeOf (.builtin id) = pure (.type "method_descriptor")) (hm : MtR X id r) (ho : PE X o to) (ha : PA X (e :: es) t) (h : X.K = K := by rfl)
    (hbase : attributeBase o name X.env (eval o X.env) = eval o X.env := by rfl)
    (hfew : ((backTo cpos (starEach (e :: es) X.env)).all (fun x => !x.1) && (backToKw cpos (keywordEach [] X.env)).all (fun x => x.1.isSome)
      && decide ((e :: es).length + ([] : List Keyword).length + (if ([] : List Keyword).isEmpty then 0 else 1) < 30)) = true := by rfl)
    (hline : (apos.endLine == cpos.line) = true := by rfl) (hs : starEach (e :: es) X.env = (false, eval e X.env) :: starEach es X.env := by rfl) (hplain : (backTo cpos (starEach es X.env)).any (·.1) = false := by rfl) :
    PE X (.Call (.Attribute o name apos) (e :: es) [] cpos) (tBM K T r to t) := h ▸ pe_bm pa slot hty hm ho ha hbase hfew hline hs hplain
end
/-! ### own rules: tuple(list), told as a plain tuple -/
theorem call_tuple_fz {X : Cx} : CallR X (.type "tuple") (fun xs H Q => ∃ p ys, xs = [.ref p] ∧ SqL X.K H p ys ∧ ∀ l (o : Obj), H l = none → o.dict = none → Q (.ref l) (upd H l (.frz o (.tup ys)))) := by
  intro pins s σ H xs us Q I r h
  obtain ⟨p, ys, rfl, hq, q⟩ := h
  obtain ⟨u, rfl, rx⟩ := vals1 r
  cases rx
  obtain ⟨its, r', pl, hz⟩ := I.list hq
  have hlen := r'.length
  refine call_tuple_list pl.isList (fun h' kp => ?_) (by simp only [List.size_toArray] <;> omega)
  have I1 : Inv X pins σ H { s with heap := h' } := I.kept (t' := s.toks) kp
  have hnew : (h'.push { cls := .type "tuple", data := .seq its.toArray }).get? h'.objs.size = some { cls := .type "tuple", data := .seq its.toArray } := Heap.get?_push_size _ rfl
  have I2 : Inv X pins σ (upd H h'.objs.size (.frz { cls := .type "tuple", data := .seq its.toArray } (.tup ys))) { s with heap := h'.push { cls := .type "tuple", data := .seq its.toArray } } :=
    I1.laid (t' := s.toks) (fun b o e => Heap.get?_push_of_some _ e) (Nat.le_refl _) ⟨hnew, hz, its, r', IsTup.new _ _⟩
  exact ⟨.ref h'.objs.size, _, I2, rfl, q _ _ (I1.hok.fresh (Nat.le_refl _)) rfl⟩
/-! ### own rules: min(list of ints, default=int) -/
def minOf (d : Int) : List Int → Int
  | [] => d
  | x :: xs => xs.foldl min x
def rMinD (K : PySem.W.Frag) : List V → List V → Hp → VK → Prop := fun vs zs H Q => ∃ (a : Addr) (ns : List Int) (d : Int), vs = [V.ref a] ∧ zs = [V.int d] ∧ SqL K H a (ns.map V.int) ∧ Q (.int (minOf d ns)) H
theorem reads_ints {h : Heap} : ∀ {ns : List Int} {us : List Value}, Vals (ns.map V.int) us → ReadsAll h us (ns.map PyData.int) []
  | [], _, .nil => .nil
  | n :: ns, _, .cons r t => by
    obtain ⟨tk, rfl⟩ := r
    exact ReadsAll.cons (as := []) (bs := []) (.int n tk) (reads_ints t)
theorem depth_ints : ∀ ns : List Int, PyData.depthAll (ns.map PyData.int) = 0
  | [] => rfl
  | n :: ns => by
    show max (PyData.depth (.int n)) (PyData.depthAll (ns.map PyData.int)) = 0
    rw [depth_ints ns] <;> rfl
theorem cr_minD {X : Cx} (hc : X.calm = true) (hu : X.A.units + 1 < cLine) : CallRK X (.builtin "min") [Str.ofString "default"] (rMinD X.K) := by
  intro pins s σ H vs zs us ws Q I r rz h
  obtain ⟨a, ns, d, rfl, rfl, hs, q⟩ := h
  obtain rfl := Vals.ref1 r
  obtain ⟨w1, rfl, e1⟩ := vals1 rz
  obtain ⟨tk, rfl⟩ : ∃ t, w1 = Value.int d t := e1
  obtain ⟨its, rv, hl, hz⟩ := I.list hs
  have ha : PySem.W.AlikeAll (ns.map PyData.int) := ⟨fun x hx y hy => by
    obtain ⟨i, _, rfl⟩ := List.mem_map.mp hx
    obtain ⟨j, _, rfl⟩ := List.mem_map.mp hy
    rfl, fun x hx => by
    obtain ⟨i, _, rfl⟩ := List.mem_map.mp hx
    exact fun z => by cases z⟩
  refine PySem.W.min_list_default (I.ok.hd hc) hl.isList (reads_ints (ns := ns) rv) ha (by rw [depth_ints]; exact hu) (fun e h' tk' kp => ?_) (fun y ys i v h' tk' bs e hv hr kp => ?_)
  · obtain rfl : ns = [] := List.map_eq_nil_iff.mp e
    exact ⟨.int d, H, I.kept (t' := tk') kp, ⟨tk, rfl⟩, q⟩
  · cases ns with
    | nil => cases e
    | cons n ns =>
      obtain ⟨rfl, rfl⟩ : PyData.int n = y ∧ ns.map PyData.int = ys := List.cons.inj e
      rw [PySem.W.minD_ints] at hr
      cases hr with
      | int => exact ⟨.int (minOf d (n :: ns)), H, I.kept (t' := tk') kp, ⟨_, rfl⟩, q⟩
theorem pe_minD {X : Cx} {e : Expr} {es : List Expr} {kws : List Keyword} {t tk : TA} {p pos : Pos} (hm : X.mg "min" = none) (ha : PA X (e :: es) t) (hk : PK X kws tk) (hu : X.A.units + 1 < cLine) (hc : X.calm = true := by rfl) (hg : Gl X "min" := by rfl)
    (h1 : backTo pos (starEach (e :: es) X.env) = (false, eval e X.env) :: backTo pos (starEach es X.env) := by rfl) (h2 : (backTo pos (starEach (e :: es) X.env)).any (·.1) = false := by rfl)
    (h3 : (backToKw pos (keywordEach kws X.env)).all (·.1.isSome) = true := by rfl) (h4 : (backToKw pos (keywordEach kws X.env)).any (·.1.isNone) = false := by rfl)
    (h5 : (backToKw pos (keywordEach kws X.env)).filterMap (·.1) = [Str.ofString "default"] := by rfl) :
    PE X (.Call (.Name "min" p) (e :: es) kws pos) (tCKw (rMinD X.K) t tk) :=
  pe_callBK (cr_minD hc hu) hg hm (by decide +kernel) ha hk (by decide) (by decide) h1 h2 h3 h4 h5
/-! ### own rules: dict(tuple of pairs) -/
theorem call_dictT {X : Cx} (hcalm : X.calm = true) : CallR X (.type "dict") (fun xs H Q => ∃ (a : Addr) (o : Obj) (ps : List Addr) (kvs : List (Key × V)), xs = [.ref a] ∧ H a = some (.frz o (.tup (ps.map V.ref))) ∧ o.dict = none ∧ Paired (fun p kv => SqT X.K H p [kV kv.1, kv.2]) ps kvs ∧
    ∀ p, H p = none → Q (.ref p) (upd H p (.dK (mergeK [] kvs)))) := by
  intro pins s σ H xs us Q I r q
  obtain ⟨a, o, ps, kvs, ex, ha, hdn, hp, q⟩ := q
  subst ex
  obtain ⟨u, eu, rx⟩ := vals1 r
  subst eu
  cases rx
  obtain ⟨hao, hz, its, rv, o', ho', hcl, n, hdat⟩ := I.hok a _ ha
  rw [hao] at ho'
  cases ho'
  have ei := refs_at rv
  subst ei
  rw [List.length_map] at hz
  obtain ⟨prs, rel, hl, hpr⟩ := pairs_of I hp
  -- the keys' values
  have keyv : ∀ (j : Nat) (q' : Key × Value), prs[j]? = some q' → ∃ u, ps[j]? = some (ps.getD j 0) ∧ IsTup s.heap (ps.getD j 0) #[u, q'.2] ∧ keyIs q'.1 u = true := fun j q' e => by
    obtain ⟨b, u, e1, e2, e3⟩ := hpr j q' e
    have eb : ps.getD j 0 = b := by rw [List.getD_eq_getElem?_getD, e1] <;> rfl
    exact ⟨u, by rw [eb]; exact e1, by rw [eb]; exact e2, e3⟩
  have ex : ∃ us : List Value, us.length = prs.length ∧ ∀ (j : Nat) (q' : Key × Value) (u : Value), prs[j]? = some q' → us[j]? = some u → IsTup s.heap (ps.getD j 0) #[u, q'.2] ∧ keyIs q'.1 u = true := by
    have aux : ∀ (l : List (Key × Value)) (d : Nat), (∀ (j : Nat) (q' : Key × Value), l[j]? = some q' → ∃ u, IsTup s.heap (ps.getD (d + j) 0) #[u, q'.2] ∧ keyIs q'.1 u = true) →
        ∃ us : List Value, us.length = l.length ∧ ∀ (j : Nat) (q' : Key × Value) (u : Value), l[j]? = some q' → us[j]? = some u → IsTup s.heap (ps.getD (d + j) 0) #[u, q'.2] ∧ keyIs q'.1 u = true := by
      intro l
      induction l with
      | nil => intro d _; exact ⟨[], rfl, fun j q' u e => by simp at e⟩
      | cons x l ih =>
        intro d h
        obtain ⟨u0, a1, a2⟩ := h 0 x rfl
        obtain ⟨us, b1, b2⟩ := ih (d + 1) fun j q' e => by
          obtain ⟨u, c1, c2⟩ := h (j + 1) q' (by simpa using e)
          exact ⟨u, by rw [show d + 1 + j = d + (j + 1) by omega]; exact c1, c2⟩
        refine ⟨u0 :: us, by simp [b1], fun j q' u e1 e2 => ?_⟩
        cases j with
        | zero =>
          obtain rfl := Option.some.inj e1
          obtain rfl := Option.some.inj e2
          exact ⟨a1, a2⟩
        | succ j =>
          obtain ⟨c1, c2⟩ := b2 j q' u (by simpa using e1) (by simpa using e2)
          exact ⟨by rw [show d + (j + 1) = d + 1 + j by omega]; exact c1, c2⟩
    obtain ⟨us, b1, b2⟩ := aux prs 0 fun j q' e => by
      obtain ⟨u, _, e2, e3⟩ := keyv j q' e
      exact ⟨u, by rw [Nat.zero_add]; exact e2, e3⟩
    exact ⟨us, b1, fun j q' u e1 e2 => by
      have z := b2 j q' u e1 e2
      rw [Nat.zero_add] at z
      exact z⟩
  obtain ⟨us, hul, hus⟩ := ex
  have hzl : (us.zip (prs.map (·.2))).length = prs.length := by rw [List.length_zip, List.length_map, hul, Nat.min_self]
  have hzg : ∀ (j : Nat) (k v : Value), (us.zip (prs.map (·.2)))[j]? = some (k, v) → us[j]? = some k ∧ ∃ q' : Key × Value, prs[j]? = some q' ∧ q'.2 = v := fun j k v e => by
    obtain ⟨e1, e2⟩ := List.getElem?_zip_eq_some.mp e
    rw [List.getElem?_map] at e2
    cases e3 : prs[j]? with
    | none => rw [e3] at e2; cases e2
    | some q' => rw [e3] at e2; exact ⟨e1, q', rfl, Option.some.inj e2⟩
  have pit : PairItems s.heap (ps.map Value.ref).toArray (fun j => ps.getD j 0) (us.zip (prs.map (·.2))) := by
    refine ⟨by rw [hzl, List.size_toArray, List.length_map, hl], fun j k v e => ?_⟩
    obtain ⟨e1, q', e2, rfl⟩ := hzg j k v e
    obtain ⟨u, z1, _, _⟩ := keyv j q' e2
    obtain ⟨w1, _⟩ := hus j q' k e2 e1
    refine ⟨by rw [List.getElem?_toArray, List.getElem?_map, z1]; rfl, ?_⟩
    obtain ⟨o2, g1, g2, n2, g3⟩ := w1
    exact Or.inl ⟨o2, g1, g2, n2, g3⟩
  refine PySem.call_dict_pairs (knd := mixKind X.prog X.w) (kvs := prs) (PairArg.tuple a (ps.map Value.ref).toArray (fun j => ps.getD j 0) (us.zip (prs.map (·.2)))) (I.ok.hd hcalm) ⟨⟨o, n, hao, hcl, hdn, hdat⟩, pit⟩ ⟨hzl.symm, fun i key v e => ?_⟩ (by rw [hzl, hl]; exact hz) fun h' tk hd' k => ?_
  · obtain ⟨e1, q', e2, rfl⟩ := hzg i key v e
    exact ⟨q'.1, e2, (hus i q' key e2 e1).2⟩
  · have hm : (s.heap.objs.size == sysModules) = false := beq_eq_false_iff_ne.mpr (Nat.ne_of_gt I.big)
    have hlen : (mergeK [] kvs).length ≤ sizeLine := by
      refine Nat.le_trans (length_mergeK kvs []) ?_
      rw [List.length_nil, Nat.zero_add, rel.length, hl]
      exact hz
    exact ⟨.ref s.heap.objs.size, upd H s.heap.objs.size (.dK (mergeK [] kvs)), I.laid (t' := tk) (fun b o e => k b o (fun z => nomatch z) e) (Nat.le_refl _) (show ObjOk X.prog X.w _ _ _ (.dK (mergeK [] kvs)) from ⟨hlen, hm, merged [] prs, KV.merge rel .nil, hd'⟩), rfl, q _ (I.hok.fresh (Nat.le_refl _))⟩
end Cut
namespace Cut
open PySem PySem.Spec PyProof.Rows L2
/-! ### wishes in plain Lean, and in the heap -/
abbrev Part : Type := Str × Option Int × Option Int
abbrev Wish : Type := List Part
def opt : Option Int → V
  | none => .non
  | some i => .int i
def okSp : Option Int → Option Int → Bool
  | some l, some h => decide (l ≤ h)
  | _, _ => true
/-- the order of texts -/
def Lt (x y : Str) : Prop := x.cps.toList < y.cps.toList
instance (x y : Str) : Decidable (Lt x y) := inferInstanceAs (Decidable (x.cps.toList < y.cps.toList))
structure FieldOk (z : Str) : Prop where
  pos : 1 ≤ z.length
  few : z.length ≤ 8
  small : ∀ c ∈ z.cps.toList, 97 ≤ c ∧ c ≤ 122
structure WishOk (w : Wish) : Prop where
  each : ∀ p ∈ w, FieldOk p.1 ∧ okSp p.2.1 p.2.2 = true
  up : w.Pairwise fun p q => Lt p.1 q.1
def partVs (p : Part) : List V := [.str p.1, opt p.2.1, opt p.2.2]
def PartAt (H : Hp) (v : V) (p : Part) : Prop := ∃ t, v = .ref t ∧ H t = some (.tup (partVs p))
def WishAt (H : Hp) (v : V) (w : Wish) : Prop := ∃ a vs, v = .ref a ∧ H a = some (.tup vs) ∧ Paired (PartAt H) vs w
/-- the tuples stay -/
def Tups (H H' : Hp) : Prop := ∀ a xs, H a = some (.tup xs) → H' a = some (.tup xs)
theorem Tups.refl (H : Hp) : Tups H H := fun _ _ h => h
theorem Tups.trans {H H1 H2 : Hp} (a : Tups H H1) (b : Tups H1 H2) : Tups H H2 := fun c o h => b c o (a c o h)
theorem Tups.of {H H' : Hp} (e : Same H H') : Tups H H' := fun a xs h => e a _ h
theorem PartAt.stay {H H' : Hp} {v : V} {p : Part} (h : PartAt H v p) (e : Tups H H') : PartAt H' v p := by
  obtain ⟨t, e1, e2⟩ := h
  exact ⟨t, e1, e _ _ e2⟩
theorem WishAt.stay {H H' : Hp} {v : V} {w : Wish} (h : WishAt H v w) (e : Tups H H') : WishAt H' v w := by
  obtain ⟨a, vs, e1, e2, e3⟩ := h
  exact ⟨a, vs, e1, e _ _ e2, Paired.mapP e3 fun _ _ z => PartAt.stay z e⟩
abbrev WsAt (H : Hp) (vs : List V) (ws : List Wish) : Prop := Paired (WishAt H) vs ws
theorem WsAt.stay {H H' : Hp} {vs : List V} {ws : List Wish} (h : WsAt H vs ws) (e : Tups H H') : WsAt H' vs ws := Paired.mapP h fun _ _ z => WishAt.stay z e
theorem Paired.at_ {α β : Type} {F : α → β → Prop} : ∀ {l : List α} {m : List β}, Paired F l m → ∀ {i : Nat} {x : α}, l[i]? = some x → ∃ y, m[i]? = some y ∧ F x y
  | _, _, .nil, i, x, e => by simp at e
  | _, _, .cons r t, 0, x, e => ⟨_, rfl, by obtain rfl := Option.some.inj e; exact r⟩
  | _, _, .cons r t, i + 1, x, e => by
    obtain ⟨y, h1, h2⟩ := Paired.at_ t (i := i) (x := x) (by simpa using e)
    exact ⟨y, by simpa using h1, h2⟩
theorem Paired.atR {α β : Type} {F : α → β → Prop} : ∀ {l : List α} {m : List β}, Paired F l m → ∀ {i : Nat} {y : β}, m[i]? = some y → ∃ x, l[i]? = some x ∧ F x y
  | _, _, .nil, i, x, e => by simp at e
  | _, _, .cons r t, 0, x, e => ⟨_, rfl, by obtain rfl := Option.some.inj e; exact r⟩
  | _, _, .cons r t, i + 1, x, e => by
    obtain ⟨y, h1, h2⟩ := Paired.atR t (i := i) (y := x) (by simpa using e)
    exact ⟨y, by simpa using h1, h2⟩
theorem Paired.app {α β : Type} {F : α → β → Prop} : ∀ {l l' : List α} {m m' : List β}, Paired F l m → Paired F l' m' → Paired F (l ++ l') (m ++ m')
  | _, _, _, _, .nil, s => s
  | _, _, _, _, .cons r t, s => .cons r (Paired.app t s)
theorem Paired.tk {α β : Type} {F : α → β → Prop} : ∀ {l : List α} {m : List β} (n : Nat), Paired F l m → Paired F (l.take n) (m.take n)
  | _, _, 0, _ => by simpa using Paired.nil
  | _, _, _ + 1, .nil => by simpa using Paired.nil
  | _, _, n + 1, .cons r t => by
    simp only [List.take_succ_cons]
    exact .cons r (Paired.tk n t)
theorem Paired.dp {α β : Type} {F : α → β → Prop} : ∀ {l : List α} {m : List β} (n : Nat), Paired F l m → Paired F (l.drop n) (m.drop n)
  | _, _, 0, r => by simpa using r
  | _, _, _ + 1, .nil => by simpa using Paired.nil
  | _, _, n + 1, .cons _ t => by
    simp only [List.drop_succ_cons]
    exact Paired.dp n t
theorem same_upd {H : Hp} {p : Addr} {o : HO} (h : H p = none) : Same H (upd H p o) := fun b x e => by
  rw [upd_ne (ne_of_none e h)]
  exact e
theorem Same.seqT {K : PySem.W.Frag} {H H' : Hp} {a : Addr} {xs : List V} (e : Same H H') (h : SqT K H a xs) : SqT K H' a xs := by
  rcases h with (h | ⟨o, h⟩) | h
  · exact .inl (.inl (e _ _ h))
  · exact .inl (.inr ⟨o, e _ _ h⟩)
  · exact .inr h
theorem sqT {K : PySem.W.Frag} {H : Hp} {a : Addr} {xs : List V} (h : H a = some (.tup xs)) : SqT K H a xs := .inl (.inl h)
theorem sqL {K : PySem.W.Frag} {H : Hp} {a : Addr} {xs : List V} (h : H a = some (.lst xs)) : SqL K H a xs := .inl (.inl h)
/-- a new object, told by what it is -/
theorem new_obj {H : Hp} {Q : VK} {p : Addr} {o : HO} (hp : H p = none) (h : ∀ H', Same H H' → H' p = some o → Q (.ref p) H') : Q (.ref p) (upd H p o) := h _ (same_upd hp) upd_same
theorem small100 {n : Nat} (h : n ≤ 100000) : n ≤ sizeLine := Nat.le_trans h (by decide)
theorem lt100 {n : Nat} (h : n ≤ 100000) : n < sizeLine := Nat.lt_of_le_of_lt h (by decide)
theorem hu64_of {A : Around} {k : Nat} (hr : Room k A) : A.units + 64 < cLine := by
  have := hr.un
  omega
/-- a for over a text's signs -/
theorem for_str {x : Str} {g : TG} {tb : TS} {D : Ends} {σ : L2.St} {H : Hp} (Pv : Nat → L2.St → Hp → Prop) (h0 : Pv 0 σ H)
    (hs : ∀ i c σ H, x.cps[i]? = some c → Pv i σ H → g (.str ⟨#[c]⟩) σ H fun σ2 H2 => tb { D with nx := Pv (i + 1), ct := Pv (i + 1), bk := D.nx } σ2 H2) (hd : ∀ σ H, Pv x.cps.size σ H → D.nx σ H) :
    ∃ W : Nat → Nat → L2.St → Hp → Prop, (∃ m, W 0 m σ H) ∧ ∀ i m σ H, W i m σ H →
      ((Its x).stop i H ∧ D.nx σ H) ∨ ((Its x).go i H ∧ ∃ N : L2.St → Hp → Prop, (∀ σ' H', N σ' H' → ∃ m', m' < m ∧ W (i + 1) m' σ' H') ∧ ∀ v H', (Its x).yld i H v H' → g v σ H' fun σ2 H2 => tb { D with nx := N, ct := N, bk := D.nx } σ2 H2) := by
  refine ⟨fun i m σ H => m = x.cps.size - i ∧ i ≤ x.cps.size ∧ Pv i σ H, ⟨x.cps.size, by simp, Nat.zero_le _, h0⟩, ?_⟩
  rintro i m σ H ⟨rfl, hi, p⟩
  by_cases hlt : i < x.cps.size
  · refine .inr ⟨hlt, Pv (i + 1), fun σ' H' p' => ⟨x.cps.size - (i + 1), by omega, rfl, hlt, p'⟩, fun v H' y => ?_⟩
    obtain ⟨e, c, hc, ev⟩ := y
    subst e ev
    exact hs i c σ _ hc p
  · have e : i = x.cps.size := by omega
    subst e
    exact .inl ⟨Nat.le_refl _, hd σ H p⟩
/-- a list comprehension over a text's signs -/
theorem lc_str {x : Str} {g : TG} {tt : TT} {te : TE} {vs : List Nat} {σ : L2.St} {H1 : Hp} {D : Addr} {Qd : Hp → Prop} (Pv : Nat → Hp → Prop) (h0 : Pv 0 (upd H1 D (.lst [])))
    (hs : ∀ i c H, x.cps[i]? = some c → Pv i H → g (.str ⟨#[c]⟩) (wipe σ vs) H fun σ2 H2 => wipe σ2 vs = wipe σ vs ∧ tt σ2 H2 fun b H3 =>
      if b = true then te σ2 H3 fun y H4 => ∃ acc, H4 D = some (.lst acc) ∧ acc.length < sizeLine ∧ Pv (i + 1) (upd H4 D (.lst (acc ++ [y]))) else Pv (i + 1) H3) (hd : ∀ H, Pv x.cps.size H → Qd H) :
    ∃ W : Nat → Nat → Hp → Prop, (∃ m, W 0 m (upd H1 D (.lst []))) ∧ ∀ i m H, W i m H →
      ((Its x).stop i H ∧ Qd H) ∨ ((Its x).go i H ∧ ∃ Nx : Hp → Prop, (∀ H', Nx H' → ∃ m', m' < m ∧ W (i + 1) m' H') ∧ ∀ v H', (Its x).yld i H v H' → g v (wipe σ vs) H' fun σ2 H2 => wipe σ2 vs = wipe σ vs ∧ tt σ2 H2 fun b H3 =>
        if b = true then te σ2 H3 fun y H4 => ∃ acc, H4 D = some (.lst acc) ∧ acc.length < sizeLine ∧ Nx (upd H4 D (.lst (acc ++ [y]))) else Nx H3) := by
  refine ⟨fun i m H => m = x.cps.size - i ∧ i ≤ x.cps.size ∧ Pv i H, ⟨x.cps.size, by simp, Nat.zero_le _, h0⟩, ?_⟩
  rintro i m H ⟨rfl, hi, p⟩
  by_cases hlt : i < x.cps.size
  · refine .inr ⟨hlt, Pv (i + 1), fun H' p' => ⟨x.cps.size - (i + 1), by omega, rfl, hlt, p'⟩, fun v H' y => ?_⟩
    obtain ⟨e, c, hc, ev⟩ := y
    subst e ev
    exact hs i c _ hc p
  · have e : i = x.cps.size := by omega
    subst e
    exact .inl ⟨Nat.le_refl _, hd H p⟩
/-! ### texts -/
theorem letters_mem {c : Nat} (h1 : 97 ≤ c) (h2 : c ≤ 122) : c ∈ (Str.ofString "abcdefghijklmnopqrstuvwxyz").cps.toList := by
  have h : ∀ k : Fin 26, 97 + k.val ∈ (Str.ofString "abcdefghijklmnopqrstuvwxyz").cps.toList := by decide +kernel
  have e := h ⟨c - 97, by omega⟩
  have e2 : 97 + (c - 97) = c := by omega
  rw [show (97 + (⟨c - 97, by omega⟩ : Fin 26).val) = c from e2] at e
  exact e
theorem Lt.trans {x y z : Str} (a : Lt x y) (b : Lt y z) : Lt x z := List.lt_trans a b
theorem Lt.irrefl (x : Str) : ¬ Lt x x := List.lt_irrefl _
theorem Lt.asymm {x y : Str} (a : Lt x y) : ¬ Lt y x := fun b => Lt.irrefl x (a.trans b)
theorem lt_empty {z : Str} (h : 1 ≤ z.length) : Lt (Str.ofString "") z := by
  have e : (Str.ofString "").cps.toList = [] := by decide +kernel
  show (Str.ofString "").cps.toList < z.cps.toList
  rw [e]
  cases q : z.cps.toList with
  | nil =>
    have h2 : z.cps.toList.length = z.length := Array.length_toList
    rw [q] at h2
    have h3 : (0 : Nat) = z.length := h2
    omega
  | cons c r => exact List.nil_lt_cons _ _
theorem ne_empty {z : Str} (h : 1 ≤ z.length) : z ≠ Str.ofString "" := fun e => Lt.irrefl z (by
  have h2 := lt_empty h
  rw [← e] at h2
  exact h2)
end Cut
namespace Cut
open PySem PySem.Spec PyProof.Rows L2
/-! ### data of the heap, told as data -/
theorem eqv_nil (ds : List PyData) : PyData.eqv (.list ds) (.list []) = ds.isEmpty := by
  cases ds with
  | nil => simp only [PyData.eqv, PyData.eqvAll, List.isEmpty_nil]
  | cons d ds => simp only [PyData.eqv, PyData.eqvAll, List.isEmpty_cons]
theorem shaped_nil : SeqAt.shaped (.list []) = true := by
  simp only [SeqAt.shaped, PyData.canLay0, PyData.canLayAll0, PyData.depth, PyData.depthAll]
  decide
theorem dpAll_ints {K : PySem.W.Frag} {H : Hp} : ∀ ns : List Int, DpAll K H (ns.map V.int) (ns.map PyData.int)
  | [] => .nil
  | n :: ns => .cons (.int n) (dpAll_ints ns)
theorem lay_ints : ∀ ns : List Int, PyData.canLayAll0 (ns.map PyData.int) = true ∧ PyData.depthAll (ns.map PyData.int) = 0
  | [] => by simp [PyData.canLayAll0, PyData.depthAll]
  | n :: ns => by
    obtain ⟨h1, h2⟩ := lay_ints ns
    simp [PyData.canLayAll0, PyData.depthAll, PyData.canLay0, PyData.depth, h1, h2]
theorem shaped_ints (ns : List Int) : SeqAt.shaped (.list (ns.map PyData.int)) = true := by
  obtain ⟨h1, h2⟩ := lay_ints ns
  simp [SeqAt.shaped, PyData.canLay0, PyData.depth, h1, h2]
theorem dpAll_strs {K : PySem.W.Frag} {H : Hp} : ∀ ns : List Str, DpAll K H (ns.map V.str) (ns.map PyData.str)
  | [] => .nil
  | n :: ns => .cons (.str n) (dpAll_strs ns)
theorem lay_strs : ∀ ns : List Str, (∀ z ∈ ns, PyData.strOk z = true) → PyData.canLayAll0 (ns.map PyData.str) = true ∧ PyData.depthAll (ns.map PyData.str) = 0
  | [], _ => by simp [PyData.canLayAll0, PyData.depthAll]
  | n :: ns, h => by
    obtain ⟨h1, h2⟩ := lay_strs ns fun z hz => h z (List.mem_cons_of_mem _ hz)
    simp [PyData.canLayAll0, PyData.depthAll, PyData.canLay0, PyData.depth, h1, h2, h n List.mem_cons_self]
theorem shaped_strs (ns : List Str) (h : ∀ z ∈ ns, PyData.strOk z = true) : SeqAt.shaped (.list (ns.map PyData.str)) = true := by
  obtain ⟨h1, h2⟩ := lay_strs ns h
  simp [SeqAt.shaped, PyData.canLay0, PyData.depth, h1, h2]
theorem FieldOk.SO {z : Str} (h : FieldOk z) : PyData.strOk z = true := by
  unfold PyData.strOk
  rw [Array.all_eq_true_iff_forall_mem]
  intro c hc
  have := (h.small c (Array.mem_toList_iff.mpr hc)).2
  simp
  omega
def optD : Option Int → PyData
  | none => .none
  | some i => .int i
theorem dp_opt {K : PySem.W.Frag} {H : Hp} : ∀ o : Option Int, Dp K H (opt o) (optD o)
  | none => .non
  | some i => .int i
theorem lay_opt : ∀ o : Option Int, (optD o).canLay0 = true ∧ (optD o).depth = 0
  | none => by simp [optD, PyData.canLay0, PyData.depth]
  | some i => by simp [optD, PyData.canLay0, PyData.depth]
def partD (p : Part) : PyData := .tuple [.str p.1, optD p.2.1, optD p.2.2]
theorem dp_part {K : PySem.W.Frag} {H : Hp} {v : V} {p : Part} (h : PartAt H v p) : Dp K H v (partD p) := by
  obtain ⟨t, rfl, ht⟩ := h
  exact .tup (sqT ht) (.cons (.str _) (.cons (dp_opt _) (.cons (dp_opt _) .nil)))
theorem lay_part (p : Part) (h : PyData.strOk p.1 = true) : (partD p).canLay0 = true ∧ (partD p).depth = 1 := by
  obtain ⟨a1, a2⟩ := lay_opt p.2.1
  obtain ⟨b1, b2⟩ := lay_opt p.2.2
  simp [partD, PyData.canLay0, PyData.canLayAll0, PyData.depth, PyData.depthAll, h, a1, a2, b1, b2]
theorem dp_parts {K : PySem.W.Frag} {H : Hp} : ∀ {vs : List V} {wi : Wish}, Paired (PartAt H) vs wi → DpAll K H vs (wi.map partD)
  | _, _, .nil => .nil
  | _, _, .cons r t => .cons (dp_part r) (dp_parts t)
theorem lay_parts : ∀ wi : Wish, (∀ p ∈ wi, PyData.strOk p.1 = true) → PyData.canLayAll0 (wi.map partD) = true ∧ PyData.depthAll (wi.map partD) ≤ 1
  | [], _ => by simp [PyData.canLayAll0, PyData.depthAll]
  | p :: wi, h => by
    obtain ⟨h1, h2⟩ := lay_parts wi fun z hz => h z (List.mem_cons_of_mem _ hz)
    obtain ⟨a1, a2⟩ := lay_part p (h p List.mem_cons_self)
    refine ⟨by simp [PyData.canLayAll0, h1, a1], ?_⟩
    simp only [List.map_cons, PyData.depthAll, a2]
    omega
def wishD (wi : Wish) : PyData := .tuple (wi.map partD)
theorem dp_wish {K : PySem.W.Frag} {H : Hp} {v : V} {wi : Wish} (h : WishAt H v wi) : Dp K H v (wishD wi) := by
  obtain ⟨a, vs, rfl, ha, hp⟩ := h
  exact .tup (sqT ha) (dp_parts hp)
theorem lay_wish (wi : Wish) (h : ∀ p ∈ wi, PyData.strOk p.1 = true) : (wishD wi).canLay0 = true ∧ (wishD wi).depth ≤ 2 := by
  obtain ⟨h1, h2⟩ := lay_parts wi h
  simp only [wishD, PyData.canLay0, PyData.depth]
  exact ⟨h1, by omega⟩
theorem dp_wishes {K : PySem.W.Frag} {H : Hp} : ∀ {vs : List V} {ws : List Wish}, WsAt H vs ws → DpAll K H vs (ws.map wishD)
  | _, _, .nil => .nil
  | _, _, .cons r t => .cons (dp_wish r) (dp_wishes t)
theorem lay_wishes : ∀ ws : List Wish, (∀ o ∈ ws, ∀ p ∈ o, PyData.strOk p.1 = true) → PyData.canLayAll0 (ws.map wishD) = true ∧ PyData.depthAll (ws.map wishD) ≤ 2
  | [], _ => by simp [PyData.canLayAll0, PyData.depthAll]
  | wi :: ws, h => by
    obtain ⟨h1, h2⟩ := lay_wishes ws fun z hz => h z (List.mem_cons_of_mem _ hz)
    obtain ⟨a1, a2⟩ := lay_wish wi (h wi List.mem_cons_self)
    refine ⟨by simp [PyData.canLayAll0, h1, a1], ?_⟩
    simp only [List.map_cons, PyData.depthAll]
    exact Nat.max_le.mpr ⟨a2, h2⟩
theorem shaped_wishes (ws : List Wish) (h : ∀ o ∈ ws, ∀ p ∈ o, PyData.strOk p.1 = true) : SeqAt.shaped (.list (ws.map wishD)) = true := by
  obtain ⟨h1, h2⟩ := lay_wishes ws h
  refine Bool.and_eq_true_iff.mpr ⟨by simp only [PyData.canLay0]; exact h1, decide_eq_true ?_⟩
  simp only [PyData.depth]
  omega
theorem WishOk.strs {wi : Wish} (h : WishOk wi) : ∀ p ∈ wi, PyData.strOk p.1 = true := fun p hp => (h.each p hp).1.SO
theorem map_empty {α β : Type} (f : α → β) (l : List α) : (l.map f).isEmpty = l.isEmpty := by cases l <;> rfl
theorem Same.mut {H H' : Hp} {p : Addr} {o : HO} (e : Same H H') (h : H p = none) : Same H (upd H' p o) := fun a u ha => by
  rw [upd_ne (ne_of_none ha h)]
  exact e a u ha
theorem Same.sq {K : PySem.W.Frag} {H H' : Hp} {a : Addr} {xs : List V} (e : Same H H') (h : SqL K H a xs) : SqL K H' a xs := e.seq h
/-- a list comprehension over a list that stands, beside a plain list; what its test and element make is garbage -/
theorem lc_par {α : Type} {K : PySem.W.Frag} {a : Addr} {xs : List V} {ms : List α} {j : Nat} {tt : TT} {te : TE} {vs : List Nat} {σ : L2.St} {H1 : Hp} {D : Addr} {Qd : Hp → Prop} (f : α → Bool) (v : V → α → V)
    (hl : xs.length = ms.length) (hz : xs.length ≤ 40000) (hx : SqL K H1 a xs) (hD : H1 D = none) (hw : ∀ x, wipe ((wipe σ vs).set j (some x)) vs = wipe σ vs)
    (ht : ∀ (i : Nat) (x : V) (m : α) (H : Hp), xs[i]? = some x → ms[i]? = some m → Same H1 H → ∀ Q : Bool → Hp → Prop, (∀ H', Same H H' → Q (f m) H') → tt ((wipe σ vs).set j (some x)) H Q)
    (he : ∀ (i : Nat) (x : V) (m : α) (H : Hp), xs[i]? = some x → ms[i]? = some m → f m = true → Same H1 H → ∀ Q : VK, (∀ H', Same H H' → Q (v x m) H') → te ((wipe σ vs).set j (some x)) H Q)
    (hd : ∀ H, Same H1 H → H D = some (.lst (((xs.zip ms).filter fun q => f q.2).map fun q => v q.1 q.2)) → Qd H) :
    ∃ W : Nat → Nat → Hp → Prop, (∃ m, W 0 m (upd H1 D (.lst []))) ∧ ∀ i m H, W i m H →
      ((Itl K a).stop i H ∧ Qd H) ∨ ((Itl K a).go i H ∧ ∃ Nx : Hp → Prop, (∀ H', Nx H' → ∃ m', m' < m ∧ W (i + 1) m' H') ∧ ∀ x H', (Itl K a).yld i H x H' → gName j x (wipe σ vs) H' fun σ2 H2 => wipe σ2 vs = wipe σ vs ∧ tt σ2 H2 fun b H3 =>
        if b = true then te σ2 H3 fun y H4 => ∃ acc, H4 D = some (.lst acc) ∧ acc.length < sizeLine ∧ Nx (upd H4 D (.lst (acc ++ [y]))) else Nx H3) := by
  refine lc_list (K := K) (a := a) (xs := xs) (fun i H => Same H1 H ∧ H D = some (.lst ((((xs.zip ms).take i).filter fun q => f q.2).map fun q => v q.1 q.2))) ⟨same_upd hD, by rw [List.take_zero]; exact upd_same⟩ (fun i H _ p => p.1.seq hx) (fun i x H hi p => ?_) (fun H p => ?_)
  · obtain ⟨p1, p2⟩ := p
    have hil : i < xs.length := (List.getElem?_eq_some_iff.mp hi).1
    obtain ⟨m, hm⟩ : ∃ m, ms[i]? = some m := ⟨ms[i], List.getElem?_eq_getElem (by omega)⟩
    have hzi : (xs.zip ms)[i]? = some (x, m) := List.getElem?_zip_eq_some.mpr ⟨hi, hm⟩
    have et : (xs.zip ms).take (i + 1) = (xs.zip ms).take i ++ [(x, m)] := by rw [List.take_add_one, hzi]; rfl
    have hlen : ((((xs.zip ms).take i).filter fun q => f q.2).map fun q => v q.1 q.2).length ≤ 40000 := by
      rw [List.length_map]
      have h1 := List.length_filter_le (fun q : V × α => f q.2) ((xs.zip ms).take i)
      rw [List.length_take] at h1
      have h2 : min i (xs.zip ms).length ≤ i := Nat.min_le_left _ _
      omega
    refine ⟨hw x, ht i x m H hi hm p1 _ fun H3 s3 => ?_⟩
    cases hf : f m with
    | false =>
      refine iteF ⟨p1.trans s3, ?_⟩
      rw [et, List.filter_append, List.filter_cons, if_neg (by rw [hf]; decide), List.filter_nil, List.append_nil]
      exact s3 _ _ p2
    | true =>
      refine iteT (he i x m H3 hi hm hf (p1.trans s3) _ fun H4 s4 => ⟨_, s4 _ _ (s3 _ _ p2), lt100 (by omega), Same.mut ((p1.trans s3).trans s4) hD, ?_⟩)
      rw [et, List.filter_append, List.filter_cons, if_pos (by rw [hf]), List.filter_nil, List.map_append]
      exact upd_same
  · obtain ⟨p1, p2⟩ := p
    rw [List.take_of_length_le (by rw [List.length_zip]; exact Nat.min_le_left _ _)] at p2
    exact hd H p1 p2
theorem par_fst {α : Type} {R : V → α → Prop} (f : α → Bool) : ∀ {xs : List V} {ms : List α}, Paired R xs ms → Paired R (((xs.zip ms).filter fun q => f q.2).map fun q => q.1) (ms.filter f)
  | _, _, .nil => .nil
  | _, _, .cons (a := x) (b := m) r t => by
    have ih := par_fst f t
    rw [List.zip_cons_cons, List.filter_cons, List.filter_cons]
    cases hf : f m with
    | true =>
      rw [if_pos rfl, if_pos rfl, List.map_cons]
      exact .cons r ih
    | false =>
      rw [if_neg (by decide), if_neg (by decide)]
      exact ih
theorem par_snd {α β : Type} (f : α → Bool) (v : α → β) : ∀ {xs : List V} {ms : List α}, xs.length = ms.length → ((xs.zip ms).filter fun q => f q.2).map (fun q => v q.2) = (ms.filter f).map v
  | [], [], _ => rfl
  | [], _ :: _, h => by cases h
  | _ :: _, [], h => by cases h
  | x :: xs, m :: ms, h => by
    have ih := par_snd f v (xs := xs) (ms := ms) (by simpa using h)
    rw [List.zip_cons_cons, List.filter_cons, List.filter_cons]
    cases hf : f m with
    | true =>
      rw [if_pos rfl, if_pos rfl, List.map_cons, List.map_cons, ih]
    | false =>
      rw [if_neg (by decide), if_neg (by decide)]
      exact ih
theorem Paired.len {α β : Type} {F : α → β → Prop} {l : List α} {m : List β} (h : Paired F l m) : l.length = m.length := Paired.length h
theorem flat_len {α β : Type} {f : α → List β} {m : Nat} : ∀ {l : List α}, (∀ x ∈ l, (f x).length ≤ m) → (l.flatMap f).length ≤ m * l.length
  | [], _ => Nat.zero_le _
  | x :: l, h => by
    have ih := flat_len (l := l) fun y hy => h y (List.mem_cons_of_mem _ hy)
    have h1 := h x List.mem_cons_self
    rw [List.flatMap_cons, List.length_append, List.length_cons, Nat.mul_succ]
    omega
theorem nodup_len {α : Type} [DecidableEq α] : ∀ {l m : List α}, l.Nodup → (∀ x ∈ l, x ∈ m) → l.length ≤ m.length
  | [], _, _, _ => Nat.zero_le _
  | x :: l, m, nd, sub => by
    obtain ⟨h1, h2⟩ := List.nodup_cons.mp nd
    have hx := sub x List.mem_cons_self
    have ih := nodup_len (l := l) (m := m.erase x) h2 fun y hy => (List.mem_erase_of_ne (fun e => h1 (by rw [← e]; exact hy))).mpr (sub y (List.mem_cons_of_mem _ hy))
    rw [List.length_erase_of_mem hx] at ih
    have h3 : 0 < m.length := List.length_pos_of_mem hx
    rw [List.length_cons]
    omega
theorem drop_at {α : Type} {l : List α} {i : Nat} {x : α} (h : l[i]? = some x) : l.drop i = x :: l.drop (i + 1) := by
  have hi : i < l.length := (List.getElem?_eq_some_iff.mp h).1
  rw [List.drop_eq_getElem_cons hi]
  have e : l[i] = x := Option.some.inj ((List.getElem?_eq_getElem hi).symm.trans h)
  rw [e]
theorem take_at {α : Type} {l : List α} {i : Nat} {x : α} (h : l[i]? = some x) : l.take (i + 1) = l.take i ++ [x] := by
  rw [List.take_add_one, h] <;> rfl
/-! ### the mirror of the covering search -/
def geLo : Option Int → Int → Bool
  | none, _ => true
  | some l, n => decide (l ≤ n)
def leHi : Option Int → Int → Bool
  | none, _ => true
  | some h, n => decide (n ≤ h)
def btw (lo hi : Option Int) (n : Int) : Bool := geLo lo n && leHi hi n
def lets : Wish → Str → Int → Bool
  | [], _, _ => true
  | p :: r, f, n => if p.1 = f then btw p.2.1 p.2.2 n else lets r f n
def losP (f : Str) (p : Part) : List Int := if p.1 = f then p.2.1.toList else []
def hisP (f : Str) (p : Part) : List Int := if p.1 = f then p.2.2.toList else []
def los (f : Str) (ws : List Wish) : List Int := ws.flatMap fun o => o.flatMap (losP f)
def his (f : Str) (ws : List Wish) : List Int := ws.flatMap fun o => o.flatMap (hisP f)
def firstOf (p : Part) (ws : List Wish) : Int := match p.2.1 with
  | some l => l
  | none => minOf 1 (los p.1 ws ++ his p.1 ws ++ p.2.2.toList) - 1
def keepHi (p : Part) (first h : Int) : Bool := decide (first < h + 1) && btw p.2.1 p.2.2 (h + 1)
def tried (p : Part) (ws : List Wish) : List Int := firstOf p ws :: ((his p.1 ws).filter (keepHi p (firstOf p ws))).map (· + 1)
def nf : Wish → List Wish → Option (List Int)
  | [], ws => if ws.isEmpty = true then some [] else none
  | p :: r, ws => (tried p ws).findSome? fun n => (nf r (ws.filter fun o => lets o p.1 n)).map (n :: ·)
def flds (ws : List Wish) : List Str := ws.flatMap fun o => o.map (·.1)
end Cut
namespace Cut
open PySem PySem.Spec PyProof.Rows L2
/-! ### a def of the text, known by its name -/
def Def (K : PySem.W.Frag) (mg : Str → Option Value) (x : Str) (st : Stmt) : Prop := ∃ (f : Addr) (fd : FuncData), Fun K x x st f fd ∧ mg x = some (.ref f)
section
variable {P : Program} {w : World} {K : PySem.W.Frag} {mg : Str → Option Value} {base : Heap}
theorem Def.callee {x : Str} {st : Stmt} {N ps : List Str} {k : Nat} {sp : Sp} (D : Def K mg x st) (S : FnScope N ps (defScope st))
    (b : ∀ (kV doc pm : Value) (an : Option Addr) (cdv ct : Value) (us : List Value), us.length = ps.length → bindArgs (PySem.W.fnOf x x (defArgs st) (defBody st) (defScope st) .none kV doc pm an cdv ct) ⟨us, []⟩ = pure (ps.zip us))
    (len : ∀ vs H Q E, sp vs H Q E → vs.length = ps.length)
    (hbody : ∀ (f : Addr) (cdv : Value) (A : Around) (outer : List Env) (s : Shared) (H : Hp) (vs : List V) (Q : VK) (E : XK), Room k (A.deeper (envOfC x (defScope st) s.heap.objs.size f cdv)) → sp vs H Q E →
      ∃ t, PSs (cxOf CX0 P w K mg base N x (defScope st) f cdv A outer s H E).nox (defBody st) t ∧ t { nx := fun _ H' => Q .non H', rt := Q } (start N vs) H) : Callee P w K mg base x ps (k + 1) sp := by
  obtain ⟨f, fd, F, g⟩ := D
  exact ⟨f, fd, F.ok S len fun cdv A outer s H vs Q E hr h => hbody f cdv A outer s H vs Q E hr h, g, F.kp, F.binds b⟩
end
abbrev s_is_whole : Stmt := topS 5
abbrev N_is_whole : List Str := ["thing"]
abbrev P_is_whole : List Str := ["thing"]
theorem sc_is_whole : FnScope ["thing"] ["thing"] (defScope s_is_whole) := ⟨rfl, rfl, rfl, by decide +kernel, rfl, by decide +kernel, by decide +kernel⟩
abbrev s_is_span : Stmt := topS 6
abbrev N_is_span : List Str := ["thing", "end", "low", "high"]
abbrev P_is_span : List Str := ["thing"]
theorem sc_is_span : FnScope ["thing", "end", "low", "high"] ["thing"] (defScope s_is_span) := ⟨rfl, rfl, rfl, by decide +kernel, rfl, by decide +kernel, by decide +kernel⟩
abbrev s_is_field : Stmt := topS 10
abbrev N_is_field : List Str := ["thing", "sign"]
abbrev P_is_field : List Str := ["thing"]
theorem sc_is_field : FnScope ["thing", "sign"] ["thing"] (defScope s_is_field) := ⟨rfl, rfl, rfl, by decide +kernel, rfl, by decide +kernel, by decide +kernel⟩
abbrev s_are_parts : Stmt := topS 11
abbrev N_are_parts : List Str := ["thing", "size", "last", "part"]
abbrev P_are_parts : List Str := ["thing", "size"]
theorem sc_are_parts : FnScope ["thing", "size", "last", "part"] ["thing", "size"] (defScope s_are_parts) := ⟨rfl, rfl, rfl, by decide +kernel, rfl, by decide +kernel, by decide +kernel⟩
abbrev s_is_wish : Stmt := topS 12
abbrev N_is_wish : List Str := ["thing", "field", "low", "high"]
abbrev P_is_wish : List Str := ["thing"]
theorem sc_is_wish : FnScope ["thing", "field", "low", "high"] ["thing"] (defScope s_is_wish) := ⟨rfl, rfl, rfl, by decide +kernel, rfl, by decide +kernel, by decide +kernel⟩
abbrev s_look_wishes : Stmt := topS 16
abbrev N_look_wishes : List Str := ["thing", "one"]
abbrev P_look_wishes : List Str := ["thing"]
theorem sc_look_wishes : FnScope ["thing", "one"] ["thing"] (defScope s_look_wishes) := ⟨rfl, rfl, rfl, by decide +kernel, rfl, by decide +kernel, by decide +kernel⟩
section
variable {P : Program} {w : World} {K : PySem.W.Frag} {mg : Str → Option Value} {base : Heap}
/-! ### is_whole, of an int -/
def spWhole : Sp := fun vs H Q _ => ∃ i : Int, vs = [.int i] ∧ Q (.bl true) H
theorem ok_is_whole (D : Def K mg "is_whole" s_is_whole) (T : Tx mg) : Callee P w K mg base "is_whole" P_is_whole 1 spWhole := by
  refine D.callee sc_is_whole (fun _ _ _ _ _ _ us hl => match us, hl with | [_], _ => rfl) (fun vs H Q E h => ?_) (fun f cdv A outer s H vs Q E hr h => ?_)
  · obtain ⟨i, rfl, _⟩ := h
    rfl
  · obtain ⟨i, rfl, q⟩ := h
    refine ⟨_, (pss_one (ps_ret (pe_and (pe_callB call_isi (by rfl) T.f_isinstance (by decide +kernel) (pa_cons (pv 0) (pa_cons (pe_bltn rfl T.f_int (by decide +kernel) (v := .ty "int") rfl) pa_nil))) (pe_one (pe_not (pe_callB call_isi (by rfl) T.f_isinstance (by decide +kernel) (pa_cons (pv 0) (pa_cons (pe_bltn rfl T.f_bool (by decide +kernel) (v := .ty "bool") rfl) pa_nil)))))))), ?_⟩
    refine ⟨_, rfl, _, _, _, _, true, rfl, .ty _, .base (.int i), kit_ty (by decide +kernel), true, rfl, iteT ?_⟩
    exact ⟨_, rfl, _, _, _, _, false, rfl, .ty _, .base (.int i), kit_ty (by decide +kernel), false, rfl, q⟩
/-! ### is_span, of a span -/
def spSpan : Sp := fun vs H Q _ => ∃ (t : Addr) (lo hi : Option Int), vs = [.ref t] ∧ H t = some (.tup [opt lo, opt hi]) ∧ okSp lo hi = true ∧ Q (.bl true) H
theorem ok_is_span (D : Def K mg "is_span" s_is_span) (T : Tx mg) (c_is_whole : Callee P w K mg base "is_whole" P_is_whole 1 spWhole) : Callee P w K mg base "is_span" P_is_span 2 spSpan := by
  refine D.callee sc_is_span (fun _ _ _ _ _ _ us hl => match us, hl with | [_], _ => rfl) (fun vs H Q E h => ?_) (fun f cdv A outer s H vs Q E hr h => ?_)
  · obtain ⟨t, lo, hi, rfl, _⟩ := h
    rfl
  · obtain ⟨t, lo, hi, rfl, ht, ok, q⟩ := h
    refine ⟨_, (pss_cons (ps_if (PW.pt (pw_or (pt_not (pt_val (pe_callB call_isi (by rfl) T.f_isinstance (by decide +kernel) (pa_cons (pv 0) (pa_cons (pe_bltn rfl T.f_tuple (by decide +kernel) (v := .ty "tuple") rfl) pa_nil))))) (pw_or1 (pt_cmpR op_ne (pe_callB call_len_seq (by rfl) T.f_len (by decide +kernel) (pa_cons (pv 0) pa_nil)) pe_int (nomark _))))) (pss_one (ps_ret pe_bl)) pss_nil)
      (pss_cons (ps_for PassesOwn.never rfl (pi_tup (pv 0)) (pg_name (i := 1) sc_is_span.nd rfl (Or.inl rfl)) (pss_one (ps_if (PW.pt (pw_and (pt_cmpR op_notN (pv 1) pe_non (nomark _)) (pw_and1 (pt_not (pt_val (pc c_is_whole (hr.mono (by first | decide | omega)) (pa_cons (pv 1) pa_nil))))))) (pss_one (ps_ret pe_bl)) pss_nil)))
      (pss_cons (ps_asg (pv 0) (pg_tup rfl (pgs_cons (pg_name (i := 2) sc_is_span.nd rfl (Or.inl rfl)) (pgs_cons (pg_name (i := 3) sc_is_span.nd rfl (Or.inl rfl)) pgs_nil))))
      (pss_one (ps_ret (pe_or (pe_cmpR op_isN (pv 2) pe_non (nomark _)) (pe_or (pe_cmpR op_isN (pv 3) pe_non (nomark _)) (pe_one (pe_cmpR op_le (pv 2) (pv 3) (nomark _)))))))))), ?_⟩
    -- isinstance(thing, tuple), len(thing)
    refine ⟨_, rfl, _, _, _, _, true, rfl, .ty _, .base (.tup ht), kit_ty (by decide +kernel), true, rfl, iteF ?_⟩
    refine ⟨_, rfl, t, _, rfl, .inr (sqT ht), rfl, false, rfl, iteF ?_⟩
    -- for end in thing
    refine ⟨_, rfl, t, rfl, ⟨_, sqT ht⟩, for_tup (K := K) (a := t) (xs := [opt lo, opt hi]) (fun i σ H' => H' = H ∧ ∃ v, σ = [some (.ref t), v, none, none]) ⟨rfl, none, rfl⟩ (fun i σ H' _ ⟨e, _⟩ => by rw [e]; exact sqT ht) ?_ ?_⟩
    · rintro i x σ H' hx ⟨rfl, v, rfl⟩
      have hx' : x = opt lo ∨ x = opt hi := by
        match i, hx with
        | 0, hx => exact .inl (Option.some.inj hx).symm
        | 1, hx => exact .inr (Option.some.inj hx).symm
      have ho : ∃ o, x = opt o := by
        rcases hx' with e | e
        · exact ⟨lo, e⟩
        · exact ⟨hi, e⟩
      obtain ⟨o, rfl⟩ := ho
      cases o with
      | none => exact ⟨_, rfl, rfl, false, rfl, iteF (iteF ⟨rfl, _, rfl⟩)⟩
      | some z => exact ⟨_, rfl, rfl, true, rfl, iteT ⟨_, rfl, z, rfl, true, rfl, iteF ⟨rfl, _, rfl⟩⟩⟩
    · rintro σ H' ⟨rfl, v, rfl⟩
      -- low, high = thing
      refine ⟨_, rfl, t, _, rfl, sqT ht, rfl, opt lo, _, rfl, opt hi, _, rfl, rfl, ?_⟩
      cases lo with
      | none => exact ⟨_, rfl, rfl, true, rfl, iteT q⟩
      | some l =>
        refine ⟨_, rfl, rfl, false, rfl, iteF ?_⟩
        cases hi with
        | none => exact ⟨_, rfl, rfl, true, rfl, iteT q⟩
        | some h =>
          refine ⟨_, rfl, rfl, false, rfl, iteF ?_⟩
          refine ⟨_, rfl, _, rfl, l, h, rfl, rfl, ?_⟩
          have e : decide (l ≤ h) = true := ok
          show Q (.bl (decide (l ≤ h))) _
          rw [e]
          exact q
/-! ### is_field, of a field -/
def spField : Sp := fun vs H Q _ => ∃ z : Str, vs = [.str z] ∧ FieldOk z ∧ Q (.bl true) H
theorem ok_is_field (D : Def K mg "is_field" s_is_field) (T : Tx mg) : Callee P w K mg base "is_field" P_is_field 1 spField := by
  refine D.callee sc_is_field (fun _ _ _ _ _ _ us hl => match us, hl with | [_], _ => rfl) (fun vs H Q E h => ?_) (fun f cdv A outer s H vs Q E hr h => ?_)
  · obtain ⟨z, rfl, _⟩ := h
    rfl
  · obtain ⟨z, rfl, ok, q⟩ := h
    refine ⟨_, (pss_cons (ps_if (PW.pt (pw_or (pt_not (pt_val (pe_callB call_isi (by rfl) T.f_isinstance (by decide +kernel) (pa_cons (pv 0) (pa_cons (pe_bltn rfl T.f_str (by decide +kernel) (v := .ty "str") rfl) pa_nil))))) (pw_or (pt_cmpR op_eq (pv 0) pe_str (nomark _)) (pw_or1 (pt_cmpR op_gt (pe_callB call_len_str (by rfl) T.f_len (by decide +kernel) (pa_cons (pv 0) pa_nil)) (T.k_LONGEST) (nomark _)))))) (pss_one (ps_ret pe_bl)) pss_nil)
      (pss_cons (ps_for PassesOwn.never rfl (pi_str (pv 0)) (pg_name (i := 1) sc_is_field.nd rfl (Or.inl rfl)) (pss_one (ps_if (pt_cmpR op_notIn_sign (pv 1) (T.k_LETTERS) (by rfl)) (pss_one (ps_ret pe_bl)) pss_nil)))
      (pss_one (ps_ret pe_bl)))), ?_⟩
    refine ⟨_, rfl, _, _, _, _, true, rfl, .ty _, .base (.str z), kit_ty (by decide +kernel), true, rfl, iteF ?_⟩
    refine ⟨_, rfl, rfl, _, rfl, ite2 (fun e => absurd (V.str.inj (of_decide_eq_true e)) (ne_empty ok.pos)) fun _ => ?_⟩
    refine ⟨_, rfl, z, rfl, small100 (Nat.le_trans ok.few (by decide)), _, _, rfl, rfl, _, rfl, ite2 (fun e => ?_) fun _ => ?_⟩
    · have e1 : (8 : Int) < (z.length : Int) := of_decide_eq_true e
      have := ok.few
      omega
    -- for sign in thing
    refine ⟨_, rfl, z, rfl, for_str (fun i σ H' => H' = H ∧ ∃ v, σ = [some (.str z), v]) ⟨rfl, none, rfl⟩ ?_ ?_⟩
    · rintro i c σ H' hc ⟨rfl, v, rfl⟩
      refine ⟨_, rfl, c, _, rfl, rfl, _, rfl, ite2 (fun e => ?_) fun _ => ⟨rfl, _, rfl⟩⟩
      have hm : c ∈ z.cps.toList := Array.mem_toList_iff.mpr (Array.mem_of_getElem? hc)
      obtain ⟨h1, h2⟩ := ok.small c hm
      have e1 : (!decide (c ∈ (Str.ofString "abcdefghijklmnopqrstuvwxyz").cps.toList)) = true := e
      rw [decide_eq_true (letters_mem h1 h2)] at e1
      cases e1
    · rintro σ H' ⟨rfl, v, rfl⟩
      exact q
/-! ### are_parts, of a wish and 3 -/
def spParts : Sp := fun vs H Q _ => ∃ (v : V) (wi : Wish), vs = [v, .int 3] ∧ WishAt H v wi ∧ WishOk wi ∧ Q (.bl true) H
theorem ok_are_parts (D : Def K mg "are_parts" s_are_parts) (T : Tx mg) (c_is_field : Callee P w K mg base "is_field" P_is_field 1 spField) : Callee P w K mg base "are_parts" P_are_parts 2 spParts := by
  refine D.callee sc_are_parts (fun _ _ _ _ _ _ us hl => match us, hl with | [_, _], _ => rfl) (fun vs H Q E h => ?_) (fun f cdv A outer s H vs Q E hr h => ?_)
  · obtain ⟨v, wi, rfl, _⟩ := h
    rfl
  · obtain ⟨v, wi, rfl, hw, ok, q⟩ := h
    obtain ⟨a, xs, rfl, ha, hp⟩ := hw
    refine ⟨_, (pss_cons (ps_if (pt_not (pt_val (pe_callB call_isi (by rfl) T.f_isinstance (by decide +kernel) (pa_cons (pv 0) (pa_cons (pe_bltn rfl T.f_tuple (by decide +kernel) (v := .ty "tuple") rfl) pa_nil))))) (pss_one (ps_ret pe_bl)) pss_nil)
      (pss_cons (ps_set (i := 2) sc_are_parts.nd rfl (Or.inl rfl) pe_str)
      (pss_cons (ps_for PassesOwn.never rfl (pi_tup (pv 0)) (pg_name (i := 3) sc_are_parts.nd rfl (Or.inl rfl)) (pss_cons (ps_if (PW.pt (pw_or (pt_not (pt_val (pe_callB call_isi (by rfl) T.f_isinstance (by decide +kernel) (pa_cons (pv 3) (pa_cons (pe_bltn rfl T.f_tuple (by decide +kernel) (v := .ty "tuple") rfl) pa_nil))))) (pw_or1 (pt_cmpR op_ne (pe_callB call_len_seq (by rfl) T.f_len (by decide +kernel) (pa_cons (pv 3) pa_nil)) (pv 1) (nomark _))))) (pss_one (ps_ret pe_bl)) pss_nil)
      (pss_cons (ps_if (PW.pt (pw_or (pt_not (pt_val (pc c_is_field (hr.mono (by first | decide | omega)) (pa_cons (pe_ix ix_tup (pv 3) pe_int (fun _ _ => rfl)) pa_nil)))) (pw_or1 (pt_cmpR op_le_str (pe_ix ix_tup (pv 3) pe_int (fun _ _ => rfl)) (pv 2) (nomark _))))) (pss_one (ps_ret pe_bl)) pss_nil)
      (pss_one (ps_set (i := 2) sc_are_parts.nd rfl (Or.inl rfl) (pe_ix ix_tup (pv 3) pe_int (fun _ _ => rfl)))))))
      (pss_one (ps_ret pe_bl))))), ?_⟩
    refine ⟨_, rfl, _, _, _, _, true, rfl, .ty _, .base (.tup ha), kit_ty (by decide +kernel), true, rfl, iteF ?_⟩
    -- last = ''; for part in thing
    refine ⟨_, rfl, a, rfl, ⟨_, sqT ha⟩, for_tup (K := K) (a := a) (xs := xs) (fun i σ H' => H' = H ∧ ∃ z v, σ = [some (.ref a), some (.int 3), some (.str z), v] ∧ ∀ p ∈ wi.drop i, Lt z p.1) ⟨rfl, _, none, rfl, fun p hp => lt_empty (ok.each p hp).1.pos⟩ (fun i σ H' _ ⟨e, _⟩ => by rw [e]; exact sqT ha) ?_ ?_⟩
    · rintro i x σ H' hx ⟨rfl, z, v, rfl, hz⟩
      obtain ⟨p, hpi, t, rfl, ht⟩ := Paired.at_ hp hx
      have hpm : p ∈ wi := List.mem_of_getElem? hpi
      have hil : i < wi.length := (List.getElem?_eq_some_iff.mp hpi).1
      have hdrop : wi.drop i = p :: wi.drop (i + 1) := by
        rw [List.drop_eq_getElem_cons hil]
        have e : wi[i] = p := Option.some.inj ((List.getElem?_eq_getElem hil).symm.trans hpi)
        rw [e]
      refine ⟨_, rfl, _, _, _, _, true, rfl, .ty _, .base (.tup ht), kit_ty (by decide +kernel), true, rfl, iteF ?_⟩
      refine ⟨_, rfl, t, _, rfl, .inr (sqT ht), _, rfl, rfl, _, rfl, iteF ?_⟩
      -- is_field(part[0])
      refine ⟨_, rfl, t, _, 0, _, rfl, rfl, sqT ht, atI_nat (j := 0) rfl, p.1, rfl, (ok.each p hpm).1, true, rfl, iteF ?_⟩
      refine ⟨_, rfl, t, _, 0, _, rfl, rfl, sqT ht, atI_nat (j := 0) rfl, _, rfl, p.1, z, rfl, rfl, _, rfl, ite2 (fun e => ?_) fun _ => ?_⟩
      · have h1 : Lt z p.1 := hz p (by rw [hdrop]; exact List.mem_cons_self)
        have e1 : (!decide (z.cps.toList < p.1.cps.toList)) = true := e
        rw [decide_eq_true (show z.cps.toList < p.1.cps.toList from h1)] at e1
        cases e1
      · refine ⟨_, rfl, t, _, 0, _, rfl, rfl, sqT ht, atI_nat (j := 0) rfl, rfl, p.1, _, rfl, fun q hq => ?_⟩
        have hup : (wi.drop i).Pairwise fun p q => Lt p.1 q.1 := ok.up.sublist (List.drop_sublist _ _)
        rw [hdrop] at hup
        exact (List.pairwise_cons.mp hup).1 q hq
    · rintro σ H' ⟨rfl, z, v, rfl, hz⟩
      exact q
/-! ### is_wish, of a wish -/
def spWish : Sp := fun vs H Q _ => ∃ (v : V) (wi : Wish), vs = [v] ∧ WishAt H v wi ∧ WishOk wi ∧ ∀ H', Same H H' → Q (.bl true) H'
theorem ok_is_wish (D : Def K mg "is_wish" s_is_wish) (T : Tx mg) (c_are_parts : Callee P w K mg base "are_parts" P_are_parts 2 spParts) (c_is_span : Callee P w K mg base "is_span" P_is_span 2 spSpan) : Callee P w K mg base "is_wish" P_is_wish 3 spWish := by
  refine D.callee sc_is_wish (fun _ _ _ _ _ _ us hl => match us, hl with | [_], _ => rfl) (fun vs H Q E h => ?_) (fun f cdv A outer s H vs Q E hr h => ?_)
  · obtain ⟨v, wi, rfl, _⟩ := h
    rfl
  · obtain ⟨v, wi, rfl, hw, ok, q⟩ := h
    obtain ⟨a, xs, rfl, ha, hp⟩ := id hw
    refine ⟨_, (pss_cons (ps_if (pt_not (pt_val (pc c_are_parts (hr.mono (by first | decide | omega)) (pa_cons (pv 0) (pa_cons pe_int pa_nil))))) (pss_one (ps_ret pe_bl)) pss_nil)
      (pss_cons (ps_for PassesOwn.never rfl (pi_tup (pv 0)) (pg_tup rfl (pgs_cons (pg_name (i := 1) sc_is_wish.nd rfl (Or.inl rfl)) (pgs_cons (pg_name (i := 2) sc_is_wish.nd rfl (Or.inl rfl)) (pgs_cons (pg_name (i := 3) sc_is_wish.nd rfl (Or.inl rfl)) pgs_nil)))) (pss_one (ps_if (pt_not (pt_val (pc c_is_span (hr.mono (by first | decide | omega)) (pa_cons (pe_tup (pa_cons (pv 2) (pa_cons (pv 3) pa_nil))) pa_nil)))) (pss_one (ps_ret pe_bl)) pss_nil)))
      (pss_one (ps_ret pe_bl)))), ?_⟩
    refine ⟨_, rfl, _, wi, rfl, hw, ok, true, rfl, iteF ?_⟩
    refine ⟨_, rfl, a, rfl, ⟨_, sqT ha⟩, for_tup (K := K) (a := a) (xs := xs) (fun i σ H' => Same H H' ∧ ∃ v1 v2 v3, σ = [some (.ref a), v1, v2, v3]) ⟨Same.refl H, none, none, none, rfl⟩ (fun i σ H' _ ⟨e, _⟩ => sqT (e _ _ ha)) ?_ ?_⟩
    · rintro i x σ H' hx ⟨sm, v1, v2, v3, rfl⟩
      obtain ⟨p, hpi, t, rfl, ht⟩ := Paired.at_ hp hx
      have hpm : p ∈ wi := List.mem_of_getElem? hpi
      -- field, low, high = the part
      refine ⟨t, _, rfl, sqT (sm _ _ ht), rfl, .str p.1, _, rfl, opt p.2.1, _, rfl, opt p.2.2, _, rfl, rfl, ?_⟩
      -- is_span((low, high))
      refine ⟨_, rfl, _, rfl, small100 (show 2 ≤ 100000 by decide), fun u nu => ?_⟩
      refine ⟨u, p.2.1, p.2.2, rfl, upd_same, (ok.each p hpm).2, true, rfl, iteF ⟨sm.trans (same_upd nu), _, _, _, rfl⟩⟩
    · rintro σ H' ⟨sm, v1, v2, v3, rfl⟩
      exact q H' sm
/-! ### look_wishes, of a list of wishes -/
def spLookW (K : PySem.W.Frag) : Sp := fun vs H Q _ => ∃ (l : Addr) (xs : List V) (ws : List Wish), vs = [.ref l] ∧ H l = some (.lst xs) ∧ WsAt H xs ws ∧ (∀ o ∈ ws, WishOk o) ∧ ∀ H', Same H H' → Q .non H'
theorem ok_look_wishes (D : Def K mg "look_wishes" s_look_wishes) (T : Tx mg) (c_is_wish : Callee P w K mg base "is_wish" P_is_wish 3 spWish) : Callee P w K mg base "look_wishes" P_look_wishes 4 (spLookW K) := by
  refine D.callee sc_look_wishes (fun _ _ _ _ _ _ us hl => match us, hl with | [_], _ => rfl) (fun vs H Q E h => ?_) (fun f cdv A outer s H vs Q E hr h => ?_)
  · obtain ⟨l, xs, ws, rfl, _⟩ := h
    rfl
  · obtain ⟨l, xs, ws, rfl, hl, hw, ok, q⟩ := h
    refine ⟨_, (pss_cons (ps_if (pt_not (pt_val (pe_callB call_isi (by rfl) T.f_isinstance (by decide +kernel) (pa_cons (pv 0) (pa_cons (pe_bltn rfl T.f_list (by decide +kernel) (v := .ty "list") rfl) pa_nil))))) (pss_one ps_never) pss_nil)
      (pss_one (ps_for PassesOwn.never rfl (pi_list (pv 0)) (pg_name (i := 1) sc_look_wishes.nd rfl (Or.inl rfl)) (pss_one (ps_if (pt_not (pt_val (pc c_is_wish (hr.mono (by first | decide | omega)) (pa_cons (pv 1) pa_nil)))) (pss_one ps_never) pss_nil))))), ?_⟩
    refine ⟨_, rfl, _, _, _, _, true, rfl, .ty _, .base (.lst hl), kit_ty (by decide +kernel), true, rfl, iteF ?_⟩
    refine ⟨_, rfl, l, rfl, ⟨_, sqL hl⟩, for_list (K := K) (a := l) (xs := xs) (fun i σ H' => Same H H' ∧ ∃ v1, σ = [some (.ref l), v1]) ⟨Same.refl H, none, rfl⟩ (fun i σ H' _ ⟨e, _⟩ => sqL (e _ _ hl)) ?_ ?_⟩
    · rintro i x σ H' hx ⟨sm, v1, rfl⟩
      obtain ⟨o, hoi, ho⟩ := Paired.at_ hw hx
      exact ⟨_, rfl, _, o, rfl, ho.stay (.of sm), ok o (List.mem_of_getElem? hoi), fun H2 s2 => ⟨true, rfl, iteF ⟨sm.trans s2, _, rfl⟩⟩⟩
    · rintro σ H' ⟨sm, v1, rfl⟩
      exact q H' sm
end
end Cut
namespace Cut
open PySem PySem.Spec PyProof.Rows L2
abbrev s_fields_of : Stmt := topS 17
abbrev N_fields_of : List Str := ["wishes", "found", "wish", "field", "low", "high"]
abbrev P_fields_of : List Str := ["wishes"]
theorem sc_fields_of : FnScope ["wishes", "found", "wish", "field", "low", "high"] ["wishes"] (defScope s_fields_of) := ⟨rfl, rfl, rfl, by decide +kernel, rfl, by decide +kernel, by decide +kernel⟩
abbrev s_look_few : Stmt := topS 18
abbrev N_look_few : List Str := ["wishes", "more"]
abbrev P_look_few : List Str := ["wishes", "more"]
theorem sc_look_few : FnScope ["wishes", "more"] ["wishes", "more"] (defScope s_look_few) := ⟨rfl, rfl, rfl, by decide +kernel, rfl, by decide +kernel, by decide +kernel⟩
abbrev s_is_between : Stmt := topS 19
abbrev N_is_between : List Str := ["low", "high", "number"]
abbrev P_is_between : List Str := ["low", "high", "number"]
theorem sc_is_between : FnScope ["low", "high", "number"] ["low", "high", "number"] (defScope s_is_between) := ⟨rfl, rfl, rfl, by decide +kernel, rfl, by decide +kernel, by decide +kernel⟩
abbrev s_lets_by : Stmt := topS 20
abbrev N_lets_by : List Str := ["wish", "field", "number", "other", "low", "high"]
abbrev P_lets_by : List Str := ["wish", "field", "number"]
theorem sc_lets_by : FnScope ["wish", "field", "number", "other", "low", "high"] ["wish", "field", "number"] (defScope s_lets_by) := ⟨rfl, rfl, rfl, by decide +kernel, rfl, by decide +kernel, by decide +kernel⟩
abbrev s_ends_of : Stmt := topS 21
abbrev N_ends_of : List Str := ["field", "wishes", "lows", "highs", "wish", "other", "low", "high"]
abbrev P_ends_of : List Str := ["field", "wishes"]
theorem sc_ends_of : FnScope ["field", "wishes", "lows", "highs", "wish", "other", "low", "high"] ["field", "wishes"] (defScope s_ends_of) := ⟨rfl, rfl, rfl, by decide +kernel, rfl, by decide +kernel, by decide +kernel⟩
/-- the keys of a dict are these texts -/
def Keys (kvs : List (Key × V)) (fs : List Str) : Prop := ∃ ks : List Str, kvs.map (·.1) = ks.map Sum.inr ∧ ks.Nodup ∧ ∀ f, f ∈ ks ↔ f ∈ fs
theorem Keys.put {kvs : List (Key × V)} {fs : List Str} (h : Keys kvs fs) (f : Str) (v : V) : Keys (putK kvs (Sum.inr f) v) (fs ++ [f]) := by
  obtain ⟨ks, h1, h2, h3⟩ := h
  have hmem : (Sum.inr f : Key) ∈ kvs.map (·.1) ↔ f ∈ ks := by
    rw [h1, List.mem_map]
    exact ⟨fun ⟨a, ha, e⟩ => by rw [← Sum.inr.inj e]; exact ha, fun ha => ⟨f, ha, rfl⟩⟩
  cases e : valV kvs (Sum.inr f : Key) with
  | none =>
    have hn : f ∉ ks := fun z => valV_not e (hmem.mpr z)
    rw [putK_new v e]
    refine ⟨ks ++ [f], by rw [List.map_append, List.map_append, h1]; rfl, nd_snoc h2 hn, fun g => ?_⟩
    rw [List.mem_append, List.mem_append, h3 g]
  | some u =>
    have hin : f ∈ ks := hmem.mp (valV_in e)
    have ek : (putK kvs (Sum.inr f : Key) v).map (·.1) = kvs.map (·.1) := by
      unfold putK
      rw [valV_any, e, if_pos (show (some u).isSome = true from rfl), List.map_map]
      refine List.map_congr_left fun kv _ => ?_
      show (if kv.1 = Sum.inr f then (kv.1, v) else kv).1 = kv.1
      split <;> rfl
    refine ⟨ks, by rw [ek, h1], h2, fun g => ?_⟩
    rw [List.mem_append, List.mem_singleton, h3 g]
    exact ⟨.inl, fun z => z.elim id fun z => by rw [z]; exact (h3 f).mp hin⟩
theorem Keys.len {kvs : List (Key × V)} {fs m : List Str} (h : Keys kvs fs) (sub : ∀ f ∈ fs, f ∈ m) : kvs.length ≤ m.length := by
  obtain ⟨ks, h1, h2, h3⟩ := h
  have e : kvs.length = ks.length := by
    have := congrArg List.length h1
    rw [List.length_map, List.length_map] at this
    exact this
  rw [e]
  exact nodup_len h2 fun f hf => sub f ((h3 f).mp hf)
theorem Keys.of_eq {kvs : List (Key × V)} {fs gs : List Str} (h : Keys kvs fs) (e : fs = gs) : Keys kvs gs := e ▸ h
theorem flds_take {ws : List Wish} {i : Nat} {o : Wish} (h : ws[i]? = some o) : flds (ws.take (i + 1)) = flds (ws.take i) ++ o.map (·.1) := by
  unfold flds
  rw [take_at h, List.flatMap_append, List.flatMap_cons, List.flatMap_nil, List.append_nil]
section
variable {P : Program} {w : World} {K : PySem.W.Frag} {mg : Str → Option Value} {base : Heap}
/-! ### fields_of -/
def spFields : Sp := fun vs H Q _ => ∃ (l : Addr) (xs : List V) (ws : List Wish) (fs : List Str), vs = [.ref l] ∧ H l = some (.lst xs) ∧ WsAt H xs ws ∧ fs.length ≤ 20 ∧ (∀ f ∈ flds ws, f ∈ fs) ∧
  ∀ (ys : List Str) (H' : Hp) (p : Addr), ys.Nodup → (∀ f, f ∈ ys ↔ f ∈ flds ws) → Same H H' → H' p = some (.lst (ys.map V.str)) → Q (.ref p) H'
theorem ok_fields_of (D : Def K mg "fields_of" s_fields_of) (T : Tx mg) : Callee P w K mg base "fields_of" P_fields_of 1 spFields := by
  refine D.callee sc_fields_of (fun _ _ _ _ _ _ us hl => match us, hl with | [_], _ => rfl) (fun vs H Q E h => ?_) (fun f cdv A outer s H vs Q E hr h => ?_)
  · obtain ⟨l, xs, ws, fs, rfl, _⟩ := h
    rfl
  · obtain ⟨l, xs, ws, fs, rfl, hl, hw, hfl, hsub, q⟩ := h
    have hu := hu_of hr
    refine ⟨_, (pss_cons (ps_set (i := 1) sc_fields_of.nd rfl (Or.inl rfl) pe_dnewK)
      (pss_cons (ps_for PassesOwn.never rfl (pi_list (pv 0)) (pg_name (i := 2) sc_fields_of.nd rfl (Or.inl rfl)) (pss_one (ps_for PassesOwn.never rfl (pi_tup (pv 2)) (pg_tup rfl (pgs_cons (pg_name (i := 3) sc_fields_of.nd rfl (Or.inl rfl)) (pgs_cons (pg_name (i := 4) sc_fields_of.nd rfl (Or.inl rfl)) (pgs_cons (pg_name (i := 5) sc_fields_of.nd rfl (Or.inl rfl)) pgs_nil)))) (pss_one (ps_dput hu (pv 1) (pv 3) pe_bl rfl)))))
      (pss_one (ps_ret (pe_callB cr_sortedS (by rfl) T.f_sorted (by decide +kernel) (pa_cons (pe_callTy (call_listD rfl) (by rfl) T.f_list (by decide +kernel) (pa_cons (pv 1) pa_nil)) pa_nil)))))), ?_⟩
    intro d nd
    have ndl : d ≠ l := (ne_of_none hl nd).symm
    refine ⟨_, rfl, l, rfl, ⟨_, sqL ((same_upd nd) _ _ hl)⟩, for_list (K := K) (a := l) (xs := xs) (fun i σ H' => Same H H' ∧ ∃ kvs v2 v3 v4 v5, σ = [some (.ref l), some (.ref d), v2, v3, v4, v5] ∧ H' d = some (.dK kvs) ∧ Keys kvs (flds (ws.take i)))
      ⟨same_upd nd, [], none, none, none, none, rfl, upd_same, [], rfl, List.nodup_nil, fun f => by simp [flds]⟩ (fun i σ H' _ ⟨e, _⟩ => sqL (e _ _ hl)) ?_ ?_⟩
    · rintro i x σ H' hx ⟨sm, kvs, v2, v3, v4, v5, rfl, hd, hk⟩
      obtain ⟨o, hoi, a, vs, rfl, ha, hp⟩ := Paired.at_ hw hx
      -- the inner loop
      refine ⟨_, rfl, a, rfl, ⟨_, sqT (sm _ _ ha)⟩, for_tup (K := K) (a := a) (xs := vs) (fun j σ H2 => Same H H2 ∧ ∃ kvs v3 v4 v5, σ = [some (.ref l), some (.ref d), some (.ref a), v3, v4, v5] ∧ H2 d = some (.dK kvs) ∧ Keys kvs (flds (ws.take i) ++ (o.take j).map (·.1)))
        ⟨sm, kvs, v3, v4, v5, rfl, hd, by rw [List.take_zero, List.map_nil, List.append_nil]; exact hk⟩ (fun j σ H2 _ ⟨e, _⟩ => sqT (e _ _ ha)) ?_ ?_⟩
      · rintro j x σ H2 hj ⟨s2, kvs2, u3, u4, u5, rfl, hd2, hk2⟩
        obtain ⟨p, hpj, t, rfl, ht⟩ := Paired.at_ hp hj
        refine ⟨t, _, rfl, sqT (s2 _ _ ht), rfl, .str p.1, _, rfl, opt p.2.1, _, rfl, opt p.2.2, _, rfl, rfl, ?_⟩
        have hlen : kvs2.length ≤ 20 := by
          refine Nat.le_trans (hk2.len (m := fs) fun f hf => hsub f ?_) hfl
          have hom : o ∈ ws := List.mem_of_getElem? hoi
          rcases List.mem_append.mp hf with z | z
          · obtain ⟨o', ho', z'⟩ := List.mem_flatMap.mp z
            exact List.mem_flatMap.mpr ⟨o', List.mem_of_mem_take ho', z'⟩
          · obtain ⟨p', hp', e⟩ := List.mem_map.mp z
            exact List.mem_flatMap.mpr ⟨o, hom, List.mem_map.mpr ⟨p', List.mem_of_mem_take hp', e⟩⟩
        refine ⟨_, rfl, _, rfl, d, _, rfl, DPut.k (k := Sum.inr p.1) hd2 (lt100 (by omega)), ?_⟩
        refine ⟨Same.mut s2 nd, _, _, _, _, rfl, upd_same, ?_⟩
        rw [take_at hpj, List.map_append, ← List.append_assoc]
        exact hk2.put p.1 _
      · rintro σ H2 ⟨s2, kvs2, u3, u4, u5, rfl, hd2, hk2⟩
        refine ⟨s2, kvs2, _, _, _, _, rfl, hd2, ?_⟩
        rw [flds_take hoi]
        rw [show o.take vs.length = o from List.take_of_length_le (by rw [Paired.len hp]; exact Nat.le_refl _)] at hk2
        exact hk2
    · rintro σ H' ⟨sm, kvs, v2, v3, v4, v5, rfl, hd, hk⟩
      rw [show ws.take xs.length = ws from List.take_of_length_le (by rw [Paired.len hw]; exact Nat.le_refl _)] at hk
      have hlen : kvs.length ≤ 20 := Nat.le_trans (hk.len (m := fs) hsub) hfl
      obtain ⟨ks, k1, k2, k3⟩ := hk
      have ekl : kvs.length = ks.length := by
        have := congrArg List.length k1
        rw [List.length_map, List.length_map] at this
        exact this
      have ek : (kvs.map fun kv => kV kv.1) = ks.map V.str := by
        have := congrArg (List.map kV) k1
        rw [List.map_map, List.map_map] at this
        exact this
      -- sorted(list(found))
      refine ⟨_, rfl, d, kvs, rfl, .inl hd, fun p np => ?_⟩
      rw [ek]
      refine ⟨p, ks, rfl, sqL upd_same, by omega, fun ys r perm _ nr => ?_⟩
      refine q ys _ r (perm.nodup_iff.mpr k2) (fun f => (perm.mem_iff).trans (k3 f)) ?_ upd_same
      exact (sm.trans (same_upd np)).trans (same_upd nr)
/-! ### look_few -/
def spFew : Sp := fun vs H Q _ => ∃ (l m : Addr) (xs ys : List V) (ws us : List Wish) (fs : List Str), vs = [.ref l, .ref m] ∧ H l = some (.lst xs) ∧ H m = some (.lst ys) ∧ WsAt H xs ws ∧ WsAt H ys us ∧ ws.length ≤ 7 ∧ us.length ≤ 7 ∧ fs.length ≤ 3 ∧ (∀ f ∈ flds (ws ++ us), f ∈ fs) ∧
  ∀ H' : Hp, Same H H' → Q .non H'
theorem ok_look_few (D : Def K mg "look_few" s_look_few) (T : Tx mg) (c_fields_of : Callee P w K mg base "fields_of" P_fields_of 1 spFields) : Callee P w K mg base "look_few" P_look_few 2 spFew := by
  refine D.callee sc_look_few (fun _ _ _ _ _ _ us hl => match us, hl with | [_, _], _ => rfl) (fun vs H Q E h => ?_) (fun f cdv A outer s H vs Q E hr h => ?_)
  · obtain ⟨l, m, xs, ys, ws, us, fs, rfl, _⟩ := h
    rfl
  · obtain ⟨l, m, xs, ys, ws, us, fs, rfl, hl, hm, hw, hu, h7, h7', hfl, hsub, q⟩ := h
    refine ⟨_, (pss_one (ps_if (PW.pt (pw_or (pt_cmpR op_gt (pe_callB call_len_seq (by rfl) T.f_len (by decide +kernel) (pa_cons (pv 0) pa_nil)) (T.k_MOST_WISHES) (nomark _)) (pw_or1 (pt_cmpR op_gt (pe_callB call_len_seq (by rfl) T.f_len (by decide +kernel) (pa_cons (pc c_fields_of (hr.mono (by first | decide | omega)) (pa_cons (pe_op op_cat (pv 0) (pv 1)) pa_nil)) pa_nil)) (T.k_MOST_FIELDS) (nomark _))))) (pss_one ps_never) pss_nil)), ?_⟩
    have lx := Paired.len hw
    have ly := Paired.len hu
    refine ⟨_, rfl, l, xs, rfl, .inl (sqL hl), _, _, rfl, rfl, _, rfl, ite2 (fun e => ?_) fun _ => ?_⟩
    · have e1 : (7 : Int) < (xs.length : Int) := of_decide_eq_true e
      omega
    · refine ⟨_, rfl, _, rfl, l, m, xs, ys, rfl, rfl, hl, hm, small100 (by omega), fun p np => ?_⟩
      refine ⟨p, _, ws ++ us, fs, rfl, upd_same, Paired.app (WsAt.stay hw (.of (same_upd np))) (WsAt.stay hu (.of (same_upd np))), by omega, hsub, fun zs H' r nd hz sm hr' => ?_⟩
      refine ⟨r, _, rfl, .inl (sqL hr'), _, _, rfl, rfl, _, rfl, ite2 (fun e => ?_) fun _ => ?_⟩
      · have e1 : (3 : Int) < ((zs.map V.str).length : Int) := of_decide_eq_true e
        rw [List.length_map] at e1
        have := nodup_len nd fun f hf => hsub f ((hz f).mp hf)
        omega
      · exact q H' ((same_upd np).trans sm)
/-! ### is_between -/
def spBtw : Sp := fun vs H Q _ => ∃ (lo hi : Option Int) (n : Int), vs = [opt lo, opt hi, .int n] ∧ Q (.bl (btw lo hi n)) H
theorem ok_is_between (D : Def K mg "is_between" s_is_between) (T : Tx mg) : Callee P w K mg base "is_between" P_is_between 1 spBtw := by
  refine D.callee sc_is_between (fun _ _ _ _ _ _ us hl => match us, hl with | [_, _, _], _ => rfl) (fun vs H Q E h => ?_) (fun f cdv A outer s H vs Q E hr h => ?_)
  · obtain ⟨lo, hi, n, rfl, _⟩ := h
    rfl
  · obtain ⟨lo, hi, n, rfl, q⟩ := h
    refine ⟨_, (pss_one (ps_ret (pe_and (pe_or (pe_cmpR op_isN (pv 0) pe_non (nomark _)) (pe_one (pe_cmpR op_le (pv 0) (pv 2) (nomark _)))) (pe_one (pe_or (pe_cmpR op_isN (pv 1) pe_non (nomark _)) (pe_one (pe_cmpR op_le (pv 2) (pv 1) (nomark _)))))))), ?_⟩
    -- the second half, from a true first one
    have h2 : geLo lo n = true → ∀ (σ : L2.St), σ = [some (opt lo), some (opt hi), some (.int n)] →
        tOrV (tOp (fun x y H Q => y = .non ∧ Q (.bl (decide (x = .non))) H) (tVar 1) (tC .non)) (tOp (rI0 fun i j => .bl (decide (i ≤ j))) (tVar 2) (tVar 1)) σ H Q := by
      intro e σ eσ
      subst eσ
      cases hi with
      | none =>
        refine ⟨_, rfl, rfl, true, rfl, iteT ?_⟩
        have e2 : btw lo none n = true := by
          show (geLo lo n && true) = true
          rw [e] <;> rfl
        rw [e2] at q
        exact q
      | some h =>
        refine ⟨_, rfl, rfl, false, rfl, iteF ⟨_, rfl, _, rfl, n, h, rfl, rfl, ?_⟩⟩
        have e2 : btw lo (some h) n = decide (n ≤ h) := by
          show (geLo lo n && decide (n ≤ h)) = decide (n ≤ h)
          rw [e, Bool.true_and]
        rw [e2] at q
        exact q
    cases lo with
    | none => exact ⟨_, rfl, rfl, true, rfl, iteT ⟨true, rfl, iteT (h2 rfl _ rfl)⟩⟩
    | some l =>
      refine ⟨_, rfl, rfl, false, rfl, iteF ⟨_, rfl, _, rfl, l, n, rfl, rfl, ⟨decide (l ≤ n), rfl, ?_⟩⟩⟩
      by_cases hln : l ≤ n
      · rw [if_pos (decide_eq_true hln)]
        exact h2 (decide_eq_true hln) _ rfl
      · rw [if_neg (by rw [decide_eq_false hln]; decide)]
        have e2 : btw (some l) hi n = false := by
          show (decide (l ≤ n) && leHi hi n) = false
          rw [decide_eq_false hln, Bool.false_and]
        rw [e2] at q
        exact q
/-! ### lets_by -/
def spLets : Sp := fun vs H Q _ => ∃ (v : V) (wi : Wish) (f : Str) (n : Int), vs = [v, .str f, .int n] ∧ WishAt H v wi ∧ Q (.bl (lets wi f n)) H
theorem ok_lets_by (D : Def K mg "lets_by" s_lets_by) (T : Tx mg) (c_is_between : Callee P w K mg base "is_between" P_is_between 1 spBtw) : Callee P w K mg base "lets_by" P_lets_by 2 spLets := by
  refine D.callee sc_lets_by (fun _ _ _ _ _ _ us hl => match us, hl with | [_, _, _], _ => rfl) (fun vs H Q E h => ?_) (fun fa cdv A outer s H vs Q E hr h => ?_)
  · obtain ⟨v, wi, f, n, rfl, _⟩ := h
    rfl
  · obtain ⟨v, wi, f, n, rfl, hw, q⟩ := h
    obtain ⟨a, xs, rfl, ha, hp⟩ := hw
    refine ⟨_, (pss_cons (ps_for PassesOwn.never rfl (pi_tup (pv 0)) (pg_tup rfl (pgs_cons (pg_name (i := 3) sc_lets_by.nd rfl (Or.inl rfl)) (pgs_cons (pg_name (i := 4) sc_lets_by.nd rfl (Or.inl rfl)) (pgs_cons (pg_name (i := 5) sc_lets_by.nd rfl (Or.inl rfl)) pgs_nil)))) (pss_one (ps_if (pt_cmpR op_eq (pv 3) (pv 1) (nomark _)) (pss_one (ps_ret (pc c_is_between (hr.mono (by first | decide | omega)) (pa_cons (pv 4) (pa_cons (pv 5) (pa_cons (pv 2) pa_nil)))))) pss_nil)))
      (pss_one (ps_ret pe_bl))), ?_⟩
    refine ⟨_, rfl, a, rfl, ⟨_, sqT ha⟩, for_tup (K := K) (a := a) (xs := xs) (fun i σ H' => H' = H ∧ lets wi f n = lets (wi.drop i) f n ∧ ∃ v1 v2 v3, σ = [some (.ref a), some (.str f), some (.int n), v1, v2, v3]) ⟨rfl, rfl, none, none, none, rfl⟩ (fun i σ H' _ ⟨e, _⟩ => by rw [e]; exact sqT ha) ?_ ?_⟩
    · rintro i x σ H' hx ⟨rfl, el, v1, v2, v3, rfl⟩
      obtain ⟨p, hpi, t, rfl, ht⟩ := Paired.at_ hp hx
      rw [drop_at hpi] at el
      refine ⟨t, _, rfl, sqT ht, rfl, .str p.1, _, rfl, opt p.2.1, _, rfl, opt p.2.2, _, rfl, rfl, ?_⟩
      refine ⟨_, rfl, _, rfl, rfl, _, rfl, ite2 (fun e => ?_) fun e => ?_⟩
      · have e1 : p.1 = f := V.str.inj (of_decide_eq_true e)
        have e2 : lets wi f n = btw p.2.1 p.2.2 n := by
          rw [el]
          unfold lets
          rw [if_pos e1]
        rw [e2] at q
        exact ⟨_, rfl, _, rfl, _, rfl, p.2.1, p.2.2, n, rfl, q⟩
      · have e1 : ¬ p.1 = f := fun z => e (decide_eq_true (by rw [z]))
        refine ⟨rfl, ?_, _, _, _, rfl⟩
        rw [el]
        show (if p.1 = f then _ else lets (wi.drop (i + 1)) f n) = _
        rw [if_neg e1]
    · rintro σ H' ⟨rfl, el, v1, v2, v3, rfl⟩
      rw [List.drop_eq_nil_of_le (by rw [Paired.len hp]; exact Nat.le_refl _)] at el
      have e2 : lets wi f n = true := el
      rw [e2] at q
      exact q
/-! ### ends_of -/
theorem los_len {f : Str} {ws : List Wish} (h8 : ws.length ≤ 8) (h : ∀ o ∈ ws, o.length ≤ 8) : (los f ws).length ≤ 64 := by
  have h1 := flat_len (f := fun o : Wish => o.flatMap (losP f)) (m := 8) (l := ws) fun o ho => by
    have h2 := flat_len (f := losP f) (m := 1) (l := o) fun p _ => by
      unfold losP
      split
      · cases p.2.1 <;> simp
      · simp
    have := h o ho
    omega
  unfold los
  omega
theorem his_len {f : Str} {ws : List Wish} (h8 : ws.length ≤ 8) (h : ∀ o ∈ ws, o.length ≤ 8) : (his f ws).length ≤ 64 := by
  have h1 := flat_len (f := fun o : Wish => o.flatMap (hisP f)) (m := 8) (l := ws) fun o ho => by
    have h2 := flat_len (f := hisP f) (m := 1) (l := o) fun p _ => by
      unfold hisP
      split
      · cases p.2.2 <;> simp
      · simp
    have := h o ho
    omega
  unfold his
  omega
theorem los_take {f : Str} {ws : List Wish} {i : Nat} {o : Wish} (h : ws[i]? = some o) : los f (ws.take (i + 1)) = los f (ws.take i) ++ o.flatMap (losP f) := by
  unfold los
  rw [take_at h, List.flatMap_append, List.flatMap_cons, List.flatMap_nil, List.append_nil]
theorem his_take {f : Str} {ws : List Wish} {i : Nat} {o : Wish} (h : ws[i]? = some o) : his f (ws.take (i + 1)) = his f (ws.take i) ++ o.flatMap (hisP f) := by
  unfold his
  rw [take_at h, List.flatMap_append, List.flatMap_cons, List.flatMap_nil, List.append_nil]
theorem flat_take {α β : Type} {g : α → List β} {o : List α} {j : Nat} {p : α} (h : o[j]? = some p) : (o.take (j + 1)).flatMap g = (o.take j).flatMap g ++ g p := by
  rw [take_at h, List.flatMap_append, List.flatMap_cons, List.flatMap_nil, List.append_nil]
def spEnds : Sp := fun vs H Q _ => ∃ (f : Str) (l : Addr) (xs : List V) (ws : List Wish), vs = [.str f, .ref l] ∧ H l = some (.lst xs) ∧ WsAt H xs ws ∧ ws.length ≤ 8 ∧ (∀ o ∈ ws, o.length ≤ 8) ∧
  ∀ (H' : Hp) (p a b : Addr), Same H H' → H' p = some (.tup [.ref a, .ref b]) → H' a = some (.lst ((los f ws).map V.int)) → H' b = some (.lst ((his f ws).map V.int)) → Q (.ref p) H'
theorem ok_ends_of (D : Def K mg "ends_of" s_ends_of) (T : Tx mg) : Callee P w K mg base "ends_of" P_ends_of 1 spEnds := by
  refine D.callee sc_ends_of (fun _ _ _ _ _ _ us hl => match us, hl with | [_, _], _ => rfl) (fun vs H Q E h => ?_) (fun fa cdv A outer s H vs Q E hr h => ?_)
  · obtain ⟨f, l, xs, ws, rfl, _⟩ := h
    rfl
  · obtain ⟨f, l, xs, ws, rfl, hl, hw, h8, h8', q⟩ := h
    refine ⟨_, (pss_cons (ps_set (i := 2) sc_ends_of.nd rfl (Or.inl rfl) (pe_lst pa_nil))
      (pss_cons (ps_set (i := 3) sc_ends_of.nd rfl (Or.inl rfl) (pe_lst pa_nil))
      (pss_cons (ps_for PassesOwn.never rfl (pi_list (pv 1)) (pg_name (i := 4) sc_ends_of.nd rfl (Or.inl rfl)) (pss_one (ps_for PassesOwn.never rfl (pi_tup (pv 4)) (pg_tup rfl (pgs_cons (pg_name (i := 5) sc_ends_of.nd rfl (Or.inl rfl)) (pgs_cons (pg_name (i := 6) sc_ends_of.nd rfl (Or.inl rfl)) (pgs_cons (pg_name (i := 7) sc_ends_of.nd rfl (Or.inl rfl)) pgs_nil)))) (pss_cons (ps_if (PW.pt (pw_and (pt_cmpR op_eq (pv 5) (pv 0) (nomark _)) (pw_and1 (pt_cmpR op_notN (pv 6) pe_non (nomark _))))) (pss_one (ps_expr (pe_bm PySem.F.plainAttrs_list PySem.F.slot_list_append PySem.F.type_list_append mt_append (pv 2) (pa_cons (pv 6) pa_nil)))) pss_nil)
      (pss_one (ps_if (PW.pt (pw_and (pt_cmpR op_eq (pv 5) (pv 0) (nomark _)) (pw_and1 (pt_cmpR op_notN (pv 7) pe_non (nomark _))))) (pss_one (ps_expr (pe_bm PySem.F.plainAttrs_list PySem.F.slot_list_append PySem.F.type_list_append mt_append (pv 3) (pa_cons (pv 7) pa_nil)))) pss_nil))))))
      (pss_one (ps_ret (pe_tup (pa_cons (pv 2) (pa_cons (pv 3) pa_nil)))))))), ?_⟩
    refine ⟨Nat.zero_le _, fun a na => ⟨Nat.zero_le _, fun b nb => ?_⟩⟩
    have sm1 : Same H (upd (upd H a (.lst [])) b (.lst [])) := (same_upd na).trans (same_upd nb)
    have nbH : H b = none := Same.free (same_upd na) nb
    have nba : b ≠ a := fun e => by
      rw [e, upd_same] at nb
      cases nb
    refine ⟨_, rfl, l, rfl, ⟨_, sqL (sm1 _ _ hl)⟩, for_list (K := K) (a := l) (xs := xs) (fun i σ H' => Same H H' ∧ ∃ v4 v5 v6 v7, σ = [some (.str f), some (.ref l), some (.ref a), some (.ref b), v4, v5, v6, v7] ∧ H' a = some (.lst ((los f (ws.take i)).map V.int)) ∧ H' b = some (.lst ((his f (ws.take i)).map V.int)))
      ⟨sm1, none, none, none, none, rfl, by rw [upd_ne nba.symm, upd_same]; rfl, upd_same⟩ (fun i σ H' _ ⟨e, _⟩ => sqL (e _ _ hl)) ?_ ?_⟩
    · rintro i x σ H' hx ⟨sm, v4, v5, v6, v7, rfl, hA, hB⟩
      obtain ⟨o, hoi, c, vs, rfl, hc, hp⟩ := Paired.at_ hw hx
      have hom : o ∈ ws := List.mem_of_getElem? hoi
      have hil : i < ws.length := (List.getElem?_eq_some_iff.mp hoi).1
      refine ⟨_, rfl, c, rfl, ⟨_, sqT (sm _ _ hc)⟩, for_tup (K := K) (a := c) (xs := vs) (fun j σ H2 => Same H H2 ∧ ∃ v5 v6 v7, σ = [some (.str f), some (.ref l), some (.ref a), some (.ref b), some (.ref c), v5, v6, v7] ∧
          H2 a = some (.lst ((los f (ws.take i) ++ (o.take j).flatMap (losP f)).map V.int)) ∧ H2 b = some (.lst ((his f (ws.take i) ++ (o.take j).flatMap (hisP f)).map V.int)))
        ⟨sm, v5, v6, v7, rfl, by rw [List.take_zero, List.flatMap_nil, List.append_nil]; exact hA, by rw [List.take_zero, List.flatMap_nil, List.append_nil]; exact hB⟩ (fun j σ H2 _ ⟨e, _⟩ => sqT (e _ _ hc)) ?_ ?_⟩
      · rintro j x σ H2 hj ⟨s2, u5, u6, u7, rfl, hA2, hB2⟩
        obtain ⟨p, hpj, t, rfl, ht⟩ := Paired.at_ hp hj
        have lenA : (los f (ws.take i) ++ (o.take j).flatMap (losP f)).length ≤ 1000 := by
          have h1 := los_len (f := f) (ws := ws.take i) (by rw [List.length_take]; omega) fun o' ho' => h8' o' (List.mem_of_mem_take ho')
          have h2 := flat_len (f := losP f) (m := 1) (l := o.take j) fun p _ => by
            unfold losP
            split
            · cases p.2.1 <;> simp
            · simp
          have h3 := h8' o hom
          rw [List.length_take] at h2
          rw [List.length_append]
          omega
        have lenB : (his f (ws.take i) ++ (o.take j).flatMap (hisP f)).length ≤ 1000 := by
          have h1 := his_len (f := f) (ws := ws.take i) (by rw [List.length_take]; omega) fun o' ho' => h8' o' (List.mem_of_mem_take ho')
          have h2 := flat_len (f := hisP f) (m := 1) (l := o.take j) fun p _ => by
            unfold hisP
            split
            · cases p.2.2 <;> simp
            · simp
          have h3 := h8' o hom
          rw [List.length_take] at h2
          rw [List.length_append]
          omega
        refine ⟨t, _, rfl, sqT (s2 _ _ ht), rfl, .str p.1, _, rfl, opt p.2.1, _, rfl, opt p.2.2, _, rfl, rfl, ?_⟩
        -- what the second test leaves
        have second : ∀ (D : Ends) (x6 : Option V), (∀ σ H2, (Same H H2 ∧ ∃ v5 v6 v7, σ = [some (.str f), some (.ref l), some (.ref a), some (.ref b), some (.ref c), v5, v6, v7] ∧
                H2 a = some (.lst ((los f (ws.take i) ++ (o.take (j + 1)).flatMap (losP f)).map V.int)) ∧ H2 b = some (.lst ((his f (ws.take i) ++ (o.take (j + 1)).flatMap (hisP f)).map V.int))) → D.nx σ H2) → ∀ H3 : Hp, Same H H3 → H3 a = some (.lst ((los f (ws.take i) ++ (o.take (j + 1)).flatMap (losP f)).map V.int)) → H3 b = some (.lst ((his f (ws.take i) ++ (o.take j).flatMap (hisP f)).map V.int)) →
            tIfS (tAnd (tTest (tOp rEq (tVar 5) (tVar 0))) (tTest (tOp (fun x y H Q => y = .non ∧ Q (.bl (!decide (x = .non))) H) (tVar 7) (tC .non)))) (tDrop (tBM K "list" rAppend (tVar 3) (tCons (tVar 7) tNil))) tNext
              D [some (.str f), some (.ref l), some (.ref a), some (.ref b), some (.ref c), some (.str p.1), x6, some (opt p.2.2)] H3 := by
          intro D x6 hD H3 s3 hA3 hB3
          refine ⟨_, rfl, _, rfl, rfl, _, rfl, ite2 (fun e => ?_) fun e => ?_⟩
          · have e1 : p.1 = f := V.str.inj (of_decide_eq_true e)
            cases hh : p.2.2 with
            | none =>
              refine ⟨_, rfl, rfl, false, rfl, iteF (hD _ _ ⟨s3, _, _, _, rfl, hA3, ?_⟩)⟩
              rw [flat_take hpj]
              have e3 : hisP f p = [] := by unfold hisP; rw [if_pos e1, hh]; rfl
              rw [e3, List.append_nil]
              exact hB3
            | some z =>
              refine ⟨_, rfl, rfl, true, rfl, iteT ⟨_, rfl, .inl ⟨rfl, _, sqL hB3⟩, _, rfl, b, _, _, rfl, rfl, hB3, lt100 (by rw [List.length_map]; omega), ?_⟩⟩
              have nba' : a ≠ b := nba.symm
              refine hD _ _ ⟨Same.mut s3 nbH, _, _, _, rfl, by rw [upd_ne nba']; exact hA3, ?_⟩
              rw [upd_same, flat_take hpj]
              have e3 : hisP f p = [z] := by unfold hisP; rw [if_pos e1, hh]; rfl
              rw [e3, ← List.append_assoc, List.map_append (l₂ := [z])] <;> rfl
          · have e1 : ¬ p.1 = f := fun z => e (decide_eq_true (by rw [z]))
            refine iteF (hD _ _ ⟨s3, _, _, _, rfl, hA3, ?_⟩)
            rw [flat_take hpj]
            have e3 : hisP f p = [] := by unfold hisP; rw [if_neg e1]
            rw [e3, List.append_nil]
            exact hB3
        -- if other == field and low is not None
        refine ⟨_, rfl, _, rfl, rfl, _, rfl, ite2 (fun e => ?_) fun e => ?_⟩
        · have e1 : p.1 = f := V.str.inj (of_decide_eq_true e)
          cases hh : p.2.1 with
          | none =>
            refine ⟨_, rfl, rfl, false, rfl, iteF ?_⟩
            refine second _ _ (fun _ _ z => z) H2 s2 ?_ hB2
            rw [flat_take hpj]
            have e3 : losP f p = [] := by unfold losP; rw [if_pos e1, hh]; rfl
            rw [e3, List.append_nil]
            exact hA2
          | some y =>
            refine ⟨_, rfl, rfl, true, rfl, iteT ⟨_, rfl, .inl ⟨rfl, _, sqL hA2⟩, _, rfl, a, _, _, rfl, rfl, hA2, lt100 (by rw [List.length_map]; omega), ?_⟩⟩
            refine second _ _ (fun _ _ z => z) _ (Same.mut s2 na) ?_ (by rw [upd_ne nba]; exact hB2)
            rw [upd_same, flat_take hpj]
            have e3 : losP f p = [y] := by unfold losP; rw [if_pos e1, hh]; rfl
            rw [e3, ← List.append_assoc, List.map_append (l₂ := [y])] <;> rfl
        · have e1 : ¬ p.1 = f := fun z => e (decide_eq_true (by rw [z]))
          refine iteF ?_
          refine second _ _ (fun _ _ z => z) H2 s2 ?_ hB2
          rw [flat_take hpj]
          have e3 : losP f p = [] := by unfold losP; rw [if_neg e1]
          rw [e3, List.append_nil]
          exact hA2
      · rintro σ H2 ⟨s2, u5, u6, u7, rfl, hA2, hB2⟩
        rw [show o.take vs.length = o from List.take_of_length_le (by rw [Paired.len hp]; exact Nat.le_refl _)] at hA2 hB2
        refine ⟨s2, _, _, _, _, rfl, ?_, ?_⟩
        · rw [los_take hoi]
          exact hA2
        · rw [his_take hoi]
          exact hB2
    · rintro σ H' ⟨sm, v4, v5, v6, v7, rfl, hA, hB⟩
      rw [show ws.take xs.length = ws from List.take_of_length_le (by rw [Paired.len hw]; exact Nat.le_refl _)] at hA hB
      refine ⟨_, rfl, _, rfl, small100 (show 2 ≤ 100000 by decide), fun p np => ?_⟩
      refine q _ p a b (sm.trans (same_upd np)) upd_same ?_ ?_
      · exact (same_upd np) _ _ hA
      · exact (same_upd np) _ _ hB
end
end Cut
namespace Cut
open PySem PySem.Spec PyProof.Rows L2
abbrev s_tried : Stmt := topS 22
abbrev N_tried : List Str := ["part", "wishes", "field", "low", "high", "lows", "highs", "first", "some", "one"]
abbrev P_tried : List Str := ["part", "wishes"]
theorem sc_tried : FnScope ["part", "wishes", "field", "low", "high", "lows", "highs", "first", "some", "one"] ["part", "wishes"] (defScope s_tried) := ⟨rfl, rfl, rfl, by decide +kernel, rfl, by decide +kernel, by decide +kernel⟩
abbrev s_numbers_free : Stmt := topS 23
abbrev N_numbers_free : List Str := ["wish", "k", "wishes", "number", "left", "found", "one"]
abbrev P_numbers_free : List Str := ["wish", "k", "wishes"]
theorem sc_numbers_free : FnScope ["wish", "k", "wishes", "number", "left", "found", "one"] ["wish", "k", "wishes"] (defScope s_numbers_free) := ⟨rfl, rfl, rfl, by decide +kernel, rfl, by decide +kernel, by decide +kernel⟩
abbrev s_uncovered : Stmt := topS 24
abbrev N_uncovered : List Str := ["wish", "wishes", "own", "some", "found", "one", "k", "field"]
abbrev P_uncovered : List Str := ["wish", "wishes"]
theorem sc_uncovered : FnScope ["wish", "wishes", "own", "some", "found", "one", "k", "field"] ["wish", "wishes"] (defScope s_uncovered) := ⟨rfl, rfl, rfl, by decide +kernel, rfl, by decide +kernel, by decide +kernel⟩
abbrev s_uncovered_piece : Stmt := topS 25
abbrev N_uncovered_piece : List Str := ["wish", "wishes"]
abbrev P_uncovered_piece : List Str := ["wish", "wishes"]
theorem sc_uncovered_piece : FnScope ["wish", "wishes"] ["wish", "wishes"] (defScope s_uncovered_piece) := ⟨rfl, rfl, rfl, by decide +kernel, rfl, by decide +kernel, by decide +kernel⟩
theorem ints_at {ns : List Int} {i : Nat} {x : V} {m : Int} (hx : (ns.map V.int)[i]? = some x) (hm : ns[i]? = some m) : x = .int m := by
  rw [List.getElem?_map, hm] at hx
  exact (Option.some.inj hx).symm
theorem tried_len {p : Part} {ws : List Wish} (h8 : ws.length ≤ 8) (h : ∀ o ∈ ws, o.length ≤ 8) : (tried p ws).length ≤ 65 := by
  unfold tried
  have h1 := List.length_filter_le (keepHi p (firstOf p ws)) (his p.1 ws)
  have h2 := his_len (f := p.1) h8 h
  rw [List.length_cons, List.length_map]
  omega
section
variable {P : Program} {w : World} {K : PySem.W.Frag} {mg : Str → Option Value} {base : Heap}
/-! ### tried -/
def spTried : Sp := fun vs H Q _ => ∃ (v : V) (p : Part) (l : Addr) (xs : List V) (ws : List Wish), vs = [v, .ref l] ∧ PartAt H v p ∧ H l = some (.lst xs) ∧ WsAt H xs ws ∧ ws.length ≤ 8 ∧ (∀ o ∈ ws, o.length ≤ 8) ∧
  ∀ (H' : Hp) (q : Addr), Same H H' → H' q = some (.lst ((tried p ws).map V.int)) → Q (.ref q) H'
theorem ok_tried (D : Def K mg "tried" s_tried) (T : Tx mg) (c_ends_of : Callee P w K mg base "ends_of" P_ends_of 1 spEnds) (c_is_between : Callee P w K mg base "is_between" P_is_between 1 spBtw) : Callee P w K mg base "tried" P_tried 2 spTried := by
  refine D.callee sc_tried (fun _ _ _ _ _ _ us hl => match us, hl with | [_, _], _ => rfl) (fun vs H Q E h => ?_) (fun fa cdv A outer s H vs Q E hr h => ?_)
  · obtain ⟨v, p, l, xs, ws, rfl, _⟩ := h
    rfl
  · obtain ⟨v, p, l, xs, ws, rfl, hv, hl, hw, h8, h8', q⟩ := h
    obtain ⟨t, rfl, ht⟩ := hv
    have hu := hu_of hr
    refine ⟨_, (pss_cons (ps_asg (pv 0) (pg_tup rfl (pgs_cons (pg_name (i := 2) sc_tried.nd rfl (Or.inl rfl)) (pgs_cons (pg_name (i := 3) sc_tried.nd rfl (Or.inr rfl)) (pgs_cons (pg_name (i := 4) sc_tried.nd rfl (Or.inr rfl)) pgs_nil)))))
      (pss_cons (ps_asg (pc c_ends_of (hr.mono (by first | decide | omega)) (pa_cons (pv 2) (pa_cons (pv 1) pa_nil))) (pg_tup rfl (pgs_cons (pg_name (i := 5) sc_tried.nd rfl (Or.inl rfl)) (pgs_cons (pg_name (i := 6) sc_tried.nd rfl (Or.inl rfl)) pgs_nil))))
      (pss_cons (ps_set (i := 7) sc_tried.nd rfl (Or.inr rfl) (pv 3))
      (Evl.pss_cut (ps_if (pt_cmpR op_isN (pv 3) pe_non (nomark _)) (pss_cons (ps_set (i := 8) sc_tried.nd rfl (Or.inl rfl) (pe_op op_cat (pe_op op_cat (pv 5) (pv 6)) (pe_lc (own := [("one", 9)]) (g := gName 9) rfl sc_tried.nd (pi_list (pe_lst (pa_cons (pv 4) pa_nil))) (blkOk_by (N := N_tried) (sc := defScope s_tried) (by decide +kernel)) (fun _ _ _ _ _ => pg_name (i := 9) sc_tried.nd rfl (Or.inl rfl)) (fun _ _ _ _ _ => (pts_one (pt_cmpR op_notN (pv 9) pe_non (nomark _)))) (fun _ _ _ _ _ => (pv 9)))))
      (pss_one (ps_set (i := 7) sc_tried.nd rfl (Or.inr rfl) (pe_op op_sub (pe_minD T.f_min (pa_cons (pv 8) pa_nil) (pk_cons pe_int pk_nil) hu) pe_int)))) pss_nil)
      (pss_one (ps_ret (pe_op op_cat (pe_lst (pa_cons (pv 7) pa_nil)) (pe_lc (own := [("one", 9)]) (g := gName 9) rfl sc_tried.nd (pi_list (pv 6)) (blkOk_by (N := N_tried) (sc := defScope s_tried) (by decide +kernel)) (fun _ _ _ _ _ => pg_name (i := 9) sc_tried.nd rfl (Or.inl rfl)) (fun _ _ _ _ _ => (pts_one (PW.pt (pw_and (pt_cmpR op_gt (pe_op op_add (pv 9) pe_int) (pv 7) (nomark _)) (pw_and1 (pt_val (pc c_is_between (hr.mono (by first | decide | omega)) (pa_cons (pv 3) (pa_cons (pv 4) (pa_cons (pe_op op_add (pv 9) pe_int) pa_nil)))))))))) (fun _ _ _ _ _ => (pe_op op_add (pv 9) pe_int)))))))))), ?_⟩
    refine ⟨_, rfl, t, _, rfl, sqT ht, rfl, .str p.1, _, rfl, opt p.2.1, _, rfl, opt p.2.2, _, rfl, rfl, ?_⟩
    refine ⟨_, rfl, _, rfl, p.1, l, xs, ws, rfl, hl, hw, h8, h8', fun H1 pp a b s1 hpp ha hb => ⟨pp, _, rfl, sqT hpp, rfl, .ref a, _, rfl, .ref b, _, rfl, rfl, ?_⟩⟩
    have lA := los_len (f := p.1) h8 h8'
    have lB := his_len (f := p.1) h8 h8'
    refine ⟨_, rfl, fun σ H' => Same H H' ∧ ∃ v8, σ = [some (.ref t), some (.ref l), some (.str p.1), some (opt p.2.1), some (opt p.2.2), some (.ref a), some (.ref b), some (.int (firstOf p ws)), v8, none] ∧ H' b = some (.lst ((his p.1 ws).map V.int)), ?_, ?_⟩
    · -- if low is None
      cases hlo : p.2.1 with
      | some z =>
        refine ⟨_, rfl, rfl, false, rfl, iteF ⟨s1, none, ?_, hb⟩⟩
        have e : firstOf p ws = z := by unfold firstOf; rw [hlo]
        rw [e] <;> rfl
      | none =>
        refine ⟨_, rfl, rfl, true, rfl, iteT ?_⟩
        refine ⟨_, rfl, _, rfl, a, b, _, _, rfl, rfl, ha, hb, small100 (by rw [List.length_map, List.length_map]; omega), fun c nc => ?_⟩
        refine ⟨_, rfl, small100 (show 1 ≤ 100000 by decide), fun e ne => ⟨e, rfl, ⟨_, sqL upd_same⟩, fun Dl nD => ?_⟩⟩
        have s3 : Same H1 (upd (upd H1 c (.lst ((los p.1 ws).map V.int ++ (his p.1 ws).map V.int))) e (.lst [opt p.2.2])) := (same_upd nc).trans (same_upd ne)
        have hc3 : (upd (upd H1 c (.lst ((los p.1 ws).map V.int ++ (his p.1 ws).map V.int))) e (.lst [opt p.2.2])) c = some (.lst ((los p.1 ws).map V.int ++ (his p.1 ws).map V.int)) := (same_upd ne) _ _ upd_same
        refine lc_par (K := K) (a := e) (xs := [opt p.2.2]) (ms := [p.2.2]) (fun o : Option Int => o.isSome) (fun x _ => x) rfl (show 1 ≤ 40000 by decide) (sqL upd_same) nD (fun _ => rfl) (fun i x m H3 hx hm s4 R hR => ?_) (fun i x m H3 hx hm hf s4 R hR => ⟨_, rfl, hR H3 (Same.refl _)⟩) (fun H3 s4 hD => ?_)
        · obtain ⟨rfl, rfl⟩ : i = 0 ∧ m = p.2.2 := by
            match i, hm with
            | 0, hm => exact ⟨rfl, (Option.some.inj hm).symm⟩
          obtain rfl := Option.some.inj hx
          cases hh : p.2.2 with
          | none => exact ⟨_, rfl, rfl, false, rfl, by have z := hR H3 (Same.refl _); rw [hh] at z; exact z⟩
          | some z => exact ⟨_, rfl, rfl, true, rfl, by have z := hR H3 (Same.refl _); rw [hh] at z; exact z⟩
        · have eD : ((([opt p.2.2].zip [p.2.2]).filter fun q : V × Option Int => q.2.isSome).map fun q => q.1) = p.2.2.toList.map V.int := by
            cases p.2.2 <;> rfl
          rw [eD] at hD
          refine ⟨c, Dl, _, _, rfl, rfl, s4 _ _ hc3, hD, ?_, fun d nd => ?_⟩
          · have : (p.2.2.toList.map V.int).length ≤ 1 := by cases p.2.2 <;> simp
            refine small100 ?_
            rw [List.length_append, List.length_map, List.length_map]
            omega
          · -- first = min(some, default=1) - 1
            have eL : ((los p.1 ws).map V.int ++ (his p.1 ws).map V.int) ++ p.2.2.toList.map V.int = (los p.1 ws ++ his p.1 ws ++ p.2.2.toList).map V.int := by
              rw [List.map_append, List.map_append]
            rw [eL]
            refine ⟨_, rfl, d, _, 1, rfl, rfl, sqL upd_same, _, 1, rfl, rfl, ?_⟩
            refine ⟨(s1.trans (s3.trans s4)).trans (same_upd nd), some (.ref d), ?_, (same_upd nd) _ _ (s4 _ _ (s3 _ _ hb))⟩
            have e : firstOf p ws = minOf 1 (los p.1 ws ++ his p.1 ws ++ p.2.2.toList) - 1 := by unfold firstOf; rw [hlo]
            rw [e] <;> rfl
    · rintro σ H2 ⟨s2, v8, rfl, hb2⟩
      refine ⟨_, rfl, small100 (show 1 ≤ 100000 by decide), fun c nc => ?_⟩
      have sc := same_upd (o := .lst [V.int (firstOf p ws)]) nc
      refine ⟨_, rfl, b, rfl, ⟨_, sqL (sc _ _ hb2)⟩, fun Dl nD => ?_⟩
      refine lc_par (K := K) (a := b) (xs := (his p.1 ws).map V.int) (ms := his p.1 ws) (keepHi p (firstOf p ws)) (fun _ h => .int (h + 1)) (List.length_map _) (by rw [List.length_map]; omega) (sqL (sc _ _ hb2)) nD (fun _ => rfl) (fun i x m H3 hx hm s4 R hR => ?_) (fun i x m H3 hx hm hf s4 R hR => ?_) (fun H3 s4 hD => ?_)
      · obtain rfl := ints_at hx hm
        refine ⟨_, rfl, m, 1, rfl, rfl, _, rfl, m + 1, firstOf p ws, rfl, rfl, _, rfl, ite2 (fun e => ?_) fun e => ?_⟩
        · refine ⟨_, rfl, _, rfl, _, rfl, m, 1, rfl, rfl, p.2.1, p.2.2, m + 1, rfl, _, rfl, ?_⟩
          have z := hR H3 (Same.refl _)
          have e2 : decide (firstOf p ws < m + 1) = true := e
          have e3 : keepHi p (firstOf p ws) m = btw p.2.1 p.2.2 (m + 1) := by
            unfold keepHi
            rw [e2, Bool.true_and]
          rw [e3] at z
          exact z
        · have z := hR H3 (Same.refl _)
          have e2 : decide (firstOf p ws < m + 1) = false := by
            cases h0 : decide (firstOf p ws < m + 1) with
            | false => rfl
            | true => exact absurd h0 e
          have e3 : keepHi p (firstOf p ws) m = false := by
            unfold keepHi
            rw [e2, Bool.false_and]
          rw [e3] at z
          exact z
      · obtain rfl := ints_at hx hm
        exact ⟨_, rfl, m, 1, rfl, rfl, hR H3 (Same.refl _)⟩
      · rw [par_snd (keepHi p (firstOf p ws)) (fun h => V.int (h + 1)) (List.length_map _)] at hD
        have eD : ((his p.1 ws).filter (keepHi p (firstOf p ws))).map (fun h => V.int (h + 1)) = (((his p.1 ws).filter (keepHi p (firstOf p ws))).map (· + 1)).map V.int := by
          rw [List.map_map] <;> rfl
        rw [eD] at hD
        have hz := List.length_filter_le (keepHi p (firstOf p ws)) (his p.1 ws)
        refine ⟨c, Dl, _, _, rfl, rfl, s4 _ _ upd_same, hD, ?_, fun d nd => ?_⟩
        · refine small100 ?_
          rw [List.length_map, List.length_map]
          show 1 + _ ≤ 100000
          omega
        · exact q _ d (((s2.trans sc).trans s4).trans (same_upd nd)) upd_same
/-! ### numbers_free: d fields are left -/
def spNF (d : Nat) : Sp := fun vs H Q _ => ∃ (v : V) (wi : Wish) (k : Nat) (l : Addr) (xs : List V) (ws : List Wish), vs = [v, .int (k : Int), .ref l] ∧ WishAt H v wi ∧ k + d = wi.length ∧ wi.length ≤ 8 ∧ H l = some (.lst xs) ∧ WsAt H xs ws ∧ (∀ o ∈ ws, WishOk o) ∧ ws.length ≤ 8 ∧ (∀ o ∈ ws, o.length ≤ 8) ∧
  (nf (wi.drop k) ws = none → ∀ H' : Hp, Same H H' → Q .non H') ∧ ∀ ns : List Int, nf (wi.drop k) ws = some ns → ∀ (H' : Hp) (q : Addr), Same H H' → H' q = some (.lst (ns.map V.int)) → Q (.ref q) H'
theorem nf_len : ∀ (wi : Wish) (ws : List Wish) (ns : List Int), nf wi ws = some ns → ns.length = wi.length
  | [], ws, ns, h => by
    unfold nf at h
    split at h
    · obtain rfl := Option.some.inj h
      rfl
    · cases h
  | p :: r, ws, ns, h => by
    unfold nf at h
    obtain ⟨n, _, hn⟩ := List.exists_of_findSome?_eq_some h
    obtain ⟨ms, h1, h2⟩ := Option.map_eq_some_iff.mp hn
    rw [← h2, List.length_cons, nf_len r _ ms h1] <;> rfl
theorem ok_nf0 (D : Def K mg "numbers_free" s_numbers_free) (T : Tx mg) : Callee P w K mg base "numbers_free" P_numbers_free 3 (spNF 0) := by
  refine D.callee sc_numbers_free (fun _ _ _ _ _ _ us hl => match us, hl with | [_, _, _], _ => rfl) (fun vs H Q E h => ?_) (fun fa cdv A outer s H vs Q E hr h => ?_)
  · obtain ⟨v, wi, k, l, xs, ws, rfl, _⟩ := h
    rfl
  · obtain ⟨v, wi, k, l, xs, ws, rfl, hv, hk, hwl, hl, hw, ok, h8, h8', qn, qs⟩ := h
    obtain ⟨a, ps, rfl, ha, hp⟩ := id hv
    have hu64 := hu64_of hr
    refine ⟨_, (pss_cons (ps_if (pt_cmpR op_eq (pv 1) (pe_callB call_len_seq (by rfl) T.f_len (by decide +kernel) (pa_cons (pv 0) pa_nil)) (nomark _)) (pss_one (ps_ret (pe_ifExp (pt_cmpR (op_eqD hu64) (pv 2) (pe_lst pa_nil) (nomark _)) (pe_lst pa_nil) pe_non))) pss_nil) pss_never), ?_⟩
    have lp := Paired.len hp
    refine ⟨_, rfl, _, rfl, a, ps, rfl, .inr (sqT ha), rfl, _, rfl, ite2 (fun _ => ?_) fun e => ?_⟩
    · refine ⟨_, rfl, Nat.zero_le _, fun e ne => ?_⟩
      have s1 := same_upd (o := .lst []) ne
      refine ⟨.list (ws.map wishD), .list [], .lst (sqL (s1 _ _ hl)) (dp_wishes (WsAt.stay hw (.of s1))), .lst (sqL upd_same) .nil, shaped_wishes ws fun o ho => (ok o ho).strs, shaped_nil, _, rfl, ?_⟩
      rw [eqv_nil, map_empty]
      have ed : wi.drop k = [] := List.drop_eq_nil_of_le (by omega)
      rw [ed] at qn qs
      refine ite2 (fun e => ?_) fun e => ?_
      · refine ⟨Nat.zero_le _, fun z nz => ?_⟩
        exact qs [] (by unfold nf; rw [if_pos e]) _ z (s1.trans (same_upd nz)) upd_same
      · exact qn (by unfold nf; rw [if_neg e]) _ s1
    · exfalso
      refine e (decide_eq_true ?_)
      rw [lp, ← hk] <;> simp
theorem ok_nf_step (d : Nat) (D : Def K mg "numbers_free" s_numbers_free) (T : Tx mg) (c_tried : Callee P w K mg base "tried" P_tried 2 spTried) (c_lets_by : Callee P w K mg base "lets_by" P_lets_by 2 spLets)
    (c_numbers_free : Callee P w K mg base "numbers_free" P_numbers_free (3 + d) (spNF d)) : Callee P w K mg base "numbers_free" P_numbers_free (3 + d + 1) (spNF (d + 1)) := by
  refine D.callee sc_numbers_free (fun _ _ _ _ _ _ us hl => match us, hl with | [_, _, _], _ => rfl) (fun vs H Q E h => ?_) (fun fa cdv A outer s H vs Q E hr h => ?_)
  · obtain ⟨v, wi, k, l, xs, ws, rfl, _⟩ := h
    rfl
  · obtain ⟨v, wi, k, l, xs, ws, rfl, hv, hk, hwl, hl, hw, ok, h8, h8', qn, qs⟩ := h
    obtain ⟨a, ps, rfl, ha, hp⟩ := id hv
    have hu64 := hu64_of hr
    refine ⟨_, (pss_cons (ps_if (pt_cmpR op_eq (pv 1) (pe_callB call_len_seq (by rfl) T.f_len (by decide +kernel) (pa_cons (pv 0) pa_nil)) (nomark _)) (pss_one (ps_ret (pe_ifExp (pt_cmpR (op_eqD hu64) (pv 2) (pe_lst pa_nil) (nomark _)) (pe_lst pa_nil) pe_non))) pss_nil)
      (pss_cons (ps_for PassesOwn.never rfl (pi_list (pc c_tried (hr.mono (by first | decide | omega)) (pa_cons (pe_ix ix_tup (pv 0) (pv 1) (fun _ _ => rfl)) (pa_cons (pv 2) pa_nil)))) (pg_name (i := 3) sc_numbers_free.nd rfl (Or.inr rfl)) (pss_cons (ps_setLc (i := 4) (own := [("one", 6)]) (g := gName 6) rfl sc_numbers_free.nd rfl rfl (sw_true rfl rfl rfl (by decide +kernel)) (pi_list (pv 2)) (blkOk_by (N := N_numbers_free) (sc := defScope s_numbers_free) (by decide +kernel)) (fun _ _ _ _ _ => pg_name (i := 6) sc_numbers_free.nd rfl (Or.inl rfl)) (fun _ _ _ _ _ => (pts_one (pt_val (pc c_lets_by (hr.mono (by first | decide | omega)) (pa_cons (pv 6) (pa_cons (pe_ix (ixTK K) (pe_ix (ixTK K) (pv 0) (pv 1) (fun _ _ => rfl)) pe_int (fun _ _ => rfl)) (pa_cons (pv 3) pa_nil))))))) (fun _ _ _ _ _ => (pv 6)))
      (pss_cons (ps_set (i := 5) sc_numbers_free.nd rfl (Or.inl rfl) (pc c_numbers_free (hr.mono (by first | decide | omega)) (pa_cons (pv 0) (pa_cons (pe_op op_add (pv 1) pe_int) (pa_cons (pv 4) pa_nil)))))
      (pss_one (ps_if (pt_cmpR op_notN (pv 5) pe_non (nomark _)) (pss_one (ps_ret (pe_op op_cat (pe_lst (pa_cons (pv 3) pa_nil)) (pv 5)))) pss_nil)))))
      (pss_one (ps_ret pe_non)))), ?_⟩
    have lp := Paired.len hp
    have hkl : k < wi.length := by omega
    obtain ⟨p, hpk⟩ : ∃ p, wi[k]? = some p := ⟨wi[k], List.getElem?_eq_getElem hkl⟩
    obtain ⟨pvv, hpv, hpat⟩ := Paired.atR hp hpk
    obtain ⟨t, rfl, ht⟩ := id hpat
    rw [drop_at hpk] at qn qs
    refine ⟨_, rfl, _, rfl, a, ps, rfl, .inr (sqT ha), rfl, _, rfl, ite2 (fun e => ?_) fun _ => ?_⟩
    · exfalso
      have e1 : (k : Int) = (ps.length : Int) := V.int.inj (of_decide_eq_true e)
      omega
    -- for number in tried(wish[k], wishes)
    refine ⟨_, rfl, _, rfl, a, ps, (k : Int), .ref t, rfl, rfl, sqT ha, atI_nat hpv, _, rfl, _, p, l, xs, ws, rfl, ⟨t, rfl, ht⟩, hl, hw, h8, h8', fun H1 tl s1 htl => ?_⟩
    have htlen := tried_len (p := p) h8 h8'
    refine ⟨tl, rfl, ⟨_, sqL htl⟩, for_list (K := K) (a := tl) (xs := (tried p ws).map V.int) (fun i σ H' => Same H1 H' ∧ ((tried p ws).take i).findSome? (fun n => (nf (wi.drop (k + 1)) (ws.filter fun o => lets o p.1 n)).map (n :: ·)) = none ∧ ∃ v3 v4 v5, σ = [some (.ref a), some (.int (k : Int)), some (.ref l), v3, v4, v5, none])
      ⟨Same.refl _, by rw [List.take_zero]; rfl, none, none, none, rfl⟩ (fun i σ H' _ ⟨e, _⟩ => sqL (e _ _ htl)) ?_ ?_⟩
    · rintro i x σ H' hx ⟨s2, hno, v3, v4, v5, rfl⟩
      obtain ⟨n, hn⟩ : ∃ n, (tried p ws)[i]? = some n := by
        rw [List.getElem?_map] at hx
        cases e : (tried p ws)[i]? with
        | none => rw [e] at hx; cases hx
        | some n => exact ⟨n, rfl⟩
      obtain rfl := ints_at hx hn
      have s12 := s1.trans s2
      have lw := Paired.len hw
      -- left = [one for one in wishes if lets_by(one, wish[k][0], number)]
      refine ⟨_, rfl, l, rfl, ⟨_, sqL (s12 _ _ hl)⟩, fun Dl nD => ?_⟩
      refine lc_par (K := K) (a := l) (xs := xs) (ms := ws) (fun o => lets o p.1 n) (fun x _ => x) lw (by omega) (sqL (s12 _ _ hl)) nD (fun _ => rfl) (fun j x o H3 hx ho s4 R hR => ?_) (fun j x o H3 hx ho hf s4 R hR => ⟨_, rfl, hR H3 (Same.refl _)⟩) (fun H3 s4 hD => ?_)
      · have hxo : WishAt H x o := by
          obtain ⟨o', ho', h'⟩ := Paired.at_ hw hx
          rw [ho] at ho'
          obtain rfl := Option.some.inj ho'
          exact h'
        have sm3 := s12.trans s4
        exact ⟨_, rfl, _, rfl, _, rfl, a, ps, (k : Int), .ref t, rfl, rfl, sqT (sm3 _ _ ha), atI_nat hpv, t, _, 0, _, rfl, rfl, sqT (sm3 _ _ ht), atI_nat (j := 0) rfl, _, rfl, x, o, p.1, n, rfl, hxo.stay (.of sm3), _, rfl, hR H3 (Same.refl _)⟩
      · have sm3 := s12.trans s4
        have hw3 : WsAt H3 _ (ws.filter fun o => lets o p.1 n) := WsAt.stay (par_fst (fun o => lets o p.1 n) hw) (.of sm3)
        have hlf := List.length_filter_le (fun o => lets o p.1 n) ws
        -- found = numbers_free(wish, k + 1, left)
        refine ⟨_, rfl, _, rfl, (k : Int), 1, rfl, rfl, _, rfl, ?_⟩
        refine ⟨_, wi, k + 1, Dl, _, ws.filter fun o => lets o p.1 n, rfl, hv.stay (.of sm3), by omega, hwl, hD, hw3, fun o ho => ok o (List.mem_filter.mp ho).1, by omega, fun o ho => h8' o (List.mem_filter.mp ho).1, fun hnone H4 s5 => ?_, fun ns hsome H4 q s5 hq => ?_⟩
        · refine ⟨_, rfl, rfl, false, rfl, iteF ⟨s2.trans (s4.trans s5), ?_, _, _, _, rfl⟩⟩
          rw [take_at hn, List.findSome?_append, hno, List.findSome?_cons, hnone] <;> rfl
        · refine ⟨_, rfl, rfl, true, rfl, iteT ?_⟩
          have hnl := nf_len _ _ _ hsome
          refine ⟨_, rfl, small100 (show 1 ≤ 100000 by decide), fun c nc => ?_⟩
          have sc := same_upd (o := .lst [V.int n]) nc
          refine ⟨_, rfl, c, q, _, _, rfl, rfl, upd_same, sc _ _ hq, ?_, fun z nz => ?_⟩
          · refine small100 ?_
            rw [List.length_map, hnl, List.length_drop]
            show 1 + _ ≤ 100000
            omega
          · refine qs (n :: ns) ?_ _ z (((sm3.trans s5).trans sc).trans (same_upd nz)) upd_same
            show (tried p ws).findSome? _ = some (n :: ns)
            have e1 : tried p ws = (tried p ws).take i ++ n :: (tried p ws).drop (i + 1) := by
              rw [← drop_at hn, List.take_append_drop]
            rw [e1, List.findSome?_append, hno, List.findSome?_cons, hsome] <;> rfl
    · rintro σ H' ⟨s2, hno, v3, v4, v5, rfl⟩
      refine qn ?_ H' (s1.trans s2)
      rw [List.take_of_length_le (by rw [List.length_map]; exact Nat.le_refl _)] at hno
      exact hno
theorem ok_numbers_free (D : Def K mg "numbers_free" s_numbers_free) (T : Tx mg) (c_tried : Callee P w K mg base "tried" P_tried 2 spTried) (c_lets_by : Callee P w K mg base "lets_by" P_lets_by 2 spLets) : ∀ d : Nat, Callee P w K mg base "numbers_free" P_numbers_free (3 + d) (spNF d)
  | 0 => ok_nf0 D T
  | d + 1 => ok_nf_step d D T c_tried c_lets_by (ok_numbers_free D T c_tried c_lets_by d)
end
end Cut
namespace Cut
open PySem PySem.Spec PyProof.Rows L2
def lcScope_uncovered : Scope := { kind := .function, names := [(Str.ofString ".0", .local), (Str.ofString "one", .local), (Str.ofString "fields_of", .globalImplicit), (Str.ofString "own", .cell)], isGenerator := false, isCoroutine := false, more := [] }
theorem eqV_str (x y : Str) : eqV (.str x) (.str y) = decide (x = y) := by
  by_cases h : x = y
  · subst h
    simp [eqV]
  · simp [eqV, h]
theorem inV_strs (z : Str) (ys : List Str) : inV (.str z) (ys.map V.str) = decide (z ∈ ys) := by
  unfold inV
  rw [List.any_map]
  induction ys with
  | nil => simp
  | cons y ys ih =>
    rw [List.any_cons, ih]
    show (eqV (.str y) (.str z) || decide (z ∈ ys)) = _
    rw [eqV_str]
    by_cases h : y = z
    · simp [h]
    · have h' : ¬ z = y := fun e => h e.symm
      simp [h, h']
theorem flat_strs (ys : List Str) : (ys.map V.str).all flatV = true := by
  rw [List.all_eq_true]
  intro x hx
  obtain ⟨y, _, rfl⟩ := List.mem_map.mp hx
  rfl
/-- all fields of the one are fields of the other -/
def inside (wi o : Wish) : Bool := o.all fun p => decide (p.1 ∈ wi.map (·.1))
theorem inside_eq {wi o : Wish} {ys zs : List Str} (hy : ∀ f, f ∈ ys ↔ f ∈ flds [wi]) (hz : ∀ f, f ∈ zs ↔ f ∈ flds [o]) : (zs.filter fun z => !inV (.str z) (ys.map V.str)).isEmpty = inside wi o := by
  have hy' : ∀ f, f ∈ ys ↔ f ∈ wi.map (·.1) := fun f => by rw [hy]; simp [flds]
  have hz' : ∀ f, f ∈ zs ↔ f ∈ o.map (·.1) := fun f => by rw [hz]; simp [flds]
  rw [Bool.eq_iff_iff, List.isEmpty_iff, List.filter_eq_nil_iff]
  unfold inside
  rw [List.all_eq_true]
  constructor
  · intro h p hp
    have h1 := h p.1 ((hz' p.1).mpr (List.mem_map.mpr ⟨p, hp, rfl⟩))
    rw [inV_strs] at h1
    by_cases h2 : p.1 ∈ ys
    · exact decide_eq_true ((hy' _).mp h2)
    · rw [decide_eq_false h2] at h1
      exact absurd rfl h1
  · intro h z hz2
    obtain ⟨p, hp, rfl⟩ := List.mem_map.mp ((hz' z).mp hz2)
    rw [inV_strs, decide_eq_true ((hy' _).mpr (of_decide_eq_true (h p hp)))]
    decide
theorem WishOk.nodup {wi : Wish} (h : WishOk wi) : (wi.map (·.1)).Nodup := by
  rw [List.nodup_iff_pairwise_ne, List.pairwise_map]
  refine h.up.imp ?_
  intro a b hlt e
  refine Lt.irrefl b.1 ?_
  have hlt' : Lt a.1 b.1 := hlt
  have e' : a.1 = b.1 := e
  rw [e'] at hlt'
  exact hlt'
theorem WishOk.len {wi : Wish} {fs : List Str} (h : WishOk wi) (sub : ∀ p ∈ wi, p.1 ∈ fs) : wi.length ≤ fs.length := by
  have := nodup_len h.nodup (m := fs) fun f hf => by
    obtain ⟨p, hp, rfl⟩ := List.mem_map.mp hf
    exact sub p hp
  rw [List.length_map] at this
  exact this
/-- a piece in the heap: told as a plain tuple of pairs -/
def PieceAt (H : Hp) (a : Addr) (pc : List (Str × Int)) : Prop := ∃ (o : Obj) (ts : List Addr), H a = some (.frz o (.tup (ts.map V.ref))) ∧ o.dict = none ∧ Paired (fun t (q : Str × Int) => H t = some (.tup [.str q.1, .int q.2])) ts pc
theorem Tups.mut {H H' : Hp} {d : Addr} {xs : List V} {o : HO} (e : Tups H H') (h : H' d = some (.lst xs)) : Tups H (upd H' d o) := fun a ys ha => by
  have h1 := e a ys ha
  have hne : a ≠ d := fun z => by
    rw [z, h] at h1
    cases h1
  rw [upd_ne hne]
  exact h1
theorem yes_go {te : TE} {σ : L2.St} {H : Hp} {Qy : VK} {R : Hp → Prop} (h : te σ H Qy) : tYes σ H (fun b H3 => if b = true then te σ H3 Qy else R H3) := by
  show (if true = true then te σ H Qy else R H)
  rw [if_pos rfl]
  exact h
section
variable {P : Program} {w : World} {K : PySem.W.Frag} {mg : Str → Option Value} {base : Heap}
/-! ### uncovered -/
def spUnc : Sp := fun vs H Q _ => ∃ (v : V) (wi : Wish) (l : Addr) (xs : List V) (ws : List Wish), vs = [v, .ref l] ∧ WishAt H v wi ∧ WishOk wi ∧ wi.length ≤ 8 ∧ H l = some (.lst xs) ∧ WsAt H xs ws ∧ (∀ o ∈ ws, WishOk o) ∧ ws.length ≤ 8 ∧ (∀ o ∈ ws, o.length ≤ 8) ∧
  (nf wi (ws.filter (inside wi)) = none → ∀ H' : Hp, Same H H' → Q .non H') ∧ ∀ ns : List Int, nf wi (ws.filter (inside wi)) = some ns → ∀ (H' : Hp) (q : Addr), Same H H' → PieceAt H' q ((wi.map (·.1)).zip ns) → Q (.ref q) H'
theorem ok_uncovered (D : Def K mg "uncovered" s_uncovered) (T : Tx mg) (c_fields_of : Callee P w K mg base "fields_of" P_fields_of 1 spFields) (c_nf : ∀ d : Nat, Callee P w K mg base "numbers_free" P_numbers_free (3 + d) (spNF d)) : Callee P w K mg base "uncovered" P_uncovered 12 spUnc := by
  refine D.callee sc_uncovered (fun _ _ _ _ _ _ us hl => match us, hl with | [_, _], _ => rfl) (fun vs H Q E h => ?_) (fun fa cdv A outer s H vs Q E hr h => ?_)
  · obtain ⟨v, wi, l, xs, ws, rfl, _⟩ := h
    rfl
  · obtain ⟨v, wi, l, xs, ws, rfl, hv, okw, hwl, hl, hw, ok, h8, h8', qn, qs⟩ := h
    obtain ⟨a, ps, rfl, ha, hp⟩ := id hv
    have hu64 := hu64_of hr
    have c_numbers_free := c_nf wi.length
    refine ⟨_, (pss_cons (ps_set (i := 2) sc_uncovered.nd rfl (Or.inr rfl) (pc c_fields_of (hr.mono (by first | decide | omega)) (pa_cons (pe_lst (pa_cons (pv 0) pa_nil)) pa_nil)))
      (pss_cons (ps_setLc (i := 3) (own := [("one", 5)]) (g := gName 5) rfl sc_uncovered.nd rfl rfl (sw_true rfl rfl rfl (by decide +kernel)) (pi_list (pv 1)) (blkOk_by (N := N_uncovered) (sc := defScope s_uncovered) (by decide +kernel)) (fun _ _ _ _ _ => pg_name (i := 5) sc_uncovered.nd rfl (Or.inl rfl)) (fun _ _ _ _ _ => (pts_one (pt_cmpR (eqDK K hu64) (pe_lc (own := [("field", 7)]) (g := gName 7) rfl sc_uncovered.nd (pi_listK K (pc c_fields_of (hr.mono (by first | decide | omega)) (pa_cons (pe_lst (pa_cons (pv 5) pa_nil)) pa_nil))) (blkOk_by (N := N_uncovered) (sc := lcScope_uncovered) (by decide +kernel)) (fun _ _ _ _ _ => pg_name (i := 7) sc_uncovered.nd rfl (Or.inl rfl)) (fun _ _ _ _ _ => (pts_one (pt_cmpR (notInSeqK K) (pv 7) (pv 2) (by rfl)))) (fun _ _ _ _ _ => (pv 7))) (pe_lst pa_nil) (nomark _)))) (fun _ _ _ _ _ => (pv 5)))
      (pss_cons (ps_set (i := 4) sc_uncovered.nd rfl (Or.inr rfl) (pc c_numbers_free (hr.mono (by first | decide | omega)) (pa_cons (pv 0) (pa_cons pe_int (pa_cons (pv 3) pa_nil)))))
      (pss_cons (ps_if (pt_cmpR op_isN (pv 4) pe_non (nomark _)) (pss_one (ps_ret pe_non)) pss_nil)
      (pss_one (ps_ret (pe_callTy call_tuple_fz (by rfl) T.f_tuple (by decide +kernel) (pa_cons (pe_lc (own := [("k", 6)]) (g := gName 6) (tt := tYes) rfl sc_uncovered.nd (pi_range1 rfl T.f_range (pa_cons (pe_callB call_len_seq (by rfl) T.f_len (by decide +kernel) (pa_cons (pv 0) pa_nil)) pa_nil)) (blkOk_by (N := N_uncovered) (sc := defScope s_uncovered) (by decide +kernel)) (fun _ _ _ _ _ => pg_name (i := 6) sc_uncovered.nd rfl (Or.inl rfl)) (fun _ _ _ _ _ => pts_nil) (fun _ _ _ _ _ => (pe_tup (pa_cons (pe_ix (ixTK K) (pe_ix (ixTK K) (pv 0) (pv 6) (fun _ _ => rfl)) pe_int (fun _ _ => rfl)) (pa_cons (pe_ix (ixLK K) (pv 4) (pv 6) (fun _ _ => rfl)) pa_nil))))) pa_nil)))))))), ?_⟩
    have lw := Paired.len hw
    -- own = fields_of([wish])
    refine ⟨_, rfl, small100 (show 1 ≤ 100000 by decide), fun c nc => ?_⟩
    have sc := same_upd (o := .lst [V.ref a]) nc
    refine ⟨c, _, [wi], wi.map (·.1), rfl, upd_same, .cons (hv.stay (.of sc)) .nil, by rw [List.length_map]; omega, fun f hf => by simpa [flds] using hf, fun ys H1 ow ndy hy s1 how => ?_⟩
    have s01 := sc.trans s1
    -- some = [..]
    refine ⟨_, rfl, l, rfl, ⟨_, sqL (s01 _ _ hl)⟩, fun Dl nD => ?_⟩
    refine lc_par (K := K) (a := l) (xs := xs) (ms := ws) (inside wi) (fun x _ => x) lw (by omega) (sqL (s01 _ _ hl)) nD (fun _ => rfl) (fun j x o H3 hx ho s4 R hR => ?_) (fun j x o H3 hx ho hf s4 R hR => ⟨_, rfl, hR H3 (Same.refl _)⟩) (fun H3 s4 hD => ?_)
    · have hxo : WishAt H x o := by
        obtain ⟨o', ho', h'⟩ := Paired.at_ hw hx
        rw [ho] at ho'
        obtain rfl := Option.some.inj ho'
        exact h'
      have hom : o ∈ ws := List.mem_of_getElem? ho
      have sm3 := s01.trans s4
      -- fields_of([one])
      refine ⟨_, rfl, small100 (show 1 ≤ 100000 by decide), fun c2 nc2 => ?_⟩
      have sc2 := same_upd (o := .lst [x]) nc2
      refine ⟨c2, _, [o], o.map (·.1), rfl, upd_same, .cons (hxo.stay (.of (sm3.trans sc2))) .nil, by rw [List.length_map]; have := h8' o hom; omega, fun f hf => by simpa [flds] using hf, fun zs H4 r ndz hz s5 hr4 => ⟨r, rfl, ⟨_, sqL hr4⟩, fun D2 nD2 => ?_⟩⟩
      have s35 := sc2.trans s5
      have lz : zs.length ≤ 8 := by
        have h1 := nodup_len ndz (m := o.map (·.1)) fun f hf => by
          have := (hz f).mp hf
          simpa [flds] using this
        rw [List.length_map] at h1
        have := h8' o hom
        omega
      refine lc_par (K := K) (a := r) (xs := zs.map V.str) (ms := zs) (fun z => !inV (.str z) (ys.map V.str)) (fun _ z => .str z) (List.length_map _) (by rw [List.length_map]; omega) (sqL hr4) nD2 (fun _ => rfl) (fun i y z H5 hy5 hz5 s6 R2 hR2 => ?_) (fun i y z H5 hy5 hz5 hf5 s6 R2 hR2 => ?_) (fun H5 s6 hD2 => ?_)
      · have ey : y = .str z := by
          rw [List.getElem?_map, hz5] at hy5
          exact (Option.some.inj hy5).symm
        subst ey
        exact ⟨_, rfl, _, rfl, ow, _, rfl, .inl (sqL (s6 _ _ (s35 _ _ (s4 _ _ how)))), rfl, flat_strs ys, _, rfl, hR2 H5 (Same.refl _)⟩
      · have ey : y = .str z := by
          rw [List.getElem?_map, hz5] at hy5
          exact (Option.some.inj hy5).symm
        subst ey
        exact ⟨_, rfl, hR2 H5 (Same.refl _)⟩
      · rw [par_snd (fun z => !inV (.str z) (ys.map V.str)) V.str (List.length_map _)] at hD2
        refine ⟨Nat.zero_le _, fun e ne => ?_⟩
        have s7 := same_upd (o := .lst []) ne
        refine ⟨.list ((zs.filter fun z => !inV (.str z) (ys.map V.str)).map PyData.str), .list [], .lst (sqL (s7 _ _ hD2)) (dpAll_strs _), .lst (sqL upd_same) .nil, shaped_strs _ fun z hz5 => ?_, shaped_nil, _, rfl, ?_⟩
        · have h1 := (hz z).mp (List.mem_filter.mp hz5).1
          have h2 : z ∈ o.map (·.1) := by simpa [flds] using h1
          obtain ⟨p, hp5, rfl⟩ := List.mem_map.mp h2
          exact ((ok o hom).each p hp5).1.SO
        · rw [eqv_nil, map_empty, inside_eq hy hz]
          exact hR _ (s35.trans (s6.trans s7))
    · have s03 := s01.trans s4
      have hlf := List.length_filter_le (inside wi) ws
      have hw3 : WsAt H3 _ (ws.filter (inside wi)) := WsAt.stay (par_fst (inside wi) hw) (.of s03)
      -- found = numbers_free(wish, 0, some)
      refine ⟨_, rfl, _, rfl, _, wi, 0, Dl, _, ws.filter (inside wi), rfl, hv.stay (.of s03), Nat.zero_add _, hwl, hD, hw3, fun o ho => ok o (List.mem_filter.mp ho).1, by omega, fun o ho => h8' o (List.mem_filter.mp ho).1, fun hnone H4 s5 => ?_, fun ns hsome H4 q s5 hq => ?_⟩
      · rw [List.drop_zero] at hnone
        exact ⟨_, rfl, rfl, true, rfl, iteT (qn hnone H4 (s03.trans s5))⟩
      · rw [List.drop_zero] at hsome
        have hnl := nf_len _ _ _ hsome
        have s04 := s03.trans s5
        refine ⟨_, rfl, rfl, false, rfl, iteF ?_⟩
        -- tuple([(wish[k][0], found[k]) for k in range(len(wish))])
        have lp := Paired.len hp
        refine ⟨_, rfl, a, ps, rfl, .inr (sqT (s04 _ _ ha)), _, rfl, by omega, by omega, fun D2 nD2 => ?_⟩
        refine lc_range (lo := 0) (n := (ps.length : Int).toNat) (fun i H5 => Same H4 H5 ∧ ∃ ts : List Addr, H5 D2 = some (.lst (ts.map V.ref)) ∧ Paired (fun t (q : Str × Int) => H5 t = some (.tup [.str q.1, .int q.2])) ts (((wi.map (·.1)).zip ns).take i))
          ⟨same_upd nD2, [], upd_same, by rw [List.take_zero]; exact .nil⟩ (fun i H5 hi p5 => ?_) (fun H5 p5 => ?_)
        · obtain ⟨s6, ts, hD5, hts⟩ := p5
          have hin : i < wi.length := by omega
          obtain ⟨p, hpi⟩ : ∃ p, wi[i]? = some p := ⟨wi[i], List.getElem?_eq_getElem hin⟩
          obtain ⟨pvv, hpv, t, rfl, ht⟩ := Paired.atR hp hpi
          obtain ⟨n, hn⟩ : ∃ n, ns[i]? = some n := ⟨ns[i], List.getElem?_eq_getElem (by omega)⟩
          have s05 := s04.trans s6
          have htl := Paired.len hts
          rw [List.length_take, List.length_zip, List.length_map] at htl
          refine ⟨rfl, yes_go ?_⟩
          have e0 : (0 : Int) + (i : Int) = (i : Int) := Int.zero_add _
          refine ⟨_, rfl, _, rfl, a, ps, _, .ref t, rfl, rfl, sqT (s05 _ _ ha), at_of e0 hpv, t, _, 0, _, rfl, rfl, sqT (s05 _ _ ht), atI_nat (j := 0) rfl, _, rfl, _, rfl, q, ns.map V.int, _, .int n, rfl, rfl, sqL (s6 _ _ hq), at_of e0 (by rw [List.getElem?_map, hn]; rfl), small100 (show 2 ≤ 100000 by decide), fun u nu => ?_⟩
          have nuD : D2 ≠ u := ne_of_none hD5 nu
          refine ⟨ts.map V.ref, by rw [upd_ne nuD]; exact hD5, lt100 (by rw [List.length_map]; omega), Same.mut (s6.trans (same_upd nu)) nD2, ts ++ [u], ?_, ?_⟩
          · rw [upd_same, List.map_append] <;> rfl
          · have hzi : ((wi.map (·.1)).zip ns)[i]? = some (p.1, n) := List.getElem?_zip_eq_some.mpr ⟨by rw [List.getElem?_map, hpi]; rfl, hn⟩
            rw [take_at hzi]
            refine Paired.app (Paired.mapP hts fun t' q' e => ?_) (.cons ?_ .nil)
            · exact Tups.mut (Tups.of (same_upd nu)) (by rw [upd_ne nuD]; exact hD5) _ _ e
            · rw [upd_ne nuD.symm]
              exact upd_same
        · obtain ⟨s6, ts, hD5, hts⟩ := p5
          rw [List.take_of_length_le (by rw [List.length_zip, List.length_map]; omega)] at hts
          refine ⟨D2, _, rfl, sqL hD5, fun z oz nz hoz => ?_⟩
          have s8 := same_upd (o := .frz oz (.tup (ts.map V.ref))) nz
          exact qs ns hsome _ z ((s04.trans s6).trans s8) ⟨oz, ts, upd_same, hoz, Paired.mapP hts fun t' q' e => s8 _ _ e⟩
/-! ### uncovered_piece -/
def spUP : Sp := fun vs H Q _ => ∃ (v : V) (wi : Wish) (l : Addr) (xs : List V) (ws : List Wish) (fs : List Str), vs = [v, .ref l] ∧ WishAt H v wi ∧ WishOk wi ∧ H l = some (.lst xs) ∧ WsAt H xs ws ∧ (∀ o ∈ ws, WishOk o) ∧ ws.length ≤ 7 ∧ fs.length ≤ 3 ∧ (∀ f ∈ flds (ws ++ [wi]), f ∈ fs) ∧
  (nf wi (ws.filter (inside wi)) = none → ∀ H' : Hp, Same H H' → Q .non H') ∧ ∀ ns : List Int, nf wi (ws.filter (inside wi)) = some ns → ∀ (H' : Hp) (q : Addr), Same H H' → PieceAt H' q ((wi.map (·.1)).zip ns) → Q (.ref q) H'
theorem ok_uncovered_piece (D : Def K mg "uncovered_piece" s_uncovered_piece) (T : Tx mg) (c_is_wish : Callee P w K mg base "is_wish" P_is_wish 3 spWish) (c_look_wishes : Callee P w K mg base "look_wishes" P_look_wishes 4 (spLookW K)) (c_look_few : Callee P w K mg base "look_few" P_look_few 2 spFew)
    (c_uncovered : Callee P w K mg base "uncovered" P_uncovered 12 spUnc) : Callee P w K mg base "uncovered_piece" P_uncovered_piece 13 spUP := by
  refine D.callee sc_uncovered_piece (fun _ _ _ _ _ _ us hl => match us, hl with | [_, _], _ => rfl) (fun vs H Q E h => ?_) (fun fa cdv A outer s H vs Q E hr h => ?_)
  · obtain ⟨v, wi, l, xs, ws, fs, rfl, _⟩ := h
    rfl
  · obtain ⟨v, wi, l, xs, ws, fs, rfl, hv, okw, hl, hw, ok, h7, hfs, hsub, qn, qs⟩ := h
    refine ⟨_, (pss_cons (ps_if (pt_not (pt_val (pc c_is_wish (hr.mono (by first | decide | omega)) (pa_cons (pv 0) pa_nil)))) (pss_one ps_never) pss_nil)
      (pss_cons (ps_expr (pc c_look_wishes (hr.mono (by first | decide | omega)) (pa_cons (pv 1) pa_nil)))
      (pss_cons (ps_expr (pc c_look_few (hr.mono (by first | decide | omega)) (pa_cons (pv 1) (pa_cons (pe_lst (pa_cons (pv 0) pa_nil)) pa_nil))))
      (pss_one (ps_ret (pc c_uncovered (hr.mono (by first | decide | omega)) (pa_cons (pv 0) (pa_cons (pv 1) pa_nil)))))))), ?_⟩
    have sub : ∀ o, o ∈ ws ++ [wi] → ∀ p ∈ o, p.1 ∈ fs := fun o ho p hp => hsub p.1 (List.mem_flatMap.mpr ⟨o, ho, List.mem_map.mpr ⟨p, hp, rfl⟩⟩)
    have hwl := okw.len (sub wi (List.mem_append_right _ List.mem_cons_self))
    refine ⟨_, rfl, v, wi, rfl, hv, okw, fun H1 s1 => ⟨true, rfl, iteF ?_⟩⟩
    refine ⟨_, rfl, l, xs, ws, rfl, s1 _ _ hl, WsAt.stay hw (.of s1), ok, fun H2 s2 => ?_⟩
    have s02 := s1.trans s2
    refine ⟨_, rfl, _, rfl, small100 (show 1 ≤ 100000 by decide), fun c nc => ?_⟩
    have sc := same_upd (o := .lst [v]) nc
    have s03 := s02.trans sc
    refine ⟨l, c, xs, [v], ws, [wi], fs, rfl, s03 _ _ hl, upd_same, WsAt.stay hw (.of s03), .cons (hv.stay (.of s03)) .nil, h7, (show 1 ≤ 7 by decide), hfs, hsub, fun H4 s4 => ?_⟩
    have s04 := s03.trans s4
    refine ⟨_, rfl, _, rfl, v, wi, l, xs, ws, rfl, hv.stay (.of s04), okw, by omega, s04 _ _ hl, WsAt.stay hw (.of s04), ok, by omega, fun o ho => ?_, fun hn H5 s5 => qn hn H5 (s04.trans s5), fun ns hn H5 q s5 hq => qs ns hn H5 q (s04.trans s5) hq⟩
    have := (ok o ho).len (sub o (List.mem_append_left _ ho))
    omega
end
end Cut
namespace Cut
open PySem PySem.Spec PyProof.Rows L2
/-! ### points in a box, counted -/
def sat : Wish → List Int → Bool
  | [], [] => true
  | p :: r, x :: xs => btw p.2.1 p.2.2 x && sat r xs
  | _, _ => false
def b2n : Bool → Nat
  | true => 1
  | false => 0
def cnt (xs : List Int) (b : Wish) : Nat := b2n (sat b xs)
theorem cnt_split (r : Wish) (p p1 p2 : Part) (h : ∀ x, b2n (btw p1.2.1 p1.2.2 x) + b2n (btw p2.2.1 p2.2.2 x) = b2n (btw p.2.1 p.2.2 x)) :
    ∀ (l : Wish) (xs : List Int), cnt xs (l ++ p1 :: r) + cnt xs (l ++ p2 :: r) = cnt xs (l ++ p :: r)
  | [], [] => rfl
  | [], x :: xs => by
    have := h x
    show b2n (btw p1.2.1 p1.2.2 x && sat r xs) + b2n (btw p2.2.1 p2.2.2 x && sat r xs) = b2n (btw p.2.1 p.2.2 x && sat r xs)
    cases sat r xs with
    | true => rw [Bool.and_true, Bool.and_true, Bool.and_true]; exact this
    | false => rw [Bool.and_false, Bool.and_false, Bool.and_false] <;> rfl
  | q :: l, [] => rfl
  | q :: l, x :: xs => by
    have ih := cnt_split r p p1 p2 h l xs
    show b2n (btw q.2.1 q.2.2 x && sat (l ++ p1 :: r) xs) + b2n (btw q.2.1 q.2.2 x && sat (l ++ p2 :: r) xs) = b2n (btw q.2.1 q.2.2 x && sat (l ++ p :: r) xs)
    cases btw q.2.1 q.2.2 x with
    | true => rw [Bool.true_and, Bool.true_and, Bool.true_and]; exact ih
    | false => rw [Bool.false_and, Bool.false_and, Bool.false_and] <;> rfl
/-- a span in two -/
theorem btw_split {lo hi : Option Int} {n : Int} (h1 : okSp lo (some n) = true) (h2 : okSp (some (n + 1)) hi = true) (x : Int) :
    b2n (btw lo (some n) x) + b2n (btw (some (n + 1)) hi x) = b2n (btw lo hi x) := by
  have c : ∀ a : Bool, a = true ∨ a = false := fun a => by cases a <;> simp
  cases lo with
  | none =>
    cases hi with
    | none =>
      simp only [btw, geLo, leHi, Bool.true_and, Bool.and_true]
      by_cases h : x ≤ n
      · rw [decide_eq_true h, decide_eq_false (by omega)] <;> rfl
      · rw [decide_eq_false h, decide_eq_true (by omega)] <;> rfl
    | some hh =>
      simp only [okSp, decide_eq_true_eq] at h2
      simp only [btw, geLo, leHi, Bool.true_and]
      by_cases h : x ≤ n
      · rw [decide_eq_true h, decide_eq_false (by omega), decide_eq_true (show x ≤ hh by omega)] <;> rfl
      · rw [decide_eq_false h, decide_eq_true (show n + 1 ≤ x by omega), Bool.true_and]
        show 0 + _ = _
        rw [Nat.zero_add]
  | some l =>
    simp only [okSp, decide_eq_true_eq] at h1
    cases hi with
    | none =>
      simp only [btw, geLo, leHi, Bool.and_true]
      by_cases h : x ≤ n
      · rw [decide_eq_true h, decide_eq_false (show ¬ n + 1 ≤ x by omega), Bool.and_true]
        rfl
      · rw [decide_eq_false h, decide_eq_true (show n + 1 ≤ x by omega), decide_eq_true (show l ≤ x by omega)] <;> rfl
    | some hh =>
      simp only [okSp, decide_eq_true_eq] at h2
      simp only [btw, geLo, leHi]
      by_cases h : x ≤ n
      · rw [decide_eq_true h, decide_eq_false (show ¬ n + 1 ≤ x by omega), decide_eq_true (show x ≤ hh by omega), Bool.and_true, Bool.false_and]
        rfl
      · rw [decide_eq_false h, decide_eq_true (show n + 1 ≤ x by omega), decide_eq_true (show l ≤ x by omega), Bool.and_false, Bool.true_and]
        show 0 + _ = _
        rw [Nat.zero_add]
/-- boxes of the same fields -/
def Box (fs : List Str) (q : Wish) : Prop := q.map (·.1) = fs ∧ WishOk q
/-- wishes that cut a box up -/
structure Tiles (fs : List Str) (b : Wish) (ps : List Wish) : Prop where
  box : ∀ q ∈ ps, Box fs q
  all : ∀ xs, (ps.map (cnt xs)).sum = cnt xs b
theorem Tiles.one {fs : List Str} {b : Wish} (h : Box fs b) : Tiles fs b [b] := ⟨fun q hq => by rw [List.mem_singleton.mp hq]; exact h, fun xs => by simp⟩
theorem Tiles.splice {fs : List Str} {b q : Wish} {l r ps : List Wish} (h : Tiles fs b (l ++ q :: r)) (hq : Tiles fs q ps) : Tiles fs b (l ++ ps ++ r) := by
  refine ⟨fun o ho => ?_, fun xs => ?_⟩
  · rcases List.mem_append.mp ho with h1 | h1
    · rcases List.mem_append.mp h1 with h2 | h2
      · exact h.box o (List.mem_append_left _ h2)
      · exact hq.box o h2
    · exact h.box o (List.mem_append_right _ (List.mem_cons_of_mem _ h1))
  · have h1 := h.all xs
    have h2 := hq.all xs
    simp only [List.map_append, List.map_cons, List.sum_append, List.sum_cons] at h1 ⊢
    omega
theorem splice_fields {l r : Wish} {p p' : Part} (e : p'.1 = p.1) : (l ++ p' :: r).map (·.1) = (l ++ p :: r).map (·.1) := by
  simp [e]
theorem splice_ok {l r : Wish} {p p' : Part} (h : WishOk (l ++ p :: r)) (e : p'.1 = p.1) (s : okSp p'.2.1 p'.2.2 = true) : WishOk (l ++ p' :: r) := by
  refine ⟨fun q hq => ?_, ?_⟩
  · rcases List.mem_append.mp hq with h1 | h1
    · exact h.each q (List.mem_append_left _ h1)
    · rcases List.mem_cons.mp h1 with rfl | h1
      · exact ⟨by rw [e]; exact (h.each p (List.mem_append_right _ List.mem_cons_self)).1, s⟩
      · exact h.each q (List.mem_append_right _ (List.mem_cons_of_mem _ h1))
  · have h2 := h.up
    have e2 : ((l ++ p' :: r).map (·.1)).Pairwise Lt := by
      rw [splice_fields e, List.pairwise_map]
      exact h2
    rw [List.pairwise_map] at e2
    exact e2
theorem Box.splice {fs : List Str} {l r : Wish} {p p' : Part} (h : Box fs (l ++ p :: r)) (e : p'.1 = p.1) (s : okSp p'.2.1 p'.2.2 = true) : Box fs (l ++ p' :: r) :=
  ⟨by rw [splice_fields e]; exact h.1, splice_ok h.2 e s⟩
/-- a box in two at a number of one span -/
theorem tiles_two {fs : List Str} {l r : Wish} {f : Str} {lo hi : Option Int} {n : Int} (h : Box fs (l ++ (f, lo, hi) :: r)) (h1 : okSp lo (some n) = true) (h2 : okSp (some (n + 1)) hi = true) :
    Tiles fs (l ++ (f, lo, hi) :: r) [l ++ (f, lo, some n) :: r, l ++ (f, some (n + 1), hi) :: r] := by
  refine ⟨fun q hq => ?_, fun xs => ?_⟩
  · rcases List.mem_cons.mp hq with rfl | hq
    · exact h.splice rfl h1
    · rw [List.mem_singleton.mp hq]
      exact h.splice rfl h2
  · have := cnt_split r (f, lo, hi) (f, lo, some n) (f, some (n + 1), hi) (fun x => btw_split h1 h2 x) l xs
    simp only [List.map_cons, List.map_nil, List.sum_cons, List.sum_nil]
    omega
theorem splice_eq {wi : Wish} {j : Nat} {p : Part} (h : wi[j]? = some p) : wi = wi.take j ++ p :: wi.drop (j + 1) := by
  rw [← drop_at h, List.take_append_drop]
/-- the piece that a box's point is -/
def wantsP (o : Wish) (pc : List (Str × Int)) : Bool := o.all fun p => match pc.lookup p.1 with
  | none => false
  | some n => btw p.2.1 p.2.2 n
/-! ### the search: sound -/
theorem minOf_le {d : Int} : ∀ {l : List Int} {x : Int}, x ∈ l → minOf d l ≤ x
  | [], x, h => by cases h
  | y :: l, x, h => by
    have aux : ∀ (l : List Int) (a x : Int), (x = a ∨ x ∈ l) → l.foldl min a ≤ x := by
      intro l
      induction l with
      | nil =>
        intro a x h
        rcases h with h | h
        · rw [h]; exact Int.le_refl _
        · cases h
      | cons z l ih =>
        intro a x h
        rw [List.foldl_cons]
        rcases h with h | h
        · have h1 := ih (min a z) (min a z) (.inl rfl)
          have : min a z ≤ a := Int.min_le_left _ _
          omega
        · rcases List.mem_cons.mp h with h | h
          · have h1 := ih (min a z) (min a z) (.inl rfl)
            have : min a z ≤ z := Int.min_le_right _ _
            omega
          · exact ih (min a z) x (.inr h)
    exact aux l y x (List.mem_cons.mp h)
theorem first_in {p : Part} {ws : List Wish} (ok : okSp p.2.1 p.2.2 = true) : btw p.2.1 p.2.2 (firstOf p ws) = true := by
  unfold firstOf
  cases hlo : p.2.1 with
  | some l =>
    rw [hlo] at ok
    cases hhi : p.2.2 with
    | none => simp [btw, geLo, leHi]
    | some h =>
      rw [hhi] at ok
      have ok2 : l ≤ h := of_decide_eq_true ok
      simp [btw, geLo, leHi, ok2]
  | none =>
    cases hhi : p.2.2 with
    | none => simp [btw, geLo, leHi]
    | some h =>
      have := minOf_le (d := 1) (l := los p.1 ws ++ his p.1 ws ++ (some h : Option Int).toList) (x := h) (by simp)
      simp only [btw, geLo, leHi, Bool.true_and, decide_eq_true_eq]
      omega
theorem tried_in {p : Part} {ws : List Wish} (ok : okSp p.2.1 p.2.2 = true) {n : Int} (h : n ∈ tried p ws) : btw p.2.1 p.2.2 n = true := by
  unfold tried at h
  rcases List.mem_cons.mp h with rfl | h
  · exact first_in ok
  · obtain ⟨z, hz, rfl⟩ := List.mem_map.mp h
    have h1 := (List.mem_filter.mp hz).2
    unfold keepHi at h1
    exact (Bool.and_eq_true_iff.mp h1).2
/-- a wish that lacks one of the numbers -/
def miss (o : Wish) : Wish → List Int → Bool
  | p :: r, x :: xs => !lets o p.1 x || miss o r xs
  | _, _ => false
theorem nf_sound : ∀ (wi : Wish) (ws : List Wish) (ns : List Int), (∀ p ∈ wi, okSp p.2.1 p.2.2 = true) → nf wi ws = some ns → sat wi ns = true ∧ ∀ o ∈ ws, miss o wi ns = true
  | [], ws, ns, _, h => by
    unfold nf at h
    split at h
    · rename_i he
      obtain rfl := Option.some.inj h
      refine ⟨rfl, fun o ho => ?_⟩
      rw [List.isEmpty_iff.mp he] at ho
      cases ho
    · cases h
  | p :: r, ws, ns, ok, h => by
    unfold nf at h
    obtain ⟨n, hm, hn⟩ := List.exists_of_findSome?_eq_some h
    obtain ⟨ms, h1, h2⟩ := Option.map_eq_some_iff.mp hn
    subst h2
    obtain ⟨i1, i2⟩ := nf_sound r _ ms (fun q hq => ok q (List.mem_cons_of_mem _ hq)) h1
    refine ⟨?_, fun o ho => ?_⟩
    · show (btw p.2.1 p.2.2 n && sat r ms) = true
      rw [tried_in (ok p List.mem_cons_self) hm, i1] <;> rfl
    · show (!lets o p.1 n || miss o r ms) = true
      cases hl : lets o p.1 n with
      | false => rfl
      | true => exact i2 o (List.mem_filter.mpr ⟨ho, hl⟩)
/-! ### the search: whole -/
theorem lets_span {o : Wish} {f : Str} {n : Int} : lets o f n = true → (∀ p ∈ o, p.1 ≠ f) ∨ ∃ p ∈ o, p.1 = f ∧ btw p.2.1 p.2.2 n = true ∧ ∀ x, lets o f x = btw p.2.1 p.2.2 x := by
  induction o with
  | nil => exact fun _ => .inl fun p hp => by cases hp
  | cons q o ih =>
    intro h
    by_cases e : q.1 = f
    · refine .inr ⟨q, List.mem_cons_self, e, ?_, fun x => ?_⟩
      · unfold lets at h
        rw [if_pos e] at h
        exact h
      · show (if q.1 = f then _ else _) = _
        rw [if_pos e]
    · have h' : lets o f n = true := by
        unfold lets at h
        rw [if_neg e] at h
        exact h
      rcases ih h' with h1 | ⟨p, hp, e1, e2, e3⟩
      · exact .inl fun p hp => by
          rcases List.mem_cons.mp hp with rfl | hp
          · exact e
          · exact h1 p hp
      · refine .inr ⟨p, List.mem_cons_of_mem _ hp, e1, e2, fun x => ?_⟩
        show (if q.1 = f then _ else lets o f x) = _
        rw [if_neg e]
        exact e3 x
theorem lets_none {o : Wish} {f : Str} (h : ∀ p ∈ o, p.1 ≠ f) (x : Int) : lets o f x = true := by
  induction o with
  | nil => rfl
  | cons q o ih =>
    show (if q.1 = f then _ else lets o f x) = true
    rw [if_neg (h q List.mem_cons_self)]
    exact ih fun p hp => h p (List.mem_cons_of_mem _ hp)
theorem his_mem {ws : List Wish} {o : Wish} {p : Part} {h : Int} (ho : o ∈ ws) (hp : p ∈ o) (e : p.2.2 = some h) : h ∈ his p.1 ws := by
  unfold his
  refine List.mem_flatMap.mpr ⟨o, ho, List.mem_flatMap.mpr ⟨p, hp, ?_⟩⟩
  unfold hisP
  rw [if_pos rfl, e]
  exact List.mem_singleton.mpr rfl
theorem los_mem {ws : List Wish} {o : Wish} {p : Part} {h : Int} (ho : o ∈ ws) (hp : p ∈ o) (e : p.2.1 = some h) : h ∈ los p.1 ws := by
  unfold los
  refine List.mem_flatMap.mpr ⟨o, ho, List.mem_flatMap.mpr ⟨p, hp, ?_⟩⟩
  unfold losP
  rw [if_pos rfl, e]
  exact List.mem_singleton.mpr rfl
/-- the greatest of a list that is not above x -/
theorem greatest_below (x : Int) : ∀ l : List Int, (∃ y ∈ l, y ≤ x) → ∃ c ∈ l, c ≤ x ∧ ∀ y ∈ l, y ≤ x → y ≤ c
  | [], h => by obtain ⟨y, hy, _⟩ := h; cases hy
  | z :: l, h => by
    by_cases hl : ∃ y ∈ l, y ≤ x
    · obtain ⟨c, hc, c1, c2⟩ := greatest_below x l hl
      by_cases hz : z ≤ x ∧ c ≤ z
      · refine ⟨z, List.mem_cons_self, hz.1, fun y hy hyx => ?_⟩
        rcases List.mem_cons.mp hy with rfl | hy
        · exact Int.le_refl _
        · have := c2 y hy hyx
          omega
      · refine ⟨c, List.mem_cons_of_mem _ hc, c1, fun y hy hyx => ?_⟩
        rcases List.mem_cons.mp hy with rfl | hy
        · omega
        · exact c2 y hy hyx
    · obtain ⟨y, hy, hyx⟩ := h
      rcases List.mem_cons.mp hy with rfl | hy
      · refine ⟨y, List.mem_cons_self, hyx, fun u hu hux => ?_⟩
        rcases List.mem_cons.mp hu with rfl | hu
        · exact Int.le_refl _
        · exact absurd ⟨u, hu, hux⟩ hl
      · exact absurd ⟨y, hy, hyx⟩ hl
/-- one of the tried numbers lets no more by than x does -/
theorem tried_enough {p : Part} {ws : List Wish} {x : Int} (hx : btw p.2.1 p.2.2 x = true) : ∃ c ∈ tried p ws, ∀ o ∈ ws, lets o p.1 c = true → lets o p.1 x = true := by
  by_cases hf : firstOf p ws ≤ x
  · obtain ⟨c, hc, c1, c2⟩ := greatest_below x (tried p ws) ⟨_, List.mem_cons_self, hf⟩
    refine ⟨c, hc, fun o ho hl => ?_⟩
    rcases lets_span hl with h | ⟨q, hq, e, hb, hall⟩
    · exact lets_none h x
    · rw [hall x]
      have hfc : firstOf p ws ≤ c := c2 _ List.mem_cons_self hf
      have b1 := (Bool.and_eq_true_iff.mp hb)
      refine Bool.and_eq_true_iff.mpr ⟨?_, ?_⟩
      · cases hlo : q.2.1 with
        | none => rfl
        | some l =>
          rw [hlo] at b1
          have : l ≤ c := of_decide_eq_true b1.1
          exact decide_eq_true (by omega)
      · cases hhi : q.2.2 with
        | none => rfl
        | some h =>
          rw [hhi] at b1
          have h1 : c ≤ h := of_decide_eq_true b1.2
          by_cases hhx : x ≤ h
          · exact decide_eq_true hhx
          · exfalso
            have hm : h ∈ his p.1 ws := by
              have := his_mem ho hq hhi
              rw [e] at this
              exact this
            have hk : keepHi p (firstOf p ws) h = true := by
              unfold keepHi
              refine Bool.and_eq_true_iff.mpr ⟨decide_eq_true (by omega), ?_⟩
              have hx' := Bool.and_eq_true_iff.mp hx
              refine Bool.and_eq_true_iff.mpr ⟨?_, ?_⟩
              · cases hlo : p.2.1 with
                | none => rfl
                | some l =>
                  have : firstOf p ws = l := by unfold firstOf; rw [hlo]
                  exact decide_eq_true (by omega)
              · cases hhp : p.2.2 with
                | none => rfl
                | some hh =>
                  rw [hhp] at hx'
                  have : x ≤ hh := of_decide_eq_true hx'.2
                  exact decide_eq_true (by omega)
            have := c2 (h + 1) (List.mem_cons_of_mem _ (List.mem_map.mpr ⟨h, List.mem_filter.mpr ⟨hm, hk⟩, rfl⟩)) (by omega)
            omega
  · -- x is below all ends
    refine ⟨firstOf p ws, List.mem_cons_self, fun o ho hl => ?_⟩
    cases hlo : p.2.1 with
    | some l =>
      exfalso
      have h1 : firstOf p ws = l := by unfold firstOf; rw [hlo]
      have h2 := (Bool.and_eq_true_iff.mp hx).1
      rw [hlo] at h2
      have : l ≤ x := of_decide_eq_true h2
      omega
    | none =>
      have ef : firstOf p ws = minOf 1 (los p.1 ws ++ his p.1 ws ++ p.2.2.toList) - 1 := by unfold firstOf; rw [hlo]
      rcases lets_span hl with h | ⟨q, hq, e, hb, hall⟩
      · exact lets_none h x
      · rw [hall x]
        have b1 := (Bool.and_eq_true_iff.mp hb)
        refine Bool.and_eq_true_iff.mpr ⟨?_, ?_⟩
        · cases hql : q.2.1 with
          | none => rfl
          | some l =>
            exfalso
            rw [hql] at b1
            have h1 : l ≤ firstOf p ws := of_decide_eq_true b1.1
            have hm : l ∈ los p.1 ws := by
              have := los_mem ho hq hql
              rw [e] at this
              exact this
            have := minOf_le (d := 1) (l := los p.1 ws ++ his p.1 ws ++ p.2.2.toList) (x := l) (List.mem_append_left _ (List.mem_append_left _ hm))
            omega
        · cases hqh : q.2.2 with
          | none => rfl
          | some h =>
            rw [hqh] at b1
            have h1 : firstOf p ws ≤ h := of_decide_eq_true b1.2
            exact decide_eq_true (by omega)
theorem nf_whole : ∀ (wi : Wish) (ws : List Wish) (xs : List Int), sat wi xs = true → (∀ o ∈ ws, miss o wi xs = true) → nf wi ws ≠ none
  | [], ws, [], _, hm => by
    unfold nf
    cases ws with
    | nil => intro h; cases h
    | cons o ws =>
      have := hm o List.mem_cons_self
      cases this
  | [], ws, x :: xs, h, _ => by cases h
  | p :: r, ws, [], h, _ => by cases h
  | p :: r, ws, x :: xs, h, hm => by
    obtain ⟨h1, h2⟩ := Bool.and_eq_true_iff.mp (show (btw p.2.1 p.2.2 x && sat r xs) = true from h)
    obtain ⟨c, hc, hall⟩ := tried_enough (ws := ws) h1
    have ih := nf_whole r (ws.filter fun o => lets o p.1 c) xs h2 fun o ho => by
      obtain ⟨ho1, ho2⟩ := List.mem_filter.mp ho
      have h3 := hm o ho1
      have h4 : (!lets o p.1 x || miss o r xs) = true := h3
      rw [hall o ho1 ho2] at h4
      exact h4
    intro hn
    unfold nf at hn
    rw [List.findSome?_eq_none_iff] at hn
    have := hn c hc
    rw [Option.map_eq_none_iff] at this
    exact ih this
end Cut
namespace Cut
open PySem PySem.Spec PyProof.Rows L2
/-! ### the well of drawn numbers: at w the well, at g its great numbers, at m its small ones; at most n were drawn from the small ones -/
structure WellIs (H : Hp) (w g m : Addr) (n : Nat) (gs ss : List Int) (sd c : Int) : Prop where
  hw : H w = some (.lst [.ref g, .ref m, .int sd, .int c])
  hg : H g = some (.lst (gs.map V.int))
  hm : H m = some (.lst (ss.map V.int))
  mg : m ≠ g
  gpos : ∀ x ∈ gs, 0 ≤ x
  spos : ∀ x ∈ ss, 0 ≤ x ∧ x < 2147483563
  sd0 : 0 ≤ sd
  sd1 : sd < 2147483563
  c0 : 0 ≤ c
  c1 : c ≤ n
  gl : gs.length ≤ 63
  sl : ss.length ≤ 63
def WellAt (H : Hp) (w g m : Addr) (n : Nat) : Prop := ∃ gs ss sd c, WellIs H w g m n gs ss sd c
theorem WellIs.gw {H : Hp} {w g m : Addr} {n : Nat} {gs ss : List Int} {sd c : Int} (h : WellIs H w g m n gs ss sd c) : g ≠ w := fun e => by
  have h1 := h.hg
  rw [e, h.hw] at h1
  have h2 : [V.ref g, V.ref m, V.int sd, V.int c] = gs.map V.int := HO.lst.inj (Option.some.inj h1)
  cases gs with
  | nil => cases h2
  | cons x r => cases (List.cons.inj h2).1
theorem WellIs.mw {H : Hp} {w g m : Addr} {n : Nat} {gs ss : List Int} {sd c : Int} (h : WellIs H w g m n gs ss sd c) : m ≠ w := fun e => by
  have h1 := h.hm
  rw [e, h.hw] at h1
  have h2 : [V.ref g, V.ref m, V.int sd, V.int c] = ss.map V.int := HO.lst.inj (Option.some.inj h1)
  cases ss with
  | nil => cases h2
  | cons x r => cases (List.cons.inj h2).1
/-- all but the well and its great numbers stay -/
def But (w g : Addr) (H H' : Hp) : Prop := ∀ b o, b ≠ w → b ≠ g → H b = some o → H' b = some o
/-- a stretch of the run that began at H -/
structure Run (w g m : Addr) (H H' : Hp) (n : Nat) : Prop where
  but : But w g H H'
  well : WellAt H' w g m n
  tups : Tups H H'
section
variable {w g m : Addr} {n k : Nat} {H H1 H2 : Hp}
theorem WellAt.stay (h : WellAt H w g m n) (e : Same H H1) : WellAt H1 w g m n := by
  obtain ⟨gs, ss, sd, c, h⟩ := h
  exact ⟨gs, ss, sd, c, e _ _ h.hw, e _ _ h.hg, e _ _ h.hm, h.mg, h.gpos, h.spos, h.sd0, h.sd1, h.c0, h.c1, h.gl, h.sl⟩
theorem WellAt.mono (h : WellAt H w g m n) (e : n ≤ k) : WellAt H w g m k := by
  obtain ⟨gs, ss, sd, c, h⟩ := h
  exact ⟨gs, ss, sd, c, h.hw, h.hg, h.hm, h.mg, h.gpos, h.spos, h.sd0, h.sd1, h.c0, by have := h.c1; omega, h.gl, h.sl⟩
theorem WellAt.off {d : Addr} (h : WellAt H w g m n) (hd : H d = none) : d ≠ w ∧ d ≠ g ∧ d ≠ m := by
  obtain ⟨gs, ss, sd, c, h⟩ := h
  refine ⟨fun e => ?_, fun e => ?_, fun e => ?_⟩
  · rw [e, h.hw] at hd; cases hd
  · rw [e, h.hg] at hd; cases hd
  · rw [e, h.hm] at hd; cases hd
theorem WellAt.mut {d : Addr} {o : HO} (h : WellAt H w g m n) (hd : d ≠ w ∧ d ≠ g ∧ d ≠ m) : WellAt (upd H d o) w g m n := by
  obtain ⟨gs, ss, sd, c, h⟩ := h
  exact ⟨gs, ss, sd, c, by rw [upd_ne hd.1.symm]; exact h.hw, by rw [upd_ne hd.2.1.symm]; exact h.hg, by rw [upd_ne hd.2.2.symm]; exact h.hm, h.mg, h.gpos, h.spos, h.sd0, h.sd1, h.c0, h.c1, h.gl, h.sl⟩
theorem But.trans (a : But w g H H1) (b : But w g H1 H2) : But w g H H2 := fun x o h1 h2 e => b x o h1 h2 (a x o h1 h2 e)
theorem But.of (e : Same H H1) : But w g H H1 := fun x o _ _ h => e x o h
theorem But.tups (b : But w g H H1) (h : WellAt H w g m n) : Tups H H1 := fun a xs ha => by
  obtain ⟨gs, ss, sd, c, h⟩ := h
  refine b a _ (fun e => ?_) (fun e => ?_) ha
  · rw [e, h.hw] at ha; cases ha
  · rw [e, h.hg] at ha; cases ha
theorem Run.refl (h : WellAt H w g m n) : Run w g m H H n := ⟨.of (Same.refl H), h, Tups.refl H⟩
theorem Run.trans (a : Run w g m H H1 n) (b : Run w g m H1 H2 k) : Run w g m H H2 k := ⟨a.but.trans b.but, b.well, a.tups.trans b.tups⟩
theorem Run.mono (a : Run w g m H H1 n) (e : n ≤ k) : Run w g m H H1 k := ⟨a.but, a.well.mono e, a.tups⟩
theorem Run.same (a : Run w g m H H1 n) (e : Same H1 H2) : Run w g m H H2 n := ⟨a.but.trans (.of e), a.well.stay e, a.tups.trans (.of e)⟩
theorem Run.start (h : WellAt H w g m n) (e : Same H H1) : Run w g m H H1 n := (Run.refl h).same e
/-- an object that H does not know may change -/
theorem Run.mut {d : Addr} {o : HO} {xs : List V} (a : Run w g m H H1 n) (h0 : WellAt H w g m k) (hd : H d = none) (hl : H1 d = some (.lst xs)) : Run w g m H (upd H1 d o) n := by
  have off := h0.off hd
  refine ⟨fun b u h1 h2 e => ?_, a.well.mut off, Tups.mut a.tups hl⟩
  rw [upd_ne (ne_of_none e hd)]
  exact a.but b u h1 h2 e
/-- a thing off the well stays -/
theorem Run.keep {b : Addr} {o : HO} (a : Run w g m H H1 n) (h1 : b ≠ w ∧ b ≠ g ∧ b ≠ m) (e : H b = some o) : H1 b = some o := a.but b o h1.1 h1.2.1 e
theorem Run.free {b : Addr} (a : Run w g m H H1 n) (h0 : WellAt H w g m k) (e : H1 b = none) : H b = none := by
  cases h : H b with
  | none => rfl
  | some o =>
    have off := a.well.off e
    rw [a.but b o off.1 off.2.1 h] at e
    cases e
theorem Run.wish {v : V} {wi : Wish} (a : Run w g m H H1 n) (h : WishAt H v wi) : WishAt H1 v wi := h.stay a.tups
end
theorem mod_bnd {a b : Int} (h : 0 < b) : 0 ≤ a % b ∧ a % b < b := ⟨Int.emod_nonneg _ (Int.ne_of_gt h), Int.emod_lt_of_pos _ h⟩
abbrev s_law_take : Stmt := topS 28
abbrev N_law_take : List Str := ["well", "many", "number", "cell"]
abbrev P_law_take : List Str := ["well", "many"]
theorem sc_law_take : FnScope ["well", "many", "number", "cell"] ["well", "many"] (defScope s_law_take) := ⟨rfl, rfl, rfl, by decide +kernel, rfl, by decide +kernel, by decide +kernel⟩
abbrev s_law_well : Stmt := topS 27
abbrev N_law_well : List Str := ["script", "great", "small", "seed", "number", "cell"]
abbrev P_law_well : List Str := ["script"]
theorem sc_law_well : FnScope ["script", "great", "small", "seed", "number", "cell"] ["script"] (defScope s_law_well) := ⟨rfl, rfl, rfl, by decide +kernel, rfl, by decide +kernel, by decide +kernel⟩
abbrev s_law_name : Stmt := topS 29
abbrev N_law_name : List Str := ["well", "most", "letters", "k"]
abbrev P_law_name : List Str := ["well", "most"]
theorem sc_law_name : FnScope ["well", "most", "letters", "k"] ["well", "most"] (defScope s_law_name) := ⟨rfl, rfl, rfl, by decide +kernel, rfl, by decide +kernel, by decide +kernel⟩
abbrev s_law_base : Stmt := topS 31
abbrev N_law_base : List Str := ["well", "pick", "sign", "number"]
abbrev P_law_base : List Str := ["well"]
theorem sc_law_base : FnScope ["well", "pick", "sign", "number"] ["well"] (defScope s_law_base) := ⟨rfl, rfl, rfl, by decide +kernel, rfl, by decide +kernel, by decide +kernel⟩
section
variable {P : Program} {w : World} {K : PySem.W.Frag} {mg : Str → Option Value} {base : Heap}
/-! ### _law_take -/
def spTake : Sp := fun vs H Q _ => ∃ (w g m : Addr) (n : Nat) (many : Int), vs = [.ref w, .int many] ∧ WellAt H w g m n ∧ n ≤ 100000 ∧ 1 ≤ many ∧ many < 1073741824 ∧
  ∀ (H' : Hp) (r : Int), Run w g m H H' (n + 1) → 0 ≤ r → r < many → Q (.int r) H'
theorem ok_law_take (D : Def K mg "_law_take" s_law_take) (T : Tx mg) : Callee P w K mg base "_law_take" P_law_take 1 spTake := by
  refine D.callee sc_law_take (fun _ _ _ _ _ _ us hl => match us, hl with | [_, _], _ => rfl) (fun vs H Q E h => ?_) (fun fa cdv A outer s H vs Q E hr h => ?_)
  · obtain ⟨w, g, m, n, many, rfl, _⟩ := h
    rfl
  · obtain ⟨w, g, m, n, many, rfl, hwell, hn, hm1, hm2, q⟩ := h
    obtain ⟨gs, ss, sd, c, W⟩ := id hwell
    have hu64 := hu64_of hr
    refine ⟨_, (pss_cons (ps_if (pt_cmpR (op_neD hu64) (pe_ix ix_list (pv 0) pe_int (fun _ _ => rfl)) (pe_lst pa_nil) (nomark _)) (pss_cons (ps_set (i := 2) sc_law_take.nd rfl (Or.inl rfl) (pe_ix ix_list (pe_ix ix_list (pv 0) pe_int (fun _ _ => rfl)) pe_int (fun _ _ => rfl)))
      (pss_cons (ps_asg (pe_op op_fdiv (pv 2) (pv 1)) (pg_sub (pe_ix ix_list (pv 0) pe_int (fun _ _ => rfl)) pe_int set_list))
      (pss_cons (ps_if (pt_cmpR op_lt (pv 2) (pv 1) (nomark _)) (pss_one (ps_expr (pe_bm PySem.F.plainAttrs_list PySem.F.slot_list_pop PySem.F.type_list_pop mt_popAt (pe_ix ix_list (pv 0) pe_int (fun _ _ => rfl)) (pa_cons pe_int pa_nil)))) pss_nil)
      (pss_one (ps_ret (pe_op op_mod (pv 2) (pv 1))))))) pss_nil)
      (pss_cons (ps_asg (pe_op op_add (pe_ix ix_list (pv 0) pe_int (fun _ _ => rfl)) pe_int) (pg_sub (pv 0) pe_int set_list))
      (pss_cons (ps_set (i := 3) sc_law_take.nd rfl (Or.inl rfl) pe_int)
      (Evl.pss_cut (ps_if (pt_cmpR (op_neD hu64) (pe_ix ix_list (pv 0) pe_int (fun _ _ => rfl)) (pe_lst pa_nil) (nomark _)) (pss_one (ps_set (i := 3) sc_law_take.nd rfl (Or.inl rfl) (pe_op op_add (pe_ix ix_list (pe_ix ix_list (pv 0) pe_int (fun _ _ => rfl)) (pe_op op_mod (pe_ix ix_list (pv 0) pe_int (fun _ _ => rfl)) (pe_callB call_len_seq (by rfl) T.f_len (by decide +kernel) (pa_cons (pe_ix ix_list (pv 0) pe_int (fun _ _ => rfl)) pa_nil))) (fun _ _ => rfl)) pe_int))) pss_nil)
      (pss_cons (ps_set (i := 2) sc_law_take.nd rfl (Or.inl rfl) (pe_op op_mod (pe_op op_pow (pe_op op_add (pe_ix ix_list (pv 0) pe_int (fun _ _ => rfl)) (pe_op op_mul (pv 3) (pe_op op_add (pe_op op_mul (pe_ix ix_list (pv 0) pe_int (fun _ _ => rfl)) pe_int) pe_int))) pe_int) pe_int))
      (pss_cons (ps_asg (pe_op op_mod (pe_op op_add (pe_op op_add (pe_op op_mul (pe_ix ix_list (pv 0) pe_int (fun _ _ => rfl)) pe_int) (pv 2)) (pe_ix ix_list (pv 0) pe_int (fun _ _ => rfl))) pe_int) (pg_sub (pv 0) pe_int set_list))
      (pss_one (ps_ret (pe_op op_mod (pe_op op_fdiv (pv 2) pe_int) (pv 1)))))))))), ?_⟩
    -- if well[0] != []
    refine ⟨_, rfl, w, _, 0, .ref g, rfl, rfl, sqL W.hw, atI_nat (j := 0) rfl, Nat.zero_le _, fun e ne => ?_⟩
    have s1 := same_upd (o := .lst []) ne
    have wl1 := hwell.stay s1
    refine ⟨.list (gs.map PyData.int), .list [], .lst (sqL (s1 _ _ W.hg)) (dpAll_ints gs), .lst (sqL upd_same) .nil, shaped_ints gs, shaped_nil, _, rfl, ?_⟩
    rw [eqv_nil, map_empty]
    cases gs with
    | cons x r =>
      refine iteT ?_
      have x0 := W.gpos x List.mem_cons_self
      -- number = well[0][0]
      refine ⟨_, rfl, w, _, 0, .ref g, rfl, rfl, sqL (s1 _ _ W.hw), atI_nat (j := 0) rfl, g, _, 0, .int x, rfl, rfl, sqL (s1 _ _ W.hg), atI_nat (j := 0) rfl, ?_⟩
      -- well[0][0] = number // many
      refine ⟨_, rfl, _, rfl, x, many, rfl, rfl, ⟨by omega, hm2⟩, _, rfl, w, _, 0, .ref g, rfl, rfl, sqL (s1 _ _ W.hw), atI_nat (j := 0) rfl, g, _, 0, 0, rfl, rfl, s1 _ _ W.hg, ?_, ?_⟩
      · unfold ixN
        rw [if_pos (Int.le_refl 0), if_pos (by simp)] <;> rfl
      have gw := W.gw
      have gm := W.mg
      have xq : 0 ≤ x / many := Int.ediv_nonneg x0 (by omega)
      have es : ((x :: r).map V.int).set 0 (.int (x / many)) = (x / many :: r).map V.int := rfl
      rw [es]
      have wl2 : WellIs (upd (upd H e (.lst [])) g (.lst ((x / many :: r).map V.int))) w g m n (x / many :: r) ss sd c :=
        ⟨by rw [upd_ne gw.symm]; exact s1 _ _ W.hw, upd_same, by rw [upd_ne gm]; exact s1 _ _ W.hm, gm, fun y hy => by
          rcases List.mem_cons.mp hy with h | h
          · rw [h]; exact xq
          · exact W.gpos y (List.mem_cons_of_mem _ h), W.spos, W.sd0, W.sd1, W.c0, W.c1, W.gl, W.sl⟩
      have bt2 : But w g H (upd (upd H e (.lst [])) g (.lst ((x / many :: r).map V.int))) := fun b o h1 h2 hb => by
        rw [upd_ne h2]
        exact s1 _ _ hb
      have md := mod_bnd (a := x) (b := many) (by omega)
      -- if number < many
      refine ⟨_, rfl, _, rfl, x, many, rfl, rfl, _, rfl, ite2 (fun _ => ?_) fun _ => ?_⟩
      · refine ⟨_, rfl, w, _, 0, .ref g, rfl, rfl, sqL wl2.hw, atI_nat (j := 0) rfl, .inl ⟨rfl, _, sqL wl2.hg⟩, g, _, 0, 0, .int (x / many), rfl, rfl, wl2.hg, by decide, by decide, ?_, rfl, ?_⟩
        · unfold seqIndex?
          simp
        · have wl3 : WellIs (upd (upd (upd H e (.lst [])) g (.lst ((x / many :: r).map V.int))) g (.lst (r.map V.int))) w g m n r ss sd c :=
            ⟨by rw [upd_ne gw.symm]; exact wl2.hw, upd_same, by rw [upd_ne gm]; exact wl2.hm, gm, fun y hy => W.gpos y (List.mem_cons_of_mem _ hy), W.spos, W.sd0, W.sd1, W.c0, W.c1, by have := W.gl; rw [List.length_cons] at this; omega, W.sl⟩
          have bt3 : But w g H (upd (upd (upd H e (.lst [])) g (.lst ((x / many :: r).map V.int))) g (.lst (r.map V.int))) := fun b o h1 h2 hb => by
            rw [upd_ne h2]
            exact bt2 b o h1 h2 hb
          refine ⟨_, rfl, _, rfl, x, many, rfl, rfl, (by omega), ?_⟩
          exact q _ _ ⟨bt3, WellAt.mono ⟨_, _, _, _, wl3⟩ (Nat.le_succ n), bt3.tups hwell⟩ md.1 md.2
      · refine ⟨_, rfl, _, rfl, x, many, rfl, rfl, (by omega), ?_⟩
        exact q _ _ ⟨bt2, WellAt.mono ⟨_, _, _, _, wl2⟩ (Nat.le_succ n), bt2.tups hwell⟩ md.1 md.2
    | nil =>
      refine iteF ?_
      have gw := W.gw
      have mw := W.mw
      -- well[3] = well[3] + 1
      refine ⟨_, rfl, w, _, 3, .int c, rfl, rfl, sqL (s1 _ _ W.hw), atI_nat (j := 3) rfl, c, 1, rfl, rfl, _, rfl, w, _, 3, 3, rfl, rfl, s1 _ _ W.hw, (show ixN 4 3 = some 3 by decide), ?_⟩
      have es : [V.ref g, V.ref m, V.int sd, V.int c].set 3 (.int (c + 1)) = [V.ref g, V.ref m, V.int sd, V.int (c + 1)] := rfl
      rw [es]
      have wl2 : WellIs (upd (upd H e (.lst [])) w (.lst [V.ref g, V.ref m, V.int sd, V.int (c + 1)])) w g m (n + 1) [] ss sd (c + 1) :=
        ⟨upd_same, by rw [upd_ne gw]; exact s1 _ _ W.hg, by rw [upd_ne mw]; exact s1 _ _ W.hm, W.mg, W.gpos, W.spos, W.sd0, W.sd1, by have := W.c0; omega, by have := W.c1; omega, W.gl, W.sl⟩
      have bt2 : But w g H (upd (upd H e (.lst [])) w (.lst [V.ref g, V.ref m, V.int sd, V.int (c + 1)])) := fun b o h1 h2 hb => by
        rw [upd_ne h1]
        exact s1 _ _ hb
      -- if well[1] != []
      refine ⟨fun σ H' => ∃ cell : Int, 1 ≤ cell ∧ cell ≤ 2147483563 ∧ But w g H H' ∧ WellIs H' w g m (n + 1) [] ss sd (c + 1) ∧ σ = [some (.ref w), some (.int many), none, some (.int cell)], ?_, ?_⟩
      · refine ⟨_, rfl, w, _, 1, .ref m, rfl, rfl, sqL wl2.hw, atI_nat (j := 1) rfl, Nat.zero_le _, fun e2 ne2 => ?_⟩
        have s3 := same_upd (o := .lst []) ne2
        have bt3 : But w g H (upd (upd (upd H e (.lst [])) w (.lst [V.ref g, V.ref m, V.int sd, V.int (c + 1)])) e2 (.lst [])) := bt2.trans (.of s3)
        have wl3 : WellIs (upd (upd (upd H e (.lst [])) w (.lst [V.ref g, V.ref m, V.int sd, V.int (c + 1)])) e2 (.lst [])) w g m (n + 1) [] ss sd (c + 1) :=
          ⟨s3 _ _ wl2.hw, s3 _ _ wl2.hg, s3 _ _ wl2.hm, W.mg, wl2.gpos, wl2.spos, wl2.sd0, wl2.sd1, wl2.c0, wl2.c1, wl2.gl, wl2.sl⟩
        refine ⟨.list (ss.map PyData.int), .list [], .lst (sqL wl3.hm) (dpAll_ints ss), .lst (sqL upd_same) .nil, shaped_ints ss, shaped_nil, _, rfl, ?_⟩
        rw [eqv_nil, map_empty]
        cases ss with
        | nil => exact iteF ⟨1, by decide, by decide, bt3, wl3, rfl⟩
        | cons y ys =>
          refine iteT ?_
          -- cell = well[1][well[3] % len(well[1])] + 1
          have lpos : (0 : Int) < (((y :: ys).map V.int).length : Int) := by simp
          have md := mod_bnd (a := c + 1) lpos
          obtain ⟨j, ej, hj⟩ : ∃ j : Nat, (c + 1) % (((y :: ys).map V.int).length : Int) = (j : Int) ∧ j < (y :: ys).length := by
            obtain ⟨j, ej⟩ := Int.eq_ofNat_of_zero_le md.1
            refine ⟨j, ej, ?_⟩
            have := md.2
            rw [ej, List.length_map] at this
            omega
          obtain ⟨z, hz⟩ : ∃ z, (y :: ys)[j]? = some z := ⟨(y :: ys)[j], List.getElem?_eq_getElem hj⟩
          have zb := W.spos z (List.mem_of_getElem? hz)
          refine ⟨_, rfl, w, _, 1, .ref m, rfl, rfl, sqL wl3.hw, atI_nat (j := 1) rfl, _, rfl, w, _, 3, .int (c + 1), rfl, rfl, sqL wl3.hw, atI_nat (j := 3) rfl, _, rfl, w, _, 1, .ref m, rfl, rfl, sqL wl3.hw, atI_nat (j := 1) rfl, m, _, rfl, .inl (sqL wl3.hm), c + 1, _, rfl, rfl, lpos, m, _, _, .int z, rfl, rfl, sqL wl3.hm, at_of ej (by rw [List.getElem?_map, hz]; rfl), z, 1, rfl, rfl, ?_⟩
          exact ⟨z + 1, by omega, by omega, bt3, wl3, rfl⟩
      · rintro σ H' ⟨cell, h1, h2, bt, wl, rfl⟩
        have c0 := W.c0
        have c1 := W.c1
        have sd0 := W.sd0
        have sd1 := W.sd1
        -- number = (well[2] + cell * (well[3] * 3163 + 1)) ** 5 % 2147483563
        have eb : 0 ≤ sd + cell * ((c + 1) * 3163 + 1) ∧ sd + cell * ((c + 1) * 3163 + 1) < 2 ^ 62 := by
          have u1 : 0 ≤ (c + 1) * 3163 + 1 := by omega
          have u2 : (c + 1) * 3163 + 1 ≤ 316306327 := by omega
          have u3 : 0 ≤ cell * ((c + 1) * 3163 + 1) := Int.mul_nonneg (by omega) u1
          have u4 : cell * ((c + 1) * 3163 + 1) ≤ 2147483563 * 316306327 := Int.mul_le_mul h2 u2 u1 (by decide)
          have u5 : (2147483563 * 316306327 : Int) + 2147483563 < 2 ^ 62 := by decide
          omega
        refine ⟨_, rfl, w, _, 2, .int sd, rfl, rfl, sqL wl.hw, atI_nat (j := 2) rfl, _, rfl, _, rfl, w, _, 3, .int (c + 1), rfl, rfl, sqL wl.hw, atI_nat (j := 3) rfl, c + 1, 3163, rfl, rfl, .inl ⟨by omega, by omega⟩, _, 1, rfl, rfl, cell, _, rfl, rfl, .inl ⟨by omega, by omega⟩, sd, _, rfl, rfl, _, 5, rfl, rfl, ⟨by decide, by decide, ?_⟩, _, 2147483563, rfl, rfl, (by show (0 : Int) < 2147483563; decide), ?_⟩
        · omega
        have nb := mod_bnd (a := (sd + cell * ((c + 1) * 3163 + 1)) ^ (5 : Int).toNat) (b := 2147483563) (by decide)
        obtain ⟨N, hN⟩ : ∃ N, (sd + cell * ((c + 1) * 3163 + 1)) ^ (5 : Int).toNat % 2147483563 = N := ⟨_, rfl⟩
        rw [hN] at nb
        -- well[2] = (well[2] * 40692 + number + well[3]) % 2147483563
        have sb := mod_bnd (a := sd * 40692 + N + (c + 1)) (b := 2147483563) (by decide)
        refine ⟨_, rfl, w, _, 2, .int sd, rfl, rfl, sqL wl.hw, atI_nat (j := 2) rfl, sd, 40692, rfl, rfl, .inl ⟨by omega, by omega⟩, _, rfl, _, N, rfl, congrArg V.int hN, _, rfl, w, _, 3, .int (c + 1), rfl, rfl, sqL wl.hw, atI_nat (j := 3) rfl, _, c + 1, rfl, rfl, _, 2147483563, rfl, rfl, (by show (0 : Int) < 2147483563; decide), _, rfl, w, _, 2, 2, rfl, rfl, wl.hw, (show ixN 4 2 = some 2 by decide), ?_⟩
        have bt4 : But w g H (upd H' w (.lst ([V.ref g, V.ref m, V.int sd, V.int (c + 1)].set 2 (.int ((sd * 40692 + N + (c + 1)) % 2147483563))))) := fun b o h1 h2 hb => by
          rw [upd_ne h1]
          exact bt b o h1 h2 hb
        have wl4 : WellIs (upd H' w (.lst ([V.ref g, V.ref m, V.int sd, V.int (c + 1)].set 2 (.int ((sd * 40692 + N + (c + 1)) % 2147483563))))) w g m (n + 1) [] ss ((sd * 40692 + N + (c + 1)) % 2147483563) (c + 1) :=
          ⟨upd_same, by rw [upd_ne gw]; exact wl.hg, by rw [upd_ne mw]; exact wl.hm, W.mg, wl.gpos, wl.spos, sb.1, sb.2, wl.c0, wl.c1, wl.gl, wl.sl⟩
        -- return number // 8 % many
        have md := mod_bnd (a := N / 8) (b := many) (by omega)
        refine ⟨_, rfl, N, 8, congrArg V.int hN, rfl, ⟨by decide, by decide⟩, _, rfl, _, many, rfl, rfl, (by omega), ?_⟩
        exact q _ _ ⟨bt4, ⟨_, _, _, _, wl4⟩, bt4.tups hwell⟩ md.1 md.2
end
end Cut
namespace Cut
open PySem PySem.Spec PyProof.Rows L2
def cutL {α : Type} (xs : List α) (lo hi : Option Int) : List α := (xs.drop (HT.sIx xs.length 0 lo)).take (HT.sIx xs.length xs.length hi - HT.sIx xs.length 0 lo)
theorem cutV_eq (xs : List V) (lo hi : Option Int) : cutV xs lo hi = cutL xs lo hi := rfl
theorem cutL_map {α β : Type} (f : α → β) (xs : List α) (lo hi : Option Int) : cutL (xs.map f) lo hi = (cutL xs lo hi).map f := by
  unfold cutL
  rw [List.length_map, ← List.map_drop, ← List.map_take]
theorem cutL_len {α : Type} (xs : List α) (lo hi : Option Int) : (cutL xs lo hi).length ≤ xs.length := by
  unfold cutL
  rw [List.length_take, List.length_drop]
  omega
theorem cutL_pre {α : Type} (xs : List α) (k : Nat) : cutL xs none (some (k : Int)) = xs.take k := by
  unfold cutL
  rw [HT.sIx_none, HT.sIx_nat, List.drop_zero, Nat.sub_zero]
  by_cases h : k ≤ xs.length
  · rw [Nat.min_eq_left h]
  · rw [Nat.min_eq_right (by omega), List.take_of_length_le (Nat.le_refl _), List.take_of_length_le (by omega)]
theorem cutL_suf {α : Type} (xs : List α) (k : Nat) : cutL xs (some (k : Int)) none = xs.drop k := by
  unfold cutL
  rw [HT.sIx_none, HT.sIx_nat]
  by_cases h : k ≤ xs.length
  · rw [Nat.min_eq_left h]
    exact List.take_of_length_le (by rw [List.length_drop]; omega)
  · rw [Nat.min_eq_right (by omega), Nat.sub_self, List.take_zero, List.drop_eq_nil_of_le (by omega)]
abbrev s_law_fields : Stmt := topS 30
abbrev N_law_fields : List Str := ["well", "many", "letters", "found", "k", "pick", "first", "letter", "at", "word"]
abbrev P_law_fields : List Str := ["well", "many"]
theorem sc_law_fields : FnScope ["well", "many", "letters", "found", "k", "pick", "first", "letter", "at", "word"] ["well", "many"] (defScope s_law_fields) := ⟨rfl, rfl, rfl, by decide +kernel, rfl, by decide +kernel, by decide +kernel⟩
section
variable {P : Program} {w : World} {K : PySem.W.Frag} {mg : Str → Option Value} {base : Heap}
/-! ### _law_well -/
def spWell (K : PySem.W.Frag) : Sp := fun vs H Q _ => ∃ (a : Addr) (ns : List Int), vs = [.ref a] ∧ SqL K H a (ns.map V.int) ∧ ns.length ≤ 63 ∧
  ∀ (H' : Hp) (w g m : Addr), Same H H' → WellAt H' w g m 0 → Q (.ref w) H'
theorem ok_law_well (D : Def K mg "_law_well" s_law_well) (T : Tx mg) : Callee P w K mg base "_law_well" P_law_well 1 (spWell K) := by
  refine D.callee sc_law_well (fun _ _ _ _ _ _ us hl => match us, hl with | [_], _ => rfl) (fun vs H Q E h => ?_) (fun fa cdv A outer s H vs Q E hr h => ?_)
  · obtain ⟨a, ns, rfl, _⟩ := h
    rfl
  · obtain ⟨a, ns, rfl, hS, h63, q⟩ := h
    refine ⟨_, (pss_cons (ps_setLc (i := 1) (own := [("cell", 5)]) (g := gName 5) rfl sc_law_well.nd rfl rfl (sw_true rfl rfl rfl (by decide +kernel)) (pi_list (pe_slice sl_list (pv 0) po_none (po_some pe_int))) (blkOk_by (N := N_law_well) (sc := defScope s_law_well) (by decide +kernel)) (fun _ _ _ _ _ => pg_name (i := 5) sc_law_well.nd rfl (Or.inl rfl)) (fun _ _ _ _ _ => (pts_one (pt_cmpR op_ge (pe_callB call_abs (by rfl) T.f_abs (by decide +kernel) (pa_cons (pv 5) pa_nil)) (pe_op op_pow pe_int pe_int) (nomark _)))) (fun _ _ _ _ _ => (pe_op op_mod (pe_callB call_abs (by rfl) T.f_abs (by decide +kernel) (pa_cons (pv 5) pa_nil)) (pe_op op_mulW (pe_op op_pow pe_int pe_int) (pe_op op_pow pe_int pe_int)))))
      (pss_cons (ps_setLc (i := 2) (own := [("cell", 5)]) (g := gName 5) rfl sc_law_well.nd rfl rfl (sw_true rfl rfl rfl (by decide +kernel)) (pi_list (pe_slice sl_list (pv 0) po_none (po_some pe_int))) (blkOk_by (N := N_law_well) (sc := defScope s_law_well) (by decide +kernel)) (fun _ _ _ _ _ => pg_name (i := 5) sc_law_well.nd rfl (Or.inl rfl)) (fun _ _ _ _ _ => (pts_one (pt_cmpR op_lt (pe_callB call_abs (by rfl) T.f_abs (by decide +kernel) (pa_cons (pv 5) pa_nil)) (pe_op op_pow pe_int pe_int) (nomark _)))) (fun _ _ _ _ _ => (pe_op op_mod (pv 5) pe_int)))
      (pss_cons (ps_set (i := 3) sc_law_well.nd rfl (Or.inl rfl) (pe_op op_add pe_int (pe_callB call_len_seq (by rfl) T.f_len (by decide +kernel) (pa_cons (pv 2) pa_nil))))
      (pss_cons (ps_for PassesOwn.never rfl (pi_list (pv 2)) (pg_name (i := 4) sc_law_well.nd rfl (Or.inl rfl)) (pss_one (ps_set (i := 3) sc_law_well.nd rfl (Or.inl rfl) (pe_op op_mod (pe_op op_add (pe_op op_add (pe_op op_mul (pv 3) pe_int) (pe_op op_mul (pv 4) pe_int)) pe_int) pe_int))))
      (pss_one (ps_ret (pe_lst (pa_cons (pv 1) (pa_cons (pv 2) (pa_cons (pv 3) (pa_cons pe_int pa_nil))))))))))), ?_⟩
    have M0 : (0 : Int) < 10 ^ (60 : Int).toNat * 10 ^ (60 : Int).toNat := by decide +kernel
    have Mw : CMulW (10 ^ (60 : Int).toNat) (10 ^ (60 : Int).toNat) := by unfold CMulW; decide +kernel
    -- great
    refine ⟨_, rfl, 63, rfl, a, ns.map V.int, rfl, hS, fun c nc => ⟨c, rfl, ⟨_, sqL upd_same⟩, fun D1 nD1 => ?_⟩⟩
    have hcl := cutL_len ns none (some 63)
    refine lc_par (K := K) (a := c) (xs := cutV (ns.map V.int) none (some 63)) (ms := cutL ns none (some 63)) (fun z : Int => decide (10 ^ (18 : Int).toNat ≤ (if z < 0 then -z else z))) (fun _ z => .int ((if z < 0 then -z else z) % (10 ^ (60 : Int).toNat * 10 ^ (60 : Int).toNat)))
      (by rw [cutV_eq, cutL_map, List.length_map]) (by rw [cutV_eq, cutL_map, List.length_map]; omega) (sqL upd_same) nD1 (fun _ => rfl) (fun i x z H3 hx hz s4 R hR => ?_) (fun i x z H3 hx hz hf s4 R hR => ?_) (fun H1 s1 hD1 => ?_)
    · rw [cutV_eq, cutL_map] at hx
      obtain rfl := ints_at hx hz
      exact ⟨_, rfl, z, rfl, 10, 18, rfl, rfl, ⟨by decide, by decide, by decide⟩, _, _, rfl, rfl, _, rfl, hR H3 (Same.refl _)⟩
    · rw [cutV_eq, cutL_map] at hx
      obtain rfl := ints_at hx hz
      exact ⟨_, rfl, z, rfl, 10, 60, rfl, rfl, ⟨by decide, by decide, by decide⟩, 10, 60, rfl, rfl, ⟨by decide, by decide, by decide⟩, _, _, rfl, rfl, Mw, _, _, rfl, rfl, M0, hR H3 (Same.refl _)⟩
    rw [par_snd (fun z : Int => decide (10 ^ (18 : Int).toNat ≤ (if z < 0 then -z else z))) (fun z : Int => V.int ((if z < 0 then -z else z) % (10 ^ (60 : Int).toNat * 10 ^ (60 : Int).toNat))) (by rw [cutV_eq, cutL_map, List.length_map])] at hD1
    obtain ⟨gs, egs⟩ : ∃ gs, ((cutL ns none (some 63)).filter fun z : Int => decide (10 ^ (18 : Int).toNat ≤ (if z < 0 then -z else z))).map (fun z : Int => (if z < 0 then -z else z) % (10 ^ (60 : Int).toNat * 10 ^ (60 : Int).toNat)) = gs := ⟨_, rfl⟩
    have eD1 : H1 D1 = some (.lst (gs.map V.int)) := by
      rw [hD1, ← egs, List.map_map] <;> rfl
    have gpos : ∀ x ∈ gs, 0 ≤ x := fun x hx => by
      rw [← egs] at hx
      obtain ⟨z, _, rfl⟩ := List.mem_map.mp hx
      exact (mod_bnd M0).1
    have gl : gs.length ≤ 63 := by
      rw [← egs, List.length_map]
      have := List.length_filter_le (fun z : Int => decide (10 ^ (18 : Int).toNat ≤ (if z < 0 then -z else z))) (cutL ns none (some 63))
      omega
    -- small
    have s01 : Same H H1 := (same_upd nc).trans s1
    refine ⟨_, rfl, 63, rfl, a, ns.map V.int, rfl, s01.seq hS, fun c2 nc2 => ⟨c2, rfl, ⟨_, sqL upd_same⟩, fun D2 nD2 => ?_⟩⟩
    refine lc_par (K := K) (a := c2) (xs := cutV (ns.map V.int) none (some 63)) (ms := cutL ns none (some 63)) (fun z : Int => decide ((if z < 0 then -z else z) < 10 ^ (18 : Int).toNat)) (fun _ z => .int (z % 2147483563))
      (by rw [cutV_eq, cutL_map, List.length_map]) (by rw [cutV_eq, cutL_map, List.length_map]; omega) (sqL upd_same) nD2 (fun _ => rfl) (fun i x z H3 hx hz s4 R hR => ?_) (fun i x z H3 hx hz hf s4 R hR => ?_) (fun H2 s2 hD2 => ?_)
    · rw [cutV_eq, cutL_map] at hx
      obtain rfl := ints_at hx hz
      exact ⟨_, rfl, z, rfl, 10, 18, rfl, rfl, ⟨by decide, by decide, by decide⟩, _, _, rfl, rfl, _, rfl, hR H3 (Same.refl _)⟩
    · rw [cutV_eq, cutL_map] at hx
      obtain rfl := ints_at hx hz
      exact ⟨_, rfl, z, 2147483563, rfl, rfl, (by show (0 : Int) < 2147483563; decide), hR H3 (Same.refl _)⟩
    rw [par_snd (fun z : Int => decide ((if z < 0 then -z else z) < 10 ^ (18 : Int).toNat)) (fun z : Int => V.int (z % 2147483563)) (by rw [cutV_eq, cutL_map, List.length_map])] at hD2
    obtain ⟨ss, ess⟩ : ∃ ss, ((cutL ns none (some 63)).filter fun z : Int => decide ((if z < 0 then -z else z) < 10 ^ (18 : Int).toNat)).map (fun z : Int => z % 2147483563) = ss := ⟨_, rfl⟩
    have eD2 : H2 D2 = some (.lst (ss.map V.int)) := by
      rw [hD2, ← ess, List.map_map] <;> rfl
    have spos : ∀ x ∈ ss, 0 ≤ x ∧ x < 2147483563 := fun x hx => by
      rw [← ess] at hx
      obtain ⟨z, _, rfl⟩ := List.mem_map.mp hx
      exact mod_bnd (by decide)
    have sl : ss.length ≤ 63 := by
      rw [← ess, List.length_map]
      have := List.length_filter_le (fun z : Int => decide ((if z < 0 then -z else z) < 10 ^ (18 : Int).toNat)) (cutL ns none (some 63))
      omega
    have s12 : Same H1 H2 := (same_upd nc2).trans s2
    have n12 : D2 ≠ D1 := fun e => by
      rw [e] at nD2
      rw [(same_upd nc2) _ _ eD1] at nD2
      cases nD2
    -- seed = 7 + len(small); for number in small
    refine ⟨_, rfl, D2, _, rfl, .inl (sqL eD2), 7, _, rfl, rfl, ?_⟩
    refine ⟨_, rfl, D2, rfl, ⟨_, sqL eD2⟩, for_list (K := K) (a := D2) (xs := ss.map V.int) (fun i σ H3 => H3 = H2 ∧ ∃ (sd : Int) (v : Option V), σ = [some (.ref a), some (.ref D1), some (.ref D2), some (.int sd), v, none] ∧ 0 ≤ sd ∧ sd < 2147483563)
      ⟨rfl, _, none, rfl, by omega, by rw [List.length_map]; omega⟩ (fun i σ H3 _ ⟨e, _⟩ => by rw [e]; exact sqL eD2) ?_ ?_⟩
    · rintro i x σ H3 hx ⟨rfl, sd, v, rfl, h0, h1⟩
      obtain ⟨z, hz⟩ : ∃ z, ss[i]? = some z := by
        rw [List.getElem?_map] at hx
        cases e : ss[i]? with
        | none => rw [e] at hx; cases hx
        | some z => exact ⟨z, rfl⟩
      obtain rfl := ints_at hx hz
      have zb := spos z (List.mem_of_getElem? hz)
      have mb := mod_bnd (a := sd * 40014 + z * 3 + 1) (b := 2147483563) (by decide)
      exact ⟨_, rfl, sd, 40014, rfl, rfl, .inl ⟨by omega, by omega⟩, _, rfl, z, 3, rfl, rfl, .inl ⟨by omega, by omega⟩, _, _, rfl, rfl, _, 1, rfl, rfl, _, 2147483563, rfl, rfl, (by show (0 : Int) < 2147483563; decide), rfl, _, _, rfl, mb.1, mb.2⟩
    · rintro σ H3 ⟨rfl, sd, v, rfl, h0, h1⟩
      refine ⟨_, rfl, _, rfl, _, rfl, small100 (show 4 ≤ 100000 by decide), fun w nw => ?_⟩
      have sw := same_upd (o := .lst [V.ref D1, V.ref D2, V.int sd, V.int 0]) nw
      exact q _ w D1 D2 ((s01.trans s12).trans sw) ⟨gs, ss, sd, 0, upd_same, sw _ _ (s12 _ _ eD1), sw _ _ eD2, n12, gpos, spos, h0, h1, by decide, by decide, gl, sl⟩
/-! ### _law_name -/
theorem join_signs (cs : List Nat) : Txt.join (Str.ofString "") (cs.map fun c => (⟨#[c]⟩ : Str)) = ⟨cs.toArray⟩ := by
  have h1 : (Str.ofString "") = SX.S [] := by decide +kernel
  have h2 : (cs.map fun c => (⟨#[c]⟩ : Str)) = (cs.map fun c => [c]).map SX.S := by
    rw [List.map_map] <;> rfl
  rw [h1, h2, SX.join_S]
  have h3 : ∀ l : List Nat, TL.joinL [] (l.map fun c => [c]) = l := by
    intro l
    induction l with
    | nil => rfl
    | cons x l ih =>
      cases l with
      | nil => rfl
      | cons y l =>
        show [x] ++ ([] ++ TL.joinL [] ((y :: l).map fun c => [c])) = x :: y :: l
        rw [ih] <;> rfl
  rw [h3] <;> rfl
theorem letter_at {r : Int} (h0 : 0 ≤ r) (h1 : r < 26) : ∃ c : Nat, atI (Str.ofString "abcdefghijklmnopqrstuvwxyz").cps.toList r = some c ∧ 97 ≤ c ∧ c ≤ 122 := by
  have h : ∀ k : Fin 26, atI (Str.ofString "abcdefghijklmnopqrstuvwxyz").cps.toList (k.val : Int) = some (97 + k.val) := by decide +kernel
  obtain ⟨j, rfl⟩ := Int.eq_ofNat_of_zero_le h0
  have hj : j < 26 := by omega
  exact ⟨97 + j, h ⟨j, hj⟩, by omega, by omega⟩
def spName : Sp := fun vs H Q _ => ∃ (w g m : Addr) (n : Nat) (most : Int), vs = [.ref w, .int most] ∧ WellAt H w g m n ∧ n ≤ 90000 ∧ 1 ≤ most ∧ most ≤ 8 ∧
  ∀ (H' : Hp) (z : Str), Run w g m H H' (n + 10) → FieldOk z → Q (.str z) H'
theorem ok_law_name (D : Def K mg "_law_name" s_law_name) (T : Tx mg) (c_law_take : Callee P w K mg base "_law_take" P_law_take 1 spTake) : Callee P w K mg base "_law_name" P_law_name 2 spName := by
  refine D.callee sc_law_name (fun _ _ _ _ _ _ us hl => match us, hl with | [_, _], _ => rfl) (fun vs H Q E h => ?_) (fun fa cdv A outer s H vs Q E hr h => ?_)
  · obtain ⟨w, g, m, n, most, rfl, _⟩ := h
    rfl
  · obtain ⟨w, g, m, n, most, rfl, hw, hn, h1, h2, q⟩ := h
    refine ⟨_, (pss_cons (ps_set (i := 2) sc_law_name.nd rfl (Or.inr rfl) pe_str)
      (pss_one (ps_ret (pe_join pe_str (pe_lc (own := [("k", 3)]) (g := gName 3) (tt := tYes) rfl sc_law_name.nd (pi_range1 rfl T.f_range (pa_cons (pe_op op_add pe_int (pc c_law_take (hr.mono (by first | decide | omega)) (pa_cons (pv 0) (pa_cons (pv 1) pa_nil)))) pa_nil)) (blkOk_by (N := N_law_name) (sc := defScope s_law_name) (by decide +kernel)) (fun _ _ _ _ _ => pg_name (i := 3) sc_law_name.nd rfl (Or.inl rfl)) (fun _ _ _ _ _ => pts_nil) (fun _ _ _ _ _ => (pe_ix ix_str (pv 2) (pc c_law_take (hr.mono (by first | decide | omega)) (pa_cons (pv 0) (pa_cons pe_int pa_nil))) (fun _ _ => rfl)))))))), ?_⟩
    refine ⟨⟨_, rfl⟩, _, rfl, _, rfl, w, g, m, n, most, rfl, hw, by omega, h1, by omega, fun H1 r r1 r0 rm => ?_⟩
    refine ⟨1, r, rfl, rfl, _, rfl, by omega, by omega, fun D1 nD1 => ?_⟩
    have nD0 := r1.free hw nD1
    refine lc_range (lo := 0) (n := (1 + r).toNat) (fun i H2 => Run w g m H H2 (n + 1 + i) ∧ ∃ cs : List Nat, H2 D1 = some (.lst ((cs.map fun c => (⟨#[c]⟩ : Str)).map V.str)) ∧ cs.length = i ∧ ∀ c ∈ cs, 97 ≤ c ∧ c ≤ 122)
      ⟨r1.same (same_upd nD1), [], upd_same, rfl, fun c hc => by cases hc⟩ (fun i H2 hi p => ⟨rfl, yes_go ?_⟩) (fun H2 p => ?_)
    · obtain ⟨r2, cs, hD, hcl, hcs⟩ := p
      refine ⟨_, rfl, _, rfl, w, g, m, n + 1 + i, 26, rfl, r2.well, by omega, by decide, by decide, fun H3 z r3 z0 z1 => ?_⟩
      obtain ⟨c, hc, c1, c2⟩ := letter_at z0 z1
      refine ⟨_, z, c, rfl, rfl, small100 (by decide +kernel), hc, ?_⟩
      have off := hw.off nD0
      have hD3 := r3.keep off hD
      refine ⟨_, hD3, lt100 (by rw [List.length_map, List.length_map]; omega), (r2.trans r3).mut hw nD0 hD3, cs ++ [c], ?_, by rw [List.length_append, hcl]; rfl, fun x hx => ?_⟩
      · rw [upd_same, List.map_append, List.map_append] <;> rfl
      · rcases List.mem_append.mp hx with h | h
        · exact hcs x h
        · obtain rfl := List.mem_singleton.mp h
          exact ⟨c1, c2⟩
    · obtain ⟨r2, cs, hD, hcl, hcs⟩ := p
      refine ⟨_, D1, _, rfl, rfl, .inl (sqL hD), ?_, ?_⟩
      · have e1 : ((cs.map fun c => (⟨#[c]⟩ : Str)).map (·.length)).sum = cs.length := by
          have : ∀ l : List Nat, ((l.map fun c => (⟨#[c]⟩ : Str)).map (·.length)).sum = l.length := by
            intro l
            induction l with
            | nil => rfl
            | cons x l ih =>
              rw [List.map_cons, List.map_cons, List.sum_cons, ih, List.length_cons]
              show 1 + l.length = l.length + 1
              omega
          exact this cs
        have e2 : (Str.ofString "").length = 0 := by decide +kernel
        rw [e1, e2, Nat.mul_zero, Nat.add_zero]
        omega
      · rw [join_signs]
        refine q H2 _ (r2.mono (by omega)) ⟨?_, ?_, fun c hc => hcs c (by simpa using hc)⟩
        · show 1 ≤ cs.toArray.size
          rw [List.size_toArray]
          omega
        · show cs.toArray.size ≤ 8
          rw [List.size_toArray]
          omega
end
end Cut
namespace Cut
open PySem PySem.Spec PyProof.Rows L2
theorem Lt.tri {x y : Str} (h : ¬ Lt y x) (hn : x ≠ y) : Lt x y := by
  have h2 : x.cps.toList ≤ y.cps.toList := List.not_lt.mp h
  rcases List.le_iff_lt_or_eq.mp h2 with h3 | h3
  · exact h3
  · exact absurd (congrArg Str.mk (Array.toList_inj.mp h3)) hn
theorem rising_pw : ∀ (p : Str) (l : List Str), risingS p l = true → (p :: l).Nodup → (p :: l).Pairwise Lt
  | p, [], _, _ => by simp
  | p, x :: l, h, nd => by
    unfold risingS at h
    obtain ⟨h1, h2⟩ := Bool.and_eq_true_iff.mp h
    obtain ⟨n1, n2⟩ := List.nodup_cons.mp nd
    have ih := rising_pw x l h2 n2
    have hpx : Lt p x := by
      refine Lt.tri (fun z => ?_) fun e => n1 (by rw [e]; exact List.mem_cons_self)
      rw [ltCps_eq, decide_eq_true (show x.cps.toList < p.cps.toList from z)] at h1
      cases h1
    refine List.pairwise_cons.mpr ⟨fun y hy => ?_, ih⟩
    rcases List.mem_cons.mp hy with e | hy
    · rw [e]; exact hpx
    · exact hpx.trans ((List.pairwise_cons.mp ih).1 y hy)
theorem sorted_pw {l : List Str} (h : sortedS l = true) (nd : l.Nodup) : l.Pairwise Lt := by
  cases l with
  | nil => exact .nil
  | cons x l => exact rising_pw x l h nd
def Small (z : Str) : Prop := ∀ c ∈ z.cps.toList, 97 ≤ c ∧ c ≤ 122
theorem Small.app {x y : Str} (a : Small x) (b : Small y) : Small (x ++ y) := fun c hc => by
  have e : (x ++ y).cps.toList = x.cps.toList ++ y.cps.toList := Array.toList_append
  rw [e] at hc
  rcases List.mem_append.mp hc with h | h
  · exact a c h
  · exact b c h
theorem len_app (x y : Str) : (x ++ y).length = x.length + y.length := Array.size_append
theorem cutS_list (z : Str) (lo hi : Option Int) : (cutS z lo hi).cps.toList = cutL z.cps.toList lo hi := by
  unfold cutS cutL
  have e : z.cps.toList.length = z.length := Array.length_toList
  rw [e] <;> simp
theorem Small.cut {z : Str} (a : Small z) (lo hi : Option Int) : Small (cutS z lo hi) := fun c hc => by
  rw [cutS_list] at hc
  exact a c (List.mem_of_mem_drop (List.mem_of_mem_take hc))
theorem cut_len (z : Str) (lo hi : Option Int) : (cutS z lo hi).length ≤ z.length := by
  have e1 : (cutS z lo hi).cps.toList.length = (cutS z lo hi).length := Array.length_toList
  have e2 : z.cps.toList.length = z.length := Array.length_toList
  rw [← e1, ← e2, cutS_list]
  exact cutL_len _ _ _
theorem field_cut {z : Str} (h1 : 1 ≤ z.length) (a : Small z) : FieldOk (cutS z none (some 8)) := by
  have e1 : (cutS z none (some 8)).cps.toList.length = (cutS z none (some 8)).length := Array.length_toList
  have e2 : z.cps.toList.length = z.length := Array.length_toList
  have e3 : cutL z.cps.toList none (some (8 : Int)) = z.cps.toList.take 8 := cutL_pre _ 8
  rw [cutS_list, e3, List.length_take, e2] at e1
  exact ⟨by omega, by omega, a.cut _ _⟩
theorem FieldOk.sm {z : Str} (h : FieldOk z) : Small z := h.small
theorem small_one {c : Nat} (h1 : 97 ≤ c) (h2 : c ≤ 122) : Small ⟨#[c]⟩ := fun x hx => by
  have : x = c := by simpa using hx
  rw [this]
  exact ⟨h1, h2⟩
theorem at_mem {α : Type} {xs : List α} {i : Int} (h0 : 0 ≤ i) (h1 : i < xs.length) : ∃ v, atI xs i = some v ∧ v ∈ xs ∧ xs[i.toNat]? = some v := by
  obtain ⟨j, rfl⟩ := Int.eq_ofNat_of_zero_le h0
  have hj : j < xs.length := by omega
  exact ⟨xs[j], atI_nat (List.getElem?_eq_getElem hj), List.getElem_mem hj, by rw [Int.toNat_natCast]; exact List.getElem?_eq_getElem hj⟩
section
variable {P : Program} {w : World} {K : PySem.W.Frag} {mg : Str → Option Value} {base : Heap}
/-! ### _law_fields -/
def spFlds : Sp := fun vs H Q _ => ∃ (w g m : Addr) (n : Nat), vs = [.ref w, .int 3] ∧ WellAt H w g m n ∧ n ≤ 80000 ∧
  ∀ (H' : Hp) (p : Addr) (zs : List Str), Run w g m H H' (n + 200) → H p = none → H' p = some (.lst (zs.map V.str)) → (∀ z ∈ zs, FieldOk z) → zs.Pairwise Lt → 1 ≤ zs.length → zs.length ≤ 3 → Q (.ref p) H'
theorem ok_law_fields (D : Def K mg "_law_fields" s_law_fields) (T : Tx mg) (c_law_take : Callee P w K mg base "_law_take" P_law_take 1 spTake) (c_law_name : Callee P w K mg base "_law_name" P_law_name 2 spName) : Callee P w K mg base "_law_fields" P_law_fields 3 spFlds := by
  refine D.callee sc_law_fields (fun _ _ _ _ _ _ us hl => match us, hl with | [_, _], _ => rfl) (fun vs H Q E h => ?_) (fun fa cdv A outer s H vs Q E hr h => ?_)
  · obtain ⟨w, g, m, n, rfl, _⟩ := h
    rfl
  · obtain ⟨w, g, m, n, rfl, hw, hn, q⟩ := h
    refine ⟨_, (pss_cons (ps_set (i := 2) sc_law_fields.nd rfl (Or.inl rfl) pe_str)
      (pss_cons (ps_set (i := 3) sc_law_fields.nd rfl (Or.inl rfl) (pe_lst (pa_cons (pc c_law_name (hr.mono (by first | decide | omega)) (pa_cons (pv 0) (pa_cons pe_int pa_nil))) pa_nil)))
      (pss_cons (ps_for PassesOwn.never rfl (pi_range1 rfl T.f_range (pa_cons (pc c_law_take (hr.mono (by first | decide | omega)) (pa_cons (pv 0) (pa_cons (pv 1) pa_nil))) pa_nil)) (pg_name (i := 4) sc_law_fields.nd rfl (Or.inl rfl)) (pss_cons (ps_set (i := 5) sc_law_fields.nd rfl (Or.inl rfl) (pc c_law_take (hr.mono (by first | decide | omega)) (pa_cons (pv 0) (pa_cons pe_int pa_nil))))
      (pss_cons (ps_set (i := 6) sc_law_fields.nd rfl (Or.inl rfl) (pe_ix ix_list (pv 3) (pc c_law_take (hr.mono (by first | decide | omega)) (pa_cons (pv 0) (pa_cons (pe_callB call_len_seq (by rfl) T.f_len (by decide +kernel) (pa_cons (pv 3) pa_nil)) pa_nil))) (fun _ _ => rfl)))
      (pss_cons (ps_set (i := 7) sc_law_fields.nd rfl (Or.inl rfl) (pe_ix ix_str (pv 2) (pc c_law_take (hr.mono (by first | decide | omega)) (pa_cons (pv 0) (pa_cons pe_int pa_nil))) (fun _ _ => rfl)))
      (pss_cons (ps_set (i := 8) sc_law_fields.nd rfl (Or.inl rfl) (pc c_law_take (hr.mono (by first | decide | omega)) (pa_cons (pv 0) (pa_cons (pe_callB call_len_str (by rfl) T.f_len (by decide +kernel) (pa_cons (pv 6) pa_nil)) pa_nil))))
      (pss_cons (ps_set (i := 9) sc_law_fields.nd rfl (Or.inl rfl) (pe_slice sl_str (pe_ix ix_list (pe_lst (pa_cons (pe_op op_add_str (pv 7) (pv 6)) (pa_cons (pe_op op_add_str (pv 6) (pv 7)) (pa_cons (pe_op op_add_str (pe_op op_add_str (pe_slice sl_str (pv 6) po_none (po_some (pv 8))) (pv 7)) (pe_slice sl_str (pv 6) (po_some (pe_op op_add (pv 8) pe_int)) po_none)) (pa_cons (pv 7) pa_nil))))) (pv 5) (fun _ _ => rfl)) po_none (po_some pe_int)))
      (Evl.pss_cut (ps_if (pt_cmpR op_eq (pv 5) pe_int (nomark _)) (pss_one (ps_set (i := 9) sc_law_fields.nd rfl (Or.inl rfl) (pc c_law_name (hr.mono (by first | decide | omega)) (pa_cons (pv 0) (pa_cons pe_int pa_nil))))) pss_nil)
      (pss_one (ps_if (pt_cmpR op_notIn_seq (pv 9) (pv 3) (by rfl)) (pss_one (ps_expr (pe_bm PySem.F.plainAttrs_list PySem.F.slot_list_append PySem.F.type_list_append mt_append (pv 3) (pa_cons (pv 9) pa_nil)))) pss_nil)))))))))
      (pss_one (ps_ret (pe_callB cr_sortedS (by rfl) T.f_sorted (by decide +kernel) (pa_cons (pv 3) pa_nil))))))), ?_⟩
    -- letters = ..; found = [_law_name(well, 7)]
    refine ⟨_, rfl, w, g, m, n, 7, rfl, hw, by omega, by decide, by decide, fun H1 z0 r1 hz0 => ⟨small100 (show 1 ≤ 100000 by decide), fun Dl nD => ?_⟩⟩
    have nD0 := r1.free hw nD
    have off := hw.off nD0
    have sD := same_upd (o := .lst [V.str z0]) nD
    have r1' := r1.same sD
    -- for k in range(_law_take(well, many))
    refine ⟨_, rfl, _, rfl, w, g, m, n + 10, 3, rfl, r1'.well, by omega, by decide, by decide, fun H2 r r2 r0 r3 => ⟨r, rfl, by omega, by omega, ?_⟩⟩
    refine for_range (lo := 0) (n := r.toNat) (fun i σ H3 => Run w g m H H3 (n + 11 + 40 * i) ∧ ∃ (zs : List Str) (v4 v5 v6 v7 v8 v9 : Option V), σ = [some (.ref w), some (.int 3), some (.str "abcdefghijklmnopqrstuvwxyz"), some (.ref Dl), v4, v5, v6, v7, v8, v9] ∧ H3 Dl = some (.lst (zs.map V.str)) ∧ zs.Nodup ∧ (∀ z ∈ zs, FieldOk z) ∧ 1 ≤ zs.length ∧ zs.length ≤ 1 + i)
      ⟨r1'.trans r2, [z0], none, none, none, none, none, none, rfl, r2.keep off upd_same, by simp, fun z hz => by rw [List.mem_singleton.mp hz]; exact hz0, Nat.le_refl 1, Nat.le_refl 1⟩ (fun i σ H3 hi p => ?_) (fun σ H3 p => ?_)
    · obtain ⟨r3, zs, v4, v5, v6, v7, v8, v9, rfl, hD, nd, hf, l1, l2⟩ := p
      have hi2 : i ≤ 1 := by omega
      -- pick
      refine ⟨_, rfl, w, g, m, _, 4, rfl, r3.well, by omega, by decide, by decide, fun H4 pick r4 p0 p1 => ?_⟩
      have hD4 := r4.keep off hD
      -- first = found[_law_take(well, len(found))]
      refine ⟨_, rfl, _, rfl, _, rfl, Dl, _, rfl, .inl (sqL hD4), w, g, m, _, _, rfl, r4.well, by omega, by rw [List.length_map]; omega, by rw [List.length_map]; omega, fun H5 q5 r5 q50 q51 => ?_⟩
      have hD5 := r5.keep off hD4
      rw [List.length_map] at q51
      obtain ⟨first, hfa, hfm, hfg⟩ := at_mem q50 q51
      have hfa' : atI (zs.map V.str) q5 = some (.str first) := by
        obtain ⟨j, rfl⟩ := Int.eq_ofNat_of_zero_le q50
        rw [Int.toNat_natCast] at hfg
        exact atI_nat (by rw [List.getElem?_map, hfg]; rfl)
      have okf := hf first hfm
      refine ⟨Dl, _, q5, _, rfl, rfl, sqL hD5, hfa', ?_⟩
      -- letter = letters[_law_take(well, 26)]
      refine ⟨_, rfl, _, rfl, w, g, m, _, 26, rfl, r5.well, by omega, by decide, by decide, fun H6 q6 r6 q60 q61 => ?_⟩
      obtain ⟨c, hc, c1, c2⟩ := letter_at q60 q61
      refine ⟨_, q6, c, rfl, rfl, small100 (by decide +kernel), hc, ?_⟩
      -- at = _law_take(well, len(first))
      have f1 := okf.pos
      have f8 := okf.few
      refine ⟨_, rfl, _, rfl, first, rfl, small100 (by omega), w, g, m, _, _, rfl, r6.well, by omega, by omega, by omega, fun H7 q7 r7 q70 q71 => ?_⟩
      have r37 := (((r3.trans r4).trans r5).trans r6).trans r7
      have hD7 := r7.keep off (r6.keep off hD5)
      -- word = [..][pick][:8]
      have one : (⟨#[c]⟩ : Str).length = 1 := rfl
      have cl1 := cut_len first none (some q7)
      have cl2 := cut_len first (some (q7 + 1)) none
      refine ⟨_, rfl, _, rfl, _, _, rfl, rfl, small100 (by rw [one]; omega), _, rfl, _, rfl, _, _, rfl, rfl, small100 (by rw [one]; omega), _, rfl, _, rfl, q7, rfl, first, rfl, small100 (by omega), _, rfl, _, _, rfl, rfl, small100 (by rw [one]; omega), _, rfl, _, rfl, q7, 1, rfl, rfl, _, rfl, first, rfl, small100 (by omega), _, _, rfl, rfl, small100 (by rw [len_app, one]; omega), _, rfl, small100 (show 4 ≤ 100000 by decide), fun e ne => ?_⟩
      have sl : Small ⟨#[c]⟩ := small_one c1 c2
      obtain ⟨v, hat, hvm, _⟩ := at_mem (xs := [V.str ((⟨#[c]⟩ : Str) ++ first), V.str (first ++ ⟨#[c]⟩), V.str (cutS first none (some q7) ++ ⟨#[c]⟩ ++ cutS first (some (q7 + 1)) none), V.str ⟨#[c]⟩]) p0 (by show pick < 4; exact p1)
      obtain ⟨wd, rfl, w1, w2, w3⟩ : ∃ wd, v = .str wd ∧ Small wd ∧ 1 ≤ wd.length ∧ wd.length ≤ 100 := by
        rcases List.mem_cons.mp hvm with rfl | hvm
        · exact ⟨_, rfl, sl.app okf.sm, by rw [len_app, one]; omega, by rw [len_app, one]; omega⟩
        rcases List.mem_cons.mp hvm with rfl | hvm
        · exact ⟨_, rfl, okf.sm.app sl, by rw [len_app, one]; omega, by rw [len_app, one]; omega⟩
        rcases List.mem_cons.mp hvm with rfl | hvm
        · exact ⟨_, rfl, ((okf.sm.cut _ _).app sl).app (okf.sm.cut _ _), by rw [len_app, len_app, one]; omega, by rw [len_app, len_app, one]; omega⟩
        obtain rfl := List.mem_singleton.mp hvm
        exact ⟨_, rfl, sl, by rw [one]; omega, by rw [one]; omega⟩
      have se := same_upd (o := .lst [V.str ((⟨#[c]⟩ : Str) ++ first), V.str (first ++ ⟨#[c]⟩), V.str (cutS first none (some q7) ++ ⟨#[c]⟩ ++ cutS first (some (q7 + 1)) none), V.str ⟨#[c]⟩]) ne
      refine ⟨_, rfl, e, _, pick, _, rfl, rfl, sqL upd_same, hat, 8, rfl, wd, rfl, small100 (by omega), ?_⟩
      have okw := field_cut w2 w1
      have r8 := r37.same se
      have hD8 := se _ _ hD7
      -- if pick == 3: word = _law_name(well, 8)
      refine ⟨fun σ H9 => Run w g m H H9 (n + 11 + 40 * i + 20) ∧ ∃ (word : Str) (v4 v5 v6 v7 v8 : Option V), FieldOk word ∧ H9 Dl = some (.lst (zs.map V.str)) ∧ σ = [some (.ref w), some (.int 3), some (.str "abcdefghijklmnopqrstuvwxyz"), some (.ref Dl), v4, v5, v6, v7, v8, some (.str word)], ?_, ?_⟩
      · refine ⟨_, rfl, rfl, _, rfl, ite2 (fun _ => ?_) fun _ => ⟨r8.mono (by omega), _, _, _, _, _, _, okw, hD8, rfl⟩⟩
        exact ⟨_, rfl, w, g, m, _, 8, rfl, r8.well, by omega, by decide, by decide, fun H9 z r9 hz => ⟨(r8.trans r9).mono (by omega), _, _, _, _, _, _, hz, r9.keep off hD8, rfl⟩⟩
      · rintro σ H9 ⟨r9, word, u4, u5, u6, u7, u8, hword, hD9, rfl⟩
        -- if word not in found: found.append(word)
        refine ⟨_, rfl, _, rfl, Dl, _, rfl, .inl (sqL hD9), rfl, flat_strs zs, _, rfl, ite2 (fun e => ?_) fun _ => ⟨r9.mono (by omega), zs, _, _, _, _, _, _, rfl, hD9, nd, hf, l1, by omega⟩⟩
        have e' : (!inV (.str word) (zs.map V.str)) = true := e
        rw [inV_strs] at e'
        have hnot : word ∉ zs := fun z => by
          rw [decide_eq_true z] at e'
          cases e'
        refine ⟨_, rfl, .inl ⟨rfl, _, sqL hD9⟩, _, rfl, Dl, _, _, rfl, rfl, hD9, lt100 (by rw [List.length_map]; omega), ?_⟩
        refine ⟨(r9.mut hw nD0 hD9).mono (by omega), zs ++ [word], _, _, _, _, _, _, rfl, by rw [upd_same, List.map_append]; rfl, nd_snoc nd hnot, fun z hz => ?_, by rw [List.length_append]; omega, by rw [List.length_append]; show zs.length + 1 ≤ _; omega⟩
        rcases List.mem_append.mp hz with h | h
        · exact hf z h
        · rw [List.mem_singleton.mp h]
          exact hword
    · obtain ⟨r3, zs, v4, v5, v6, v7, v8, v9, rfl, hD, nd, hf, l1, l2⟩ := p
      refine ⟨_, rfl, Dl, zs, rfl, sqL hD, by omega, fun ys p perm srt np => ?_⟩
      have r4 := r3.same (same_upd (o := .lst (ys.map V.str)) np)
      refine q _ p ys (r4.mono (by omega)) (r3.free hw np) upd_same (fun z hz => hf z (perm.mem_iff.mp hz)) (sorted_pw srt (perm.nodup_iff.mpr nd)) (by rw [perm.length_eq]; exact l1) (by rw [perm.length_eq]; omega)
end
end Cut
namespace Cut
open PySem PySem.Spec PyProof.Rows L2
/-! ### tuples glued and cut -/
section
variable {K : PySem.W.Frag} {H : Hp} {Q : VK} {σ : L2.St}
theorem sl_go {a : Addr} {xs : List V} {lo hi : Option Int} (h : H a = some (.tup xs)) (q : ∀ p H2, Same H H2 → H2 p = some (.tup (cutL xs lo hi)) → Q (.ref p) H2) : rSlA K (.ref a) lo hi H Q := by
  refine ⟨a, xs, rfl, sqT h, fun e => q a H (Same.refl H) ?_, fun _ p np => q p _ (same_upd np) upd_same⟩
  have : cutL xs lo hi = xs := by
    unfold cutL
    rw [e.1, e.2, List.drop_zero, Nat.sub_zero, List.take_length]
  rw [this]
  exact h
theorem cat_go {a b : Addr} {xs ys : List V} (ha : H a = some (.tup xs)) (hb : H b = some (.tup ys)) (hl : xs.length + ys.length ≤ 100000) (q : ∀ p H2, Same H H2 → H2 p = some (.tup (xs ++ ys)) → Q (.ref p) H2) : rCatA K (.ref a) (.ref b) H Q := by
  refine ⟨a, b, xs, ys, rfl, rfl, sqT ha, sqT hb, small100 hl, fun e => q b H (Same.refl H) (by rw [e]; exact hb), fun _ e => q a H (Same.refl H) (by rw [e, List.append_nil]; exact ha), fun _ _ p np => q p _ (same_upd np) upd_same⟩
/-- wish[:at] + (part,) + wish[at + 1:] -/
theorem splice3 {a : Addr} {vs : List V} {wi : Wish} {j iw ia : Nat} {p : Part} {tm : TE} (hw : σ[iw]? = some (some (.ref a))) (ha : H a = some (.tup vs)) (hp : Paired (PartAt H) vs wi) (hi : σ[ia]? = some (some (.int (j : Int)))) (hl : wi.length ≤ 1000)
    (hm : ∀ H1, Same H H1 → ∀ R : VK, (∀ t x H2, Same H1 H2 → H2 t = some (.tup [x]) → PartAt H2 x p → R (.ref t) H2) → tm σ H1 R)
    (q : ∀ v H2, Same H H2 → WishAt H2 v (wi.take j ++ p :: wi.drop (j + 1)) → Q v H2) :
    tOp (rCatA K) (tOp (rCatA K) (tSl (rSlA K) (tVar iw) tNoPart (tPart (tVar ia))) tm) (tSl (rSlA K) (tVar iw) (tPart (tOp (rI0 fun i j => .int (i + j)) (tVar ia) (tC (.int 1)))) tNoPart) σ H Q := by
  have lv := Paired.len hp
  refine ⟨_, hw, _, hi, _, rfl, ?_⟩
  refine sl_go ha fun p1 H1 s1 h1 => ?_
  refine hm H1 s1 _ fun t x H2 s2 ht hx => ?_
  have e1 : cutL vs none (some (j : Int)) = vs.take j := cutL_pre vs j
  rw [e1] at h1
  refine cat_go (s2 _ _ h1) ht (by rw [List.length_take]; show _ + 1 ≤ _; omega) fun p2 H3 s3 h3 => ?_
  have s03 := (s1.trans s2).trans s3
  refine ⟨_, hw, _, hi, _, _, rfl, rfl, _, rfl, ?_⟩
  show rSlA K (.ref a) (some ((j : Int) + 1)) none H3 fun y H2 => rCatA K (.ref p2) y H2 Q
  refine sl_go (s03 _ _ ha) fun p3 H4 s4 h4 => ?_
  have e2 : cutL vs (some ((j : Int) + 1)) none = vs.drop (j + 1) := cutL_suf vs (j + 1)
  rw [e2] at h4
  refine cat_go (s4 _ _ h3) h4 (by rw [List.length_append, List.length_take, List.length_drop]; show _ + 1 + _ ≤ _; omega) fun p4 H5 s5 h5 => ?_
  have s05 := (s03.trans s4).trans s5
  refine q _ H5 s05 ⟨p4, _, rfl, h5, ?_⟩
  rw [List.append_assoc]
  refine Paired.app (Paired.mapP (Paired.tk j hp) fun _ _ z => PartAt.stay z (.of s05)) (.cons (hx.stay (.of ((s3.trans s4).trans s5))) (Paired.mapP (Paired.dp (j + 1) hp) fun _ _ z => PartAt.stay z (.of s05)))
/-- wish[:at] + wish[at + 1:] -/
theorem splice2 {a : Addr} {vs : List V} {wi : Wish} {j iw ia : Nat} (hw : σ[iw]? = some (some (.ref a))) (ha : H a = some (.tup vs)) (hp : Paired (PartAt H) vs wi) (hi : σ[ia]? = some (some (.int (j : Int)))) (hl : wi.length ≤ 1000)
    (q : ∀ v H2, Same H H2 → WishAt H2 v (wi.take j ++ wi.drop (j + 1)) → Q v H2) :
    tOp (rCatA K) (tSl (rSlA K) (tVar iw) tNoPart (tPart (tVar ia))) (tSl (rSlA K) (tVar iw) (tPart (tOp (rI0 fun i j => .int (i + j)) (tVar ia) (tC (.int 1)))) tNoPart) σ H Q := by
  have lv := Paired.len hp
  refine ⟨_, hw, _, hi, _, rfl, ?_⟩
  refine sl_go ha fun p1 H1 s1 h1 => ?_
  have e1 : cutL vs none (some (j : Int)) = vs.take j := cutL_pre vs j
  rw [e1] at h1
  refine ⟨_, hw, _, hi, _, _, rfl, rfl, _, rfl, ?_⟩
  show rSlA K (.ref a) (some ((j : Int) + 1)) none H1 fun y H2 => rCatA K (.ref p1) y H2 Q
  refine sl_go (s1 _ _ ha) fun p3 H4 s4 h4 => ?_
  have e2 : cutL vs (some ((j : Int) + 1)) none = vs.drop (j + 1) := cutL_suf vs (j + 1)
  rw [e2] at h4
  refine cat_go (s4 _ _ h1) h4 (by rw [List.length_take, List.length_drop]; omega) fun p4 H5 s5 h5 => ?_
  have s05 := (s1.trans s4).trans s5
  exact q _ H5 s05 ⟨p4, _, rfl, h5, Paired.app (Paired.mapP (Paired.tk j hp) fun _ _ z => PartAt.stay z (.of s05)) (Paired.mapP (Paired.dp (j + 1) hp) fun _ _ z => PartAt.stay z (.of s05))⟩
end
end Cut
namespace Cut
open PySem PySem.Spec PyProof.Rows L2
abbrev s_law_box : Stmt := topS 32
abbrev N_law_box : List Str := ["well", "names", "ends", "parts", "field", "pick", "low", "wide", "k", "high"]
abbrev P_law_box : List Str := ["well", "names", "ends"]
theorem sc_law_box : FnScope ["well", "names", "ends", "parts", "field", "pick", "low", "wide", "k", "high"] ["well", "names", "ends"] (defScope s_law_box) := ⟨rfl, rfl, rfl, by decide +kernel, rfl, by decide +kernel, by decide +kernel⟩
abbrev s_law_cut : Stmt := topS 33
abbrev N_law_cut : List Str := ["well", "wish", "at", "field", "low", "high", "number", "far", "one"]
abbrev P_law_cut : List Str := ["well", "wish"]
theorem sc_law_cut : FnScope ["well", "wish", "at", "field", "low", "high", "number", "far", "one"] ["well", "wish"] (defScope s_law_cut) := ⟨rfl, rfl, rfl, by decide +kernel, rfl, by decide +kernel, by decide +kernel⟩
abbrev s_law_cut_up : Stmt := topS 34
abbrev N_law_cut_up : List Str := ["well", "wish", "many", "found", "k", "at"]
abbrev P_law_cut_up : List Str := ["well", "wish", "many"]
theorem sc_law_cut_up : FnScope ["well", "wish", "many", "found", "k", "at"] ["well", "wish", "many"] (defScope s_law_cut_up) := ⟨rfl, rfl, rfl, by decide +kernel, rfl, by decide +kernel, by decide +kernel⟩
section
variable {P : Program} {w : World} {K : PySem.W.Frag} {mg : Str → Option Value} {base : Heap}
/-! ### _law_base -/
def spBase : Sp := fun vs H Q _ => ∃ (w g m : Addr) (n : Nat), vs = [.ref w] ∧ WellAt H w g m n ∧ n ≤ 90000 ∧
  ∀ (H' : Hp) (r : Int), Run w g m H H' (n + 6) → -999999999999000 < r → r < 999999999999000 → Q (.int r) H'
theorem ok_law_base (D : Def K mg "_law_base" s_law_base) (T : Tx mg) (c_law_take : Callee P w K mg base "_law_take" P_law_take 1 spTake) : Callee P w K mg base "_law_base" P_law_base 2 spBase := by
  refine D.callee sc_law_base (fun _ _ _ _ _ _ us hl => match us, hl with | [_], _ => rfl) (fun vs H Q E h => ?_) (fun fa cdv A outer s H vs Q E hr h => ?_)
  · obtain ⟨w, g, m, n, rfl, _⟩ := h
    rfl
  · obtain ⟨w, g, m, n, rfl, hw, hn, q⟩ := h
    refine ⟨_, (pss_cons (ps_set (i := 1) sc_law_base.nd rfl (Or.inl rfl) (pc c_law_take (hr.mono (by first | decide | omega)) (pa_cons (pv 0) (pa_cons pe_int pa_nil))))
      (pss_cons (ps_set (i := 2) sc_law_base.nd rfl (Or.inl rfl) (pe_op op_sub pe_int (pe_op op_mul pe_int (pc c_law_take (hr.mono (by first | decide | omega)) (pa_cons (pv 0) (pa_cons pe_int pa_nil))))))
      (pss_cons (ps_if (pt_cmpR op_eq (pv 1) pe_int (nomark _)) (pss_one (ps_ret pe_int)) pss_nil)
      (pss_cons (ps_set (i := 3) sc_law_base.nd rfl (Or.inl rfl) (pc c_law_take (hr.mono (by first | decide | omega)) (pa_cons (pv 0) (pa_cons pe_int pa_nil))))
      (Evl.pss_cut (ps_if (pt_cmpR op_eq (pv 1) pe_int (nomark _)) (pss_one (ps_set (i := 3) sc_law_base.nd rfl (Or.inl rfl) (pe_op op_add (pe_op op_mul (pe_op op_add (pe_op op_mul (pv 3) pe_int) (pc c_law_take (hr.mono (by first | decide | omega)) (pa_cons (pv 0) (pa_cons pe_int pa_nil)))) pe_int) (pc c_law_take (hr.mono (by first | decide | omega)) (pa_cons (pv 0) (pa_cons pe_int pa_nil)))))) pss_nil)
      (pss_one (ps_ret (pe_op op_mul (pv 2) (pe_op op_mod (pv 3) (pe_op op_sub (pe_op op_pow pe_int pe_int) pe_int)))))))))), ?_⟩
    refine ⟨_, rfl, w, g, m, n, 3, rfl, hw, by omega, by decide, by decide, fun H1 pick r1 p0 p1 => ?_⟩
    refine ⟨_, rfl, w, g, m, _, 2, rfl, r1.well, by omega, by decide, by decide, fun H2 sg r2 s0 s1 => ⟨2, sg, rfl, rfl, .inl ⟨by decide, by decide⟩, 1, _, rfl, rfl, ?_⟩⟩
    refine ⟨_, rfl, rfl, _, rfl, ite2 (fun _ => q H2 0 ((r1.trans r2).mono (by omega)) (by decide) (by decide)) fun _ => ?_⟩
    refine ⟨_, rfl, w, g, m, _, 100000, rfl, r2.well, by omega, by decide, by decide, fun H3 num r3 n0 n1 => ?_⟩
    have r13 := (r1.trans r2).trans r3
    refine ⟨fun σ H' => Run w g m H H' (n + 6) ∧ ∃ num : Int, σ = [some (.ref w), some (.int pick), some (.int (1 - 2 * sg)), some (.int num)], ?_, ?_⟩
    · refine ⟨_, rfl, rfl, _, rfl, ite2 (fun _ => ?_) fun _ => ⟨r13.mono (by omega), num, rfl⟩⟩
      refine ⟨_, rfl, num, 100000, rfl, rfl, .inr ⟨by decide, by decide⟩, _, rfl, w, g, m, _, 100000, rfl, r3.well, by omega, by decide, by decide, fun H4 a r4 a0 a1 => ⟨_, _, rfl, rfl, _, 100000, rfl, rfl, .inr ⟨by decide, by decide⟩, _, rfl, w, g, m, _, 100000, rfl, r4.well, by omega, by decide, by decide, fun H5 b r5 b0 b1 => ⟨_, _, rfl, rfl, ((r13.trans r4).trans r5).mono (by omega), _, rfl⟩⟩⟩
    · rintro σ H' ⟨r6, num, rfl⟩
      have hM : (10 : Int) ^ (15 : Int).toNat - 1000 = 999999999999000 := by decide +kernel
      have mb := mod_bnd (a := num) (b := (10 : Int) ^ (15 : Int).toNat - 1000) (by rw [hM]; decide)
      refine ⟨_, rfl, _, rfl, 10, 15, rfl, rfl, ⟨by decide, by decide, by decide⟩, _, 1000, rfl, rfl, num, _, rfl, rfl, (by show (0 : Int) < (10 : Int) ^ (15 : Int).toNat - 1000; rw [hM]; decide), _, _, rfl, rfl, .inl ⟨by omega, by omega⟩, ?_⟩
      rw [hM] at mb
      have hb : -999999999999000 < (1 - 2 * sg) * (num % 999999999999000) ∧ (1 - 2 * sg) * (num % 999999999999000) < 999999999999000 := by
        have : sg = 0 ∨ sg = 1 := by omega
        rcases this with rfl | rfl <;> omega
      have e : (1 - 2 * sg) * (num % ((10 : Int) ^ (15 : Int).toNat - 1000)) = (1 - 2 * sg) * (num % 999999999999000) := by rw [hM]
      refine q H' _ r6 ?_ ?_
      · show _ < (1 - 2 * sg) * (num % ((10 : Int) ^ (15 : Int).toNat - 1000))
        rw [e]
        exact hb.1
      · show (1 - 2 * sg) * (num % ((10 : Int) ^ (15 : Int).toNat - 1000)) < _
        rw [e]
        exact hb.2
/-! ### _law_box -/
def spBox : Sp := fun vs H Q _ => ∃ (w g m l : Addr) (n : Nat) (fs : List Str), vs = [.ref w, .ref l, .bl true] ∧ WellAt H w g m n ∧ n ≤ 80000 ∧ (l ≠ w ∧ l ≠ g ∧ l ≠ m) ∧ H l = some (.lst (fs.map V.str)) ∧ (∀ z ∈ fs, FieldOk z) ∧ fs.Pairwise Lt ∧ fs.length ≤ 3 ∧
  ∀ (H' : Hp) (v : V) (wi : Wish), Run w g m H H' (n + 200) → WishAt H' v wi → Box fs wi → Q v H'
theorem ok_law_box (D : Def K mg "_law_box" s_law_box) (T : Tx mg) (c_law_take : Callee P w K mg base "_law_take" P_law_take 1 spTake) (c_law_base : Callee P w K mg base "_law_base" P_law_base 2 spBase) : Callee P w K mg base "_law_box" P_law_box 3 spBox := by
  refine D.callee sc_law_box (fun _ _ _ _ _ _ us hl => match us, hl with | [_, _, _], _ => rfl) (fun vs H Q E h => ?_) (fun fa cdv A outer s H vs Q E hr h => ?_)
  · obtain ⟨w, g, m, l, n, fs, rfl, _⟩ := h
    rfl
  · obtain ⟨w, g, m, l, n, fs, rfl, hw, hn, lo, hl, hf, hup, h3, q⟩ := h
    refine ⟨_, (pss_cons (ps_set (i := 3) sc_law_box.nd rfl (Or.inl rfl) (pe_lst pa_nil))
      (pss_cons (ps_for PassesOwn.never rfl (pi_list (pv 1)) (pg_name (i := 4) sc_law_box.nd rfl (Or.inl rfl)) (pss_cons (ps_set (i := 5) sc_law_box.nd rfl (Or.inl rfl) (pc c_law_take (hr.mono (by first | decide | omega)) (pa_cons (pv 0) (pa_cons pe_int pa_nil))))
      (pss_cons (ps_set (i := 6) sc_law_box.nd rfl (Or.inl rfl) (pc c_law_base (hr.mono (by first | decide | omega)) (pa_cons (pv 0) pa_nil)))
      (pss_cons (ps_set (i := 7) sc_law_box.nd rfl (Or.inl rfl) (pc c_law_take (hr.mono (by first | decide | omega)) (pa_cons (pv 0) (pa_cons pe_int pa_nil))))
      (pss_cons (ps_for PassesOwn.never rfl (pi_range1 rfl T.f_range (pa_cons (pc c_law_take (hr.mono (by first | decide | omega)) (pa_cons (pv 0) (pa_cons pe_int pa_nil))) pa_nil)) (pg_name (i := 8) sc_law_box.nd rfl (Or.inl rfl)) (pss_one (ps_set (i := 7) sc_law_box.nd rfl (Or.inl rfl) (pe_op op_add (pe_op op_mul (pv 7) pe_int) (pc c_law_take (hr.mono (by first | decide | omega)) (pa_cons (pv 0) (pa_cons pe_int pa_nil)))))))
      (pss_cons (ps_set (i := 9) sc_law_box.nd rfl (Or.inl rfl) (pe_callB (call_min2 rfl) (by rfl) T.f_min (by decide +kernel) (pa_cons (pe_op op_add (pv 6) (pv 7)) (pa_cons (pe_op op_sub (pe_op op_pow pe_int pe_int) pe_int) pa_nil))))
      (Evl.pss_cut (ps_if (PW.pt (pw_and (pt_val (pv 2)) (pw_and1 (pt_cmpR op_lt (pv 5) pe_int (nomark _))))) (pss_one (ps_asg (pe_ix ix_list (pe_lst (pa_cons (pe_tup (pa_cons pe_non (pa_cons pe_non pa_nil))) (pa_cons (pe_tup (pa_cons pe_non (pa_cons (pv 9) pa_nil))) (pa_cons (pe_tup (pa_cons (pv 6) (pa_cons pe_non pa_nil))) pa_nil)))) (pv 5) (fun _ _ => rfl)) (pg_tup rfl (pgs_cons (pg_name (i := 6) sc_law_box.nd rfl (Or.inl rfl)) (pgs_cons (pg_name (i := 9) sc_law_box.nd rfl (Or.inl rfl)) pgs_nil))))) pss_nil)
      (pss_one (ps_expr (pe_bm PySem.F.plainAttrs_list PySem.F.slot_list_append PySem.F.type_list_append mt_append (pv 3) (pa_cons (pe_tup (pa_cons (pv 4) (pa_cons (pv 6) (pa_cons (pv 9) pa_nil)))) pa_nil)))))))))))
      (pss_one (ps_ret (pe_callTy call_tuple_of (by rfl) T.f_tuple (by decide +kernel) (pa_cons (pv 3) pa_nil)))))), ?_⟩
    refine ⟨Nat.zero_le _, fun Dp nD => ?_⟩
    have off := hw.off nD
    have sD := same_upd (o := .lst []) nD
    refine ⟨_, rfl, l, rfl, ⟨_, sqL (sD _ _ hl)⟩, for_list (K := K) (a := l) (xs := fs.map V.str) (fun i σ H3 => Run w g m H H3 (n + 30 * i) ∧ ∃ (vs : List V) (wi : Wish) (v4 v5 v6 v7 v8 v9 : Option V), σ = [some (.ref w), some (.ref l), some (.bl true), some (.ref Dp), v4, v5, v6, v7, v8, v9] ∧ H3 Dp = some (.lst vs) ∧ Paired (PartAt H3) vs wi ∧ wi.map (·.1) = fs.take i ∧ ∀ p ∈ wi, okSp p.2.1 p.2.2 = true)
      ⟨Run.start hw sD, [], [], none, none, none, none, none, none, rfl, upd_same, .nil, by rw [List.take_zero]; rfl, fun p hp => by cases hp⟩ (fun i σ H3 _ p => sqL (p.1.keep lo hl)) ?_ ?_⟩
    · rintro i x σ H3 hx ⟨r0, vs, wi, v4, v5, v6, v7, v8, v9, rfl, hD, hp, hfs, hok⟩
      obtain ⟨z, hz⟩ : ∃ z, fs[i]? = some z := by
        rw [List.getElem?_map] at hx
        cases e : fs[i]? with
        | none => rw [e] at hx; cases hx
        | some z => exact ⟨z, rfl⟩
      have ex : x = .str z := by
        rw [List.getElem?_map, hz] at hx
        exact (Option.some.inj hx).symm
      subst ex
      have hi : i < 3 := by
        have := (List.getElem?_eq_some_iff.mp hz).1
        omega
      have lwi : wi.length = i := by
        have := congrArg List.length hfs
        rw [List.length_map, List.length_take] at this
        have h2 := (List.getElem?_eq_some_iff.mp hz).1
        omega
      -- pick, low, wide
      refine ⟨_, rfl, w, g, m, _, 8, rfl, r0.well, by omega, by decide, by decide, fun H4 pick r4 p0 p1 => ?_⟩
      refine ⟨_, rfl, w, g, m, _, rfl, r4.well, by omega, fun H5 low r5 b0 b1 => ?_⟩
      refine ⟨_, rfl, w, g, m, _, 9, rfl, r5.well, by omega, by decide, by decide, fun H6 wide r6 w0 w1 => ?_⟩
      have r06 := ((r0.trans r4).trans r5).trans r6
      have hD6 := r6.keep off (r5.keep off (r4.keep off hD))
      have hp6 : Paired (PartAt H6) vs wi := Paired.mapP hp fun _ _ y => PartAt.stay y (((r4.trans r5).trans r6).tups)
      -- for k in range(_law_take(well, 4))
      refine ⟨_, rfl, w, g, m, _, 4, rfl, r6.well, by omega, by decide, by decide, fun H7 tk r7 t0 t1 => ⟨tk, rfl, by omega, by omega, ?_⟩⟩
      refine for_range (lo := 0) (n := tk.toNat) (fun k σ H8 => Run w g m H7 H8 (n + 30 * i + 1 + 6 + 1 + 1 + k) ∧ ∃ (wide : Int) (v8 v9 : Option V), 0 ≤ wide ∧ σ = [some (.ref w), some (.ref l), some (.bl true), some (.ref Dp), some (.str z), some (.int pick), some (.int low), some (.int wide), v8, v9])
        ⟨Run.refl r7.well, wide, v8, v9, w0, rfl⟩ (fun k σ H8 hk p => ?_) (fun σ H8 p => ?_)
      · obtain ⟨r8, wd, u8, u9, hwd, rfl⟩ := p
        exact ⟨_, rfl, wd, 100000, rfl, rfl, .inr ⟨by decide, by decide⟩, _, rfl, w, g, m, _, 100000, rfl, r8.well, by omega, by decide, by decide, fun H9 a r9 a0 a1 => ⟨_, _, rfl, rfl, r8.trans r9, _, _, _, by omega, rfl⟩⟩
      · obtain ⟨r8, wd, u8, u9, hwd, rfl⟩ := p
        have r08 := (r06.trans r7).trans r8
        have off' := off
        have hD8 := r8.keep off (r7.keep off hD6)
        have hp8 : Paired (PartAt H8) vs wi := Paired.mapP hp6 fun _ _ y => PartAt.stay y ((r7.trans r8).tups)
        -- high = min(low + wide, 10 ** 15 - 1)
        have hM : (10 : Int) ^ (15 : Int).toNat - 1 = 999999999999999 := by decide +kernel
        refine ⟨_, rfl, _, rfl, low, wd, rfl, rfl, 10, 15, rfl, rfl, ⟨by decide, by decide, by decide⟩, _, 1, rfl, rfl, _, _, rfl, ?_⟩
        obtain ⟨high, hh⟩ : ∃ high : Int, (if (10 : Int) ^ (15 : Int).toNat - 1 < low + wd then (10 : Int) ^ (15 : Int).toNat - 1 else low + wd) = high := ⟨_, rfl⟩
        have hlh : low ≤ high := by
          rw [← hh, hM]
          split <;> omega
        -- if ends and pick < 3
        refine ⟨fun σ H9 => Same H8 H9 ∧ ∃ (lo2 hi2 : Option Int) (v7 v8 : Option V), okSp lo2 hi2 = true ∧ σ = [some (.ref w), some (.ref l), some (.bl true), some (.ref Dp), some (.str z), some (.int pick), some (opt lo2), v7, v8, some (opt hi2)], ?_, ?_⟩
        · refine ⟨_, rfl, true, rfl, iteT ⟨_, rfl, pick, 3, rfl, rfl, _, rfl, ite2 (fun e => ?_) fun _ => ⟨Same.refl _, some low, some high, _, _, decide_eq_true hlh, by rw [← hh]; rfl⟩⟩⟩
          have e3 : pick < 3 := of_decide_eq_true e
          refine ⟨small100 (show 2 ≤ 100000 by decide), fun t1 nt1 => ?_⟩
          refine ⟨_, rfl, small100 (show 2 ≤ 100000 by decide), fun t2 nt2 => ?_⟩
          refine ⟨_, rfl, small100 (show 2 ≤ 100000 by decide), fun t3 nt3 => ⟨small100 (show 3 ≤ 100000 by decide), fun c nc => ?_⟩⟩
          have sA := same_upd (o := .tup [V.non, V.non]) nt1
          have sB := same_upd (o := .tup [V.non, V.int (if (10 : Int) ^ (15 : Int).toNat - 1 < low + wd then (10 : Int) ^ (15 : Int).toNat - 1 else low + wd)]) nt2
          have sC := same_upd (o := .tup [V.int low, V.non]) nt3
          have sE := same_upd (o := .lst [V.ref t1, V.ref t2, V.ref t3]) nc
          obtain ⟨v, hat, hvm, _⟩ := at_mem (xs := [V.ref t1, V.ref t2, V.ref t3]) p0 (by show pick < 3; exact e3)
          have hv : ∃ (t : Addr) (lo2 hi2 : Option Int), v = .ref t ∧ okSp lo2 hi2 = true ∧ (upd (upd (upd (upd H8 t1 (.tup [V.non, V.non])) t2 (.tup [V.non, V.int (if (10 : Int) ^ (15 : Int).toNat - 1 < low + wd then (10 : Int) ^ (15 : Int).toNat - 1 else low + wd)])) t3 (.tup [V.int low, V.non])) c (.lst [V.ref t1, V.ref t2, V.ref t3])) t = some (.tup [opt lo2, opt hi2]) := by
            rcases List.mem_cons.mp hvm with rfl | hvm
            · exact ⟨t1, none, none, rfl, rfl, sE _ _ (sC _ _ (sB _ _ upd_same))⟩
            rcases List.mem_cons.mp hvm with rfl | hvm
            · exact ⟨t2, none, some (if (10 : Int) ^ (15 : Int).toNat - 1 < low + wd then (10 : Int) ^ (15 : Int).toNat - 1 else low + wd), rfl, rfl, sE _ _ (sC _ _ upd_same)⟩
            obtain rfl := List.mem_singleton.mp hvm
            exact ⟨t3, some low, none, rfl, rfl, sE _ _ upd_same⟩
          obtain ⟨t, lo2, hi2, rfl, hok2, ht⟩ := hv
          exact ⟨_, rfl, c, _, pick, _, rfl, rfl, sqL upd_same, hat, t, _, rfl, sqT ht, rfl, opt lo2, _, rfl, opt hi2, _, rfl, rfl, (((sA.trans sB).trans sC).trans sE), lo2, hi2, _, _, hok2, rfl⟩
        · rintro σ H9 ⟨s9, lo2, hi2, u7, u8, hok2, rfl⟩
          -- parts.append((field, low, high))
          have hD9 := s9 _ _ hD8
          refine ⟨_, rfl, .inl ⟨rfl, _, sqL hD9⟩, _, rfl, _, rfl, _, rfl, small100 (show 3 ≤ 100000 by decide), fun t nt => ?_⟩
          have st := same_upd (o := .tup [V.str z, opt lo2, opt hi2]) nt
          have hD10 := st _ _ hD9
          have rt := (r08.same s9).same st
          refine ⟨Dp, vs, _, rfl, rfl, hD10, lt100 (by have := Paired.len hp; omega), ?_⟩
          refine ⟨(rt.mut hw nD hD10).mono (by omega), vs ++ [.ref t], wi ++ [(z, lo2, hi2)], _, _, _, _, _, _, rfl, upd_same, ?_, ?_, fun p hp => ?_⟩
          · have tp : Tups H8 (upd (upd H9 t (.tup [V.str z, opt lo2, opt hi2])) Dp (.lst (vs ++ [.ref t]))) := Tups.mut (Tups.of (s9.trans st)) hD10
            refine Paired.app (Paired.mapP hp8 fun _ _ y => PartAt.stay y tp) (.cons ⟨t, rfl, ?_⟩ .nil)
            have ntD : t ≠ Dp := (ne_of_none hD9 nt).symm
            rw [upd_ne ntD]
            exact upd_same
          · rw [List.map_append, hfs, take_at hz] <;> rfl
          · rcases List.mem_append.mp hp with h | h
            · exact hok p h
            · rw [List.mem_singleton.mp h]
              exact hok2
    · rintro σ H3 ⟨r0, vs, wi, v4, v5, v6, v7, v8, v9, rfl, hD, hp, hfs, hok⟩
      rw [List.length_map, List.take_length] at hfs
      refine ⟨_, rfl, Dp, vs, rfl, .inl ⟨sqL hD, fun t nt => ?_⟩⟩
      have st := same_upd (o := .tup vs) nt
      rw [List.length_map] at r0
      refine q _ _ wi ((r0.same st).mono (by omega)) ⟨t, vs, rfl, upd_same, Paired.mapP hp fun _ _ y => PartAt.stay y (.of st)⟩ ⟨hfs, fun p hp => ⟨?_, hok p hp⟩, ?_⟩
      · refine hf p.1 ?_
        rw [← hfs]
        exact List.mem_map.mpr ⟨p, hp, rfl⟩
      · have h2 := hup
        rw [← hfs, List.pairwise_map] at h2
        exact h2
end
end Cut
namespace Cut
open PySem PySem.Spec PyProof.Rows L2
section
variable {P : Program} {w : World} {K : PySem.W.Frag} {mg : Str → Option Value} {base : Heap}
/-! ### _law_cut -/
def spCut : Sp := fun vs H Q _ => ∃ (w g m : Addr) (n : Nat) (v : V) (wi : Wish) (fs : List Str), vs = [.ref w, v] ∧ WellAt H w g m n ∧ n ≤ 85000 ∧ WishAt H v wi ∧ Box fs wi ∧ 1 ≤ wi.length ∧ wi.length ≤ 3 ∧
  ∀ (H' : Hp) (p : Addr) (ys : List V) (ps : List Wish), Run w g m H H' (n + 12) → H p = none → H' p = some (.lst ys) → WsAt H' ys ps → Tiles fs wi ps → 1 ≤ ps.length → ps.length ≤ 2 → Q (.ref p) H'
theorem ok_law_cut (D : Def K mg "_law_cut" s_law_cut) (T : Tx mg) (c_law_take : Callee P w K mg base "_law_take" P_law_take 1 spTake) (c_law_base : Callee P w K mg base "_law_base" P_law_base 2 spBase) : Callee P w K mg base "_law_cut" P_law_cut 3 spCut := by
  refine D.callee sc_law_cut (fun _ _ _ _ _ _ us hl => match us, hl with | [_, _], _ => rfl) (fun vs H Q E h => ?_) (fun fa cdv A outer s H vs Q E hr h => ?_)
  · obtain ⟨w, g, m, n, v, wi, fs, rfl, _⟩ := h
    rfl
  · obtain ⟨w, g, m, n, v, wi, fs, rfl, hw, hn, hv, hb, h1, h3, q⟩ := h
    obtain ⟨a, ps, rfl, ha, hp⟩ := id hv
    have lp := Paired.len hp
    refine ⟨_, (pss_cons (ps_set (i := 2) sc_law_cut.nd rfl (Or.inl rfl) (pc c_law_take (hr.mono (by first | decide | omega)) (pa_cons (pv 0) (pa_cons (pe_callB call_len_seq (by rfl) T.f_len (by decide +kernel) (pa_cons (pv 1) pa_nil)) pa_nil))))
      (pss_cons (ps_asg (pe_ix ix_tup (pv 1) (pv 2) (fun _ _ => rfl)) (pg_tup rfl (pgs_cons (pg_name (i := 3) sc_law_cut.nd rfl (Or.inl rfl)) (pgs_cons (pg_name (i := 4) sc_law_cut.nd rfl (Or.inl rfl)) (pgs_cons (pg_name (i := 5) sc_law_cut.nd rfl (Or.inl rfl)) pgs_nil)))))
      (pss_cons (ps_if (PW.pt (pw_and (pt_cmpR op_notN (pv 4) pe_non (nomark _)) (pw_and1 (pt_cmpR op_eq (pv 4) (pv 5) (nomark _))))) (pss_one (ps_ret (pe_lst (pa_cons (pv 1) pa_nil)))) pss_nil)
      (Evl.pss_cut (ps_if (PW.pt (pw_and (pt_cmpR op_isN (pv 4) pe_non (nomark _)) (pw_and1 (pt_cmpR op_isN (pv 5) pe_non (nomark _))))) (pss_one (ps_set (i := 6) sc_law_cut.nd rfl (Or.inl rfl) (pc c_law_base (hr.mono (by first | decide | omega)) (pa_cons (pv 0) pa_nil)))) (pss_one (ps_if (pt_cmpR op_isN (pv 4) pe_non (nomark _)) (pss_one (ps_set (i := 6) sc_law_cut.nd rfl (Or.inl rfl) (pe_op op_sub (pe_op op_sub (pv 5) pe_int) (pc c_law_take (hr.mono (by first | decide | omega)) (pa_cons (pv 0) (pa_cons pe_int pa_nil)))))) (pss_one (ps_if (pt_cmpR op_isN (pv 5) pe_non (nomark _)) (pss_one (ps_set (i := 6) sc_law_cut.nd rfl (Or.inl rfl) (pe_op op_add (pv 4) (pc c_law_take (hr.mono (by first | decide | omega)) (pa_cons (pv 0) (pa_cons pe_int pa_nil)))))) (pss_cons (ps_set (i := 7) sc_law_cut.nd rfl (Or.inl rfl) (pe_op op_mul (pe_op op_add (pe_op op_mul (pc c_law_take (hr.mono (by first | decide | omega)) (pa_cons (pv 0) (pa_cons pe_int pa_nil))) pe_int) (pc c_law_take (hr.mono (by first | decide | omega)) (pa_cons (pv 0) (pa_cons pe_int pa_nil)))) pe_int))
      (pss_one (ps_set (i := 6) sc_law_cut.nd rfl (Or.inl rfl) (pe_op op_add (pv 4) (pe_op op_mod (pe_op op_add (pv 7) (pc c_law_take (hr.mono (by first | decide | omega)) (pa_cons (pv 0) (pa_cons pe_int pa_nil)))) (pe_op op_sub (pv 5) (pv 4))))))))))))
      (pss_cons (ps_set (i := 8) sc_law_cut.nd rfl (Or.inl rfl) (pe_op op_catA (pe_op op_catA (pe_slice sl_tupA (pv 1) po_none (po_some (pv 2))) (pe_tup (pa_cons (pe_tup (pa_cons (pv 3) (pa_cons (pv 4) (pa_cons (pv 6) pa_nil)))) pa_nil))) (pe_slice sl_tupA (pv 1) (po_some (pe_op op_add (pv 2) pe_int)) po_none)))
      (pss_one (ps_ret (pe_lst (pa_cons (pv 8) (pa_cons (pe_op op_catA (pe_op op_catA (pe_slice sl_tupA (pv 1) po_none (po_some (pv 2))) (pe_tup (pa_cons (pe_tup (pa_cons (pv 3) (pa_cons (pe_op op_add (pv 6) pe_int) (pa_cons (pv 5) pa_nil)))) pa_nil))) (pe_slice sl_tupA (pv 1) (po_some (pe_op op_add (pv 2) pe_int)) po_none)) pa_nil)))))))))), ?_⟩
    refine ⟨_, rfl, _, rfl, a, ps, rfl, .inr (sqT ha), w, g, m, n, _, rfl, hw, by omega, by omega, by omega, fun H1 at_ r1 a0 a1 => ?_⟩
    obtain ⟨j, rfl⟩ := Int.eq_ofNat_of_zero_le a0
    have hj : j < wi.length := by omega
    obtain ⟨⟨f, lo, hi⟩, hpj⟩ : ∃ p, wi[j]? = some p := ⟨wi[j], List.getElem?_eq_getElem hj⟩
    obtain ⟨pvv, hpv, t, rfl, ht⟩ := Paired.atR hp hpj
    have ha1 := r1.tups _ _ ha
    have ht1 := r1.tups _ _ ht
    refine ⟨_, rfl, _, rfl, a, ps, _, .ref t, rfl, rfl, sqT ha1, atI_nat hpv, t, _, rfl, sqT ht1, rfl, .str f, _, rfl, opt lo, _, rfl, opt hi, _, rfl, rfl, ?_⟩
    have es : wi = wi.take j ++ (f, lo, hi) :: wi.drop (j + 1) := splice_eq hpj
    have hb' : Box fs (wi.take j ++ (f, lo, hi) :: wi.drop (j + 1)) := by
      rw [← es]
      exact hb
    have oks : okSp lo hi = true := (hb.2.each _ (List.mem_of_getElem? hpj)).2
    -- what is left once the number is found
    have fin : ∀ (H' : Hp) (number : Int), Run w g m H H' (n + 12) → okSp lo (some number) = true → okSp (some (number + 1)) hi = true → ∀ (v1 v2 : V) (H2 H3 : Hp), Same H' H2 → WishAt H2 v1 (wi.take j ++ (f, lo, some number) :: wi.drop (j + 1)) → Same H2 H3 → WishAt H3 v2 (wi.take j ++ (f, some (number + 1), hi) :: wi.drop (j + 1)) →
        ∀ c, H3 c = none → Q (.ref c) (upd H3 c (.lst [v1, v2])) := by
      intro H' number rr o1 o2 v1 v2 H2 H3 s2 x1 s3 x2 c nc
      have sc := same_upd (o := .lst [v1, v2]) nc
      have r3 := (rr.same s2).same s3
      refine q _ c [v1, v2] _ (r3.same sc) (r3.free hw nc) upd_same (.cons (x1.stay (.of (s3.trans sc))) (.cons (x2.stay (.of sc)) .nil)) ?_ (show 1 ≤ 2 by decide) (Nat.le_refl 2)
      have tl := tiles_two hb' o1 o2
      rw [← es] at tl
      exact tl
    have same1 : ∀ H2, Run w g m H H2 (n + 12) → ∀ c, H2 c = none → Q (.ref c) (upd H2 c (.lst [.ref a])) := by
      intro H2 r2 c nc
      have sc := same_upd (o := .lst [V.ref a]) nc
      exact q _ c [.ref a] [wi] (r2.same sc) (r2.free hw nc) upd_same (.cons ((r2.same sc).wish hv) .nil) (.one hb) (Nat.le_refl 1) (show 1 ≤ 2 by decide)
    -- the rest, from a number
    have rest : ∀ (σ : L2.St) (H' : Hp), (Run w g m H H' (n + 12) ∧ ∃ (number : Int) (v7 : Option V), okSp lo (some number) = true ∧ okSp (some (number + 1)) hi = true ∧ σ = [some (.ref w), some (.ref a), some (.int (j : Int)), some (.str f), some (opt lo), some (opt hi), some (.int number), v7, none]) →
        tSeq (tAsg (tOp (rCatA K) (tOp (rCatA K) (tSl (rSlA K) (tVar 1) tNoPart (tPart (tVar 2))) (tTup (tCons (tTup (tCons (tVar 3) (tCons (tVar 4) (tCons (tVar 6) tNil)))) tNil))) (tSl (rSlA K) (tVar 1) (tPart (tOp (rI0 fun i j => .int (i + j)) (tVar 2) (tC (.int 1)))) tNoPart)) (gName 8))
          (tRet (tLst (tCons (tVar 8) (tCons (tOp (rCatA K) (tOp (rCatA K) (tSl (rSlA K) (tVar 1) tNoPart (tPart (tVar 2))) (tTup (tCons (tTup (tCons (tVar 3) (tCons (tOp (rI0 fun i j => .int (i + j)) (tVar 6) (tC (.int 1))) (tCons (tVar 5) tNil)))) tNil))) (tSl (rSlA K) (tVar 1) (tPart (tOp (rI0 fun i j => .int (i + j)) (tVar 2) (tC (.int 1)))) tNoPart)) tNil))))
          { nx := fun _ H' => Q .non H', rt := Q } σ H' := by
      rintro σ H' ⟨rr, number, v7, o1, o2, rfl⟩
      have ha2 := rr.tups _ _ ha
      have hp2 : Paired (PartAt H') ps wi := Paired.mapP hp fun _ _ y => PartAt.stay y rr.tups
      refine splice3 (wi := wi) (j := j) (p := (f, lo, some number)) rfl ha2 hp2 rfl (by omega) (fun H2 s2 R hR => ?_) fun v1 H2 s2 x1 => ?_
      · refine ⟨_, rfl, _, rfl, _, rfl, small100 (show 3 ≤ 100000 by decide), fun u nu => ⟨small100 (show 1 ≤ 100000 by decide), fun t2 nt2 => ?_⟩⟩
        have su := same_upd (o := .tup [V.str f, opt lo, V.int number]) nu
        have st := same_upd (o := .tup [V.ref u]) nt2
        exact hR t2 (.ref u) _ (su.trans st) upd_same ⟨u, rfl, st _ _ upd_same⟩
      · have ha3 := s2 _ _ ha2
        have hp3 : Paired (PartAt H2) ps wi := Paired.mapP hp2 fun _ _ y => PartAt.stay y (.of s2)
        refine ⟨_, rfl, splice3 (wi := wi) (j := j) (p := (f, some (number + 1), hi)) rfl ha3 hp3 rfl (by omega) (fun H3 s3 R hR => ?_) fun v2 H3 s3 x2 => ⟨small100 (show 2 ≤ 100000 by decide), fun c nc => fin H' number rr o1 o2 v1 v2 H2 H3 s2 x1 s3 x2 c nc⟩⟩
        refine ⟨_, rfl, _, rfl, number, 1, rfl, rfl, _, rfl, small100 (show 3 ≤ 100000 by decide), fun u nu => ⟨small100 (show 1 ≤ 100000 by decide), fun t2 nt2 => ?_⟩⟩
        have su := same_upd (o := .tup [V.str f, V.int (number + 1), opt hi]) nu
        have st := same_upd (o := .tup [V.ref u]) nt2
        exact hR t2 (.ref u) _ (su.trans st) upd_same ⟨u, rfl, st _ _ upd_same⟩
    cases lo with
    | none =>
      refine ⟨_, rfl, rfl, false, rfl, iteF ?_⟩
      refine ⟨_, ?_, rest⟩
      cases hi with
      | none =>
        refine ⟨_, rfl, rfl, true, rfl, iteT ⟨_, rfl, rfl, true, rfl, iteT ?_⟩⟩
        exact ⟨_, rfl, w, g, m, _, rfl, r1.well, by omega, fun H2 number r2 _ _ => ⟨(r1.trans r2).mono (by omega), number, none, rfl, rfl, rfl⟩⟩
      | some hh =>
        refine ⟨_, rfl, rfl, true, rfl, iteT ⟨_, rfl, rfl, false, rfl, iteF ?_⟩⟩
        refine ⟨_, rfl, rfl, true, rfl, iteT ?_⟩
        exact ⟨_, rfl, hh, 1, rfl, rfl, _, rfl, w, g, m, _, 100, rfl, r1.well, by omega, by decide, by decide, fun H2 z r2 z0 z1 => ⟨_, _, rfl, rfl, (r1.trans r2).mono (by omega), hh - 1 - z, none, rfl, decide_eq_true (show hh - 1 - z + 1 ≤ hh by omega), rfl⟩⟩
    | some l =>
      refine ⟨_, rfl, rfl, true, rfl, iteT ?_⟩
      cases hi with
      | none =>
        refine ⟨_, rfl, _, rfl, rfl, false, rfl, iteF ?_⟩
        refine ⟨_, ?_, rest⟩
        refine ⟨_, rfl, rfl, false, rfl, iteF ?_⟩
        refine ⟨_, rfl, rfl, false, rfl, iteF ?_⟩
        refine ⟨_, rfl, rfl, true, rfl, iteT ?_⟩
        exact ⟨_, rfl, _, rfl, w, g, m, _, 100, rfl, r1.well, by omega, by decide, by decide, fun H2 z r2 z0 z1 => ⟨l, z, rfl, rfl, (r1.trans r2).mono (by omega), l + z, none, decide_eq_true (by omega), rfl, rfl⟩⟩
      | some hh =>
        have lh : l ≤ hh := of_decide_eq_true oks
        refine ⟨_, rfl, _, rfl, rfl, _, rfl, ite2 (fun _ => ?_) fun e => ?_⟩
        · exact ⟨_, rfl, small100 (show 1 ≤ 100000 by decide), fun c nc => same1 H1 (r1.mono (by omega)) c nc⟩
        · have hne : l ≠ hh := fun z => e (decide_eq_true (by rw [z]))
          refine ⟨_, ?_, rest⟩
          refine ⟨_, rfl, rfl, false, rfl, iteF ?_⟩
          refine ⟨_, rfl, rfl, false, rfl, iteF ?_⟩
          refine ⟨_, rfl, rfl, false, rfl, iteF ?_⟩
          -- far
          refine ⟨_, rfl, w, g, m, _, 100000, rfl, r1.well, by omega, by decide, by decide, fun H2 x r2 x0 x1 => ⟨x, 100000, rfl, rfl, .inr ⟨by decide, by decide⟩, _, rfl, w, g, m, _, 100000, rfl, r2.well, by omega, by decide, by decide, fun H3 y r3 y0 y1 => ⟨_, y, rfl, rfl, _, 100000, rfl, rfl, .inr ⟨by decide, by decide⟩, ?_⟩⟩⟩
          refine ⟨_, rfl, _, rfl, _, rfl, w, g, m, _, 100000, rfl, r3.well, by omega, by decide, by decide, fun H4 z r4 z0 z1 => ?_⟩
          have mb := mod_bnd (a := (x * 100000 + y) * 100000 + z) (b := hh - l) (by omega)
          refine ⟨_, z, rfl, rfl, _, rfl, _, rfl, hh, l, rfl, rfl, _, _, rfl, rfl, (by show 0 < hh - l; omega), l, _, rfl, rfl, (((r1.trans r2).trans r3).trans r4).mono (by omega), l + ((x * 100000 + y) * 100000 + z) % (hh - l), _, decide_eq_true (by omega), decide_eq_true (by omega), rfl⟩
/-! ### _law_cut_up -/
def spCutUp : Sp := fun vs H Q _ => ∃ (w g m : Addr) (n : Nat) (v : V) (wi : Wish) (fs : List Str) (many : Int), vs = [.ref w, v, .int many] ∧ WellAt H w g m n ∧ n ≤ 80000 ∧ 0 ≤ many ∧ many ≤ 6 ∧ WishAt H v wi ∧ Box fs wi ∧ 1 ≤ wi.length ∧ wi.length ≤ 3 ∧
  ∀ (H' : Hp) (p : Addr) (ys : List V) (ps : List Wish), Run w g m H H' (n + 200) → H p = none → H' p = some (.lst ys) → WsAt H' ys ps → Tiles fs wi ps → 1 ≤ ps.length → (ps.length : Int) ≤ 1 + many → Q (.ref p) H'
theorem ok_law_cut_up (D : Def K mg "_law_cut_up" s_law_cut_up) (T : Tx mg) (c_law_take : Callee P w K mg base "_law_take" P_law_take 1 spTake) (c_law_cut : Callee P w K mg base "_law_cut" P_law_cut 3 spCut) : Callee P w K mg base "_law_cut_up" P_law_cut_up 4 spCutUp := by
  refine D.callee sc_law_cut_up (fun _ _ _ _ _ _ us hl => match us, hl with | [_, _, _], _ => rfl) (fun vs H Q E h => ?_) (fun fa cdv A outer s H vs Q E hr h => ?_)
  · obtain ⟨w, g, m, n, v, wi, fs, many, rfl, _⟩ := h
    rfl
  · obtain ⟨w, g, m, n, v, wi, fs, many, rfl, hw, hn, m0, m6, hv, hb, h1, h3, q⟩ := h
    refine ⟨_, (pss_cons (ps_set (i := 3) sc_law_cut_up.nd rfl (Or.inl rfl) (pe_lst (pa_cons (pv 1) pa_nil)))
      (pss_cons (ps_for PassesOwn.never rfl (pi_range1 rfl T.f_range (pa_cons (pv 2) pa_nil)) (pg_name (i := 4) sc_law_cut_up.nd rfl (Or.inl rfl)) (pss_cons (ps_set (i := 5) sc_law_cut_up.nd rfl (Or.inl rfl) (pc c_law_take (hr.mono (by first | decide | omega)) (pa_cons (pv 0) (pa_cons (pe_callB call_len_seq (by rfl) T.f_len (by decide +kernel) (pa_cons (pv 3) pa_nil)) pa_nil))))
      (pss_one (ps_set (i := 3) sc_law_cut_up.nd rfl (Or.inl rfl) (pe_op op_cat (pe_op op_cat (pe_slice sl_list (pv 3) po_none (po_some (pv 5))) (pc c_law_cut (hr.mono (by first | decide | omega)) (pa_cons (pv 0) (pa_cons (pe_ix ix_list (pv 3) (pv 5) (fun _ _ => rfl)) pa_nil)))) (pe_slice sl_list (pv 3) (po_some (pe_op op_add (pv 5) pe_int)) po_none))))))
      (pss_one (ps_ret (pv 3))))), ?_⟩
    refine ⟨_, rfl, small100 (show 1 ≤ 100000 by decide), fun l0 nl0 => ?_⟩
    have s0 := same_upd (o := .lst [v]) nl0
    refine ⟨_, rfl, many, rfl, by omega, by omega, for_range (lo := 0) (n := many.toNat) (fun i σ H3 => Run w g m H H3 (n + 20 * i) ∧ ∃ (l : Addr) (ys : List V) (ps : List Wish) (v4 v5 : Option V), σ = [some (.ref w), some v, some (.int many), some (.ref l), v4, v5] ∧ H l = none ∧ H3 l = some (.lst ys) ∧ WsAt H3 ys ps ∧ Tiles fs wi ps ∧ 1 ≤ ps.length ∧ ps.length ≤ 1 + i)
      ⟨Run.start hw s0, l0, [v], [wi], none, none, rfl, nl0, upd_same, .cons (hv.stay (.of s0)) .nil, .one hb, Nat.le_refl 1, Nat.le_refl 1⟩ (fun i σ H3 hi p => ?_) (fun σ H3 p => ?_)⟩
    · obtain ⟨r3, l, ys, ps, v4, v5, rfl, nl, hl, hws, tl, l1, l2⟩ := p
      have off := hw.off nl
      have ly := Paired.len hws
      -- at = _law_take(well, len(found))
      refine ⟨_, rfl, _, rfl, l, ys, rfl, .inl (sqL hl), w, g, m, _, _, rfl, r3.well, by omega, by omega, by omega, fun H4 at_ r4 a0 a1 => ?_⟩
      obtain ⟨j, rfl⟩ := Int.eq_ofNat_of_zero_le a0
      have hj : j < ps.length := by omega
      have hl4 := r4.keep off hl
      obtain ⟨o, hoj⟩ : ∃ o, ps[j]? = some o := ⟨ps[j], List.getElem?_eq_getElem hj⟩
      obtain ⟨y, hyj, hyo⟩ := Paired.atR hws hoj
      have hbo := tl.box o (List.mem_of_getElem? hoj)
      have lo1 : o.length = wi.length := by
        have e1 := congrArg List.length hbo.1
        have e2 := congrArg List.length hb.1
        rw [List.length_map] at e1 e2
        omega
      -- found[:at]
      refine ⟨_, rfl, _, rfl, (j : Int), rfl, l, ys, rfl, sqL hl4, fun p1 np1 => ?_⟩
      have s5 := same_upd (o := .lst (cutV ys none (some (j : Int)))) np1
      have off1 := r4.well.off np1
      -- _law_cut(well, found[at])
      refine ⟨_, rfl, _, rfl, _, rfl, l, ys, _, y, rfl, rfl, sqL (s5 _ _ hl4), atI_nat hyj, w, g, m, _, y, o, fs, rfl, r4.well.stay s5, by omega, (hyo.stay r4.tups).stay (.of s5), hbo, by omega, by omega, fun H6 p2 zs qs r6 np2 hp2 hzs tq q1 q2 => ?_⟩
      have hp1 := r6.keep off1 upd_same
      have hl6 := r6.keep off (s5 _ _ hl4)
      have lz := Paired.len hzs
      have ec1 : cutV ys none (some (j : Int)) = ys.take j := cutL_pre ys j
      rw [ec1] at hp1
      refine ⟨p1, p2, _, _, rfl, rfl, hp1, hp2, small100 (by rw [List.length_take]; omega), fun p3 np3 => ?_⟩
      have s7 := same_upd (o := .lst (ys.take j ++ zs)) np3
      -- found[at + 1:]
      refine ⟨_, rfl, _, rfl, (j : Int), 1, rfl, rfl, _, rfl, l, ys, rfl, sqL (s7 _ _ hl6), fun p4 np4 => ?_⟩
      have ec2 : cutV ys (some ((j : Int) + 1)) none = ys.drop (j + 1) := cutL_suf ys (j + 1)
      rw [ec2]
      have s8 := same_upd (o := .lst (ys.drop (j + 1))) np4
      refine ⟨p3, p4, _, _, rfl, rfl, s8 _ _ upd_same, upd_same, small100 (by rw [List.length_append, List.length_take, List.length_drop]; omega), fun p5 np5 => ?_⟩
      have s9 := same_upd (o := .lst (ys.take j ++ zs ++ ys.drop (j + 1))) np5
      have r9 := ((((((r3.trans r4).same s5).trans r6).same s7).same s8).same s9)
      have r8 := (((((r3.trans r4).same s5).trans r6).same s7).same s8)
      have e1 : ps = ps.take j ++ o :: ps.drop (j + 1) := by rw [← drop_at hoj, List.take_append_drop]
      have tl' : Tiles fs wi (ps.take j ++ qs ++ ps.drop (j + 1)) := by
        refine Tiles.splice (q := o) ?_ tq
        rw [← e1]
        exact tl
      refine ⟨r9.mono (by omega), p5, _, ps.take j ++ qs ++ ps.drop (j + 1), _, _, rfl, r8.free hw np5, upd_same, ?_, tl', by rw [List.length_append, List.length_append, List.length_take, List.length_drop]; omega, by rw [List.length_append, List.length_append, List.length_take, List.length_drop]; omega⟩
      have ts : Tups H3 _ := (((((r4.tups.trans (.of s5)).trans r6.tups).trans (.of s7)).trans (.of s8)).trans (.of s9))
      exact Paired.app (Paired.app (WsAt.stay (Paired.tk j hws) ts) (WsAt.stay hzs (.of ((s7.trans s8).trans s9)))) (WsAt.stay (Paired.dp (j + 1) hws) ts)
    · obtain ⟨r3, l, ys, ps, v4, v5, rfl, nl, hl, hws, tl, l1, l2⟩ := p
      exact ⟨_, rfl, q H3 l ys ps (r3.mono (by omega)) nl hl hws tl l1 (by omega)⟩
end
end Cut
namespace Cut
open PySem PySem.Spec PyProof.Rows L2
abbrev s_law_turned : Stmt := topS 35
abbrev N_law_turned : List Str := ["well", "row", "left", "k"]
abbrev P_law_turned : List Str := ["well", "row"]
theorem sc_law_turned : FnScope ["well", "row", "left", "k"] ["well", "row"] (defScope s_law_turned) := ⟨rfl, rfl, rfl, by decide +kernel, rfl, by decide +kernel, by decide +kernel⟩
abbrev s_law_widened : Stmt := topS 40
abbrev N_law_widened : List Str := ["well", "wish", "at", "pick", "field", "low", "high"]
abbrev P_law_widened : List Str := ["well", "wish"]
theorem sc_law_widened : FnScope ["well", "wish", "at", "pick", "field", "low", "high"] ["well", "wish"] (defScope s_law_widened) := ⟨rfl, rfl, rfl, by decide +kernel, rfl, by decide +kernel, by decide +kernel⟩
abbrev s_law_shorter : Stmt := topS 41
abbrev N_law_shorter : List Str := ["well", "wish", "at", "field", "low", "high", "number", "pairs", "made", "span"]
abbrev P_law_shorter : List Str := ["well", "wish"]
theorem sc_law_shorter : FnScope ["well", "wish", "at", "field", "low", "high", "number", "pairs", "made", "span"] ["well", "wish"] (defScope s_law_shorter) := ⟨rfl, rfl, rfl, by decide +kernel, rfl, by decide +kernel, by decide +kernel⟩
theorem perm_out {α : Type} : ∀ {l : List α} {k : Nat} {y : α}, l[k]? = some y → (y :: l.eraseIdx k).Perm l
  | [], k, y, h => by simp at h
  | x :: l, 0, y, h => by
    obtain rfl := Option.some.inj h
    exact List.Perm.refl _
  | x :: l, k + 1, y, h => by
    have ih := perm_out (l := l) (k := k) (y := y) (by simpa using h)
    show (y :: x :: l.eraseIdx k).Perm (x :: l)
    exact (List.Perm.swap x y _).trans (ih.cons x)
theorem seq_at {z : Int} {n : Nat} (h0 : 0 ≤ z) (h1 : z < n) : seqIndex? z n = some z.toNat := by
  unfold seqIndex?
  rw [if_neg (show ¬ z < 0 by omega)]
  simp [h0, h1]
/-- a wish that wants all that the box wants -/
structure Wider (wi wo : Wish) : Prop where
  ok : WishOk wo
  span : ∀ p ∈ wo, ∃ q ∈ wi, q.1 = p.1 ∧ ∀ x, btw q.2.1 q.2.2 x = true → btw p.2.1 p.2.2 x = true
theorem Wider.refl {wi : Wish} (h : WishOk wi) : Wider wi wi := ⟨h, fun p hp => ⟨p, hp, rfl, fun _ z => z⟩⟩
theorem Wider.splice {l r : Wish} {p p' : Part} (h : WishOk (l ++ p :: r)) (e : p'.1 = p.1) (s : okSp p'.2.1 p'.2.2 = true) (b : ∀ x, btw p.2.1 p.2.2 x = true → btw p'.2.1 p'.2.2 x = true) : Wider (l ++ p :: r) (l ++ p' :: r) := by
  refine ⟨splice_ok h e s, fun q hq => ?_⟩
  rcases List.mem_append.mp hq with h1 | h1
  · exact ⟨q, List.mem_append_left _ h1, rfl, fun _ z => z⟩
  · rcases List.mem_cons.mp h1 with rfl | h1
    · exact ⟨p, List.mem_append_right _ List.mem_cons_self, e.symm, b⟩
    · exact ⟨q, List.mem_append_right _ (List.mem_cons_of_mem _ h1), rfl, fun _ z => z⟩
theorem Wider.without {l r : Wish} {p : Part} (h : WishOk (l ++ p :: r)) : Wider (l ++ p :: r) (l ++ r) := by
  have sub : (l ++ r).Sublist (l ++ p :: r) := List.Sublist.append (List.Sublist.refl l) (List.sublist_cons_self p r)
  exact ⟨⟨fun q hq => h.each q (sub.subset hq), h.up.sublist sub⟩, fun q hq => ⟨q, sub.subset hq, rfl, fun _ z => z⟩⟩
section
variable {P : Program} {w : World} {K : PySem.W.Frag} {mg : Str → Option Value} {base : Heap}
/-! ### _law_turned -/
def spTurned : Sp := fun vs H Q _ => ∃ (w g m l : Addr) (n : Nat) (xs : List V), vs = [.ref w, .ref l] ∧ WellAt H w g m n ∧ n ≤ 90000 ∧ H l = some (.lst xs) ∧ xs.length ≤ 7 ∧ (l ≠ w ∧ l ≠ g ∧ l ≠ m) ∧
  ∀ (H' : Hp) (p : Addr) (ys : List V), Run w g m H H' (n + 10) → H p = none → H' p = some (.lst ys) → ys.Perm xs → Q (.ref p) H'
theorem ok_law_turned (D : Def K mg "_law_turned" s_law_turned) (T : Tx mg) (c_law_take : Callee P w K mg base "_law_take" P_law_take 1 spTake) : Callee P w K mg base "_law_turned" P_law_turned 2 spTurned := by
  refine D.callee sc_law_turned (fun _ _ _ _ _ _ us hl => match us, hl with | [_, _], _ => rfl) (fun vs H Q E h => ?_) (fun fa cdv A outer s H vs Q E hr h => ?_)
  · obtain ⟨w, g, m, l, n, xs, rfl, _⟩ := h
    rfl
  · obtain ⟨w, g, m, l, n, xs, rfl, hw, hn, hl, h7, lo, q⟩ := h
    refine ⟨_, (pss_cons (ps_set (i := 2) sc_law_turned.nd rfl (Or.inr rfl) (pe_callTy call_list_of (by rfl) T.f_list (by decide +kernel) (pa_cons (pv 1) pa_nil)))
      (pss_one (ps_ret (pe_lc (own := [("k", 3)]) (g := gName 3) (tt := tYes) rfl sc_law_turned.nd (pi_range1 rfl T.f_range (pa_cons (pe_callB call_len_seq (by rfl) T.f_len (by decide +kernel) (pa_cons (pv 1) pa_nil)) pa_nil)) (blkOk_by (N := N_law_turned) (sc := defScope s_law_turned) (by decide +kernel)) (fun _ _ _ _ _ => pg_name (i := 3) sc_law_turned.nd rfl (Or.inl rfl)) (fun _ _ _ _ _ => pts_nil) (fun _ _ _ _ _ => (pe_bmK K PySem.F.plainAttrs_list PySem.F.slot_list_pop PySem.F.type_list_pop mt_popAt (pv 2) (pa_cons (pc c_law_take (hr.mono (by first | decide | omega)) (pa_cons (pv 0) (pa_cons (pe_callB (lenSeqK K) (by rfl) T.f_len (by decide +kernel) (pa_cons (pv 2) pa_nil)) pa_nil))) pa_nil))))))), ?_⟩
    refine ⟨_, rfl, l, xs, rfl, .inl (sqL hl), fun a na => ?_⟩
    have sa := same_upd (o := .lst xs) na
    have offa := hw.off na
    -- for k in range(len(row))
    refine ⟨_, rfl, l, xs, rfl, .inl (sqL (sa _ _ hl)), _, rfl, by omega, by omega, fun D1 nD1 => ?_⟩
    have nD0 : H D1 = none := Same.free sa nD1
    have offD := hw.off nD0
    have hDa : D1 ≠ a := fun e => by
      rw [e, upd_same] at nD1
      cases nD1
    have sD := same_upd (o := .lst []) nD1
    refine lc_range (lo := 0) (n := ((xs.length : Nat) : Int).toNat) (fun i H2 => Run w g m H H2 (n + i) ∧ ∃ acc rest : List V, H2 a = some (.lst rest) ∧ H2 D1 = some (.lst acc) ∧ (acc ++ rest).Perm xs ∧ acc.length = i)
      ⟨Run.start hw (sa.trans sD), [], xs, sD _ _ upd_same, upd_same, List.Perm.refl _, rfl⟩ (fun i H2 hi p => ⟨rfl, yes_go ?_⟩) (fun H2 p => ?_)
    · obtain ⟨r2, acc, rest, hA, hD, pm, la⟩ := p
      have lr : rest.length = xs.length - i := by
        have := pm.length_eq
        rw [List.length_append] at this
        omega
      refine ⟨_, rfl, .inl ⟨rfl, _, sqL hA⟩, _, rfl, _, rfl, a, rest, rfl, .inl (sqL hA), w, g, m, _, _, rfl, r2.well, by omega, by omega, by omega, fun H3 z r3 z0 z1 => ?_⟩
      have hA3 := r3.keep offa hA
      have hD3 := r3.keep offD hD
      obtain ⟨y, hy⟩ : ∃ y, rest[z.toNat]? = some y := ⟨rest[z.toNat], List.getElem?_eq_getElem (by omega)⟩
      refine ⟨a, rest, z, z.toNat, y, rfl, rfl, hA3, by omega, by omega, seq_at z0 z1, hy, ?_⟩
      have r23 := r2.trans r3
      refine ⟨acc, by rw [upd_ne hDa]; exact hD3, lt100 (by omega), ?_⟩
      have ra := r23.mut (o := .lst (rest.eraseIdx z.toNat)) hw na hA3
      have rD := ra.mut (o := .lst (acc ++ [y])) hw nD0 (xs := acc) (by rw [upd_ne hDa]; exact hD3)
      refine ⟨rD.mono (by omega), acc ++ [y], rest.eraseIdx z.toNat, by rw [upd_ne hDa.symm]; exact upd_same, upd_same, ?_, by rw [List.length_append, la]; rfl⟩
      rw [List.append_assoc]
      exact ((perm_out hy).append_left acc).trans pm
    · obtain ⟨r2, acc, rest, hA, hD, pm, la⟩ := p
      have : rest = [] := by
        have := pm.length_eq
        rw [List.length_append] at this
        exact List.eq_nil_of_length_eq_zero (by omega)
      subst this
      rw [List.append_nil] at pm
      exact q H2 D1 acc (r2.mono (by omega)) nD0 hD pm
/-! ### _law_widened -/
def spWid : Sp := fun vs H Q _ => ∃ (w g m : Addr) (n : Nat) (v : V) (wi : Wish), vs = [.ref w, v] ∧ WellAt H w g m n ∧ n ≤ 90000 ∧ WishAt H v wi ∧ WishOk wi ∧ 1 ≤ wi.length ∧ wi.length ≤ 3 ∧
  ∀ (H' : Hp) (v' : V) (wo : Wish), Run w g m H H' (n + 2) → WishAt H' v' wo → Wider wi wo → Q v' H'
theorem ok_law_widened (D : Def K mg "_law_widened" s_law_widened) (T : Tx mg) (c_law_take : Callee P w K mg base "_law_take" P_law_take 1 spTake) : Callee P w K mg base "_law_widened" P_law_widened 2 spWid := by
  refine D.callee sc_law_widened (fun _ _ _ _ _ _ us hl => match us, hl with | [_, _], _ => rfl) (fun vs H Q E h => ?_) (fun fa cdv A outer s H vs Q E hr h => ?_)
  · obtain ⟨w, g, m, n, v, wi, rfl, _⟩ := h
    rfl
  · obtain ⟨w, g, m, n, v, wi, rfl, hw, hn, hv, ok, h1, h3, q⟩ := h
    obtain ⟨a, ps, rfl, ha, hp⟩ := id hv
    have lp := Paired.len hp
    refine ⟨_, (pss_cons (ps_set (i := 2) sc_law_widened.nd rfl (Or.inl rfl) (pc c_law_take (hr.mono (by first | decide | omega)) (pa_cons (pv 0) (pa_cons (pe_callB call_len_seq (by rfl) T.f_len (by decide +kernel) (pa_cons (pv 1) pa_nil)) pa_nil))))
      (pss_cons (ps_set (i := 3) sc_law_widened.nd rfl (Or.inl rfl) (pc c_law_take (hr.mono (by first | decide | omega)) (pa_cons (pv 0) (pa_cons pe_int pa_nil))))
      (pss_cons (ps_asg (pe_ix ix_tup (pv 1) (pv 2) (fun _ _ => rfl)) (pg_tup rfl (pgs_cons (pg_name (i := 4) sc_law_widened.nd rfl (Or.inl rfl)) (pgs_cons (pg_name (i := 5) sc_law_widened.nd rfl (Or.inl rfl)) (pgs_cons (pg_name (i := 6) sc_law_widened.nd rfl (Or.inl rfl)) pgs_nil)))))
      (pss_cons (ps_if (pt_cmpR op_eq (pv 3) pe_int (nomark _)) (pss_one (ps_ret (pv 1))) pss_nil)
      (pss_cons (ps_if (pt_cmpR op_eq (pv 3) pe_int (nomark _)) (pss_one (ps_ret (pe_op op_catA (pe_slice sl_tupA (pv 1) po_none (po_some (pv 2))) (pe_slice sl_tupA (pv 1) (po_some (pe_op op_add (pv 2) pe_int)) po_none)))) pss_nil)
      (pss_one (ps_ret (pe_op op_catA (pe_op op_catA (pe_slice sl_tupA (pv 1) po_none (po_some (pv 2))) (pe_tup (pa_cons (pe_ix ix_list (pe_lst (pa_cons (pe_tup (pa_cons (pv 4) (pa_cons pe_non (pa_cons (pv 6) pa_nil)))) (pa_cons (pe_tup (pa_cons (pv 4) (pa_cons (pv 5) (pa_cons pe_non pa_nil)))) pa_nil))) (pe_op op_sub (pv 3) pe_int) (fun _ _ => rfl)) pa_nil))) (pe_slice sl_tupA (pv 1) (po_some (pe_op op_add (pv 2) pe_int)) po_none))))))))), ?_⟩
    refine ⟨_, rfl, _, rfl, a, ps, rfl, .inr (sqT ha), w, g, m, n, _, rfl, hw, by omega, by omega, by omega, fun H1 at_ r1 a0 a1 => ?_⟩
    refine ⟨_, rfl, w, g, m, _, 4, rfl, r1.well, by omega, by decide, by decide, fun H2 pick r2 p0 p1 => ?_⟩
    obtain ⟨j, rfl⟩ := Int.eq_ofNat_of_zero_le a0
    have hj : j < wi.length := by omega
    obtain ⟨⟨f, lo, hi⟩, hpj⟩ : ∃ p, wi[j]? = some p := ⟨wi[j], List.getElem?_eq_getElem hj⟩
    obtain ⟨pvv, hpv, t, rfl, ht⟩ := Paired.atR hp hpj
    have r12 := r1.trans r2
    have ha2 := r12.tups _ _ ha
    have ht2 := r12.tups _ _ ht
    have hp2 : Paired (PartAt H2) ps wi := Paired.mapP hp fun _ _ y => PartAt.stay y r12.tups
    have es : wi = wi.take j ++ (f, lo, hi) :: wi.drop (j + 1) := splice_eq hpj
    have ok' : WishOk (wi.take j ++ (f, lo, hi) :: wi.drop (j + 1)) := by
      rw [← es]
      exact ok
    refine ⟨_, rfl, _, rfl, a, ps, _, .ref t, rfl, rfl, sqT ha2, atI_nat hpv, t, _, rfl, sqT ht2, rfl, .str f, _, rfl, opt lo, _, rfl, opt hi, _, rfl, rfl, ?_⟩
    -- pick == 0: as it is
    refine ⟨_, rfl, rfl, _, rfl, ite2 (fun _ => ⟨_, rfl, q H2 _ wi r12 (r12.wish hv) (.refl ok)⟩) fun e0 => ?_⟩
    -- pick == 1: a field left out
    refine ⟨_, rfl, rfl, _, rfl, ite2 (fun _ => ?_) fun e1 => ?_⟩
    · refine splice2 (wi := wi) (j := j) rfl ha2 hp2 rfl (by omega) fun v' H3 s3 x3 => ?_
      refine q H3 v' _ (r12.same s3) x3 ?_
      have wd := Wider.without ok'
      rw [← es] at wd
      exact wd
    · have hpick : pick = 2 ∨ pick = 3 := by
        have n0 : pick ≠ 0 := fun z => e0 (decide_eq_true (by rw [z]))
        have n1 : pick ≠ 1 := fun z => e1 (decide_eq_true (by rw [z]))
        omega
      -- which end is left out
      obtain ⟨lo2, hi2, ix, hix, oks, hb⟩ : ∃ (lo2 hi2 : Option Int) (k : Nat), pick - 2 = (k : Int) ∧ okSp lo2 hi2 = true ∧ (∀ x, btw lo hi x = true → btw lo2 hi2 x = true) ∧
          ∀ t1 t2 : Addr, ∃ tt, [V.ref t1, V.ref t2][k]? = some (V.ref tt) ∧ ∀ H3 : Hp, H3 t1 = some (.tup [.str f, .non, opt hi]) → H3 t2 = some (.tup [.str f, opt lo, .non]) → H3 tt = some (.tup [.str f, opt lo2, opt hi2]) := by
        rcases hpick with rfl | rfl
        · refine ⟨none, hi, 0, rfl, by cases hi <;> rfl, fun x hx => ?_, fun t1 t2 => ⟨t1, rfl, fun H3 h _ => h⟩⟩
          have := (Bool.and_eq_true_iff.mp hx).2
          exact Bool.and_eq_true_iff.mpr ⟨rfl, this⟩
        · refine ⟨lo, none, 1, rfl, by cases lo <;> rfl, fun x hx => ?_, fun t1 t2 => ⟨t2, rfl, fun H3 _ h => h⟩⟩
          have := (Bool.and_eq_true_iff.mp hx).1
          exact Bool.and_eq_true_iff.mpr ⟨this, rfl⟩
      obtain ⟨hb, htt⟩ := hb
      refine splice3 (wi := wi) (j := j) (p := (f, lo2, hi2)) rfl ha2 hp2 rfl (by omega) (fun H3 s3 R hR => ?_) fun v' H3 s3 x3 => ?_
      · refine ⟨_, rfl, _, rfl, small100 (show 3 ≤ 100000 by decide), fun t1 nt1 => ⟨_, rfl, _, rfl, small100 (show 3 ≤ 100000 by decide), fun t2 nt2 => ⟨small100 (show 2 ≤ 100000 by decide), fun c nc => ?_⟩⟩⟩
        have sA := same_upd (o := .tup [V.str f, V.non, opt hi]) nt1
        have sB := same_upd (o := .tup [V.str f, opt lo, V.non]) nt2
        have sC := same_upd (o := .lst [V.ref t1, V.ref t2]) nc
        obtain ⟨tt, htt1, htt2⟩ := htt t1 t2
        have htt3 := htt2 _ (sC _ _ (sB _ _ upd_same)) (sC _ _ upd_same)
        refine ⟨_, rfl, pick, 2, rfl, rfl, c, _, _, .ref tt, rfl, rfl, sqL upd_same, at_of hix htt1, small100 (show 1 ≤ 100000 by decide), fun u nu => ?_⟩
        have sU := same_upd (o := .tup [V.ref tt]) nu
        exact hR u (.ref tt) _ (((sA.trans sB).trans sC).trans sU) upd_same ⟨tt, rfl, sU _ _ htt3⟩
      · refine q H3 v' _ (r12.same s3) x3 ?_
        have wd := Wider.splice (p' := (f, lo2, hi2)) ok' rfl oks hb
        rw [← es] at wd
        exact wd
/-! ### _law_shorter -/
def spShort : Sp := fun vs H Q _ => ∃ (w g m : Addr) (n : Nat) (v : V) (wi : Wish) (fs : List Str), vs = [.ref w, v] ∧ WellAt H w g m n ∧ n ≤ 85000 ∧ WishAt H v wi ∧ Box fs wi ∧ 1 ≤ wi.length ∧ wi.length ≤ 3 ∧
  ∀ (H' : Hp) (t l : Addr) (gv : V) (ys : List V) (rest : List Wish) (gap : Wish), Run w g m H H' (n + 12) → H' t = some (.tup [.ref l, gv]) → H l = none → H' l = some (.lst ys) → WsAt H' ys rest → WishAt H' gv gap → Tiles fs wi (rest ++ [gap]) → rest.length ≤ 1 → Q (.ref t) H'
theorem ok_law_shorter (D : Def K mg "_law_shorter" s_law_shorter) (T : Tx mg) (c_law_take : Callee P w K mg base "_law_take" P_law_take 1 spTake) (c_law_base : Callee P w K mg base "_law_base" P_law_base 2 spBase) : Callee P w K mg base "_law_shorter" P_law_shorter 3 spShort := by
  refine D.callee sc_law_shorter (fun _ _ _ _ _ _ us hl => match us, hl with | [_, _], _ => rfl) (fun vs H Q E h => ?_) (fun fa cdv A outer s H vs Q E hr h => ?_)
  · obtain ⟨w, g, m, n, v, wi, fs, rfl, _⟩ := h
    rfl
  · obtain ⟨w, g, m, n, v, wi, fs, rfl, hw, hn, hv, hb, h1, h3, q⟩ := h
    obtain ⟨a, ps, rfl, ha, hp⟩ := id hv
    have lp := Paired.len hp
    refine ⟨_, (pss_cons (ps_set (i := 2) sc_law_shorter.nd rfl (Or.inr rfl) (pc c_law_take (hr.mono (by first | decide | omega)) (pa_cons (pv 0) (pa_cons (pe_callB call_len_seq (by rfl) T.f_len (by decide +kernel) (pa_cons (pv 1) pa_nil)) pa_nil))))
      (pss_cons (ps_asg (pe_ix ix_tup (pv 1) (pv 2) (fun _ _ => rfl)) (pg_tup rfl (pgs_cons (pg_name (i := 3) sc_law_shorter.nd rfl (Or.inr rfl)) (pgs_cons (pg_name (i := 4) sc_law_shorter.nd rfl (Or.inl rfl)) (pgs_cons (pg_name (i := 5) sc_law_shorter.nd rfl (Or.inl rfl)) pgs_nil)))))
      (pss_cons (ps_if (PW.pt (pw_and (pt_cmpR op_notN (pv 4) pe_non (nomark _)) (pw_and1 (pt_cmpR op_eq (pv 4) (pv 5) (nomark _))))) (pss_one (ps_ret (pe_tup (pa_cons (pe_lst pa_nil) (pa_cons (pv 1) pa_nil))))) pss_nil)
      (pss_cons (ps_set (i := 6) sc_law_shorter.nd rfl (Or.inl rfl) (pc c_law_base (hr.mono (by first | decide | omega)) (pa_cons (pv 0) pa_nil)))
      (pss_cons (ps_set (i := 7) sc_law_shorter.nd rfl (Or.inl rfl) (pe_lst (pa_cons (pe_tup (pa_cons (pe_tup (pa_cons (pv 4) (pa_cons (pv 6) pa_nil))) (pa_cons (pe_tup (pa_cons (pe_op op_add (pv 6) pe_int) (pa_cons (pv 5) pa_nil))) pa_nil))) pa_nil)))
      (Evl.pss_cut (ps_if (pt_cmpR op_notN (pv 4) pe_non (nomark _)) (pss_one (ps_set (i := 7) sc_law_shorter.nd rfl (Or.inl rfl) (pe_lst (pa_cons (pe_tup (pa_cons (pe_tup (pa_cons (pe_op op_add (pv 4) pe_int) (pa_cons (pv 5) pa_nil))) (pa_cons (pe_tup (pa_cons (pv 4) (pa_cons (pv 4) pa_nil))) pa_nil))) pa_nil)))) (pss_one (ps_if (pt_cmpR op_notN (pv 5) pe_non (nomark _)) (pss_one (ps_set (i := 7) sc_law_shorter.nd rfl (Or.inl rfl) (pe_lst (pa_cons (pe_tup (pa_cons (pe_tup (pa_cons (pv 4) (pa_cons (pe_op op_sub (pv 5) pe_int) pa_nil))) (pa_cons (pe_tup (pa_cons (pv 5) (pa_cons (pv 5) pa_nil))) pa_nil))) pa_nil)))) pss_nil)))
      (pss_cons (ps_setLc (i := 8) (own := [("span", 9)]) (g := gName 9) (tt := tYes) rfl sc_law_shorter.nd rfl rfl (sw_true rfl rfl rfl (by decide +kernel)) (pi_tup (pe_ix ix_list (pv 7) pe_int (fun _ _ => rfl))) (blkOk_by (N := N_law_shorter) (sc := defScope s_law_shorter) (by decide +kernel)) (fun _ _ _ _ _ => pg_name (i := 9) sc_law_shorter.nd rfl (Or.inl rfl)) (fun _ _ _ _ _ => pts_nil) (fun _ _ _ _ _ => (pe_op (catAK K) (pe_op (catAK K) (pe_slice (slAK K) (pv 1) po_none (po_some (pv 2))) (pe_tup (pa_cons (pe_tup (pa_cons (pv 3) (pa_cons (pe_ix (ixTK K) (pv 9) pe_int (fun _ _ => rfl)) (pa_cons (pe_ix (ixTK K) (pv 9) pe_int (fun _ _ => rfl)) pa_nil)))) pa_nil))) (pe_slice (slAK K) (pv 1) (po_some (pe_op op_add (pv 2) pe_int)) po_none))))
      (pss_one (ps_ret (pe_tup (pa_cons (pe_lst (pa_cons (pe_ix ix_list (pv 8) pe_int (fun _ _ => rfl)) pa_nil)) (pa_cons (pe_ix ix_list (pv 8) pe_int (fun _ _ => rfl)) pa_nil)))))))))))), ?_⟩
    refine ⟨_, rfl, _, rfl, a, ps, rfl, .inr (sqT ha), w, g, m, n, _, rfl, hw, by omega, by omega, by omega, fun H1 at_ r1 a0 a1 => ?_⟩
    obtain ⟨j, rfl⟩ := Int.eq_ofNat_of_zero_le a0
    have hj : j < wi.length := by omega
    obtain ⟨⟨f, lo, hi⟩, hpj⟩ : ∃ p, wi[j]? = some p := ⟨wi[j], List.getElem?_eq_getElem hj⟩
    obtain ⟨pvv, hpv, t, rfl, ht⟩ := Paired.atR hp hpj
    have ha1 := r1.tups _ _ ha
    have ht1 := r1.tups _ _ ht
    refine ⟨_, rfl, _, rfl, a, ps, _, .ref t, rfl, rfl, sqT ha1, atI_nat hpv, t, _, rfl, sqT ht1, rfl, .str f, _, rfl, opt lo, _, rfl, opt hi, _, rfl, rfl, ?_⟩
    have es : wi = wi.take j ++ (f, lo, hi) :: wi.drop (j + 1) := splice_eq hpj
    have hb' : Box fs (wi.take j ++ (f, lo, hi) :: wi.drop (j + 1)) := by
      rw [← es]
      exact hb
    have oks : okSp lo hi = true := (hb.2.each _ (List.mem_of_getElem? hpj)).2
    -- the one where its span is one number
    have whole : ∀ l, H1 l = none → ∀ t2, (upd H1 l (.lst [])) t2 = none → Q (.ref t2) (upd (upd H1 l (.lst [])) t2 (.tup [.ref l, .ref a])) := by
      intro l nl t2 nt2
      have sl := same_upd (o := .lst []) nl
      have st := same_upd (o := .tup [V.ref l, V.ref a]) nt2
      refine q _ t2 l (.ref a) [] [] wi (((r1.same sl).same st).mono (by omega)) upd_same (r1.free hw nl) (st _ _ upd_same) .nil (((r1.same sl).same st).wish hv) (.one hb) (Nat.zero_le _)
    have swap : ∀ {b q1 q2 : Wish}, Tiles fs b [q1, q2] → Tiles fs b [q2, q1] := fun {b q1 q2} h => ⟨fun q hq => h.box q (by
      rcases List.mem_cons.mp hq with e | hq
      · rw [e]; exact List.mem_cons_of_mem _ List.mem_cons_self
      · rw [List.mem_singleton.mp hq]; exact List.mem_cons_self), fun xs => by
      have := h.all xs
      simp only [List.map_cons, List.map_nil, List.sum_cons, List.sum_nil] at this ⊢
      omega⟩
    -- from the point where low is not high
    have main : (∀ l : Int, lo = some l → okSp (some (l + 1)) hi = true) → ∀ D : Ends, D.rt = Q →
        tSeq (tAsg (tCall spBase [] E0 (tCons (tVar 0) tNil)) (gName 6)) (tSeq (tAsg (tLst (tCons (tTup (tCons (tTup (tCons (tVar 4) (tCons (tVar 6) tNil))) (tCons (tTup (tCons (tOp (rI0 fun i j => .int (i + j)) (tVar 6) (tC (.int 1))) (tCons (tVar 5) tNil))) tNil))) tNil)) (gName 7))
          (Evl.tCut (tIfS (tTest (tOp (fun x y H Q => y = .non ∧ Q (.bl (!decide (x = .non))) H) (tVar 4) (tC .non))) (tAsg (tLst (tCons (tTup (tCons (tTup (tCons (tOp (rI0 fun i j => .int (i + j)) (tVar 4) (tC (.int 1))) (tCons (tVar 5) tNil))) (tCons (tTup (tCons (tVar 4) (tCons (tVar 4) tNil))) tNil))) tNil)) (gName 7))
            (tIfS (tTest (tOp (fun x y H Q => y = .non ∧ Q (.bl (!decide (x = .non))) H) (tVar 5) (tC .non))) (tAsg (tLst (tCons (tTup (tCons (tTup (tCons (tVar 4) (tCons (tOp (rI0 fun i j => .int (i - j)) (tVar 5) (tC (.int 1))) tNil))) (tCons (tTup (tCons (tVar 5) (tCons (tVar 5) tNil))) tNil))) tNil)) (gName 7)) tNext))
          (tSeq (tAsg (tLc (iTup K (tOp (rIxL K) (tVar 7) (tC (.int 0)))) (gName 9) tYes (tOp (rCatA K) (tOp (rCatA K) (tSl (rSlA K) (tVar 1) tNoPart (tPart (tVar 2))) (tTup (tCons (tTup (tCons (tVar 3) (tCons (tOp (rIxT K) (tVar 9) (tC (.int 0))) (tCons (tOp (rIxT K) (tVar 9) (tC (.int 1))) tNil)))) tNil))) (tSl (rSlA K) (tVar 1) (tPart (tOp (rI0 fun i j => .int (i + j)) (tVar 2) (tC (.int 1)))) tNoPart)) [9]) (gName 8))
            (tRet (tTup (tCons (tLst (tCons (tOp (rIxL K) (tVar 8) (tC (.int 0))) tNil)) (tCons (tOp (rIxL K) (tVar 8) (tC (.int 1))) tNil))))))) D [some (.ref w), some (.ref a), some (.int (j : Int)), some (.str f), some (opt lo), some (opt hi), none, none, none, none] H1 := by
      intro hlo D hD
      refine ⟨_, rfl, w, g, m, _, rfl, r1.well, by omega, fun H2 number r2 _ _ => ?_⟩
      have r12 := (r1.trans r2).mono (show n + 1 + 6 ≤ n + 12 by omega)
      refine ⟨_, rfl, _, rfl, small100 (show 2 ≤ 100000 by decide), fun t1 nt1 => ⟨_, rfl, number, 1, rfl, rfl, _, rfl, small100 (show 2 ≤ 100000 by decide), fun t2 nt2 => ⟨small100 (show 2 ≤ 100000 by decide), fun t3 nt3 => ⟨small100 (show 1 ≤ 100000 by decide), fun c nc => ?_⟩⟩⟩⟩
      have sA := same_upd (o := .tup [opt lo, V.int number]) nt1
      have sB := same_upd (o := .tup [V.int (number + 1), opt hi]) nt2
      have sC := same_upd (o := .tup [V.ref t1, V.ref t2]) nt3
      have sE := same_upd (o := .lst [V.ref t3]) nc
      have s3 := ((sA.trans sB).trans sC).trans sE
      have r3 := r12.same s3
      refine ⟨fun σ H' => Run w g m H H' (n + 12) ∧ ∃ (lo1 hi1 lo2 hi2 : Option Int) (c t3 t1 t2 : Addr) (v6 : Option V), H' c = some (.lst [.ref t3]) ∧ H' t3 = some (.tup [.ref t1, .ref t2]) ∧ H' t1 = some (.tup [opt lo1, opt hi1]) ∧ H' t2 = some (.tup [opt lo2, opt hi2]) ∧
          Tiles fs wi [wi.take j ++ (f, lo1, hi1) :: wi.drop (j + 1), wi.take j ++ (f, lo2, hi2) :: wi.drop (j + 1)] ∧ σ = [some (.ref w), some (.ref a), some (.int (j : Int)), some (.str f), some (opt lo), some (opt hi), v6, some (.ref c), none, none], ?_, ?_⟩
      · cases lo with
        | some l =>
          refine ⟨_, rfl, rfl, true, rfl, iteT ?_⟩
          refine ⟨_, rfl, l, 1, rfl, rfl, _, rfl, small100 (show 2 ≤ 100000 by decide), fun u1 nu1 => ⟨_, rfl, _, rfl, small100 (show 2 ≤ 100000 by decide), fun u2 nu2 => ⟨small100 (show 2 ≤ 100000 by decide), fun u3 nu3 => ⟨small100 (show 1 ≤ 100000 by decide), fun d nd => ?_⟩⟩⟩⟩
          have zA := same_upd (o := .tup [V.int (l + 1), opt hi]) nu1
          have zB := same_upd (o := .tup [V.int l, V.int l]) nu2
          have zC := same_upd (o := .tup [V.ref u1, V.ref u2]) nu3
          have zE := same_upd (o := .lst [V.ref u3]) nd
          have tl := tiles_two (n := l) hb' (decide_eq_true (Int.le_refl l)) (hlo l rfl)
          rw [← es] at tl
          exact ⟨r3.same (((zA.trans zB).trans zC).trans zE), some (l + 1), hi, some l, some l, d, u3, u1, u2, _, upd_same, zE _ _ upd_same, zE _ _ (zC _ _ (zB _ _ upd_same)), zE _ _ (zC _ _ upd_same), swap tl, rfl⟩
        | none =>
          refine ⟨_, rfl, rfl, false, rfl, iteF ?_⟩
          cases hi with
          | some hh =>
            refine ⟨_, rfl, rfl, true, rfl, iteT ?_⟩
            refine ⟨_, rfl, _, rfl, hh, 1, rfl, rfl, small100 (show 2 ≤ 100000 by decide), fun u1 nu1 => ⟨_, rfl, _, rfl, small100 (show 2 ≤ 100000 by decide), fun u2 nu2 => ⟨small100 (show 2 ≤ 100000 by decide), fun u3 nu3 => ⟨small100 (show 1 ≤ 100000 by decide), fun d nd => ?_⟩⟩⟩⟩
            have zA := same_upd (o := .tup [V.non, V.int (hh - 1)]) nu1
            have zB := same_upd (o := .tup [V.int hh, V.int hh]) nu2
            have zC := same_upd (o := .tup [V.ref u1, V.ref u2]) nu3
            have zE := same_upd (o := .lst [V.ref u3]) nd
            have e1 : hh - 1 + 1 = hh := by omega
            have tl := tiles_two (n := hh - 1) hb' rfl (by rw [e1]; exact decide_eq_true (Int.le_refl hh))
            rw [← es, e1] at tl
            exact ⟨r3.same (((zA.trans zB).trans zC).trans zE), none, some (hh - 1), some hh, some hh, d, u3, u1, u2, _, upd_same, zE _ _ upd_same, zE _ _ (zC _ _ (zB _ _ upd_same)), zE _ _ (zC _ _ upd_same), tl, rfl⟩
          | none =>
            refine ⟨_, rfl, rfl, false, rfl, iteF ?_⟩
            have tl := tiles_two (n := number) hb' rfl rfl
            rw [← es] at tl
            exact ⟨r3, none, some number, some (number + 1), none, c, t3, t1, t2, _, upd_same, sE _ _ upd_same, sE _ _ (sC _ _ (sB _ _ upd_same)), sE _ _ (sC _ _ upd_same), tl, rfl⟩
      · rintro σ H4 ⟨r4, lo1, hi1, lo2, hi2, c, t3, t1, t2, v6, hc, ht3, hT1, hT2, tl, rfl⟩
        have ha4 := r4.tups _ _ ha
        have hp4 : Paired (PartAt H4) ps wi := Paired.mapP hp fun _ _ y => PartAt.stay y r4.tups
        -- made
        refine ⟨_, rfl, c, _, 0, .ref t3, rfl, rfl, sqL hc, atI_nat (j := 0) rfl, t3, rfl, ⟨_, sqT ht3⟩, fun Dl nD => ?_⟩
        refine lc_tup (K := K) (a := t3) (xs := [.ref t1, .ref t2]) (fun i H5 => Same H4 H5 ∧ ∃ acc, H5 Dl = some (.lst acc) ∧ acc.length = i ∧ WsAt H5 acc ([wi.take j ++ (f, lo1, hi1) :: wi.drop (j + 1), wi.take j ++ (f, lo2, hi2) :: wi.drop (j + 1)].take i))
          ⟨same_upd nD, [], upd_same, rfl, .nil⟩ (fun i H5 _ p => sqT (p.1 _ _ ht3)) (fun i x H5 hx p => ⟨rfl, yes_go ?_⟩) (fun H5 p => ?_)
        · obtain ⟨s5, acc, hD5, hl, hacc⟩ := p
          obtain ⟨tt, lo3, hi3, rfl, htt, hq, hi2⟩ : ∃ (tt : Addr) (lo3 hi3 : Option Int), x = .ref tt ∧ H4 tt = some (.tup [opt lo3, opt hi3]) ∧ [wi.take j ++ (f, lo1, hi1) :: wi.drop (j + 1), wi.take j ++ (f, lo2, hi2) :: wi.drop (j + 1)][i]? = some (wi.take j ++ (f, lo3, hi3) :: wi.drop (j + 1)) ∧ i ≤ 1 := by
            match i, hx with
            | 0, hx => exact ⟨t1, lo1, hi1, (Option.some.inj hx).symm, hT1, rfl, by decide⟩
            | 1, hx => exact ⟨t2, lo2, hi2, (Option.some.inj hx).symm, hT2, rfl, by decide⟩
          refine splice3 (wi := wi) (j := j) (p := (f, lo3, hi3)) rfl (s5 _ _ ha4) (Paired.mapP hp4 fun _ _ y => PartAt.stay y (.of s5)) rfl (by omega) (fun H6 s6 R hR => ?_) fun v' H6 s6 x6 => ?_
          · have htt6 := s6 _ _ (s5 _ _ htt)
            refine ⟨_, rfl, _, rfl, tt, _, 0, _, rfl, rfl, sqT htt6, atI_nat (j := 0) rfl, _, rfl, tt, _, 1, _, rfl, rfl, sqT htt6, atI_nat (j := 1) rfl, small100 (show 3 ≤ 100000 by decide), fun u nu => ⟨small100 (show 1 ≤ 100000 by decide), fun u2 nu2 => ?_⟩⟩
            have su := same_upd (o := .tup [V.str f, opt lo3, opt hi3]) nu
            have st := same_upd (o := .tup [V.ref u]) nu2
            exact hR u2 (.ref u) _ (su.trans st) upd_same ⟨u, rfl, st _ _ upd_same⟩
          · refine ⟨acc, s6 _ _ hD5, lt100 (by omega), Same.mut (s5.trans s6) nD, acc ++ [v'], upd_same, by rw [List.length_append, hl]; rfl, ?_⟩
            have tp : Tups H6 (upd H6 Dl (.lst (acc ++ [v']))) := Tups.mut (Tups.refl _) (s6 _ _ hD5)
            rw [take_at hq]
            exact Paired.app (WsAt.stay hacc ((Tups.of s6).trans tp)) (.cons (x6.stay tp) .nil)
        · obtain ⟨s5, acc, hD5, hl, hacc⟩ := p
          match acc, hl, hacc with
          | [v1, v2], _, .cons x1 (.cons x2 .nil) =>
            refine ⟨_, rfl, Dl, _, 0, v1, rfl, rfl, sqL hD5, atI_nat (j := 0) rfl, small100 (show 1 ≤ 100000 by decide), fun l nl => ?_⟩
            have sl := same_upd (o := .lst [v1]) nl
            refine ⟨_, rfl, Dl, _, 1, v2, rfl, rfl, sqL (sl _ _ hD5), atI_nat (j := 1) rfl, small100 (show 2 ≤ 100000 by decide), fun tt ntt => ?_⟩
            have st := same_upd (o := .tup [V.ref l, v2]) ntt
            rw [hD]
            refine q _ tt l v2 [v1] [wi.take j ++ (f, lo1, hi1) :: wi.drop (j + 1)] _ (((r4.same s5).same sl).same st) upd_same ((r4.same s5).free hw nl) (st _ _ upd_same) (.cons (x1.stay (.of (sl.trans st))) .nil) (x2.stay (.of (sl.trans st))) tl (Nat.le_refl 1)
    cases lo with
    | none =>
      refine ⟨_, rfl, rfl, false, rfl, iteF ?_⟩
      exact main (fun l hl => by cases hl) _ rfl
    | some l =>
      refine ⟨_, rfl, rfl, true, rfl, iteT ?_⟩
      cases hi with
      | none =>
        refine ⟨_, rfl, _, rfl, rfl, false, rfl, iteF ?_⟩
        exact main (fun l hl => rfl) _ rfl
      | some hh =>
        have lh : l ≤ hh := of_decide_eq_true oks
        refine ⟨_, rfl, _, rfl, rfl, _, rfl, ite2 (fun _ => ?_) fun e => ?_⟩
        · exact ⟨Nat.zero_le _, fun l2 nl => ⟨_, rfl, small100 (show 2 ≤ 100000 by decide), fun t2 nt2 => whole l2 nl t2 nt2⟩⟩
        · have hne : l ≠ hh := fun z => e (decide_eq_true (by rw [z]))
          exact main (fun l3 hl => by
            obtain rfl := Option.some.inj hl
            exact decide_eq_true (show l + 1 ≤ hh by omega)) _ rfl
end
end Cut
namespace Cut
open PySem PySem.Spec PyProof.Rows L2
abbrev s_law_wants : Stmt := topS 36
abbrev N_law_wants : List Str := ["wish", "piece", "there", "field", "low", "high"]
abbrev P_law_wants : List Str := ["wish", "piece"]
theorem sc_law_wants : FnScope ["wish", "piece", "there", "field", "low", "high"] ["wish", "piece"] (defScope s_law_wants) := ⟨rfl, rfl, rfl, by decide +kernel, rfl, by decide +kernel, by decide +kernel⟩
abbrev s_law_whole : Stmt := topS 37
abbrev N_law_whole : List Str := ["thing"]
abbrev P_law_whole : List Str := ["thing"]
theorem sc_law_whole : FnScope ["thing"] ["thing"] (defScope s_law_whole) := ⟨rfl, rfl, rfl, by decide +kernel, rfl, by decide +kernel, by decide +kernel⟩
abbrev s_law_is_piece : Stmt := topS 38
abbrev N_law_is_piece : List Str := ["thing", "last", "pair", "sign"]
abbrev P_law_is_piece : List Str := ["thing"]
theorem sc_law_is_piece : FnScope ["thing", "last", "pair", "sign"] ["thing"] (defScope s_law_is_piece) := ⟨rfl, rfl, rfl, by decide +kernel, rfl, by decide +kernel, by decide +kernel⟩
abbrev s_law_alike : Stmt := topS 39
abbrev N_law_alike : List Str := ["found", "due", "k"]
abbrev P_law_alike : List Str := ["found", "due"]
theorem sc_law_alike : FnScope ["found", "due", "k"] ["found", "due"] (defScope s_law_alike) := ⟨rfl, rfl, rfl, by decide +kernel, rfl, by decide +kernel, by decide +kernel⟩
/-! ### the dict of a piece -/
theorem valV_out {kvs : List (Key × V)} {k : Key} (h : k ∉ kvs.map (·.1)) : valV kvs k = none := by
  cases e : valV kvs k with
  | none => rfl
  | some v => exact absurd (valV_in e) h
theorem mergeK_nd : ∀ (kvs acc : List (Key × V)), ((acc ++ kvs).map (·.1)).Nodup → mergeK acc kvs = acc ++ kvs
  | [], acc, _ => by rw [List.append_nil]; rfl
  | (k, v) :: kvs, acc, h => by
    have e1 : acc ++ (k, v) :: kvs = (acc ++ [(k, v)]) ++ kvs := by rw [List.append_assoc]; rfl
    have hk : k ∉ acc.map (·.1) := fun z => by
      rw [List.map_append] at h
      exact (List.nodup_append.mp h).2.2 k z k List.mem_cons_self rfl
    have e2 : putK acc k v = acc ++ [(k, v)] := putK_new v (valV_out hk)
    show mergeK (putK acc k v) kvs = _
    rw [e2, e1]
    exact mergeK_nd kvs (acc ++ [(k, v)]) (by rw [← e1]; exact h)
def pairsK (pc : List (Str × Int)) : List (Key × V) := pc.map fun q => ((Sum.inr q.1 : Key), V.int q.2)
theorem valV_pairs (f : Str) : ∀ pc : List (Str × Int), valV (pairsK pc) (Sum.inr f : Key) = (pc.lookup f).map V.int
  | [] => rfl
  | (g, n) :: pc => by
    show valV (((Sum.inr g : Key), V.int n) :: pairsK pc) (Sum.inr f) = _
    by_cases e : g = f
    · subst e
      rw [valV_pos (p := ((Sum.inr g : Key), V.int n)) rfl, List.lookup_cons]
      simp
    · have e1 : ¬ (Sum.inr g : Key) = Sum.inr f := fun z => e (Sum.inr.inj z)
      rw [valV_neg (p := ((Sum.inr g : Key), V.int n)) e1, valV_pairs f pc, List.lookup_cons]
      have e2 : (f == g) = false := beq_eq_false_iff_ne.mpr fun z => e z.symm
      rw [e2]
theorem pairsK_nd {pc : List (Str × Int)} (h : (pc.map (·.1)).Nodup) : ((pairsK pc).map (·.1)).Nodup := by
  unfold pairsK
  rw [List.map_map]
  have e : ((fun kv : Key × V => kv.1) ∘ fun q : Str × Int => ((Sum.inr q.1 : Key), V.int q.2)) = (Sum.inr : Str → Key) ∘ fun q : Str × Int => q.1 := rfl
  rw [e, ← List.map_map]
  rw [List.nodup_iff_pairwise_ne] at h ⊢
  rw [List.pairwise_map]
  exact h.imp fun {a b} hn z => hn (Sum.inr.inj z)
theorem pairs_sq {K : PySem.W.Frag} {H : Hp} : ∀ {ts : List Addr} {pc : List (Str × Int)}, Paired (fun t (q : Str × Int) => H t = some (.tup [.str q.1, .int q.2])) ts pc → Paired (fun (p : Addr) (kv : Key × V) => SqT K H p [kV kv.1, kv.2]) ts (pairsK pc)
  | _, _, .nil => .nil
  | _, _, .cons r t => .cons (sqT r) (pairs_sq t)
section
variable {P : Program} {w : World} {K : PySem.W.Frag} {mg : Str → Option Value} {base : Heap}
/-! ### _law_wants -/
def spWants : Sp := fun vs H Q _ => ∃ (v : V) (wi : Wish) (a : Addr) (pc : List (Str × Int)), vs = [v, .ref a] ∧ WishAt H v wi ∧ PieceAt H a pc ∧ (pc.map (·.1)).Nodup ∧ ∀ H' : Hp, Same H H' → Q (.bl (wantsP wi pc)) H'
theorem ok_law_wants (D : Def K mg "_law_wants" s_law_wants) (T : Tx mg) : Callee P w K mg base "_law_wants" P_law_wants 1 spWants := by
  refine D.callee sc_law_wants (fun _ _ _ _ _ _ us hl => match us, hl with | [_, _], _ => rfl) (fun vs H Q E h => ?_) (fun fa cdv A outer s H vs Q E hr h => ?_)
  · obtain ⟨v, wi, a, pc, rfl, _⟩ := h
    rfl
  · obtain ⟨v, wi, a, pc, rfl, hv, hpc, nd, q⟩ := h
    obtain ⟨b, ps, rfl, hb, hp⟩ := id hv
    obtain ⟨o, ts, ha, hdn, hts⟩ := hpc
    have hu := hu_of hr
    refine ⟨_, (pss_cons (ps_set (i := 2) sc_law_wants.nd rfl (Or.inl rfl) (pe_callTy (call_dictT rfl) (by rfl) T.f_dict (by decide +kernel) (pa_cons (pv 1) pa_nil)))
      (pss_cons (ps_for PassesOwn.never rfl (pi_tup (pv 0)) (pg_tup rfl (pgs_cons (pg_name (i := 3) sc_law_wants.nd rfl (Or.inl rfl)) (pgs_cons (pg_name (i := 4) sc_law_wants.nd rfl (Or.inl rfl)) (pgs_cons (pg_name (i := 5) sc_law_wants.nd rfl (Or.inl rfl)) pgs_nil)))) (pss_cons (ps_if (pt_cmp (pc_dnotin hu (pv 3) (pv 2))) (pss_one (ps_ret pe_bl)) pss_nil)
      (pss_one (ps_if (PW.pt (pw_or (PW.pt (pw_and (pt_cmpR op_notN (pv 4) pe_non (nomark _)) (pw_and1 (pt_cmpR op_lt (pe_dget hu (pv 2) (pv 3) (fun _ _ => rfl)) (pv 4) (nomark _))))) (pw_or1 (PW.pt (pw_and (pt_cmpR op_notN (pv 5) pe_non (nomark _)) (pw_and1 (pt_cmpR op_gt (pe_dget hu (pv 2) (pv 3) (fun _ _ => rfl)) (pv 5) (nomark _)))))))) (pss_one (ps_ret pe_bl)) pss_nil))))
      (pss_one (ps_ret pe_bl)))), ?_⟩
    have hpr : Paired (fun (p : Addr) (kv : Key × V) => SqT K H p [kV kv.1, kv.2]) ts (pairsK pc) := pairs_sq hts
    refine ⟨_, rfl, a, o, ts, pairsK pc, rfl, ha, hdn, hpr, fun d ndd => ?_⟩
    have em : mergeK [] (pairsK pc) = pairsK pc := mergeK_nd (pairsK pc) [] (pairsK_nd nd)
    rw [em]
    have sd := same_upd (o := .dK (pairsK pc)) ndd
    refine ⟨_, rfl, b, rfl, ⟨_, sqT (sd _ _ hb)⟩, for_tup (K := K) (a := b) (xs := ps) (fun i σ H' => H' = upd H d (.dK (pairsK pc)) ∧ wantsP wi pc = wantsP (wi.drop i) pc ∧ ∃ v3 v4 v5, σ = [some (.ref b), some (.ref a), some (.ref d), v3, v4, v5]) ⟨rfl, rfl, none, none, none, rfl⟩ (fun i σ H' _ ⟨e, _⟩ => by rw [e]; exact sqT (sd _ _ hb)) ?_ ?_⟩
    · rintro i x σ H' hx ⟨rfl, ew, v3, v4, v5, rfl⟩
      obtain ⟨⟨f, lo, hi⟩, hpi, t, rfl, ht⟩ := Paired.at_ hp hx
      rw [drop_at hpi] at ew
      have ew2 : wantsP wi pc = ((match pc.lookup f with | none => false | some n => btw lo hi n) && wantsP (wi.drop (i + 1)) pc) := ew
      refine ⟨t, _, rfl, sqT (sd _ _ ht), rfl, .str f, _, rfl, opt lo, _, rfl, opt hi, _, rfl, rfl, ?_⟩
      have hget := DGet.k (k := Sum.inr f) (upd_same (H := H) (a := d) (o := .dK (pairsK pc)))
      rw [valV_pairs] at hget
      refine ⟨_, rfl, _, rfl, d, _, rfl, hget, _, rfl, ?_⟩
      cases e : pc.lookup f with
      | none =>
        rw [e] at ew2
        refine iteT ?_
        have e2 : wantsP wi pc = false := by rw [ew2] <;> rfl
        have z := q _ sd
        rw [e2] at z
        exact z
      | some n =>
        rw [e] at ew2 hget
        refine iteF ?_
        have ew3 : wantsP wi pc = (btw lo hi n && wantsP (wi.drop (i + 1)) pc) := ew2
        have no : btw lo hi n = false → Q (.bl false) (upd H d (.dK (pairsK pc))) := fun hn => by
          have z := q _ sd
          rw [ew3, hn] at z
          exact z
        -- the second half, from a good low end
        have second : geLo lo n = true → ∀ (D : Ends) (x4 : Option V), D.rt = Q → (btw lo hi n = true → D.nx [some (.ref b), some (.ref a), some (.ref d), some (.str f), x4, some (opt hi)] (upd H d (.dK (pairsK pc)))) →
            tAnd (tTest (tOp (fun x y H Q => y = .non ∧ Q (.bl (!decide (x = .non))) H) (tVar 5) (tC .non))) (tTest (tOp (rI0 fun i j => .bl (decide (j < i))) (tDGet (tVar 2) (tVar 3)) (tVar 5))) [some (.ref b), some (.ref a), some (.ref d), some (.str f), x4, some (opt hi)] (upd H d (.dK (pairsK pc)))
              (fun c H1 => if c = true then D.rt (.bl false) H1 else D.nx [some (.ref b), some (.ref a), some (.ref d), some (.str f), x4, some (opt hi)] H1) := by
          intro hlo D x4 hD hnx
          cases hi with
          | none =>
            refine ⟨_, rfl, rfl, false, rfl, iteF (iteF (hnx ?_))⟩
            show (geLo lo n && true) = true
            rw [hlo] <;> rfl
          | some h =>
            refine ⟨_, rfl, rfl, true, rfl, iteT ⟨_, rfl, _, rfl, d, _, rfl, hget, _, rfl, n, h, rfl, rfl, _, rfl, ?_⟩⟩
            refine ite2 (fun hh => ?_) fun hh => ?_
            · rw [hD]
              have hh := of_decide_eq_true hh
              refine no ?_
              show (geLo lo n && decide (n ≤ h)) = false
              rw [decide_eq_false (by omega), Bool.and_false]
            · have hh : ¬ h < n := fun z => hh (decide_eq_true z)
              refine hnx ?_
              show (geLo lo n && decide (n ≤ h)) = true
              rw [hlo, decide_eq_true (by omega)] <;> rfl
        have go : btw lo hi n = true → ∀ (x4 x5 : Option V), (upd H d (.dK (pairsK pc))) = upd H d (.dK (pairsK pc)) ∧ wantsP wi pc = wantsP (wi.drop (i + 1)) pc ∧ ∃ v3 v4 v5, [some (V.ref b), some (.ref a), some (.ref d), some (.str f), x4, x5] = [some (V.ref b), some (.ref a), some (.ref d), v3, v4, v5] := fun hbt x4 x5 =>
          ⟨rfl, by rw [ew3, hbt, Bool.true_and], _, _, _, rfl⟩
        cases lo with
        | none =>
          refine ⟨_, rfl, rfl, false, rfl, iteF (iteF ?_)⟩
          exact second rfl _ _ rfl fun hbt => go hbt _ _
        | some l =>
          refine ⟨_, rfl, rfl, true, rfl, iteT ⟨_, rfl, _, rfl, d, _, rfl, hget, _, rfl, n, l, rfl, rfl, _, rfl, ?_⟩⟩
          refine ite2 (fun hl => ?_) fun hl => ?_
          · have hl := of_decide_eq_true hl
            refine iteT (no ?_)
            show (decide (l ≤ n) && leHi hi n) = false
            rw [decide_eq_false (by omega), Bool.false_and]
          · have hl : ¬ n < l := fun z => hl (decide_eq_true z)
            exact second (decide_eq_true (by omega)) _ _ rfl fun hbt => go hbt _ _
    · rintro σ H' ⟨rfl, ew, v3, v4, v5, rfl⟩
      rw [List.drop_eq_nil_of_le (by rw [Paired.len hp]; exact Nat.le_refl _)] at ew
      have e2 : wantsP wi pc = true := ew
      have z := q _ sd
      rw [e2] at z
      exact z
/-! ### _law_whole -/
theorem ok_law_whole (D : Def K mg "_law_whole" s_law_whole) (T : Tx mg) : Callee P w K mg base "_law_whole" P_law_whole 1 spWhole := by
  refine D.callee sc_law_whole (fun _ _ _ _ _ _ us hl => match us, hl with | [_], _ => rfl) (fun vs H Q E h => ?_) (fun f cdv A outer s H vs Q E hr h => ?_)
  · obtain ⟨i, rfl, _⟩ := h
    rfl
  · obtain ⟨i, rfl, q⟩ := h
    refine ⟨_, (pss_one (ps_ret (pe_and (pe_callB call_isi (by rfl) T.f_isinstance (by decide +kernel) (pa_cons (pv 0) (pa_cons (pe_bltn rfl T.f_int (by decide +kernel) (v := .ty "int") rfl) pa_nil))) (pe_one (pe_not (pe_callB call_isi (by rfl) T.f_isinstance (by decide +kernel) (pa_cons (pv 0) (pa_cons (pe_bltn rfl T.f_bool (by decide +kernel) (v := .ty "bool") rfl) pa_nil)))))))), ?_⟩
    refine ⟨_, rfl, _, _, _, _, true, rfl, .ty _, .base (.int i), kit_ty (by decide +kernel), true, rfl, iteT ?_⟩
    exact ⟨_, rfl, _, _, _, _, false, rfl, .ty _, .base (.int i), kit_ty (by decide +kernel), false, rfl, q⟩
/-! ### _law_is_piece -/
def spIsP : Sp := fun vs H Q _ => ∃ (a : Addr) (pz : List (Str × Int)), vs = [.ref a] ∧ PieceAt H a pz ∧ (∀ p ∈ pz, FieldOk p.1) ∧ (pz.Pairwise fun p q => Lt p.1 q.1) ∧ ∀ H' : Hp, Same H H' → Q (.bl true) H'
theorem ok_law_is_piece (D : Def K mg "_law_is_piece" s_law_is_piece) (T : Tx mg) (c_law_whole : Callee P w K mg base "_law_whole" P_law_whole 1 spWhole) : Callee P w K mg base "_law_is_piece" P_law_is_piece 2 spIsP := by
  refine D.callee sc_law_is_piece (fun _ _ _ _ _ _ us hl => match us, hl with | [_], _ => rfl) (fun vs H Q E h => ?_) (fun fa cdv A outer s H vs Q E hr h => ?_)
  · obtain ⟨a, pz, rfl, _⟩ := h
    rfl
  · obtain ⟨a, pz, rfl, hpc, okf, up, q⟩ := h
    obtain ⟨o, ts, ha, hdn, hts⟩ := hpc
    have hu64 := hu64_of hr
    have hS : ∀ H', Same H H' → SqT K H' a (ts.map V.ref) := fun H' s => .inl (.inr ⟨o, s _ _ ha⟩)
    refine ⟨_, (pss_cons (ps_if (pt_not (pt_val (pe_callB call_isi (by rfl) T.f_isinstance (by decide +kernel) (pa_cons (pv 0) (pa_cons (pe_bltn rfl T.f_tuple (by decide +kernel) (v := .ty "tuple") rfl) pa_nil))))) (pss_one (ps_ret pe_bl)) pss_nil)
      (pss_cons (ps_set (i := 1) sc_law_is_piece.nd rfl (Or.inl rfl) pe_str)
      (pss_cons (ps_for PassesOwn.never rfl (pi_tup (pv 0)) (pg_name (i := 2) sc_law_is_piece.nd rfl (Or.inl rfl)) (pss_cons (ps_if (PW.pt (pw_or (pt_not (pt_val (pe_callB call_isi (by rfl) T.f_isinstance (by decide +kernel) (pa_cons (pv 2) (pa_cons (pe_bltn rfl T.f_tuple (by decide +kernel) (v := .ty "tuple") rfl) pa_nil))))) (pw_or (pt_cmpR op_ne (pe_callB call_len_seq (by rfl) T.f_len (by decide +kernel) (pa_cons (pv 2) pa_nil)) pe_int (nomark _)) (pw_or (pt_not (pt_val (pe_callB call_isi (by rfl) T.f_isinstance (by decide +kernel) (pa_cons (pe_ix ix_tup (pv 2) pe_int (fun _ _ => rfl)) (pa_cons (pe_bltn rfl T.f_str (by decide +kernel) (v := .ty "str") rfl) pa_nil))))) (pw_or1 (pt_cmpR op_le_str (pe_ix ix_tup (pv 2) pe_int (fun _ _ => rfl)) (pv 1) (nomark _))))))) (pss_one (ps_ret pe_bl)) pss_nil)
      (pss_cons (ps_if (PW.pt (pw_or (pt_cmpR op_gt (pe_callB call_len_str (by rfl) T.f_len (by decide +kernel) (pa_cons (pe_ix ix_tup (pv 2) pe_int (fun _ _ => rfl)) pa_nil)) pe_int (nomark _)) (pw_or1 (pt_cmpR (op_neD hu64) (pe_lc (own := [("sign", 3)]) (g := gName 3) rfl sc_law_is_piece.nd (pi_str (pe_ix ix_tup (pv 2) pe_int (fun _ _ => rfl))) (blkOk_by (N := N_law_is_piece) (sc := defScope s_law_is_piece) (by decide +kernel)) (fun _ _ _ _ _ => pg_name (i := 3) sc_law_is_piece.nd rfl (Or.inl rfl)) (fun _ _ _ _ _ => (pts_one (pt_cmpR op_notIn_sign (pv 3) pe_str (by rfl)))) (fun _ _ _ _ _ => (pv 3))) (pe_lst pa_nil) (nomark _))))) (pss_one (ps_ret pe_bl)) pss_nil)
      (pss_cons (ps_if (pt_not (pt_val (pc c_law_whole (hr.mono (by first | decide | omega)) (pa_cons (pe_ix ix_tup (pv 2) pe_int (fun _ _ => rfl)) pa_nil)))) (pss_one (ps_ret pe_bl)) pss_nil)
      (pss_one (ps_set (i := 1) sc_law_is_piece.nd rfl (Or.inl rfl) (pe_ix ix_tup (pv 2) pe_int (fun _ _ => rfl))))))))
      (pss_one (ps_ret pe_bl))))), ?_⟩
    refine ⟨_, rfl, _, _, _, _, true, rfl, .ty _, .fTuple ha, kit_ty (by decide +kernel), true, rfl, iteF ?_⟩
    refine ⟨_, rfl, a, rfl, ⟨_, hS H (Same.refl _)⟩, for_tup (K := K) (a := a) (xs := ts.map V.ref) (fun i σ H' => Same H H' ∧ ∃ z v2, σ = [some (.ref a), some (.str z), v2, none] ∧ ∀ p ∈ pz.drop i, Lt z p.1) ⟨Same.refl _, _, none, rfl, fun p hp => lt_empty (okf p hp).pos⟩ (fun i σ H' _ ⟨e, _⟩ => hS H' e) ?_ ?_⟩
    · rintro i x σ H' hx ⟨sm, z, v2, rfl, hz⟩
      obtain ⟨t, hti, rfl⟩ : ∃ t, ts[i]? = some t ∧ x = .ref t := by
        rw [List.getElem?_map] at hx
        cases e : ts[i]? with
        | none => rw [e] at hx; cases hx
        | some t => rw [e] at hx; exact ⟨t, rfl, (Option.some.inj hx).symm⟩
      obtain ⟨⟨f, n⟩, hpi, ht⟩ := Paired.at_ hts hti
      have ht' := sm _ _ ht
      have okp : FieldOk f := okf _ (List.mem_of_getElem? hpi)
      have f1 := okp.pos
      have f8 := okp.few
      -- the first test
      refine ⟨_, rfl, _, _, _, _, true, rfl, .ty _, .base (.tup ht'), kit_ty (by decide +kernel), true, rfl, iteF ?_⟩
      refine ⟨_, rfl, t, _, rfl, .inr (sqT ht'), rfl, _, rfl, iteF ?_⟩
      refine ⟨_, rfl, t, _, 0, _, rfl, rfl, sqT ht', atI_nat (j := 0) rfl, _, _, _, _, true, rfl, .ty _, .base (.str f), kit_ty (by decide +kernel), true, rfl, iteF ?_⟩
      refine ⟨_, rfl, t, _, 0, _, rfl, rfl, sqT ht', atI_nat (j := 0) rfl, _, rfl, f, z, rfl, rfl, _, rfl, ite2 (fun e => ?_) fun _ => ?_⟩
      · have h1 : Lt z f := hz (f, n) (by rw [drop_at hpi]; exact List.mem_cons_self)
        have e1 : (!decide (z.cps.toList < f.cps.toList)) = true := e
        rw [decide_eq_true (show z.cps.toList < f.cps.toList from h1)] at e1
        cases e1
      -- the signs
      refine ⟨_, rfl, t, _, 0, _, rfl, rfl, sqT ht', atI_nat (j := 0) rfl, f, rfl, small100 (by omega), _, 8, rfl, rfl, _, rfl, ite2 (fun e => ?_) fun _ => ?_⟩
      · have e1 : (8 : Int) < (f.length : Int) := of_decide_eq_true e
        omega
      refine ⟨_, rfl, t, _, 0, _, rfl, rfl, sqT ht', atI_nat (j := 0) rfl, f, rfl, fun D1 nD1 => ?_⟩
      refine lc_str (fun _ H2 => Same H' H2 ∧ H2 D1 = some (.lst [])) ⟨same_upd nD1, upd_same⟩ (fun k c H2 hc p => ⟨rfl, ?_⟩) (fun H2 p => ?_)
      · have hm : c ∈ f.cps.toList := Array.mem_toList_iff.mpr (Array.mem_of_getElem? hc)
        obtain ⟨h1, h2⟩ := okp.small c hm
        refine ⟨_, rfl, c, _, rfl, rfl, _, rfl, ite2 (fun e => ?_) fun _ => p⟩
        have e1 : (!decide (c ∈ (Str.ofString "abcdefghijklmnopqrstuvwxyz").cps.toList)) = true := e
        rw [decide_eq_true (letters_mem h1 h2)] at e1
        cases e1
      · obtain ⟨s2, hD2⟩ := p
        refine ⟨Nat.zero_le _, fun e ne => ?_⟩
        have s3 := same_upd (o := .lst []) ne
        refine ⟨.list [], .list [], .lst (sqL (s3 _ _ hD2)) .nil, .lst (sqL upd_same) .nil, shaped_nil, shaped_nil, false, ?_, iteF ?_⟩
        · rw [eqv_nil] <;> rfl
        have s04 := (s2.trans s3)
        have ht4 := s04 _ _ ht'
        -- _law_whole(pair[1]); last = pair[0]
        refine ⟨_, rfl, t, _, 1, _, rfl, rfl, sqT ht4, atI_nat (j := 1) rfl, n, rfl, true, rfl, iteF ?_⟩
        refine ⟨_, rfl, t, _, 0, _, rfl, rfl, sqT ht4, atI_nat (j := 0) rfl, sm.trans s04, f, _, rfl, fun p hp => ?_⟩
        have hup : (pz.drop i).Pairwise fun p q => Lt p.1 q.1 := up.sublist (List.drop_sublist _ _)
        rw [drop_at hpi] at hup
        exact (List.pairwise_cons.mp hup).1 p hp
    · rintro σ H' ⟨sm, z, v2, rfl, hz⟩
      exact q H' sm
end
end Cut
namespace Cut
open PySem PySem.Spec PyProof.Rows L2
/-! ### the same data, down to a depth -/
def AlikeD : Nat → Hp → V → V → Prop
  | 0, _, x, y => x = y ∧ (x = .non ∨ (∃ i, x = .int i) ∨ ∃ z, x = .str z)
  | d + 1, H, x, y => (x = y ∧ (x = .non ∨ (∃ i, x = .int i) ∨ ∃ z, x = .str z)) ∨ ∃ (a b : Addr) (xs ys : List V), x = .ref a ∧ y = .ref b ∧ ((H a = some (.lst xs) ∧ H b = some (.lst ys)) ∨ (H a = some (.tup xs) ∧ H b = some (.tup ys))) ∧ xs.length ≤ 100 ∧ Paired (AlikeD d H) xs ys
theorem AlikeD.stay {H H' : Hp} (s : Same H H') : ∀ {d : Nat} {x y : V}, AlikeD d H x y → AlikeD d H' x y
  | 0, _, _, h => h
  | d + 1, x, y, h => by
    rcases h with h | ⟨a, b, xs, ys, e1, e2, e3, e4, e5⟩
    · exact .inl h
    · refine .inr ⟨a, b, xs, ys, e1, e2, ?_, e4, Paired.mapP e5 fun _ _ z => AlikeD.stay s z⟩
      rcases e3 with ⟨h1, h2⟩ | ⟨h1, h2⟩
      · exact .inl ⟨s _ _ h1, s _ _ h2⟩
      · exact .inr ⟨s _ _ h1, s _ _ h2⟩
theorem kitLT {K : PySem.W.Frag} {t : String} {b1 b2 : Bool} (h1 : kitB t "list" = some b1) (h2 : kitB t "tuple" = some b2) : PySem.W.kitAny K (.type t) [.type "list", .type "tuple"] = some (b1 || b2) := by
  refine kitAny_cons (kit_ty h1) (fun e => ?_) fun e => by rw [e] <;> rfl
  refine kitAny_cons (kit_ty h2) (fun e2 => ?_) fun e2 => by rw [e, e2] <;> rfl
  rw [e, e2]
  exact kitAny_nil
section
variable {P : Program} {w : World} {K : PySem.W.Frag} {mg : Str → Option Value} {base : Heap}
def spAlike (d : Nat) : Sp := fun vs H Q _ => ∃ x y : V, vs = [x, y] ∧ AlikeD d H x y ∧ ∀ H' : Hp, Same H H' → Q (.bl true) H'
/-- what follows for a leaf -/
def tLeaf (K : PySem.W.Frag) : TS := tSeq (tIfS (tOr (tTest (tOp (fun x y H Q => y = .non ∧ Q (.bl (decide (x = .non))) H) (tVar 1) (tC .non))) (tTest (tOp (fun x y H Q => y = .non ∧ Q (.bl (decide (x = .non))) H) (tVar 0) (tC .non))))
      (tRet (tAndV (tOp (fun x y H Q => y = .non ∧ Q (.bl (decide (x = .non))) H) (tVar 1) (tC .non)) (tOp (fun x y H Q => y = .non ∧ Q (.bl (decide (x = .non))) H) (tVar 0) (tC .non)))) tNext)
    (tSeq (tIfS (tOr (tTest (tOp rNe (tCB (rIsi K) (tCons (tVar 1) (tCons (tC (.ty "bool")) tNil))) (tCB (rIsi K) (tCons (tVar 0) (tCons (tC (.ty "bool")) tNil))))) (tTest (tOp rNe (tCB (rIsi K) (tCons (tVar 1) (tCons (tC (.ty "int")) tNil))) (tCB (rIsi K) (tCons (tVar 0) (tCons (tC (.ty "int")) tNil)))))) (tRet (tC (.bl false))) tNext)
      (tRet (tAndV (tOp rEq (tCB (rIsi K) (tCons (tVar 0) (tCons (tC (.ty "str")) tNil))) (tCB (rIsi K) (tCons (tVar 1) (tCons (tC (.ty "str")) tNil)))) (tOp rEq (tVar 0) (tVar 1)))))
theorem leaf_go {x : V} {H : Hp} {D : Ends} {v2 : Option V} (hx : x = .non ∨ (∃ i, x = .int i) ∨ ∃ z, x = .str z) (q : D.rt (.bl true) H) : tLeaf K D [some x, some x, v2] H := by
  rcases hx with rfl | ⟨i, rfl⟩ | ⟨z, rfl⟩
  · exact ⟨_, rfl, rfl, true, rfl, iteT (iteT ⟨_, rfl, rfl, true, rfl, iteT ⟨_, rfl, rfl, q⟩⟩)⟩
  · refine ⟨_, rfl, rfl, false, rfl, iteF ⟨_, rfl, rfl, false, rfl, iteF ?_⟩⟩
    refine ⟨_, rfl, _, _, _, _, false, rfl, .ty _, .base (.int i), kit_ty (by decide +kernel), _, rfl, _, _, _, _, false, rfl, .ty _, .base (.int i), kit_ty (by decide +kernel), rfl, false, rfl, iteF ?_⟩
    refine ⟨_, rfl, _, _, _, _, true, rfl, .ty _, .base (.int i), kit_ty (by decide +kernel), _, rfl, _, _, _, _, true, rfl, .ty _, .base (.int i), kit_ty (by decide +kernel), rfl, false, rfl, iteF ?_⟩
    refine ⟨_, rfl, _, _, _, _, false, rfl, .ty _, .base (.int i), kit_ty (by decide +kernel), _, rfl, _, _, _, _, false, rfl, .ty _, .base (.int i), kit_ty (by decide +kernel), rfl, true, rfl, iteT ?_⟩
    refine ⟨_, rfl, _, rfl, rfl, ?_⟩
    rw [decide_eq_true rfl]
    exact q
  · refine ⟨_, rfl, rfl, false, rfl, iteF ⟨_, rfl, rfl, false, rfl, iteF ?_⟩⟩
    refine ⟨_, rfl, _, _, _, _, false, rfl, .ty _, .base (.str z), kit_ty (by decide +kernel), _, rfl, _, _, _, _, false, rfl, .ty _, .base (.str z), kit_ty (by decide +kernel), rfl, false, rfl, iteF ?_⟩
    refine ⟨_, rfl, _, _, _, _, false, rfl, .ty _, .base (.str z), kit_ty (by decide +kernel), _, rfl, _, _, _, _, false, rfl, .ty _, .base (.str z), kit_ty (by decide +kernel), rfl, false, rfl, iteF ?_⟩
    refine ⟨_, rfl, _, _, _, _, true, rfl, .ty _, .base (.str z), kit_ty (by decide +kernel), _, rfl, _, _, _, _, true, rfl, .ty _, .base (.str z), kit_ty (by decide +kernel), rfl, true, rfl, iteT ?_⟩
    refine ⟨_, rfl, _, rfl, rfl, ?_⟩
    rw [decide_eq_true rfl]
    exact q
theorem leaf_ty {x : V} {H : Hp} (hx : x = .non ∨ (∃ i, x = .int i) ∨ ∃ z, x = .str z) : ∃ t : String, TyX K H x (.type t) ∧ PySem.W.kitAny K (.type t) [.type "list", .type "tuple"] = some false := by
  rcases hx with rfl | ⟨i, rfl⟩ | ⟨z, rfl⟩
  · exact ⟨"NoneType", .base .non, kitLT (b1 := false) (b2 := false) (by decide +kernel) (by decide +kernel)⟩
  · exact ⟨"int", .base (.int i), kitLT (b1 := false) (b2 := false) (by decide +kernel) (by decide +kernel)⟩
  · exact ⟨"str", .base (.str z), kitLT (b1 := false) (b2 := false) (by decide +kernel) (by decide +kernel)⟩
theorem ok_alike0 (D : Def K mg "_law_alike" s_law_alike) (T : Tx mg) : Callee P w K mg base "_law_alike" P_law_alike 1 (spAlike 0) := by
  refine D.callee sc_law_alike (fun _ _ _ _ _ _ us hl => match us, hl with | [_, _], _ => rfl) (fun vs H Q E h => ?_) (fun fa cdv A outer s H vs Q E hr h => ?_)
  · obtain ⟨x, y, rfl, _⟩ := h
    rfl
  · obtain ⟨x, y, rfl, ⟨rfl, hx⟩, q⟩ := h
    refine ⟨_, (pss_cons (ps_if (pt_val (pe_callB call_isiT (by rfl) T.f_isinstance (by decide +kernel) (pa_cons (pv 1) (pa_cons (pe_tup (pa_cons (pe_bltn rfl T.f_list (by decide +kernel) (v := .ty "list") rfl) (pa_cons (pe_bltn rfl T.f_tuple (by decide +kernel) (v := .ty "tuple") rfl) pa_nil))) pa_nil)))) pss_never pss_nil)
      (pss_cons (ps_if (PW.pt (pw_or (pt_cmpR op_isN (pv 1) pe_non (nomark _)) (pw_or1 (pt_cmpR op_isN (pv 0) pe_non (nomark _))))) (pss_one (ps_ret (pe_and (pe_cmpR op_isN (pv 1) pe_non (nomark _)) (pe_one (pe_cmpR op_isN (pv 0) pe_non (nomark _)))))) pss_nil)
      (pss_cons (ps_if (PW.pt (pw_or (pt_cmpR op_ne (pe_callB call_isi (by rfl) T.f_isinstance (by decide +kernel) (pa_cons (pv 1) (pa_cons (pe_bltn rfl T.f_bool (by decide +kernel) (v := .ty "bool") rfl) pa_nil))) (pe_callB call_isi (by rfl) T.f_isinstance (by decide +kernel) (pa_cons (pv 0) (pa_cons (pe_bltn rfl T.f_bool (by decide +kernel) (v := .ty "bool") rfl) pa_nil))) (nomark _)) (pw_or1 (pt_cmpR op_ne (pe_callB call_isi (by rfl) T.f_isinstance (by decide +kernel) (pa_cons (pv 1) (pa_cons (pe_bltn rfl T.f_int (by decide +kernel) (v := .ty "int") rfl) pa_nil))) (pe_callB call_isi (by rfl) T.f_isinstance (by decide +kernel) (pa_cons (pv 0) (pa_cons (pe_bltn rfl T.f_int (by decide +kernel) (v := .ty "int") rfl) pa_nil))) (nomark _))))) (pss_one (ps_ret pe_bl)) pss_nil)
      (pss_one (ps_ret (pe_and (pe_cmpR op_eq (pe_callB call_isi (by rfl) T.f_isinstance (by decide +kernel) (pa_cons (pv 0) (pa_cons (pe_bltn rfl T.f_str (by decide +kernel) (v := .ty "str") rfl) pa_nil))) (pe_callB call_isi (by rfl) T.f_isinstance (by decide +kernel) (pa_cons (pv 1) (pa_cons (pe_bltn rfl T.f_str (by decide +kernel) (v := .ty "str") rfl) pa_nil))) (nomark _)) (pe_one (pe_cmpR op_eq (pv 0) (pv 1) (nomark _))))))))), ?_⟩
    refine ⟨_, rfl, small100 (show 2 ≤ 100000 by decide), fun tp ntp => ?_⟩
    have sp := same_upd (o := .tup [V.ty "list", V.ty "tuple"]) ntp
    obtain ⟨t, h1, h2⟩ := leaf_ty (K := K) (H := upd H tp (.tup [V.ty "list", V.ty "tuple"])) hx
    refine ⟨_, tp, _, _, _, false, rfl, upd_same, .cons (.ty _) (.cons (.ty _) .nil), h1, h2, false, rfl, iteF ?_⟩
    exact leaf_go hx (q _ sp)
theorem ok_alike_step (d : Nat) (D : Def K mg "_law_alike" s_law_alike) (T : Tx mg) (c_law_alike : Callee P w K mg base "_law_alike" P_law_alike (d + 1) (spAlike d)) : Callee P w K mg base "_law_alike" P_law_alike (d + 1 + 1) (spAlike (d + 1)) := by
  refine D.callee sc_law_alike (fun _ _ _ _ _ _ us hl => match us, hl with | [_, _], _ => rfl) (fun vs H Q E h => ?_) (fun fa cdv A outer s H vs Q E hr h => ?_)
  · obtain ⟨x, y, rfl, _⟩ := h
    rfl
  · obtain ⟨x, y, rfl, hxy, q⟩ := h
    refine ⟨_, (pss_cons (ps_if (pt_val (pe_callB call_isiT (by rfl) T.f_isinstance (by decide +kernel) (pa_cons (pv 1) (pa_cons (pe_tup (pa_cons (pe_bltn rfl T.f_list (by decide +kernel) (v := .ty "list") rfl) (pa_cons (pe_bltn rfl T.f_tuple (by decide +kernel) (v := .ty "tuple") rfl) pa_nil))) pa_nil)))) (pss_cons (ps_if (PW.pt (pw_or (pt_not (pt_val (pe_callB call_isiT (by rfl) T.f_isinstance (by decide +kernel) (pa_cons (pv 0) (pa_cons (pe_tup (pa_cons (pe_bltn rfl T.f_list (by decide +kernel) (v := .ty "list") rfl) (pa_cons (pe_bltn rfl T.f_tuple (by decide +kernel) (v := .ty "tuple") rfl) pa_nil))) pa_nil))))) (pw_or1 (pt_cmpR op_ne (pe_callB call_isi (by rfl) T.f_isinstance (by decide +kernel) (pa_cons (pv 0) (pa_cons (pe_bltn rfl T.f_list (by decide +kernel) (v := .ty "list") rfl) pa_nil))) (pe_callB call_isi (by rfl) T.f_isinstance (by decide +kernel) (pa_cons (pv 1) (pa_cons (pe_bltn rfl T.f_list (by decide +kernel) (v := .ty "list") rfl) pa_nil))) (nomark _))))) (pss_one (ps_ret pe_bl)) pss_nil)
      (pss_one (ps_ret (pe_and (pe_cmpR op_eq (pe_callB call_len_seq (by rfl) T.f_len (by decide +kernel) (pa_cons (pv 0) pa_nil)) (pe_callB call_len_seq (by rfl) T.f_len (by decide +kernel) (pa_cons (pv 1) pa_nil)) (nomark _)) (pe_one (pe_callB (cr_all rfl) (by rfl) T.f_all (by decide +kernel) (pa_cons (pe_lc (own := [("k", 2)]) (g := gName 2) (tt := tYes) rfl sc_law_alike.nd (pi_range1 rfl T.f_range (pa_cons (pe_callB call_len_seq (by rfl) T.f_len (by decide +kernel) (pa_cons (pv 1) pa_nil)) pa_nil)) (blkOk_by (N := N_law_alike) (sc := defScope s_law_alike) (by decide +kernel)) (fun _ _ _ _ _ => pg_name (i := 2) sc_law_alike.nd rfl (Or.inl rfl)) (fun _ _ _ _ _ => pts_nil) (fun _ _ _ _ _ => (pc c_law_alike (hr.mono (by first | decide | omega)) (pa_cons (pe_ix (ixSK K) (pv 0) (pv 2) (fun _ _ => rfl)) (pa_cons (pe_ix (ixSK K) (pv 1) (pv 2) (fun _ _ => rfl)) pa_nil))))) pa_nil))))))) pss_nil)
      (pss_cons (ps_if (PW.pt (pw_or (pt_cmpR op_isN (pv 1) pe_non (nomark _)) (pw_or1 (pt_cmpR op_isN (pv 0) pe_non (nomark _))))) (pss_one (ps_ret (pe_and (pe_cmpR op_isN (pv 1) pe_non (nomark _)) (pe_one (pe_cmpR op_isN (pv 0) pe_non (nomark _)))))) pss_nil)
      (pss_cons (ps_if (PW.pt (pw_or (pt_cmpR op_ne (pe_callB call_isi (by rfl) T.f_isinstance (by decide +kernel) (pa_cons (pv 1) (pa_cons (pe_bltn rfl T.f_bool (by decide +kernel) (v := .ty "bool") rfl) pa_nil))) (pe_callB call_isi (by rfl) T.f_isinstance (by decide +kernel) (pa_cons (pv 0) (pa_cons (pe_bltn rfl T.f_bool (by decide +kernel) (v := .ty "bool") rfl) pa_nil))) (nomark _)) (pw_or1 (pt_cmpR op_ne (pe_callB call_isi (by rfl) T.f_isinstance (by decide +kernel) (pa_cons (pv 1) (pa_cons (pe_bltn rfl T.f_int (by decide +kernel) (v := .ty "int") rfl) pa_nil))) (pe_callB call_isi (by rfl) T.f_isinstance (by decide +kernel) (pa_cons (pv 0) (pa_cons (pe_bltn rfl T.f_int (by decide +kernel) (v := .ty "int") rfl) pa_nil))) (nomark _))))) (pss_one (ps_ret pe_bl)) pss_nil)
      (pss_one (ps_ret (pe_and (pe_cmpR op_eq (pe_callB call_isi (by rfl) T.f_isinstance (by decide +kernel) (pa_cons (pv 0) (pa_cons (pe_bltn rfl T.f_str (by decide +kernel) (v := .ty "str") rfl) pa_nil))) (pe_callB call_isi (by rfl) T.f_isinstance (by decide +kernel) (pa_cons (pv 1) (pa_cons (pe_bltn rfl T.f_str (by decide +kernel) (v := .ty "str") rfl) pa_nil))) (nomark _)) (pe_one (pe_cmpR op_eq (pv 0) (pv 1) (nomark _))))))))), ?_⟩
    refine ⟨_, rfl, small100 (show 2 ≤ 100000 by decide), fun tp ntp => ?_⟩
    have sp := same_upd (o := .tup [V.ty "list", V.ty "tuple"]) ntp
    rcases hxy with ⟨rfl, hx⟩ | ⟨a, b, xs, ys, rfl, rfl, hab, hl, hp⟩
    · obtain ⟨t, h1, h2⟩ := leaf_ty (K := K) (H := upd H tp (.tup [V.ty "list", V.ty "tuple"])) hx
      refine ⟨_, tp, _, _, _, false, rfl, upd_same, .cons (.ty _) (.cons (.ty _) .nil), h1, h2, false, rfl, iteF ?_⟩
      exact leaf_go hx (q _ sp)
    · -- both lists, or both tuples
      have lxy := Paired.len hp
      have key : ∀ (H' : Hp), Same H H' → ∃ (t : String) (bl : Bool), TyX K H' (.ref a) (.type t) ∧ TyX K H' (.ref b) (.type t) ∧ PySem.W.kitAny K (.type t) [.type "list", .type "tuple"] = some true ∧ PySem.W.kitOne K (.type t) (.type "list") = some bl ∧ (SqL K H' a xs ∨ SqT K H' a xs) ∧ (SqL K H' b ys ∨ SqT K H' b ys) := by
        intro H' s
        rcases hab with ⟨h1, h2⟩ | ⟨h1, h2⟩
        · exact ⟨"list", true, .base (.lst (s _ _ h1)), .base (.lst (s _ _ h2)), kitLT (b1 := true) (b2 := false) (by decide +kernel) (by decide +kernel), kit_ty (by decide +kernel), .inl (sqL (s _ _ h1)), .inl (sqL (s _ _ h2))⟩
        · exact ⟨"tuple", false, .base (.tup (s _ _ h1)), .base (.tup (s _ _ h2)), kitLT (b1 := false) (b2 := true) (by decide +kernel) (by decide +kernel), kit_ty (by decide +kernel), .inr (sqT (s _ _ h1)), .inr (sqT (s _ _ h2))⟩
      obtain ⟨t, bl, k1, k2, k3, k4, k5, k6⟩ := key _ sp
      refine ⟨_, tp, _, _, _, true, rfl, upd_same, .cons (.ty _) (.cons (.ty _) .nil), k2, k3, true, rfl, iteT ?_⟩
      refine ⟨_, rfl, small100 (show 2 ≤ 100000 by decide), fun tq ntq => ?_⟩
      have sq := same_upd (o := .tup [V.ty "list", V.ty "tuple"]) ntq
      have s2 := sp.trans sq
      obtain ⟨t', bl', j1, j2, j3, j4, j5, j6⟩ := key _ s2
      refine ⟨_, tq, _, _, _, true, rfl, upd_same, .cons (.ty _) (.cons (.ty _) .nil), j1, j3, true, rfl, iteF ?_⟩
      refine ⟨_, rfl, _, _, _, _, bl', rfl, .ty _, j1, j4, _, rfl, _, _, _, _, bl', rfl, .ty _, j2, j4, rfl, false, ?_, iteF ?_⟩
      · rw [decide_eq_true rfl] <;> rfl
      -- len(found) == len(due) and all(..)
      refine ⟨_, rfl, a, xs, rfl, j5, _, rfl, b, ys, rfl, j6, rfl, true, ?_, iteT ?_⟩
      · rw [lxy, decide_eq_true rfl] <;> rfl
      refine ⟨_, rfl, b, ys, rfl, j6, _, rfl, by omega, by omega, fun Dl nD => ?_⟩
      refine lc_range (lo := 0) (n := ((ys.length : Nat) : Int).toNat) (fun i H3 => Same (upd (upd H tp (.tup [V.ty "list", V.ty "tuple"])) tq (.tup [V.ty "list", V.ty "tuple"])) H3 ∧ H3 Dl = some (.lst ((List.replicate i true).map V.bl))) ⟨same_upd nD, upd_same⟩ (fun i H3 hi p => ⟨rfl, yes_go ?_⟩) (fun H3 p => ?_)
      · obtain ⟨s3, hD⟩ := p
        have hi' : i < ys.length := by omega
        obtain ⟨x', hx'⟩ : ∃ x', xs[i]? = some x' := ⟨xs[i], List.getElem?_eq_getElem (by omega)⟩
        obtain ⟨y', hy', hal⟩ := Paired.at_ hp hx'
        have s03 := s2.trans s3
        obtain ⟨_, _, _, _, _, _, i5, i6⟩ := key _ s03
        have e0 : (0 : Int) + (i : Int) = (i : Int) := Int.zero_add _
        have ixa : ∀ (R : VK), R x' H3 → rIx K (.ref a) (.int (0 + (i : Int))) H3 R := fun R hR => by
          rcases i5 with h | h
          · exact .inl ⟨a, xs, _, x', rfl, rfl, h, at_of e0 hx', hR⟩
          · exact .inr (.inl ⟨a, xs, _, x', rfl, rfl, h, at_of e0 hx', hR⟩)
        have ixb : ∀ (R : VK), R y' H3 → rIx K (.ref b) (.int (0 + (i : Int))) H3 R := fun R hR => by
          rcases i6 with h | h
          · exact .inl ⟨b, ys, _, y', rfl, rfl, h, at_of e0 hy', hR⟩
          · exact .inr (.inl ⟨b, ys, _, y', rfl, rfl, h, at_of e0 hy', hR⟩)
        refine ⟨_, rfl, _, rfl, ixa _ ⟨_, rfl, _, rfl, ixb _ ?_⟩⟩
        refine ⟨x', y', rfl, AlikeD.stay s03 hal, fun H4 s4 => ⟨_, s4 _ _ hD, lt100 (by rw [List.length_map, List.length_replicate]; omega), Same.mut (s3.trans s4) nD, ?_⟩⟩
        rw [upd_same, List.replicate_succ', List.map_append] <;> rfl
      · obtain ⟨s3, hD⟩ := p
        refine ⟨Dl, _, rfl, sqL hD, ?_⟩
        have e : (List.replicate ((ys.length : Nat) : Int).toNat true).all id = true := by
          rw [List.all_eq_true]
          intro z hz
          exact (List.mem_replicate.mp hz).2
        rw [e]
        exact q _ (s2.trans s3)
theorem ok_law_alike (D : Def K mg "_law_alike" s_law_alike) (T : Tx mg) : ∀ d : Nat, Callee P w K mg base "_law_alike" P_law_alike (d + 1) (spAlike d)
  | 0 => ok_alike0 D T
  | d + 1 => ok_alike_step d D T (ok_law_alike D T d)
end
end Cut
namespace Cut
open PySem PySem.Spec PyProof.Rows L2
/-! ### own rule: sorted(list of parts, key=lambda part: part[0]) -/
abbrev lamP (pa : Pos) : Arguments := { posonlyargs := [], args := [{ arg := "part", annotation := none, pos := pa }], vararg := none, kwonlyargs := [], kw_defaults := [], kwarg := none, defaults := [] }
abbrev lamS : Scope := { kind := .function, names := [("part", .local)], isGenerator := false, isCoroutine := false, more := [] }
abbrev lamB (p1 p2 p3 : Pos) (k : Nat) : Expr := .Subscript (.Name "part" p1) (.Constant (.int 0) k p2) p3
def rSortP (K : PySem.W.Frag) (T : List (Addr × Str)) : List V → Hp → VK → Prop := fun vs H1 Q => LamX.Tabs T H1 ∧ ∃ (a : Addr) (xs : List V) (ps : List Part), vs = [.ref a] ∧ H1 a = some (.lst xs) ∧ Paired (PartAt H1) xs ps ∧ ps.length ≤ 60 ∧
  ∀ H2 p ys qs, LamX.ExtN H1 H2 → H2 p = none → Paired (PartAt H2) ys qs → qs.Perm ps → qs.Pairwise (fun x y => x.1.cps.toList ≤ y.1.cps.toList) → Q (.ref p) (upd H2 p (.lst ys))
def IsP (H : Hp) (v : Value) (b : Addr × Part) : Prop := v = .ref b.1 ∧ H b.1 = some (.tup (partVs b.2))
theorem isP_of {H : Hp} : ∀ {xs : List V} {us : List Value} {ps : List Part}, Vals xs us → Paired (PartAt H) xs ps → ∃ bs : List (Addr × Part), PySem.W.EachIs (IsP H) us bs ∧ bs.map (·.2) = ps
  | _, _, _, .nil, .nil => ⟨[], .nil, rfl⟩
  | _, _, _, .cons r t, .cons q u => by
    obtain ⟨bs, e1, e2⟩ := isP_of t u
    obtain ⟨a, rfl, h⟩ := q
    cases r
    exact ⟨(a, _) :: bs, .cons ⟨rfl, h⟩ e1, by simp [e2]⟩
theorem isP_to {H : Hp} : ∀ {us : List Value} {bs : List (Addr × Part)}, PySem.W.EachIs (IsP H) us bs → Vals (bs.map fun b => V.ref b.1) us
  | _, _, .nil => .nil
  | _, _, .cons r t => .cons r.1 (isP_to t)
theorem isP_at {H : Hp} : ∀ {us : List Value} {bs : List (Addr × Part)}, PySem.W.EachIs (IsP H) us bs → Paired (PartAt H) (bs.map fun b => V.ref b.1) (bs.map (·.2))
  | _, _, .nil => .nil
  | _, _, .cons r t => .cons ⟨_, rfl, r.2⟩ (isP_at t)
theorem pe_sortP {X : Cx} {T : List (Addr × Str)} {c P : Addr} {e : Expr} {es : List Expr} {t : TA} {p pos kpos lpos pa p1 p2 p3 : Pos} {k n : Nat} (TB : LamX.TabB X.base X.mg c P) (hcode : X.env.code = .ref c)
    (hmT : (P, X.env.qual ++ "<lambda>") ∈ T) (hu : ∀ p ∈ T, p.1 = P → p.2 = X.env.qual ++ "<lambda>") (hr : Room n X.A) (hm : X.mg "sorted" = none) (ha : PA X (e :: es) t) (hg : Gl X "sorted" := by rfl)
    (h1 : backTo pos (starEach (e :: es) X.env) = (false, eval e X.env) :: backTo pos (starEach es X.env) := by rfl) (h2 : (backTo pos (starEach (e :: es) X.env)).any (·.1) = false := by rfl)
    (h3 : (backToKw pos (keywordEach [⟨some "key", .Lambda (lamP pa) (lamB p1 p2 p3 k) lamS lpos, kpos⟩] X.env)).all (·.1.isSome) = true := by rfl) (h4 : (backToKw pos (keywordEach [⟨some "key", .Lambda (lamP pa) (lamB p1 p2 p3 k) lamS lpos, kpos⟩] X.env)).any (·.1.isNone) = false := by rfl)
    (h5 : (backToKw pos (keywordEach [⟨some "key", .Lambda (lamP pa) (lamB p1 p2 p3 k) lamS lpos, kpos⟩] X.env)).filterMap (·.1) = [Str.ofString "key"] := by rfl) :
    PE X (.Call (.Name "sorted" p) (e :: es) [⟨some "key", .Lambda (lamP pa) (lamB p1 p2 p3 k) lamS lpos, kpos⟩] pos) (fun σ H Q => t σ H fun vs H1 => rSortP X.K T vs H1 Q) := by
  refine ⟨fun pins s σ H Q I h => ?_⟩
  refine wpAny_Call_Name_kw (ld_blt I hg hm (u := .builtin "sorted") (by decide +kernel) ?_ (by decide) (by decide))
  refine PyProof.Rows.callWith_kw (thn (ha.run pos pins s σ H _ I h) fun us s1 ⟨vs, H1, I1, r1, q1⟩ => ?_) h1 h2 h3 h4
  obtain ⟨tb, a, xs, ps, rfl, hl, hp, hlen, q⟩ := q1
  obtain rfl := Vals.ref1 r1
  show wpAny _ _ (evalAll ((do let v ← eval (.Lambda (lamP pa) (lamB p1 p2 p3 k) lamS lpos) X.env; standAt pos; pure v) :: [])) _ _ s1
  refine wpAny_evalAll_cons (wpAny_bind (LamX.lam_make2 I1 TB hcode hmT hu tb rfl (fun y hy k => by simp at hy; subst hy; cases k) fun f c' pm ctv H2 s2 I2 eN T2 hf hfn hfr hco => wpAny_bind (wpAny_standAt (wpAny_pure (wpAny_evalAll_nil ?_)))))
  rw [h5]
  have tups : Tups H1 H2 := fun b ys e => eN _ _ e fun _ z => by cases z
  obtain ⟨its, rv, il, hz⟩ := I2.list (sqL (eN _ _ hl fun _ z => by cases z))
  obtain ⟨bs, eb, em⟩ := isP_of rv (Paired.mapP hp fun _ _ z => PartAt.stay z tups)
  have lb : bs.length = ps.length := by rw [← em]; simp
  have ro := hr.un
  have rd := hr.dp
  refine PySem.W.sorted_key_data (b := false) (R := IsP H2) (fun b : Addr × Part => PyData.str b.2.1) il.isList eb (PySem.W.AllAlike.of fun _ _ => rfl) (PySem.W.Sortable.others (enc := fun b : Addr × Part => PyData.str b.2.1) fun b => ⟨(fun z => nomatch z), (fun xs z => nomatch z)⟩) (by rw [lb]; exact small100 (by omega)) (fun b _ => ?_) (ksk_s1 _ _) (fun _ => ksk_l1 _ _) (fun _ => ksk_t1 _ _)
    (fun v b hR _ h tk kp => ?_) fun out c2 h' tk kp fresh hD hlo eo => ?_
  · show X.A.units + 2 + 0 < cLine
    omega
  · obtain ⟨rfl, hv⟩ := hR
    have I3 : Inv X pins σ H2 { s2 with heap := h, toks := tk } := I2.kept kp
    have of1 := kp _ _ hf
    obtain ⟨⟨oc, vs, t', hoc, hdc, hvc⟩, _, _⟩ := I3.hok c' _ hco
    have rc : codeAny (model X.prog X.w) X.A.in1.in1 (.call (.ref f) ⟨[Value.ref b.1], []⟩) (fun r s' => match r with | .ok (.ret v) => PySem.W.KeyPure (.str b.2.1) { s2 with heap := h, toks := tk } v s' | .ok _ => False | .error e => False) { s2 with heap := h, toks := tk } := by
      refine PySem.W.kla_callFunE (show X.A.depth < recursionLimit by omega) of1 rfl rfl rfl rfl ⟨c', oc, vs, t', rfl, hoc, hdc, hvc⟩ ?_
      have hb : bindArgs (PySem.W.kla_fn "<lambda>" (X.env.qual ++ "<lambda>") (lamP pa) (lamB p1 p2 p3 k) lamS (cloFrom X.env.cells lamS.names []) pm (.ref c') ctv) ⟨[Value.ref b.1], []⟩ = pure [(("part" : Str), Value.ref b.1)] := by rfl
      rw [hb]
      refine wpAny_pure (wpAny_newFunctionEnv (fun y hy => by simp at hy; subst hy; intro z; cases z) (fun y hy => by simp at hy; subst hy; rfl) (fun h₁ hns hsb => ⟨I3.nolimit.fresh _ hsb, ?_⟩) rfl)
      have kp2 : ∀ b o, h.get? b = some o → h₁.get? b = some o := fun b o e => hsb.extBut b o (Nat.ne_of_lt (Heap.lt_size e)) (Heap.get?_push_of_some _ e)
      refine PySem.W.kla_codeExpr (Subscript_ (wpAny_Name (wpAny_loadName_local rfl rfl hns (v := Value.ref b.1) rfl (wpAny_Constant_int ?_)) (by decide)))
      obtain ⟨its2, r2, pl, hz2⟩ := I3.tuple (sqT hv)
      have pl2 : IsTup h₁ b.1 its2.toArray := pl.keeps kp2
      obtain ⟨w, ew, rw'⟩ := r2.get (i := 0) (x := V.str b.2.1) rfl
      obtain ⟨tw, rfl⟩ := rw'
      have hl0 : its2.length = 3 := by rw [← r2.length] <;> rfl
      refine subscriptTail_builtinR (x := Value.str b.2.1 tw) pl2.typeIs slot_tuple_getitem.lookup (getItem_tuple (j := 0) pl2 (by omega) (by omega) (by rw [List.size_toArray, hl0] <;> decide) (by simpa using ew) ⟨rfl, ?_⟩) rfl
      exact ⟨_, _, rfl, kp2, Reads.str _ _⟩
    refine wpAny_call (codeAny_mono rc fun r s' hq => ?_)
    cases r with
    | error e => exact hq.elim
    | ok fl =>
      cases fl with
      | ret u => exact hq
      | next => exact False.elim hq
      | brk => exact False.elim hq
      | cont => exact False.elim hq
  · have I3 : Inv X pins σ (upd H2 (s2.heap.objs.size + 1) (.lst ((bs.mergeSort (PySem.W.dataLe false fun b : Addr × Part => PyData.str b.2.1)).map fun b => V.ref b.1))) { s2 with heap := h', toks := tk } :=
      I2.laid kp (Nat.le_succ _) ⟨by simp only [List.length_map, List.length_mergeSort, lb]; exact small100 (by omega), out, c2, isP_to eo, hD⟩
    have nn : H2 (s2.heap.objs.size + 1) = none := I2.hok.fresh (Nat.le_succ _)
    refine ⟨.ref _, _, I3, rfl, ?_⟩
    refine q _ _ ((bs.mergeSort (PySem.W.dataLe false fun b : Addr × Part => PyData.str b.2.1)).map fun b => V.ref b.1) ((bs.mergeSort (PySem.W.dataLe false fun b : Addr × Part => PyData.str b.2.1)).map (·.2)) eN nn (isP_at eo) ?_ ?_
    · rw [← em]
      exact (List.mergeSort_perm _ _).map _
    · rw [List.pairwise_map]
      have so := List.pairwise_mergeSort (le := PySem.W.dataLe false fun b : Addr × Part => PyData.str b.2.1) ?_ ?_ bs
      · refine so.imp fun {x y} z => ?_
        rw [PySem.W.dataLe_str (fun b : Addr × Part => b.2.1)] at z
        exact of_decide_eq_true z
      · rw [PySem.W.dataLe_str (fun b : Addr × Part => b.2.1)]
        intro x y z h1 h2
        exact decide_eq_true (List.le_trans (of_decide_eq_true h1) (of_decide_eq_true h2))
      · rw [PySem.W.dataLe_str (fun b : Addr × Part => b.2.1)]
        intro x y
        rcases List.le_total x.2.1.cps.toList y.2.1.cps.toList with z | z
        · simp [z]
        · simp [z]
end Cut
namespace Cut
open PySem PySem.Spec PyProof.Rows L2
/-! ### points and pieces -/
theorem lookup_zip_not {f : Str} : ∀ {fs : List Str} {xs : List Int}, f ∉ fs → (fs.zip xs).lookup f = none
  | [], xs, _ => by simp
  | g :: fs, [], _ => by simp
  | g :: fs, x :: xs, h => by
    have h1 : f ≠ g := fun e => h (e ▸ List.mem_cons_self)
    have h2 : f ∉ fs := fun e => h (List.mem_cons_of_mem _ e)
    show List.lookup f ((g, x) :: fs.zip xs) = none
    rw [List.lookup_cons]
    have : (f == g) = false := by simpa using h1
    rw [this]
    exact lookup_zip_not h2
theorem btw_unique {o : Wish} (nd : (o.map (·.1)).Nodup) : ∀ {p q : Part}, p ∈ o → q ∈ o → p.1 = q.1 → p = q := by
  induction o with
  | nil => intro p q hp; cases hp
  | cons a o ih =>
    intro p q hp hq e
    have nd1 := List.nodup_cons.mp (show (a.1 :: o.map (·.1)).Nodup from nd)
    rcases List.mem_cons.mp hp with rfl | hp'
    · rcases List.mem_cons.mp hq with rfl | hq'
      · rfl
      · exact absurd (List.mem_map.mpr ⟨q, hq', e.symm⟩) nd1.1
    · rcases List.mem_cons.mp hq with rfl | hq'
      · exact absurd (List.mem_map.mpr ⟨p, hp', e⟩) nd1.1
      · exact ih nd1.2 hp' hq' e
/-- each field of o is among fs, and there its number is within the span -/
theorem wants_of {o : Wish} {pc : List (Str × Int)} (h : ∀ p ∈ o, ∃ n, pc.lookup p.1 = some n ∧ btw p.2.1 p.2.2 n = true) : wantsP o pc = true := by
  unfold wantsP
  rw [List.all_eq_true]
  intro p hp
  obtain ⟨n, e, b⟩ := h p hp
  rw [e]
  exact b
theorem wants_to {o : Wish} {pc : List (Str × Int)} (h : wantsP o pc = true) : ∀ p ∈ o, ∃ n, pc.lookup p.1 = some n ∧ btw p.2.1 p.2.2 n = true := by
  unfold wantsP at h
  rw [List.all_eq_true] at h
  intro p hp
  have := h p hp
  cases e : pc.lookup p.1 with
  | none => rw [e] at this; cases this
  | some n => rw [e] at this; exact ⟨n, rfl, this⟩
/-- the number of a box's field, at a point -/
theorem sat_to : ∀ {q : Wish} {xs : List Int}, (q.map (·.1)).Nodup → sat q xs = true → xs.length = q.length ∧ ∀ p ∈ q, ∃ n, ((q.map (·.1)).zip xs).lookup p.1 = some n ∧ btw p.2.1 p.2.2 n = true
  | [], [], _, _ => ⟨rfl, fun p hp => by cases hp⟩
  | [], _ :: _, _, h => by cases h
  | _ :: _, [], _, h => by cases h
  | a :: q, x :: xs, nd, h => by
    have h' : (btw a.2.1 a.2.2 x && sat q xs) = true := h
    obtain ⟨h1, h2⟩ := Bool.and_eq_true_iff.mp h'
    have nd1 := List.nodup_cons.mp (show (a.1 :: q.map (·.1)).Nodup from nd)
    obtain ⟨l, i⟩ := sat_to nd1.2 h2
    refine ⟨by simp [l], fun p hp => ?_⟩
    show ∃ n, List.lookup p.1 ((a.1, x) :: (q.map (·.1)).zip xs) = some n ∧ _
    rw [List.lookup_cons]
    rcases List.mem_cons.mp hp with rfl | hp'
    · exact ⟨x, by simp, h1⟩
    · have hne : p.1 ≠ a.1 := fun e => nd1.1 (List.mem_map.mpr ⟨p, hp', e⟩)
      have : (p.1 == a.1) = false := by simpa using hne
      rw [this]
      exact i p hp'
theorem sat_of : ∀ {q : Wish} {xs : List Int}, (q.map (·.1)).Nodup → xs.length = q.length → (∀ p ∈ q, ∃ n, ((q.map (·.1)).zip xs).lookup p.1 = some n ∧ btw p.2.1 p.2.2 n = true) → sat q xs = true
  | [], [], _, _, _ => rfl
  | [], _ :: _, _, h, _ => by cases h
  | _ :: _, [], _, h, _ => by cases h
  | a :: q, x :: xs, nd, l, h => by
    have nd1 := List.nodup_cons.mp (show (a.1 :: q.map (·.1)).Nodup from nd)
    show (btw a.2.1 a.2.2 x && sat q xs) = true
    refine Bool.and_eq_true_iff.mpr ⟨?_, sat_of nd1.2 (by simpa using l) fun p hp => ?_⟩
    · obtain ⟨n, e, b⟩ := h a List.mem_cons_self
      have e' : List.lookup a.1 ((a.1, x) :: (q.map (·.1)).zip xs) = some n := e
      rw [List.lookup_cons] at e'
      simp at e'
      rw [e']; exact b
    · obtain ⟨n, e, b⟩ := h p (List.mem_cons_of_mem _ hp)
      have e' : List.lookup p.1 ((a.1, x) :: (q.map (·.1)).zip xs) = some n := e
      rw [List.lookup_cons] at e'
      have hne : p.1 ≠ a.1 := fun e => nd1.1 (List.mem_map.mpr ⟨p, hp, e⟩)
      have : (p.1 == a.1) = false := by simpa using hne
      rw [this] at e'
      exact ⟨n, e', b⟩
theorem wants_sat {fs : List Str} {q : Wish} {xs : List Int} (hb : Box fs q) (l : xs.length = fs.length) : wantsP q (fs.zip xs) = sat q xs := by
  obtain ⟨e, ok⟩ := hb
  subst e
  have nd := ok.nodup
  have l' : xs.length = q.length := by simpa using l
  cases h : sat q xs with
  | true => exact wants_of (sat_to nd h).2
  | false =>
    cases h2 : wantsP q ((q.map (·.1)).zip xs) with
    | false => rfl
    | true => rw [sat_of nd l' (wants_to h2)] at h; cases h
/-- lets, of a wish with no field twice -/
theorem lets_at {o : Wish} (nd : (o.map (·.1)).Nodup) {p : Part} (hp : p ∈ o) (x : Int) : lets o p.1 x = btw p.2.1 p.2.2 x := by
  induction o with
  | nil => cases hp
  | cons a o ih =>
    have nd1 := List.nodup_cons.mp (show (a.1 :: o.map (·.1)).Nodup from nd)
    unfold lets
    rcases List.mem_cons.mp hp with rfl | hp'
    · simp
    · have hne : a.1 ≠ p.1 := fun e => nd1.1 (List.mem_map.mpr ⟨p, hp', e.symm⟩)
      rw [if_neg hne]
      exact ih nd1.2 hp'
/-- a wish that misses a point doesn't want its piece -/
theorem miss_wants {o : Wish} : ∀ {wi : Wish} {xs : List Int}, (wi.map (·.1)).Nodup → miss o wi xs = true → wantsP o ((wi.map (·.1)).zip xs) = false
  | wi, xs, nd, h => by
    cases e : wantsP o ((wi.map (·.1)).zip xs) with
    | false => rfl
    | true =>
      exfalso
      have hw := wants_to e
      have key : ∀ (wi : Wish) (xs : List Int), (wi.map (·.1)).Nodup → (∀ p ∈ o, p.1 ∈ wi.map (·.1) → ∃ n, ((wi.map (·.1)).zip xs).lookup p.1 = some n ∧ btw p.2.1 p.2.2 n = true) → miss o wi xs = true → False := by
        intro wi
        induction wi with
        | nil => intro xs _ _ h; cases xs <;> cases h
        | cons a wi ih =>
          intro xs nd hw h
          cases xs with
          | nil => cases h
          | cons x xs =>
            have nd1 := List.nodup_cons.mp (show (a.1 :: wi.map (·.1)).Nodup from nd)
            have h' : (!lets o a.1 x || miss o wi xs) = true := h
            rcases Bool.or_eq_true_iff.mp h' with h1 | h1
            · have h2 : lets o a.1 x = false := by simpa using h1
              by_cases hex : ∀ p ∈ o, p.1 ≠ a.1
              · rw [lets_none hex] at h2; cases h2
              · have hl : ∀ o' : Wish, (∀ p ∈ o', p.1 = a.1 → btw p.2.1 p.2.2 x = true) → lets o' a.1 x = true := by
                  intro o'
                  induction o' with
                  | nil => intro _; rfl
                  | cons b o' ih2 =>
                    intro hb
                    unfold lets
                    split
                    · rename_i q
                      exact hb b List.mem_cons_self q
                    · exact ih2 fun p hp => hb p (List.mem_cons_of_mem _ hp)
                rw [hl o ?_] at h2
                · cases h2
                · intro p hp ep
                  obtain ⟨n, e, b⟩ := hw p hp (by rw [ep]; exact List.mem_cons_self)
                  have e' : List.lookup p.1 ((a.1, x) :: (wi.map (·.1)).zip xs) = some n := e
                  rw [List.lookup_cons, ep] at e'
                  simp at e'
                  rw [e']; exact b
            · refine ih xs nd1.2 (fun p hp hin => ?_) h1
              obtain ⟨n, e, b⟩ := hw p hp (List.mem_cons_of_mem _ hin)
              have e' : List.lookup p.1 ((a.1, x) :: (wi.map (·.1)).zip xs) = some n := e
              rw [List.lookup_cons] at e'
              have hne : p.1 ≠ a.1 := fun e => nd1.1 (e ▸ hin)
              have : (p.1 == a.1) = false := by simpa using hne
              rw [this] at e'
              exact ⟨n, e', b⟩
      exact key wi xs nd (fun p hp _ => hw p hp) h
theorem outside_wants {o wi : Wish} {xs : List Int} (h : inside wi o = false) : wantsP o ((wi.map (·.1)).zip xs) = false := by
  cases e : wantsP o ((wi.map (·.1)).zip xs) with
  | false => rfl
  | true =>
    have hw := wants_to e
    have : inside wi o = true := by
      unfold inside
      rw [List.all_eq_true]
      intro p hp
      refine decide_eq_true ?_
      by_cases hin : p.1 ∈ wi.map (·.1)
      · exact hin
      · obtain ⟨n, e1, _⟩ := hw p hp
        rw [lookup_zip_not hin] at e1
        cases e1
    rw [this] at h; cases h
/-- a wish within the point's fields, that doesn't want it, misses it -/
theorem not_miss {o wi : Wish} {xs : List Int} (ok : (o.map (·.1)).Nodup) (nd : (wi.map (·.1)).Nodup) (l : xs.length = wi.length) (hin : inside wi o = true) (h : miss o wi xs = false) : wantsP o ((wi.map (·.1)).zip xs) = true := by
  have hin' : ∀ p ∈ o, p.1 ∈ wi.map (·.1) := fun p hp => by
    unfold inside at hin
    rw [List.all_eq_true] at hin
    exact of_decide_eq_true (hin p hp)
  have key : ∀ (wi : Wish) (xs : List Int), (wi.map (·.1)).Nodup → xs.length = wi.length → miss o wi xs = false → ∀ p ∈ o, p.1 ∈ wi.map (·.1) → ∃ n, ((wi.map (·.1)).zip xs).lookup p.1 = some n ∧ btw p.2.1 p.2.2 n = true := by
    intro wi
    induction wi with
    | nil => intro xs _ _ _ p _ hz; cases hz
    | cons a wi ih =>
      intro xs nd l h p hp hz
      cases xs with
      | nil => cases l
      | cons x xs =>
        have nd1 := List.nodup_cons.mp (show (a.1 :: wi.map (·.1)).Nodup from nd)
        have h' : (!lets o a.1 x || miss o wi xs) = false := h
        obtain ⟨h1, h2⟩ := Bool.or_eq_false_iff.mp h'
        have h1' : lets o a.1 x = true := by simpa using h1
        show ∃ n, List.lookup p.1 ((a.1, x) :: (wi.map (·.1)).zip xs) = some n ∧ _
        rw [List.lookup_cons]
        rcases List.mem_cons.mp (show p.1 ∈ a.1 :: wi.map (·.1) from hz) with e | hz'
        · refine ⟨x, by simp [e], ?_⟩
          rw [← lets_at ok hp x, e]
          exact h1'
        · have hne : p.1 ≠ a.1 := fun e => nd1.1 (e ▸ hz')
          have : (p.1 == a.1) = false := by simpa using hne
          rw [this]
          exact ih xs nd1.2 (by simpa using l) h2 p hp hz'
  exact wants_of fun p hp => key wi xs nd l h p hp (hin' p hp)
/-- a wider wish wants what the box wants -/
theorem wider_wants {fs : List Str} {wi wo : Wish} {xs : List Int} (hb : Box fs wi) (hw : Wider wi wo) (h : sat wi xs = true) : wantsP wo (fs.zip xs) = true := by
  obtain ⟨e, ok⟩ := hb
  subst e
  obtain ⟨_, i⟩ := sat_to ok.nodup h
  refine wants_of fun p hp => ?_
  obtain ⟨q, hq, e, b⟩ := hw.span p hp
  obtain ⟨n, e1, b1⟩ := i q hq
  exact ⟨n, e ▸ e1, b n b1⟩
/-- a box has a point -/
theorem box_point : ∀ {q : Wish}, (∀ p ∈ q, okSp p.2.1 p.2.2 = true) → ∃ xs, sat q xs = true
  | [], _ => ⟨[], rfl⟩
  | p :: q, h => by
    obtain ⟨xs, hx⟩ := box_point fun r hr => h r (List.mem_cons_of_mem _ hr)
    obtain ⟨x, hx0⟩ : ∃ x, btw p.2.1 p.2.2 x = true := ⟨firstOf p [], first_in (h p List.mem_cons_self)⟩
    refine ⟨x :: xs, ?_⟩
    show (btw p.2.1 p.2.2 x && sat q xs) = true
    rw [hx0, hx] <;> rfl
/-! ### what the law asks -/
theorem sat_len : ∀ {q : Wish} {xs : List Int}, sat q xs = true → xs.length = q.length
  | [], [], _ => rfl
  | [], _ :: _, h => by cases h
  | _ :: _, [], h => by cases h
  | a :: q, x :: xs, h => by
    have h' : (btw a.2.1 a.2.2 x && sat q xs) = true := h
    simp [sat_len (Bool.and_eq_true_iff.mp h').2]
theorem cnt_pos {xs : List Int} : ∀ {ps : List Wish}, 0 < (ps.map (cnt xs)).sum → ∃ q ∈ ps, sat q xs = true
  | [], h => by simp at h
  | a :: ps, h => by
    cases e : sat a xs with
    | true => exact ⟨a, List.mem_cons_self, e⟩
    | false =>
      have : cnt xs a = 0 := by unfold cnt; rw [e] <;> rfl
      simp only [List.map_cons, List.sum_cons, this, Nat.zero_add] at h
      obtain ⟨q, hq, e⟩ := cnt_pos h
      exact ⟨q, List.mem_cons_of_mem _ hq, e⟩
theorem cnt_mem {xs : List Int} : ∀ {ps : List Wish} {q : Wish}, q ∈ ps → cnt xs q ≤ (ps.map (cnt xs)).sum
  | a :: ps, q, h => by
    simp only [List.map_cons, List.sum_cons]
    rcases List.mem_cons.mp h with rfl | h
    · omega
    · have := cnt_mem (xs := xs) h
      omega
theorem cnt_le (xs : List Int) (b : Wish) : cnt xs b ≤ 1 := by
  unfold cnt
  cases sat b xs <;> decide
/-- all is covered -/
theorem covered {fs : List Str} {wi : Wish} {ps qs : List Wish} (hb : Box fs wi) (t : Tiles fs wi ps) (hq : ∀ q ∈ ps, ∃ o ∈ qs, Wider q o) : nf wi (qs.filter (inside wi)) = none := by
  cases e : nf wi (qs.filter (inside wi)) with
  | none => rfl
  | some ns =>
    exfalso
    obtain ⟨s, ms⟩ := nf_sound wi _ ns (fun p hp => (hb.2.each p hp).2) e
    have h1 := t.all ns
    have hc : cnt ns wi = 1 := by unfold cnt; rw [s] <;> rfl
    rw [hc] at h1
    obtain ⟨q, hqm, sq⟩ := cnt_pos (xs := ns) (ps := ps) (by omega)
    obtain ⟨o, ho, wd⟩ := hq q hqm
    have hw := wider_wants (t.box q hqm) wd sq
    have hbe : wi.map (·.1) = fs := hb.1
    cases hi : inside wi o with
    | false =>
      have := outside_wants (xs := ns) hi
      rw [hbe, hw] at this
      cases this
    | true =>
      have := miss_wants hb.2.nodup (ms o (List.mem_filter.mpr ⟨ho, hi⟩))
      rw [hbe, hw] at this
      cases this
/-- a box of the cut is left out: something is left -/
theorem left_out {fs : List Str} {wi gap : Wish} {ps qs : List Wish} (hb : Box fs wi) (t : Tiles fs wi (ps ++ [gap])) (hq : ∀ o ∈ qs, o ∈ ps ∨ (WishOk o ∧ inside wi o = false)) : nf wi (qs.filter (inside wi)) ≠ none := by
  have hg : Box fs gap := t.box gap (List.mem_append_right _ List.mem_cons_self)
  obtain ⟨xs, hx⟩ := box_point fun p hp => (hg.2.each p hp).2
  have h1 := t.all xs
  rw [List.map_append, List.sum_append] at h1
  have hc : cnt xs gap = 1 := by unfold cnt; rw [hx] <;> rfl
  have h2 : ([gap].map (cnt xs)).sum = 1 := by simp [hc]
  have h3 := cnt_le xs wi
  have h4 : cnt xs wi = 1 := by omega
  have sw : sat wi xs = true := by
    cases e : sat wi xs with
    | true => rfl
    | false => unfold cnt at h4; rw [e] at h4; cases h4
  refine nf_whole wi _ xs sw fun o ho => ?_
  obtain ⟨ho1, ho2⟩ := List.mem_filter.mp ho
  rcases hq o ho1 with hp | ⟨_, hz⟩
  · cases e : miss o wi xs with
    | true => rfl
    | false =>
      exfalso
      have bo : Box fs o := t.box o (List.mem_append_left _ hp)
      have lx := sat_len sw
      have hw := not_miss bo.2.nodup hb.2.nodup lx ho2 e
      have hbe : wi.map (·.1) = fs := hb.1
      rw [hbe, wants_sat bo (by rw [lx, ← hbe, List.length_map])] at hw
      have := cnt_mem (xs := xs) hp
      have hc2 : cnt xs o = 1 := by unfold cnt; rw [hw] <;> rfl
      omega
  · rw [hz] at ho2; cases ho2
/-- and what is found is a point of that box -/
theorem found_gap {fs : List Str} {wi gap : Wish} {ps qs : List Wish} {ns : List Int} (hb : Box fs wi) (t : Tiles fs wi (ps ++ [gap])) (hp : ∀ o ∈ ps, o ∈ qs) (e : nf wi (qs.filter (inside wi)) = some ns) :
    wantsP wi ((wi.map (·.1)).zip ns) = true ∧ wantsP gap ((wi.map (·.1)).zip ns) = true ∧ ∀ o ∈ qs, wantsP o ((wi.map (·.1)).zip ns) = false := by
  obtain ⟨s, ms⟩ := nf_sound wi _ ns (fun p hp => (hb.2.each p hp).2) e
  have hbe : wi.map (·.1) = fs := hb.1
  have lx := sat_len s
  have lf : ns.length = fs.length := by rw [lx, ← hbe, List.length_map]
  have hno : ∀ o ∈ qs, wantsP o ((wi.map (·.1)).zip ns) = false := fun o ho => by
    cases hi : inside wi o with
    | false => exact outside_wants hi
    | true => exact miss_wants hb.2.nodup (ms o (List.mem_filter.mpr ⟨ho, hi⟩))
  refine ⟨?_, ?_, hno⟩
  · rw [hbe, wants_sat hb lf]; exact s
  · rw [hbe, wants_sat (t.box gap (List.mem_append_right _ List.mem_cons_self)) lf]
    have h1 := t.all ns
    have hc : cnt ns wi = 1 := by unfold cnt; rw [s] <;> rfl
    obtain ⟨q, hq, sq⟩ := cnt_pos (xs := ns) (ps := ps ++ [gap]) (by omega)
    rcases List.mem_append.mp hq with h | h
    · have := hno q (hp q h)
      rw [hbe, wants_sat (t.box q hq) lf, sq] at this
      cases this
    · rw [← List.mem_singleton.mp h]; exact sq
end Cut
namespace Cut
open PySem PySem.Spec PyProof.Rows L2
abbrev s_law : Stmt := topS 42
abbrev N_law : List Str := ["script", "well", "pick", "cuts", "names", "own", "at", "wish", "parts", "gap", "wider", "rest", "more", "wishes", "handed", "found", "one", "field"]
abbrev P_law : List Str := ["script"]
theorem sc_law : FnScope ["script", "well", "pick", "cuts", "names", "own", "at", "wish", "parts", "gap", "wider", "rest", "more", "wishes", "handed", "found", "one", "field"] ["script"] (defScope s_law) := ⟨rfl, rfl, rfl, by decide +kernel, rfl, by decide +kernel, by decide +kernel⟩
theorem WellAt.offT {H : Hp} {w g m d : Addr} {n : Nat} {ps : Array Value} (h : WellAt H w g m n) (hd : H d = some (.tbl ps)) : d ≠ w ∧ d ≠ g ∧ d ≠ m := by
  obtain ⟨gs, ss, sd, c, h⟩ := h
  refine ⟨fun e => ?_, fun e => ?_, fun e => ?_⟩
  · rw [e, h.hw] at hd; cases hd
  · rw [e, h.hg] at hd; cases hd
  · rw [e, h.hm] at hd; cases hd
theorem WellAt.extN {H H' : Hp} {w g m : Addr} {n : Nat} (h : WellAt H w g m n) (e : LamX.ExtN H H') : WellAt H' w g m n := by
  obtain ⟨gs, ss, sd, c, h⟩ := h
  exact ⟨gs, ss, sd, c, e _ _ h.hw fun _ z => (nomatch z), e _ _ h.hg fun _ z => (nomatch z), e _ _ h.hm fun _ z => (nomatch z), h.mg, h.gpos, h.spos, h.sd0, h.sd1, h.c0, h.c1, h.gl, h.sl⟩
def GoodA (wi : Wish) (ws : List Wish) : Prop := ∀ qs : List Wish, qs.Perm ws → nf wi (qs.filter (inside wi)) = none
def GoodB (wi gap : Wish) (ws : List Wish) : Prop := ∀ qs : List Wish, qs.Perm ws → nf wi (qs.filter (inside wi)) ≠ none ∧ ∀ ns, nf wi (qs.filter (inside wi)) = some ns → wantsP wi ((wi.map (·.1)).zip ns) = true ∧ wantsP gap ((wi.map (·.1)).zip ns) = true ∧ ∀ o ∈ qs, wantsP o ((wi.map (·.1)).zip ns) = false
theorem paired_perm {α β : Type} {F : α → β → Prop} {xs ys : List α} (p : ys.Perm xs) : ∀ {ws : List β}, Paired F xs ws → ∃ vs, Paired F ys vs ∧ vs.Perm ws := by
  induction p with
  | nil => intro ws h; cases h; exact ⟨[], .nil, .nil⟩
  | cons x _ ih =>
    intro ws h
    cases h with
    | cons r t =>
      obtain ⟨vs, h1, h2⟩ := ih t
      exact ⟨_, .cons r h1, h2.cons _⟩
  | swap x y l =>
    intro ws h
    cases h with
    | cons r t =>
      cases t with
      | cons r2 t2 => exact ⟨_, .cons r2 (.cons r t2), .swap ..⟩
  | trans _ _ ih1 ih2 =>
    intro ws h
    obtain ⟨vs, h1, h2⟩ := ih2 h
    obtain ⟨us, h3, h4⟩ := ih1 h1
    exact ⟨us, h3, h4.trans h2⟩
theorem Tiles.move {fs : List Str} {b gap : Wish} {l1 l2 : List Wish} (t : Tiles fs b (l1 ++ [gap] ++ l2)) : Tiles fs b (l1 ++ l2 ++ [gap]) := by
  refine ⟨fun q hq => t.box q ?_, fun xs => ?_⟩
  · simp only [List.mem_append, List.mem_singleton] at hq ⊢
    rcases hq with (h | h) | h
    · exact .inl (.inl h)
    · exact .inr h
    · exact .inl (.inr h)
  · have := t.all xs
    simp only [List.map_append, List.sum_append] at this ⊢
    omega
theorem nodup_lt {l : List Str} (h : l.Pairwise Lt) : l.Nodup := by
  refine List.Pairwise.imp (R := Lt) ?_ h
  intro x y h e
  rw [e] at h
  exact Lt.irrefl _ h
theorem paired_dup {α β : Type} {F : α → β → Prop} {G : α → α → Prop} (h : ∀ x y, F x y → G x x) : ∀ {xs : List α} {ys : List β}, Paired F xs ys → Paired G xs xs
  | _, _, .nil => .nil
  | _, _, .cons r t => .cons (h _ _ r) (paired_dup h t)
theorem opt_leaf (o : Option Int) : opt o = .non ∨ (∃ i, opt o = .int i) ∨ ∃ z, opt o = .str z := by
  cases o with
  | none => exact .inl rfl
  | some i => exact .inr (.inl ⟨i, rfl⟩)
theorem part_alike {H : Hp} {v : V} {p : Part} (h : PartAt H v p) : AlikeD 1 H v v := by
  obtain ⟨t, rfl, ht⟩ := h
  exact .inr ⟨t, t, _, _, rfl, rfl, .inr ⟨ht, ht⟩, by show 3 ≤ 100; decide, .cons ⟨rfl, .inr (.inr ⟨_, rfl⟩)⟩ (.cons ⟨rfl, opt_leaf _⟩ (.cons ⟨rfl, opt_leaf _⟩ .nil))⟩
theorem wish_alike {H : Hp} {v : V} {o : Wish} (h : WishAt H v o) (l : o.length ≤ 100) : AlikeD 2 H v v := by
  obtain ⟨t, vs, rfl, ht, hp⟩ := h
  have := Paired.len hp
  exact .inr ⟨t, t, _, _, rfl, rfl, .inr ⟨ht, ht⟩, by omega, paired_dup (fun _ _ z => part_alike z) hp⟩
theorem box_len {fs : List Str} {q : Wish} (h : Box fs q) : q.length = fs.length := by rw [← h.1, List.length_map]
section
variable {P : Program} {w : World} {K : PySem.W.Frag} {mg : Str → Option Value} {base : Heap}
def spLaw (K : PySem.W.Frag) (Pt : Addr) : Sp := fun vs H Q _ => ∃ (a : Addr) (ns : List Int), vs = [.ref a] ∧ SqL K H a (ns.map V.int) ∧ ns.length ≤ 63 ∧ H Pt = some (.tbl #[]) ∧ ∀ H' : Hp, Q (.bl true) H'
theorem ok_law {oc dV kV doc pm ct : Value} {od an : Option Addr} {osl : Array (Option Value)} {f c Pt : Addr} (lk : K.lookup f = some ⟨oc, od, .func (PySem.W.fnOf "law" "law" (defArgs s_law) (defBody s_law) (defScope s_law) dV kV doc pm an (.ref c) ct), osl⟩) (hcd : PySem.W.codeIn K (.ref c) "law" = true) (TB : LamX.TabB base mg c Pt) (T : Tx mg)
    (c_law_well : Callee P w K mg base "_law_well" P_law_well 1 (spWell K)) (c_law_take : Callee P w K mg base "_law_take" P_law_take 1 spTake) (c_law_fields : Callee P w K mg base "_law_fields" P_law_fields 3 spFlds) (c_law_box : Callee P w K mg base "_law_box" P_law_box 3 spBox)
    (c_law_cut_up : Callee P w K mg base "_law_cut_up" P_law_cut_up 4 spCutUp) (c_law_widened : Callee P w K mg base "_law_widened" P_law_widened 2 spWid) (c_law_shorter : Callee P w K mg base "_law_shorter" P_law_shorter 3 spShort) (c_law_turned : Callee P w K mg base "_law_turned" P_law_turned 2 spTurned)
    (c_uncovered_piece : Callee P w K mg base "uncovered_piece" P_uncovered_piece 13 spUP) (c_law_alike : Callee P w K mg base "_law_alike" P_law_alike 4 (spAlike 3)) (c_law_is_piece : Callee P w K mg base "_law_is_piece" P_law_is_piece 2 spIsP) (c_law_wants : Callee P w K mg base "_law_wants" P_law_wants 1 spWants) :
    FnOk P w K mg base CX0 14 f (PySem.W.fnOf "law" "law" (defArgs s_law) (defBody s_law) (defScope s_law) dV kV doc pm an (.ref c) ct) P_law (spLaw K Pt) := by
  refine fn_of lk hcd sc_law (fun vs H Q E h => ?_) fun A outer s H vs Q E hr hsp => ?_
  · obtain ⟨a, ns, rfl, _⟩ := h
    rfl
  · have key : ∃ t, PSs (cxOf CX0 P w K mg base N_law "law" (defScope s_law) f (.ref c) A outer s H E).nox (defBody s_law) t ∧ t { nx := fun _ H' => Q .non H', rt := Q } (start N_law vs) H := by
      obtain ⟨a, ns, rfl, hS, h63, hP, q⟩ := hsp
      have hu64 := hu64_of hr
      refine ⟨_, (pss_cons (ps_set (i := 1) sc_law.nd rfl (Or.inr rfl) (pc c_law_well (hr.mono (by first | decide | omega)) (pa_cons (pv 0) pa_nil)))
      (pss_cons (ps_set (i := 2) sc_law.nd rfl (Or.inl rfl) (pc c_law_take (hr.mono (by first | decide | omega)) (pa_cons (pv 1) (pa_cons pe_int pa_nil))))
      (pss_cons (ps_set (i := 3) sc_law.nd rfl (Or.inl rfl) (pc c_law_take (hr.mono (by first | decide | omega)) (pa_cons (pv 1) (pa_cons pe_int pa_nil))))
      (pss_cons (ps_set (i := 4) sc_law.nd rfl (Or.inl rfl) (pc c_law_fields (hr.mono (by first | decide | omega)) (pa_cons (pv 1) (pa_cons pe_int pa_nil))))
      (pss_cons (ps_set (i := 5) sc_law.nd rfl (Or.inr rfl) (pv 4))
      (Evl.pss_cut (ps_if (PW.pt (pw_and (pt_cmpR op_gt (pe_callB call_len_seq (by rfl) T.f_len (by decide +kernel) (pa_cons (pv 4) pa_nil)) pe_int (nomark _)) (pw_and1 (pt_cmpR op_eq (pc c_law_take (hr.mono (by first | decide | omega)) (pa_cons (pv 1) (pa_cons pe_int pa_nil))) pe_int (nomark _))))) (pss_cons (ps_set (i := 6) sc_law.nd rfl (Or.inl rfl) (pc c_law_take (hr.mono (by first | decide | omega)) (pa_cons (pv 1) (pa_cons (pe_callB call_len_seq (by rfl) T.f_len (by decide +kernel) (pa_cons (pv 4) pa_nil)) pa_nil))))
      (pss_one (ps_set (i := 5) sc_law.nd rfl (Or.inr rfl) (pe_op op_cat (pe_slice sl_list (pv 4) po_none (po_some (pv 6))) (pe_slice sl_list (pv 4) (po_some (pe_op op_add (pv 6) pe_int)) po_none))))) pss_nil)
      (pss_cons (ps_set (i := 7) sc_law.nd rfl (Or.inl rfl) (pc c_law_box (hr.mono (by first | decide | omega)) (pa_cons (pv 1) (pa_cons (pv 5) (pa_cons pe_bl pa_nil)))))
      (pss_cons (ps_set (i := 8) sc_law.nd rfl (Or.inl rfl) (pc c_law_cut_up (hr.mono (by first | decide | omega)) (pa_cons (pv 1) (pa_cons (pv 7) (pa_cons (pv 3) pa_nil)))))
      (pss_cons (ps_set (i := 9) sc_law.nd rfl (Or.inl rfl) pe_non)
      (Evl.pss_cut (ps_if (pt_cmpR op_eq (pv 2) pe_int (nomark _)) (pss_cons (ps_set (i := 10) sc_law.nd rfl (Or.inr rfl) (pe_cmpR op_gt (pc c_law_take (hr.mono (by first | decide | omega)) (pa_cons (pv 1) (pa_cons pe_int pa_nil))) pe_int (nomark _)))
      (pss_one (ps_setLc (i := 8) (own := [("one", 16)]) (g := gName 16) (tt := tYes) rfl sc_law.nd rfl rfl (sw_true rfl rfl rfl (by decide +kernel)) (pi_list (pv 8)) (blkOk_by (N := N_law) (sc := defScope s_law) (by decide +kernel)) (fun _ _ _ _ _ => pg_name (i := 16) sc_law.nd rfl (Or.inl rfl)) (fun _ _ _ _ _ => pts_nil) (fun _ _ _ _ _ => (pe_ifExp (pt_val (pv 10)) (pc c_law_widened (hr.mono (by first | decide | omega)) (pa_cons (pv 1) (pa_cons (pv 16) pa_nil))) (pv 16)))))) (pss_cons (ps_set (i := 6) sc_law.nd rfl (Or.inl rfl) (pc c_law_take (hr.mono (by first | decide | omega)) (pa_cons (pv 1) (pa_cons (pe_callB call_len_seq (by rfl) T.f_len (by decide +kernel) (pa_cons (pv 8) pa_nil)) pa_nil))))
      (Evl.pss_cut (ps_asg (pe_ifExp (pt_cmpR op_eq (pv 2) pe_int (nomark _)) (pc c_law_shorter (hr.mono (by first | decide | omega)) (pa_cons (pv 1) (pa_cons (pe_ix ix_list (pv 8) (pv 6) (fun _ _ => rfl)) pa_nil))) (pe_tup (pa_cons (pe_lst pa_nil) (pa_cons (pe_ix ix_list (pv 8) (pv 6) (fun _ _ => rfl)) pa_nil)))) (pg_tup rfl (pgs_cons (pg_name (i := 11) sc_law.nd rfl (Or.inl rfl)) (pgs_cons (pg_name (i := 9) sc_law.nd rfl (Or.inl rfl)) pgs_nil))))
      (pss_cons (ps_set (i := 8) sc_law.nd rfl (Or.inl rfl) (pe_op op_cat (pe_op op_cat (pe_slice sl_list (pv 8) po_none (po_some (pv 6))) (pv 11)) (pe_slice sl_list (pv 8) (po_some (pe_op op_add (pv 6) pe_int)) po_none)))
      (Evl.pss_cut (ps_if (PW.pt (pw_and (pt_cmpR op_lt (pe_callB call_len_seq (by rfl) T.f_len (by decide +kernel) (pa_cons (pv 8) pa_nil)) pe_int (nomark _)) (pw_and1 (pt_cmpR op_lt (pe_callB call_len_seq (by rfl) T.f_len (by decide +kernel) (pa_cons (pv 5) pa_nil)) (pe_callB call_len_seq (by rfl) T.f_len (by decide +kernel) (pa_cons (pv 4) pa_nil)) (nomark _))))) (pss_cons (ps_setLc (i := 12) (own := [("field", 17)]) (g := gName 17) rfl sc_law.nd rfl rfl (sw_true rfl rfl rfl (by decide +kernel)) (pi_list (pv 4)) (blkOk_by (N := N_law) (sc := defScope s_law) (by decide +kernel)) (fun _ _ _ _ _ => pg_name (i := 17) sc_law.nd rfl (Or.inl rfl)) (fun _ _ _ _ _ => (pts_one (pt_cmpR (notInSeqK K) (pv 17) (pv 5) (by rfl)))) (fun _ _ _ _ _ => (pe_tup (pa_cons (pv 17) (pa_cons pe_non (pa_cons pe_non pa_nil))))))
      (pss_one (ps_expr (pe_bm PySem.F.plainAttrs_list PySem.F.slot_list_append PySem.F.type_list_append mt_append (pv 8) (pa_cons (pe_callTy call_tuple_of (by rfl) T.f_tuple (by decide +kernel) (pa_cons (pe_sortP (T := [(Pt, Str.ofString "law" ++ ".<locals>." ++ "<lambda>")]) TB rfl (List.mem_singleton.mpr rfl) (fun p hp _ => by rw [List.mem_singleton.mp hp] <;> rfl) hr T.f_sorted (pa_cons (pe_op op_cat (pe_callTy call_list_of (by rfl) T.f_list (by decide +kernel) (pa_cons (pv 9) pa_nil)) (pv 12)) pa_nil)) pa_nil)) pa_nil))))) pss_nil)
      (pss_one (ps_if (PW.pt (pw_and (pt_cmpR op_lt (pe_callB call_len_seq (by rfl) T.f_len (by decide +kernel) (pa_cons (pv 8) pa_nil)) pe_int (nomark _)) (pw_and1 (pt_cmpR (op_neD hu64) (pv 8) (pe_lst pa_nil) (nomark _))))) (pss_one (ps_expr (pe_bm PySem.F.plainAttrs_list PySem.F.slot_list_append PySem.F.type_list_append mt_append (pv 8) (pa_cons (pe_ix ix_list (pv 8) (pc c_law_take (hr.mono (by first | decide | omega)) (pa_cons (pv 1) (pa_cons (pe_callB call_len_seq (by rfl) T.f_len (by decide +kernel) (pa_cons (pv 8) pa_nil)) pa_nil))) (fun _ _ => rfl)) pa_nil)))) pss_nil)))))))
      (pss_cons (ps_set (i := 13) sc_law.nd rfl (Or.inl rfl) (pc c_law_turned (hr.mono (by first | decide | omega)) (pa_cons (pv 1) (pa_cons (pv 8) pa_nil))))
      (pss_cons (ps_set (i := 14) sc_law.nd rfl (Or.inl rfl) (pe_callTy call_list_of (by rfl) T.f_list (by decide +kernel) (pa_cons (pv 13) pa_nil)))
      (pss_cons (ps_set (i := 15) sc_law.nd rfl (Or.inr rfl) (pc c_uncovered_piece (hr.mono (by first | decide | omega)) (pa_cons (pv 7) (pa_cons (pv 14) pa_nil))))
      (pss_cons (ps_if (pt_not (pt_val (pc c_law_alike (hr.mono (by first | decide | omega)) (pa_cons (pv 14) (pa_cons (pv 13) pa_nil))))) (pss_one (ps_ret pe_bl)) pss_nil)
      (pss_cons (ps_if (pt_cmpR op_isN (pv 9) pe_non (nomark _)) (pss_one (ps_ret (pe_cmpR op_isN (pv 15) pe_non (nomark _)))) pss_nil)
      (pss_cons (ps_if (PW.pt (pw_or (pt_not (pt_val (pc c_law_is_piece (hr.mono (by first | decide | omega)) (pa_cons (pv 15) pa_nil)))) (pw_or (pt_not (pt_val (pc c_law_wants (hr.mono (by first | decide | omega)) (pa_cons (pv 7) (pa_cons (pv 15) pa_nil))))) (pw_or1 (pt_not (pt_val (pc c_law_wants (hr.mono (by first | decide | omega)) (pa_cons (pv 9) (pa_cons (pv 15) pa_nil))))))))) (pss_one (ps_ret pe_bl)) pss_nil)
      (pss_one (ps_ret (pe_cmpR (op_eqD hu64) (pe_lc (own := [("one", 16)]) (g := gName 16) rfl sc_law.nd (pi_list (pv 13)) (blkOk_by (N := N_law) (sc := defScope s_law) (by decide +kernel)) (fun _ _ _ _ _ => pg_name (i := 16) sc_law.nd rfl (Or.inl rfl)) (fun _ _ _ _ _ => (pts_one (pt_val (pc c_law_wants (hr.mono (by first | decide | omega)) (pa_cons (pv 16) (pa_cons (pv 15) pa_nil)))))) (fun _ _ _ _ _ => (pv 16))) (pe_lst pa_nil) (nomark _)))))))))))))))))))), ?_⟩
      -- the well, pick, cuts, names
      refine ⟨_, rfl, a, ns, rfl, hS, h63, fun H0 w g m s0 hw => ?_⟩
      have hP0 := s0 _ _ hP
      refine ⟨_, rfl, w, g, m, 0, 3, rfl, hw, by decide, by decide, by decide, fun H1 pick r1 k0 k1 => ?_⟩
      have hP1 := r1.keep (hw.offT hP0) hP0
      refine ⟨_, rfl, w, g, m, _, 7, rfl, r1.well, by decide, by decide, by decide, fun H2 cuts r2 c0 c1 => ?_⟩
      have hP2 := r2.keep (r1.well.offT hP1) hP1
      refine ⟨_, rfl, w, g, m, _, rfl, r2.well, by decide, fun H3 nm fs r3 nnm hnm okf upf f1 f3 => ?_⟩
      have hP3 := r3.keep (r2.well.offT hP2) hP2
      have offnm := r2.well.off nnm
      have w3 : WellAt H3 w g m 202 := r3.well
      refine ⟨_, rfl, ?_⟩
      -- own
      refine ⟨fun σ H' => ∃ (n : Nat) (own : List Str) (ow : Addr) (v6 : Option V), n ≤ 1000 ∧ WellAt H' w g m n ∧ H' Pt = some (.tbl #[]) ∧ H' nm = some (.lst (fs.map V.str)) ∧ H' ow = some (.lst (own.map V.str)) ∧ (ow ≠ w ∧ ow ≠ g ∧ ow ≠ m) ∧ (∀ z ∈ own, z ∈ fs) ∧ own.Pairwise Lt ∧ 1 ≤ own.length ∧ own.length ≤ 3 ∧
        σ = [some (.ref a), some (.ref w), some (.int pick), some (.int cuts), some (.ref nm), some (.ref ow), v6, none, none, none, none, none, none, none, none, none, none, none], ?_, ?_⟩
      · have plain : ∀ H', WellAt H' w g m 203 → H' Pt = some (.tbl #[]) → H' nm = some (.lst (fs.map V.str)) → ∀ v6 : Option V, ∃ (n : Nat) (own : List Str) (ow : Addr) (v6' : Option V), n ≤ 1000 ∧ WellAt H' w g m n ∧ H' Pt = some (.tbl #[]) ∧ H' nm = some (.lst (fs.map V.str)) ∧ H' ow = some (.lst (own.map V.str)) ∧ (ow ≠ w ∧ ow ≠ g ∧ ow ≠ m) ∧ (∀ z ∈ own, z ∈ fs) ∧ own.Pairwise Lt ∧ 1 ≤ own.length ∧ own.length ≤ 3 ∧
            [some (.ref a), some (.ref w), some (.int pick), some (.int cuts), some (.ref nm), some (.ref nm), v6, none, none, none, none, none, none, none, none, none, none, none] = [some (.ref a), some (.ref w), some (.int pick), some (.int cuts), some (.ref nm), some (.ref ow), v6', none, none, none, none, none, none, none, none, none, none, none] :=
          fun H' hw' hP' hnm' v6 => ⟨203, fs, nm, v6, by decide, hw', hP', hnm', hnm', offnm, fun z hz => hz, upf, f1, f3, rfl⟩
        refine ⟨_, rfl, nm, _, rfl, .inl (sqL hnm), _, 1, rfl, rfl, _, rfl, ite2 (fun e => ?_) fun _ => iteF (plain H3 (w3.mono (by decide)) hP3 hnm none)⟩
        have e2 : 1 < fs.length := by
          have := of_decide_eq_true e
          rw [List.length_map] at this
          omega
        refine ⟨_, rfl, w, g, m, _, 2, rfl, w3, by decide, by decide, by decide, fun H4 r r4 _ _ => ?_⟩
        have hP4 := r4.keep (w3.offT hP3) hP3
        have hnm4 := r4.keep offnm hnm
        refine ⟨rfl, _, rfl, ite2 (fun _ => ?_) fun _ => plain H4 r4.well hP4 hnm4 none⟩
        refine ⟨_, rfl, _, rfl, nm, _, rfl, .inl (sqL hnm4), w, g, m, _, _, rfl, r4.well, by decide, by rw [List.length_map] <;> omega, by rw [List.length_map] <;> omega, fun H5 at_ r5 a0 a1 => ?_⟩
        obtain ⟨j, rfl⟩ := Int.eq_ofNat_of_zero_le a0
        rw [List.length_map] at a1
        have hj : j < fs.length := by omega
        have hP5 := r5.keep (r4.well.offT hP4) hP4
        have hnm5 := r5.keep offnm hnm4
        have ec1 : cutV (fs.map V.str) none (some (j : Int)) = (fs.take j).map V.str := by
          rw [List.map_take]
          exact cutL_pre _ j
        have ec2 : cutV (fs.map V.str) (some ((j : Int) + 1)) none = (fs.drop (j + 1)).map V.str := by
          rw [List.map_drop]
          exact cutL_suf _ (j + 1)
        refine ⟨_, rfl, _, rfl, (j : Int), rfl, nm, _, rfl, sqL hnm5, fun p1 np1 => ?_⟩
        rw [ec1]
        have x1 := same_upd (o := .lst ((fs.take j).map V.str)) np1
        refine ⟨_, rfl, _, rfl, (j : Int), 1, rfl, rfl, _, rfl, nm, _, rfl, sqL (x1 _ _ hnm5), fun p2 np2 => ?_⟩
        rw [ec2]
        have x2 := same_upd (o := .lst ((fs.drop (j + 1)).map V.str)) np2
        refine ⟨p1, p2, _, _, rfl, rfl, x2 _ _ upd_same, upd_same, small100 (by simp only [List.length_append, List.length_map, List.length_take, List.length_drop]; omega), fun p3 np3 => ?_⟩
        rw [← List.map_append]
        have x3 := same_upd (o := .lst ((fs.take j ++ fs.drop (j + 1)).map V.str)) np3
        have w5 := ((r5.well.stay x1).stay x2)
        refine ⟨204, fs.take j ++ fs.drop (j + 1), p3, _, by decide, w5.stay x3, x3 _ _ (x2 _ _ (x1 _ _ hP5)), x3 _ _ (x2 _ _ (x1 _ _ hnm5)), upd_same, w5.off np3, fun z hz => ?_, ?_, by rw [List.length_append, List.length_take, List.length_drop]; omega, by rw [List.length_append, List.length_take, List.length_drop]; omega, rfl⟩
        · rcases List.mem_append.mp hz with h | h
          · exact List.mem_of_mem_take h
          · exact List.mem_of_mem_drop h
        · have hs : (fs.take j ++ fs.drop (j + 1)).Sublist fs := by
            have h1 := List.Sublist.append (List.Sublist.refl (fs.take j)) (List.drop_sublist_drop_left fs (Nat.le_succ j))
            rwa [List.take_append_drop] at h1
          exact upf.sublist hs
      · rintro σ H4 ⟨n, own, ow, v6, hn, hw4, hP4, hnm4, how4, offow, sub, upo, o1, o3, rfl⟩
        -- the box, and its cut
        refine ⟨_, rfl, _, rfl, w, g, m, ow, n, own, rfl, hw4, by omega, offow, how4, fun z hz => okf z (sub z hz), upo, o3, fun H5 v wi r5 hv hb => ?_⟩
        have lwi := box_len hb
        have hP5 := r5.keep (hw4.offT hP4) hP4
        have hnm5 := r5.keep offnm hnm4
        have how5 := r5.keep offow how4
        refine ⟨_, rfl, _, rfl, _, rfl, w, g, m, _, v, wi, own, cuts, rfl, r5.well, by omega, c0, by omega, hv, hb, by omega, by omega, fun H6 l ys ps r6 nl hl hws tl p1 p2 => ?_⟩
        have hP6 := r6.keep (r5.well.offT hP5) hP5
        have hnm6 := r6.keep offnm hnm5
        have how6 := r6.keep offow how5
        have offl := r5.well.off nl
        have hv6 := r6.wish hv
        have w6 : WellAt H6 w g m 1400 := r6.well.mono (by omega)
        -- if pick == 0
        refine ⟨fun σ H' => ∃ (l : Addr) (xs : List V) (ws : List Wish) (v6 gv v10 v11 v12 : Option V), WellAt H' w g m 2000 ∧ H' l = some (.lst xs) ∧ (l ≠ w ∧ l ≠ g ∧ l ≠ m) ∧ WsAt H' xs ws ∧ ws.length ≤ 7 ∧ (∀ o ∈ ws, WishOk o) ∧ (∀ z ∈ flds ws, z ∈ fs) ∧ WishAt H' v wi ∧
          ((gv = some .non ∧ GoodA wi ws) ∨ ∃ (gap : Wish) (u : V), gv = some u ∧ WishAt H' u gap ∧ GoodB wi gap ws) ∧ σ = [some (.ref a), some (.ref w), some (.int pick), some (.int cuts), some (.ref nm), some (.ref ow), v6, some v, some (.ref l), gv, v10, v11, v12, none, none, none, none, none], ?_, ?_⟩
        · refine ⟨_, rfl, rfl, _, rfl, ite2 (fun e => ?_) fun e => ?_⟩
          · -- all is covered
            refine ⟨_, rfl, w, g, m, _, 3, rfl, w6, by decide, by decide, by decide, fun H7 r r7 _ _ => ⟨r, 0, rfl, rfl, ?_⟩⟩
            have hl7 := r7.keep offl hl
            have hws7 : WsAt H7 ys ps := WsAt.stay hws r7.tups
            have lys := Paired.len hws
            refine ⟨_, rfl, l, rfl, ⟨_, sqL hl7⟩, fun D nD => lc_list (K := K) (a := l) (xs := ys) (fun i H8 => Run w g m H7 H8 (1401 + 2 * i) ∧ ∃ (acc : List V) (qs : List Wish), H8 D = some (.lst acc) ∧ WsAt H8 acc qs ∧ Paired Wider (ps.take i) qs)
              ⟨Run.start r7.well (same_upd nD), [], [], upd_same, .nil, by rw [List.take_zero]; exact .nil⟩ (fun i H8 _ p => sqL (p.1.keep offl hl7)) ?_ ?_⟩
            · rintro i x H8 hx ⟨r8, acc, qs, hD, hq, hpw⟩
              have hi : i < ys.length := (List.getElem?_eq_some_iff.mp hx).1
              obtain ⟨o, ho, hxo⟩ := Paired.at_ hws7 hx
              have bo := tl.box o (List.mem_of_getElem? ho)
              have lo := box_len bo
              have la := Paired.len hq
              have lq := Paired.len hpw
              rw [List.length_take] at lq
              have step : ∀ (H9 : Hp) (y : V) (wo : Wish), Run w g m H8 H9 (1401 + 2 * i + 2) → WishAt H9 y wo → Wider o wo → ∃ acc, H9 D = some (.lst acc) ∧ acc.length < sizeLine ∧ Run w g m H7 (upd H9 D (.lst (acc ++ [y]))) (1401 + 2 * (i + 1)) ∧ ∃ (acc' : List V) (qs : List Wish), upd H9 D (.lst (acc ++ [y])) D = some (.lst acc') ∧ WsAt (upd H9 D (.lst (acc ++ [y]))) acc' qs ∧ Paired Wider (ps.take (i + 1)) qs := fun H9 y wo r9 hy wd => by
                have hD9 := r9.keep (r7.well.off nD) hD
                have tu : Tups H9 (upd H9 D (.lst (acc ++ [y]))) := Tups.mut (Tups.refl H9) hD9
                refine ⟨acc, hD9, lt100 (by omega), ((r8.trans r9).mut r7.well nD hD9).mono (by omega), acc ++ [y], qs ++ [wo], upd_same, ?_, ?_⟩
                · exact Paired.app (WsAt.stay hq (r9.tups.trans tu)) (.cons (hy.stay tu) .nil)
                · rw [take_at ho]
                  exact Paired.app hpw (.cons wd .nil)
              refine ⟨rfl, yes_go ⟨_, rfl, _, rfl, ite2 (fun _ => ?_) fun _ => ?_⟩⟩
              · exact ⟨_, rfl, _, rfl, w, g, m, _, x, o, rfl, r8.well, by omega, r8.wish hxo, bo.2, by omega, by omega, fun H9 y wo r9 hy wd => step H9 y wo r9 hy wd⟩
              · exact ⟨_, rfl, step H8 x o ((Run.refl r8.well).mono (by omega)) (r8.wish hxo) (.refl bo.2)⟩
            · rintro H8 ⟨r8, acc, qs, hD, hq, hpw⟩
              have ep : ps.take ys.length = ps := List.take_of_length_le (by omega)
              rw [ep] at hpw
              have lq := Paired.len hpw
              refine ⟨D, acc, qs, _, _, _, _, _, r8.well.mono (by omega), hD, r7.well.off nD, hq, by omega, ?_, ?_, (r7.trans r8).wish hv6, .inl ⟨rfl, ?_⟩, rfl⟩
              · intro o ho
                obtain ⟨k, hk⟩ := List.mem_iff_getElem?.mp ho
                obtain ⟨q, _, wd⟩ := Paired.atR hpw hk
                exact wd.ok
              · intro z hz
                obtain ⟨o, ho, hz⟩ := List.mem_flatMap.mp hz
                obtain ⟨p, hp, rfl⟩ := List.mem_map.mp hz
                obtain ⟨k, hk⟩ := List.mem_iff_getElem?.mp ho
                obtain ⟨q, hq2, wd⟩ := Paired.atR hpw hk
                obtain ⟨p2, hp2, e2, _⟩ := wd.span p hp
                have bq := tl.box q (List.mem_of_getElem? hq2)
                exact sub _ (by rw [← e2, ← bq.1]; exact List.mem_map.mpr ⟨p2, hp2, rfl⟩)
              · intro qs' pm
                refine covered hb tl fun q hq2 => ?_
                obtain ⟨k, hk⟩ := List.mem_iff_getElem?.mp hq2
                obtain ⟨o, ho, wd⟩ := Paired.at_ hpw hk
                exact ⟨o, pm.mem_iff.mpr (List.mem_of_getElem? ho), wd⟩
          · -- a part is left out, or made shorter
            have lys := Paired.len hws
            refine ⟨_, rfl, _, rfl, l, ys, rfl, .inl (sqL hl), w, g, m, _, _, rfl, w6, by decide, by omega, by omega, fun H7 at_ r7 a0 a1 => ?_⟩
            obtain ⟨j, rfl⟩ := Int.eq_ofNat_of_zero_le a0
            have hj : j < ps.length := by omega
            obtain ⟨o, hoj⟩ : ∃ o, ps[j]? = some o := ⟨ps[j], List.getElem?_eq_getElem hj⟩
            obtain ⟨y, hyj, hyo⟩ := Paired.atR hws hoj
            have bo := tl.box o (List.mem_of_getElem? hoj)
            have lo := box_len bo
            have hl7 := r7.keep offl hl
            have hyo7 := r7.wish hyo
            refine ⟨fun σ H8 => Run w g m H7 H8 1420 ∧ ∃ (rl : Addr) (zs : List V) (rest : List Wish) (u : V) (gap : Wish), H7 rl = none ∧ H8 rl = some (.lst zs) ∧ WsAt H8 zs rest ∧ WishAt H8 u gap ∧ Tiles own o (rest ++ [gap]) ∧ rest.length ≤ 1 ∧
              σ = [some (.ref a), some (.ref w), some (.int pick), some (.int cuts), some (.ref nm), some (.ref ow), some (.int (j : Int)), some v, some (.ref l), some u, none, some (.ref rl), none, none, none, none, none, none], ?_, ?_⟩
            · refine ⟨_, rfl, rfl, _, rfl, ite2 (fun _ => ?_) fun _ => ?_⟩
              · refine ⟨_, rfl, _, rfl, _, rfl, l, ys, _, y, rfl, rfl, sqL hl7, atI_nat hyj, w, g, m, _, y, o, own, rfl, r7.well, by decide, hyo7, bo, by omega, by omega, fun H8 t rl u zs rest gap r8 ht nrl hrl hrest hgap tq lr => ?_⟩
                exact ⟨t, _, rfl, sqT ht, rfl, .ref rl, _, rfl, u, _, rfl, rfl, r8.mono (by decide), rl, zs, rest, u, gap, nrl, hrl, hrest, hgap, tq, lr, rfl⟩
              · refine ⟨Nat.zero_le _, fun rl nrl => ?_⟩
                have x1 := same_upd (o := .lst []) nrl
                refine ⟨_, rfl, _, rfl, l, ys, _, y, rfl, rfl, sqL (x1 _ _ hl7), atI_nat hyj, small100 (show 2 ≤ 100000 by decide), fun t nt => ?_⟩
                have x2 := same_upd (o := .tup [V.ref rl, y]) nt
                exact ⟨t, _, rfl, sqT upd_same, rfl, .ref rl, _, rfl, y, _, rfl, rfl, ((Run.start r7.well x1).same x2).mono (by decide), rl, [], [], y, o, nrl, x2 _ _ upd_same, .nil, hyo7.stay (.of (x1.trans x2)), .one bo, Nat.zero_le _, rfl⟩
            · rintro σ H8 ⟨r8, rl, zs, rest, u, gap, nrl, hrl, hrest, hgap, tq, lr, rfl⟩
              have hl8 := r8.keep offl hl7
              have r68 := r7.trans r8
              have lz := Paired.len hrest
              have ec1 : cutV ys none (some (j : Int)) = ys.take j := cutL_pre ys j
              have ec2 : cutV ys (some ((j : Int) + 1)) none = ys.drop (j + 1) := cutL_suf ys (j + 1)
              refine ⟨_, rfl, _, rfl, (j : Int), rfl, l, ys, rfl, sqL hl8, fun p1 np1 => ?_⟩
              rw [ec1]
              have x1 := same_upd (o := .lst (ys.take j)) np1
              refine ⟨_, rfl, p1, rl, _, _, rfl, rfl, upd_same, x1 _ _ hrl, small100 (by rw [List.length_take]; omega), fun p2 np2 => ?_⟩
              have x2 := same_upd (o := .lst (ys.take j ++ zs)) np2
              refine ⟨_, rfl, _, rfl, (j : Int), 1, rfl, rfl, _, rfl, l, ys, rfl, sqL (x2 _ _ (x1 _ _ hl8)), fun p3 np3 => ?_⟩
              rw [ec2]
              have x3 := same_upd (o := .lst (ys.drop (j + 1))) np3
              refine ⟨p2, p3, _, _, rfl, rfl, x3 _ _ upd_same, upd_same, small100 (by rw [List.length_append, List.length_take, List.length_drop]; omega), fun l2 nl2 => ?_⟩
              have x4 := same_upd (o := .lst (ys.take j ++ zs ++ ys.drop (j + 1))) nl2
              have x14 := ((x1.trans x2).trans x3).trans x4
              obtain ⟨H9, e9⟩ : ∃ H9, upd (upd (upd (upd H8 p1 (.lst (ys.take j))) p2 (.lst (ys.take j ++ zs))) p3 (.lst (ys.drop (j + 1)))) l2 (.lst (ys.take j ++ zs ++ ys.drop (j + 1))) = H9 := ⟨_, rfl⟩
              have hl2 : H9 l2 = some (.lst (ys.take j ++ zs ++ ys.drop (j + 1))) := by rw [← e9]; exact upd_same
              have offl2 : l2 ≠ w ∧ l2 ≠ g ∧ l2 ≠ m := (((r8.well.stay x1).stay x2).stay x3).off nl2
              rw [e9] at x14 ⊢
              have r69 : Run w g m H6 H9 1420 := r68.same x14
              have hP9 := r69.keep (w6.offT hP6) hP6
              have hnm9 := r69.keep offnm hnm6
              have how9 := r69.keep offow how6
              have hv9 := r69.wish hv6
              have hgap9 := hgap.stay (.of x14)
              have e1 : ps = ps.take j ++ o :: ps.drop (j + 1) := by rw [← drop_at hoj, List.take_append_drop]
              have tl' : Tiles own wi (ps.take j ++ (rest ++ [gap]) ++ ps.drop (j + 1)) := by
                refine Tiles.splice (q := o) ?_ tq
                rw [← e1]
                exact tl
              have tl2 : Tiles own wi (ps.take j ++ rest ++ ps.drop (j + 1) ++ [gap]) := by
                refine Tiles.move ?_
                rw [← List.append_assoc (ps.take j)] at tl'
                exact tl'
              obtain ⟨pz, ez⟩ : ∃ pz, ps.take j ++ rest ++ ps.drop (j + 1) = pz := ⟨_, rfl⟩
              have hws9 : WsAt H9 (ys.take j ++ zs ++ ys.drop (j + 1)) pz := by
                rw [← ez]
                exact Paired.app (Paired.app (WsAt.stay (Paired.tk j hws) r69.tups) (WsAt.stay hrest (.of x14))) (WsAt.stay (Paired.dp (j + 1) hws) r69.tups)
              rw [ez] at tl2
              have lpz : pz.length ≤ 7 := by
                rw [← ez, List.length_append, List.length_append, List.length_take, List.length_drop]
                omega
              have bgap : Box own gap := tl2.box gap (List.mem_append_right _ List.mem_cons_self)
              obtain ⟨xs9, ex9⟩ : ∃ xs9, ys.take j ++ zs ++ ys.drop (j + 1) = xs9 := ⟨_, rfl⟩
              rw [ex9] at hl2 hws9
              have lx9 := Paired.len hws9
              -- if len(parts) < 7 and len(own) < len(names)
              refine ⟨fun σ H' => ∃ (xs : List V) (ws : List Wish) (v12 : Option V), WellAt H' w g m 1420 ∧ H' l2 = some (.lst xs) ∧ WsAt H' xs ws ∧ ws.length ≤ 7 ∧ (∀ o ∈ ws, WishOk o) ∧ (∀ z ∈ flds ws, z ∈ fs) ∧ WishAt H' v wi ∧ WishAt H' u gap ∧
                (∀ o ∈ pz, o ∈ ws) ∧ (∀ o ∈ ws, o ∈ pz ∨ (WishOk o ∧ inside wi o = false)) ∧ σ = [some (.ref a), some (.ref w), some (.int pick), some (.int cuts), some (.ref nm), some (.ref ow), some (.int (j : Int)), some v, some (.ref l2), some u, none, some (.ref rl), v12, none, none, none, none, none], ?_, ?_⟩
              · have plain : ∃ (xs : List V) (ws : List Wish) (v12 : Option V), WellAt H9 w g m 1420 ∧ H9 l2 = some (.lst xs) ∧ WsAt H9 xs ws ∧ ws.length ≤ 7 ∧ (∀ o ∈ ws, WishOk o) ∧ (∀ z ∈ flds ws, z ∈ fs) ∧ WishAt H9 v wi ∧ WishAt H9 u gap ∧
                    (∀ o ∈ pz, o ∈ ws) ∧ (∀ o ∈ ws, o ∈ pz ∨ (WishOk o ∧ inside wi o = false)) ∧ [some (.ref a), some (.ref w), some (.int pick), some (.int cuts), some (.ref nm), some (.ref ow), some (.int (j : Int)), some v, some (.ref l2), some u, none, some (.ref rl), none, none, none, none, none, none] = [some (.ref a), some (.ref w), some (.int pick), some (.int cuts), some (.ref nm), some (.ref ow), some (.int (j : Int)), some v, some (.ref l2), some u, none, some (.ref rl), v12, none, none, none, none, none] := by
                  refine ⟨xs9, pz, none, r69.well, hl2, hws9, lpz, fun o ho => (tl2.box o (List.mem_append_left _ ho)).2, fun z hz => ?_, hv9, hgap9, fun o ho => ho, fun o ho => .inl ho, rfl⟩
                  obtain ⟨o, ho, hz⟩ := List.mem_flatMap.mp hz
                  rw [(tl2.box o (List.mem_append_left _ ho)).1] at hz
                  exact sub z hz
                refine ⟨_, rfl, l2, _, rfl, .inl (sqL hl2), _, 7, rfl, rfl, _, rfl, ite2 (fun ea => ?_) fun _ => iteF plain⟩
                refine ⟨_, rfl, ow, _, rfl, .inl (sqL how9), _, rfl, nm, _, rfl, .inl (sqL hnm9), _, _, rfl, rfl, _, rfl, ite2 (fun eb => ?_) fun _ => plain⟩
                have ea' := of_decide_eq_true ea
                have eb' := of_decide_eq_true eb
                rw [List.length_map, List.length_map] at eb'
                -- more = [(field, None, None) for field in names if field not in own]
                refine ⟨_, rfl, nm, rfl, ⟨_, sqL hnm9⟩, fun D nD => lc_list (K := K) (a := nm) (xs := fs.map V.str) (fun i H8 => Run w g m H9 H8 1420 ∧ ∃ (acc : List V), H8 D = some (.lst acc) ∧ Paired (PartAt H8) acc (((fs.take i).filter fun z => !decide (z ∈ own)).map fun z => (z, none, none)))
                  ⟨Run.start r69.well (same_upd nD), [], upd_same, by rw [List.take_zero]; exact .nil⟩ (fun i H8 _ p => sqL (p.1.keep offnm hnm9)) ?_ ?_⟩
                · rintro i x H8 hx ⟨r8', acc, hD, hq⟩
                  obtain ⟨z, hz, rfl⟩ : ∃ z, fs[i]? = some z ∧ V.str z = x := by
                    rw [List.getElem?_map] at hx
                    cases e : fs[i]? with
                    | none => rw [e] at hx; cases hx
                    | some z => rw [e] at hx; exact ⟨z, rfl, Option.some.inj hx⟩
                  have hi : i < fs.length := (List.getElem?_eq_some_iff.mp hz).1
                  have how8 := r8'.keep offow how9
                  have la := Paired.len hq
                  have lf := List.length_filter_le (fun z => !decide (z ∈ own)) (fs.take i)
                  rw [List.length_map] at la
                  rw [List.length_take] at lf
                  refine ⟨rfl, ?_⟩
                  refine ⟨_, rfl, _, rfl, ow, _, rfl, .inl (sqL how8), rfl, flat_strs own, _, rfl, ?_⟩
                  rw [if_pos rfl, inV_strs]
                  have et : ((fs.take (i + 1)).filter fun z => !decide (z ∈ own)) = ((fs.take i).filter fun z => !decide (z ∈ own)) ++ ([z].filter fun z => !decide (z ∈ own)) := by
                    rw [take_at hz, List.filter_append]
                  refine ite2 (fun hz2 => ?_) fun hz2 => ?_
                  · refine ⟨_, rfl, small100 (show 3 ≤ 100000 by decide), fun t nt => ?_⟩
                    have x1 := same_upd (o := .tup [V.str z, V.non, V.non]) nt
                    have hD2 := x1 _ _ hD
                    have tu := (Tups.of x1).trans (Tups.mut (o := .lst (acc ++ [V.ref t])) (Tups.refl _) hD2)
                    refine ⟨acc, hD2, lt100 (by omega), (r8'.same x1).mut r69.well nD hD2, acc ++ [.ref t], upd_same, ?_⟩
                    rw [et, List.filter_cons_of_pos (by exact hz2), List.map_append]
                    refine Paired.app (Paired.mapP hq fun _ _ y => PartAt.stay y tu) (.cons ⟨t, rfl, ?_⟩ .nil)
                    exact Tups.mut (o := .lst (acc ++ [V.ref t])) (Tups.refl _) hD2 _ _ upd_same
                  · refine ⟨r8', acc, hD, ?_⟩
                    rw [et, List.filter_cons_of_neg (by exact hz2)]
                    simpa using hq
                · rintro H8 ⟨r8', acc, hD, hq⟩
                  rw [List.length_map, List.take_length] at hq
                  obtain ⟨mo, emo⟩ : ∃ mo, (fs.filter fun z => !decide (z ∈ own)) = mo := ⟨_, rfl⟩
                  rw [emo] at hq
                  have lmo : mo.length ≤ 3 := by
                    have := List.length_filter_le (fun z => !decide (z ∈ own)) fs
                    rw [emo] at this
                    omega
                  have hl8' := r8'.keep offl2 hl2
                  have hP8' := r8'.keep (r69.well.offT hP9) hP9
                  obtain ⟨ga, gvs, rfl, hga, hgv⟩ := r8'.wish hgap9
                  have lgv := Paired.len hgv
                  have lgap := box_len bgap
                  have la := Paired.len hq
                  rw [List.length_map] at la
                  refine ⟨_, rfl, .inl ⟨rfl, _, sqL hl8'⟩, _, rfl, ga, gvs, rfl, .inr (sqT hga), fun q1 nq1 => ?_⟩
                  have x1 := same_upd (o := .lst gvs) nq1
                  refine ⟨_, rfl, q1, D, _, _, rfl, rfl, upd_same, x1 _ _ hD, small100 (by omega), fun q2 nq2 => ?_⟩
                  have x2 := same_upd (o := .lst (gvs ++ acc)) nq2
                  have x12 := x1.trans x2
                  have hgm : Paired (PartAt (upd (upd H8 q1 (.lst gvs)) q2 (.lst (gvs ++ acc)))) (gvs ++ acc) (gap ++ mo.map fun z => (z, none, none)) :=
                    Paired.app (Paired.mapP hgv fun _ _ y => PartAt.stay y (.of x12)) (Paired.mapP hq fun _ _ y => PartAt.stay y (.of x12))
                  refine ⟨fun p hp => by rw [List.mem_singleton.mp hp]; exact LamX.TabS.nil (x12 _ _ hP8'), q2, _, _, rfl, upd_same, hgm, by rw [List.length_append, List.length_map]; omega, fun HA pl yl qs eN nn hqs pm so => ?_⟩
                  have sA := same_upd (o := .lst yl) nn
                  have eN2 : LamX.ExtN H8 (upd HA pl (.lst yl)) := ((LamX.ExtN.of x12).trans eN).trans (LamX.ExtN.of sA)
                  refine ⟨pl, yl, rfl, .inl ⟨sqL upd_same, fun t nt => ?_⟩⟩
                  have st := same_upd (o := .tup yl) nt
                  have eN3 := eN2.trans (LamX.ExtN.of st)
                  have hlB := eN3 _ _ hl8' fun _ z => nomatch z
                  refine ⟨l2, xs9, _, rfl, rfl, hlB, lt100 (by omega), ?_⟩
                  -- the new wish
                  have nfs : fs.Nodup := nodup_lt upf
                  have hmo : ∀ z, z ∈ mo ↔ z ∈ fs ∧ z ∉ own := fun z => by
                    rw [← emo, List.mem_filter]
                    simp
                  have nmo : mo.Nodup := by rw [← emo]; exact nfs.filter _
                  have emap : (mo.map fun z => ((z, none, none) : Part)).map (·.1) = mo := by
                    rw [List.map_map]
                    exact List.map_id mo
                  have pmf : (qs.map (·.1)).Perm (own ++ mo) := by
                    have := pm.map (·.1)
                    rwa [List.map_append, emap, bgap.1] at this
                  have nown : own.Nodup := nodup_lt upo
                  have nqs : (qs.map (·.1)).Nodup := pmf.nodup_iff.mpr (List.nodup_append.mpr ⟨nown, nmo, fun x hx y hy e => ((hmo y).mp hy).2 (e ▸ hx)⟩)
                  have okq : WishOk qs := by
                    refine ⟨fun p hp => ?_, ?_⟩
                    · rcases List.mem_append.mp (pm.mem_iff.mp hp) with h | h
                      · exact bgap.2.each p h
                      · obtain ⟨z, hz, rfl⟩ := List.mem_map.mp h
                        exact ⟨okf z ((hmo z).mp hz).1, rfl⟩
                    · have h2 : qs.Pairwise fun x y => x.1 ≠ y.1 := List.pairwise_map.mp nqs
                      exact (so.and h2).imp fun {x y} ⟨h1, h2⟩ => Lt.tri (fun h => List.not_lt.mpr h1 h) h2
                  obtain ⟨z0, hz0⟩ : ∃ z, z ∈ mo := by
                    by_cases hex : ∃ z, z ∈ mo
                    · exact hex
                    · exfalso
                      have := nodup_len nfs (m := own) fun x hx => by
                        by_cases h : x ∈ own
                        · exact h
                        · exact absurd ⟨x, (hmo x).mpr ⟨hx, h⟩⟩ hex
                      omega
                  have outq : inside wi qs = false := by
                    cases e : inside wi qs with
                    | false => rfl
                    | true =>
                      exfalso
                      unfold inside at e
                      rw [List.all_eq_true] at e
                      have h1 : z0 ∈ qs.map (·.1) := pmf.mem_iff.mpr (List.mem_append_right _ hz0)
                      obtain ⟨p, hp, ep⟩ := List.mem_map.mp h1
                      have h2 := of_decide_eq_true (e p hp)
                      rw [hb.1, ep] at h2
                      exact ((hmo z0).mp hz0).2 h2
                  have tups3 : Tups H8 _ := fun b ys hb => eN3 b _ hb fun _ z => nomatch z
                  have tu : Tups (upd (upd HA pl (.lst yl)) t (.tup yl)) (upd (upd (upd HA pl (.lst yl)) t (.tup yl)) l2 (.lst (xs9 ++ [V.ref t]))) := Tups.mut (Tups.refl _) hlB
                  have t93 := (r8'.tups.trans tups3).trans tu
                  refine ⟨xs9 ++ [.ref t], pz ++ [qs], _, (r8'.well.extN eN3).mut offl2, upd_same, Paired.app (WsAt.stay hws9 t93) (.cons ⟨t, yl, rfl, tu _ _ upd_same, Paired.mapP hqs fun _ _ y => PartAt.stay y (((Tups.of sA).trans (.of st)).trans tu)⟩ .nil), by rw [List.length_append, List.length_singleton]; omega, ?_, ?_, hv9.stay t93, ?_, fun o ho => List.mem_append_left _ ho, ?_, rfl⟩
                  · intro o ho
                    rcases List.mem_append.mp ho with h | h
                    · exact (tl2.box o (List.mem_append_left _ h)).2
                    · rw [List.mem_singleton.mp h]; exact okq
                  · intro z hz
                    obtain ⟨o, ho, hz⟩ := List.mem_flatMap.mp hz
                    rcases List.mem_append.mp ho with h | h
                    · rw [(tl2.box o (List.mem_append_left _ h)).1] at hz
                      exact sub z hz
                    · rw [List.mem_singleton.mp h] at hz
                      rcases List.mem_append.mp (pmf.mem_iff.mp hz) with h2 | h2
                      · exact sub z h2
                      · exact ((hmo z).mp h2).1
                  · exact hgap9.stay t93
                  · intro o ho
                    rcases List.mem_append.mp ho with h | h
                    · exact .inl h
                    · rw [List.mem_singleton.mp h]; exact .inr ⟨okq, outq⟩
              · rintro σ H' ⟨xs, ws, v12, hw', hl', hws', l7, okw, sbw, hv', hg', hin, hout, rfl⟩
                have good : ∀ ws' : List Wish, (∀ o ∈ pz, o ∈ ws') → (∀ o ∈ ws', o ∈ pz ∨ (WishOk o ∧ inside wi o = false)) → GoodB wi gap ws' := fun ws' h1 h2 qs pm =>
                  ⟨left_out hb tl2 fun o ho => h2 o (pm.mem_iff.mp ho), fun ns e => found_gap hb tl2 (fun o ho => pm.mem_iff.mpr (h1 o ho)) e⟩
                have lx := Paired.len hws'
                -- if len(parts) < 7 and parts != []
                refine ⟨_, rfl, l2, _, rfl, .inl (sqL hl'), _, 7, rfl, rfl, _, rfl, ite2 (fun ea => ?_) fun _ => iteF ⟨l2, xs, ws, _, _, _, _, _, hw'.mono (by decide), hl', offl2, hws', l7, okw, sbw, hv', .inr ⟨gap, u, rfl, hg', good ws hin hout⟩, rfl⟩⟩
                have ea' := of_decide_eq_true ea
                refine ⟨_, rfl, Nat.zero_le _, fun e ne => ?_⟩
                have s7 := same_upd (o := .lst []) ne
                refine ⟨.list (ws.map wishD), .list [], .lst (sqL (s7 _ _ hl')) (dp_wishes (WsAt.stay hws' (.of s7))), .lst (sqL upd_same) .nil, shaped_wishes ws fun o ho p hp => ((okw o ho).each p hp).1.SO, shaped_nil, _, rfl, ?_⟩
                rw [eqv_nil, map_empty]
                have hw7 := hw'.stay s7
                have hl7' := s7 _ _ hl'
                have hws7 := WsAt.stay hws' (.of s7)
                cases ews : ws with
                | nil =>
                  refine iteF ⟨l2, xs, ws, _, _, _, _, _, hw7.mono (by decide), hl7', offl2, hws7, l7, okw, sbw, hv'.stay (.of s7), .inr ⟨gap, u, rfl, hg'.stay (.of s7), good ws hin hout⟩, rfl⟩
                | cons o1 ws1 =>
                  refine iteT ?_
                  have l1 : 1 ≤ ws.length := by rw [ews, List.length_cons]; omega
                  refine ⟨_, rfl, .inl ⟨rfl, _, sqL hl7'⟩, _, rfl, _, rfl, _, rfl, l2, xs, rfl, .inl (sqL hl7'), w, g, m, _, _, rfl, hw7, by decide, by omega, by omega, fun H3 r r3 b0 b1 => ?_⟩
                  obtain ⟨k, rfl⟩ := Int.eq_ofNat_of_zero_le b0
                  have hk : k < ws.length := by omega
                  obtain ⟨ok, hok⟩ : ∃ o, ws[k]? = some o := ⟨ws[k], List.getElem?_eq_getElem hk⟩
                  obtain ⟨yk, hyk, hwk⟩ := Paired.atR hws7 hok
                  have hl3 := r3.keep offl2 hl7'
                  have tu : Tups H3 (upd H3 l2 (.lst (xs ++ [yk]))) := Tups.mut (Tups.refl H3) hl3
                  have t7 := r3.tups.trans tu
                  have hmem := List.mem_of_getElem? hok
                  refine ⟨l2, xs, _, yk, rfl, rfl, sqL hl3, atI_nat hyk, l2, xs, _, rfl, rfl, hl3, lt100 (by omega), ?_⟩
                  refine ⟨l2, xs ++ [yk], ws ++ [ok], _, _, _, _, _, (r3.well.mut offl2).mono (by decide), upd_same, offl2, Paired.app (WsAt.stay hws7 t7) (.cons (hwk.stay t7) .nil), by rw [List.length_append, List.length_singleton]; omega, ?_, ?_, (hv'.stay (.of s7)).stay t7, .inr ⟨gap, u, rfl, (hg'.stay (.of s7)).stay t7, good _ ?_ ?_⟩, rfl⟩
                  · intro o ho
                    rcases List.mem_append.mp ho with h | h
                    · exact okw o h
                    · rw [List.mem_singleton.mp h]; exact okw ok hmem
                  · intro z hz
                    obtain ⟨o, ho, hz⟩ := List.mem_flatMap.mp hz
                    rcases List.mem_append.mp ho with h | h
                    · exact sbw z (List.mem_flatMap.mpr ⟨o, h, hz⟩)
                    · rw [List.mem_singleton.mp h] at hz
                      exact sbw z (List.mem_flatMap.mpr ⟨ok, hmem, hz⟩)
                  · exact fun o ho => List.mem_append_left _ (hin o ho)
                  · intro o ho
                    rcases List.mem_append.mp ho with h | h
                    · exact hout o h
                    · rw [List.mem_singleton.mp h]; exact hout ok hmem
        · rintro σ H7 ⟨l2, xs, ws, v6, gv, v10, v11, v12, hw7, hl7, offl7, hws7, l7, okw, sbw, hv7, hgood, rfl⟩
          have lx := Paired.len hws7
          -- wishes = _law_turned(well, parts)
          refine ⟨_, rfl, _, rfl, w, g, m, l2, _, xs, rfl, hw7, by decide, hl7, by omega, offl7, fun H8 p ys r8 np hp pm => ?_⟩
          obtain ⟨qs, hqs, pq⟩ := paired_perm pm (WsAt.stay hws7 r8.tups)
          have lqs : qs.length ≤ 7 := by rw [pq.length_eq]; exact l7
          have lys := Paired.len hqs
          have okq : ∀ o ∈ qs, WishOk o := fun o ho => okw o (pq.mem_iff.mp ho)
          have sbq : ∀ z ∈ flds qs, z ∈ fs := fun z hz => by
            obtain ⟨o, ho, hz⟩ := List.mem_flatMap.mp hz
            exact sbw z (List.mem_flatMap.mpr ⟨o, pq.mem_iff.mp ho, hz⟩)
          have lq3 : ∀ o ∈ qs, o.length ≤ 100 := fun o ho => by
            have := (okq o ho).len fun p hp => sbq p.1 (List.mem_flatMap.mpr ⟨o, ho, List.mem_map.mpr ⟨p, hp, rfl⟩⟩)
            omega
          -- handed = list(wishes)
          refine ⟨_, rfl, p, ys, rfl, .inl (sqL hp), fun p2 np2 => ?_⟩
          have x1 := same_upd (o := .lst ys) np2
          have hv8 := (r8.wish hv7).stay (.of x1)
          have hq8 : WsAt (upd H8 p2 (.lst ys)) ys qs := WsAt.stay hqs (.of x1)
          have alike : ∀ H9, Same (upd H8 p2 (.lst ys)) H9 → AlikeD 3 H9 (.ref p2) (.ref p) := fun H9 s9 => by
            refine .inr ⟨p2, p, ys, ys, rfl, rfl, .inl ⟨s9 _ _ upd_same, s9 _ _ (x1 _ _ hp)⟩, by omega, ?_⟩
            have hz : Paired (fun x o => WishAt H9 x o ∧ o.length ≤ 100) ys qs := by
              have h1 : WsAt H9 ys qs := WsAt.stay hq8 (.of s9)
              have aux : ∀ {ys : List V} {qs : List Wish}, WsAt H9 ys qs → (∀ o ∈ qs, o.length ≤ 100) → Paired (fun x o => WishAt H9 x o ∧ o.length ≤ 100) ys qs := by
                intro ys qs h
                induction h with
                | nil => intro _; exact .nil
                | cons r _ ih => intro hl; exact .cons ⟨r, hl _ List.mem_cons_self⟩ (ih fun o ho => hl o (List.mem_cons_of_mem _ ho))
              exact aux h1 lq3
            exact paired_dup (fun _ _ z => wish_alike z.1 z.2) hz
          -- found = uncovered_piece(wish, handed)
          refine ⟨_, rfl, _, rfl, v, wi, p2, ys, qs, fs, rfl, hv8, hb.2, upd_same, hq8, okq, lqs, f3, fun z hz => ?_, fun hnone H9 s9 => ?_, fun nx hsome H9 q1 s9 hpc => ?_⟩
          · obtain ⟨o, ho, hz⟩ := List.mem_flatMap.mp hz
            rcases List.mem_append.mp ho with h | h
            · exact sbq z (List.mem_flatMap.mpr ⟨o, h, hz⟩)
            · rw [List.mem_singleton.mp h, hb.1] at hz
              exact sub z hz
          · refine ⟨_, rfl, _, rfl, .ref p2, .ref p, rfl, alike H9 s9, fun HA sA => ⟨true, rfl, iteF ?_⟩⟩
            rcases hgood with ⟨rfl, ga⟩ | ⟨gap, u, rfl, hg, gb⟩
            · refine ⟨_, rfl, rfl, _, rfl, ite2 (fun _ => ⟨_, rfl, rfl, ?_⟩) fun e => absurd (decide_eq_true rfl) e⟩
              rw [decide_eq_true (show V.non = V.non from rfl)]
              exact q _
            · exact absurd hnone (gb qs pq).1
          · refine ⟨_, rfl, _, rfl, .ref p2, .ref p, rfl, alike H9 s9, fun HA sA => ⟨true, rfl, iteF ?_⟩⟩
            rcases hgood with ⟨rfl, ga⟩ | ⟨gap, u, rfl, hg, gb⟩
            · exact absurd ((ga qs pq).symm.trans hsome) (fun z => nomatch z)
            · obtain ⟨ga, gvs, rfl, hga, hgv⟩ := hg
              have sAll := (x1.trans s9).trans sA
              have hgA : WishAt HA (.ref ga) gap := ⟨ga, gvs, rfl, sAll _ _ (r8.tups _ _ hga), Paired.mapP hgv fun _ _ y => PartAt.stay y (r8.tups.trans (.of sAll))⟩
              obtain ⟨k1, k2, k3⟩ := (gb qs pq).2 nx hsome
              have lnx := nf_len wi _ nx hsome
              have hpcS : ∀ HB, Same HA HB → PieceAt HB q1 ((wi.map (·.1)).zip nx) := fun HB sB => by
                obtain ⟨o, ts, h1, h2, h3⟩ := hpc
                exact ⟨o, ts, sB _ _ (sA _ _ h1), h2, Paired.mapP h3 fun _ _ z => sB _ _ (sA _ _ z)⟩
              have zfst : ((wi.map (·.1)).zip nx).map (·.1) = wi.map (·.1) := List.map_fst_zip (by rw [List.length_map]; omega)
              have znd : (((wi.map (·.1)).zip nx).map (·.1)).Nodup := by rw [zfst]; exact hb.2.nodup
              have zok : ∀ p ∈ (wi.map (·.1)).zip nx, FieldOk p.1 := fun p hp => by
                have h1 : p.1 ∈ wi.map (·.1) := by rw [← zfst]; exact List.mem_map.mpr ⟨p, hp, rfl⟩
                obtain ⟨r, hr, e⟩ := List.mem_map.mp h1
                rw [← e]
                exact (hb.2.each r hr).1
              have zup : ((wi.map (·.1)).zip nx).Pairwise fun p q => Lt p.1 q.1 := by
                have h1 : (((wi.map (·.1)).zip nx).map (·.1)).Pairwise Lt := by
                  rw [zfst]
                  exact List.pairwise_map.mpr hb.2.up
                exact List.pairwise_map.mp h1
              refine ⟨_, rfl, rfl, _, rfl, ite2 (fun e => nomatch (of_decide_eq_true e)) fun _ => ?_⟩
              refine ⟨_, rfl, q1, _, rfl, hpcS HA (Same.refl _), zok, zup, fun HB sB => ⟨true, rfl, iteF ?_⟩⟩
              refine ⟨_, rfl, _, rfl, v, wi, q1, _, rfl, hv8.stay (.of ((s9.trans sA).trans sB)), hpcS HB sB, znd, fun HC sC => ⟨_, rfl, ?_⟩⟩
              rw [k1]
              refine iteF ?_
              have sBC := sB.trans sC
              refine ⟨_, rfl, _, rfl, .ref ga, gap, q1, _, rfl, hgA.stay (.of sBC), hpcS HC sBC, znd, fun HD sD => ⟨_, rfl, ?_⟩⟩
              rw [k2]
              refine iteF ?_
              have sAD := sBC.trans sD
              have hpD := sAD _ _ (sA _ _ (s9 _ _ (x1 _ _ hp)))
              have hqD : WsAt HD ys qs := WsAt.stay hq8 (.of ((s9.trans sA).trans sAD))
              refine ⟨_, rfl, p, rfl, ⟨_, sqL hpD⟩, fun D nD => lc_par (K := K) (a := p) (xs := ys) (ms := qs) (fun o => wantsP o ((wi.map (·.1)).zip nx)) (fun x _ => x) lys (by omega) (sqL hpD) nD (fun _ => rfl) (fun i x o HE hx ho sE R hR => ?_) (fun i x o HE hx ho hf sE R hR => ⟨_, rfl, hR HE (Same.refl _)⟩) (fun HE sE hD => ?_)⟩
              · obtain ⟨o2, ho2, hw2⟩ := Paired.at_ hqD hx
                rw [ho] at ho2
                obtain rfl := Option.some.inj ho2
                exact ⟨_, rfl, _, rfl, x, o, q1, _, rfl, hw2.stay (.of sE), hpcS HE (sAD.trans sE), znd, fun HF sF => ⟨_, rfl, hR HF sF⟩⟩
              · have emp : ((ys.zip qs).filter fun q => wantsP q.2 ((wi.map (·.1)).zip nx)) = [] := by
                  rw [List.filter_eq_nil_iff]
                  intro r hr
                  rw [k3 r.2 (List.of_mem_zip hr).2]
                  decide
                rw [emp] at hD
                refine ⟨Nat.zero_le _, fun e ne => ⟨.list [], .list [], .lst (sqL ((same_upd ne) _ _ hD)) .nil, .lst (sqL upd_same) .nil, shaped_nil, shaped_nil, ?_⟩⟩
                rw [eqv_nil]
                exact q _
    obtain ⟨t, h, q⟩ := key
    exact ⟨t, h.nox, q⟩
end
end Cut
namespace Cut
open PySem PySem.Spec PyProof.Rows L2
/-! ### the head: what is known of each name -/
def dOf (x : Str) (i : Nat) : He.DefD := ⟨(x, none), x, x, defArgs (topS i), defBody (topS i), defScope (topS i), [], []⟩
def fnS1 : List (Str × Nat) := [("is_whole", 5), ("is_span", 6), ("is_field", 10), ("are_parts", 11), ("is_wish", 12), ("look_wishes", 16), ("fields_of", 17), ("look_few", 18), ("is_between", 19), ("lets_by", 20), ("ends_of", 21), ("tried", 22), ("numbers_free", 23), ("uncovered", 24), ("uncovered_piece", 25)]
def fnS2 : List (Str × Nat) := [("_law_well", 27), ("_law_take", 28), ("_law_name", 29), ("_law_fields", 30), ("_law_base", 31), ("_law_box", 32), ("_law_cut", 33), ("_law_cut_up", 34), ("_law_turned", 35), ("_law_wants", 36), ("_law_whole", 37), ("_law_is_piece", 38), ("_law_alike", 39), ("_law_widened", 40), ("_law_shorter", 41), ("law", 42)]
def fnS : List (Str × Nat) := fnS1 ++ fnS2
def fn : List He.DefD := fnS.map fun p => dOf p.1 p.2
def frees : List Str := ["len", "isinstance", "sorted", "list", "tuple", "dict", "min", "abs", "range", "all", "int", "bool", "str"]
def fa : List He.Fa := (fnS.map fun p => .glo p.1) ++ (frees.map fun x => .free x) ++ [.str "LETTERS" "abcdefghijklmnopqrstuvwxyz", .int "LONGEST" 8, .int "MOST_WISHES" 7, .int "MOST_FIELDS" 3]
def tf : List He.Defn := [("law", none)]
abbrev R : PySem.W.OpenRow := PySem.W.OpenLaw.row PySem.Challenge.rw_newsways_k13_whole_cut_up
abbrev hk : PySem.W.Hook := He.hookX 4 fa fn [] tf (fun _ => true)
def ob (s : PySem.W.SharedT) : He.AlX := He.obsX 4 fa fn [] tf (fun _ => true) (HandSHeadRun.getT s)
theorem ob_eq (s : PySem.W.SharedT) : ob s = hk.obs s.abs := He.obsX_eq (HandSHeadRun.getT_eq s)
def loose1 : List Str := ["NewsError", "NoWish", "TooMany", "is_whole", "is_span", "LETTERS", "LONGEST", "is_field", "are_parts", "is_wish", "MOST_WISHES", "MOST_FIELDS", "look_wishes", "fields_of", "look_few", "is_between"]
def loose2 : List Str := ["lets_by", "ends_of", "tried", "numbers_free", "uncovered", "uncovered_piece", "_law_well", "_law_take", "_law_name", "_law_fields", "_law_base", "_law_box", "_law_cut", "_law_cut_up", "_law_turned", "_law_wants"]
def loose3 : List Str := ["_law_whole", "_law_is_piece", "_law_alike", "_law_widened", "_law_shorter"]
def loose : List Str := loose1 ++ (loose2 ++ loose3)
section
variable {K : PySem.W.Frag} {h : Heap} {mg : Str → Option Value}
/-- a def's object, and its name -/
theorem def_at (X : K.In h) (G : h.Ns mainGlobals mg) (c : He.SaysD fa fn K) (i j : Nat) {x : Str} {n : Nat} (hd : fn[i]? = some (dOf x n) := by rfl) (hg : fa[i]? = some (.glo x) := by rfl) : Def K mg x (topS n) := by
  obtain ⟨fd, F⟩ := c.def_ i hd
  refine ⟨_, fd, ⟨?_, F.kp⟩, He.glo_ok X G (c.fact i hg)⟩
  obtain ⟨oc, od, dV, kV, doc, pm, an, cdv, ct, osl, e, lk, hcd, hdv, _⟩ := F.ex
  have ed : dV = .none := by
    rcases hdv with ⟨_, h⟩ | ⟨h, _⟩
    · exact h
    · exact absurd rfl h
  subst ed
  exact ⟨oc, od, kV, doc, pm, an, cdv, ct, osl, e, lk, hcd⟩
theorem tx_at (X : K.In h) (G : h.Ns mainGlobals mg) (c : He.SaysD fa fn K) : Tx mg :=
  ⟨He.free_ok X G (c.fact 31), He.free_ok X G (c.fact 32), He.free_ok X G (c.fact 33), He.free_ok X G (c.fact 34), He.free_ok X G (c.fact 35), He.free_ok X G (c.fact 36), He.free_ok X G (c.fact 37), He.free_ok X G (c.fact 38), He.free_ok X G (c.fact 39), He.free_ok X G (c.fact 40), He.free_ok X G (c.fact 41), He.free_ok X G (c.fact 42), He.free_ok X G (c.fact 43),
   He.str_ok X G (c.fact 44), He.int_ok X G (c.fact 45), He.int_ok X G (c.fact 46), He.int_ok X G (c.fact 47)⟩
theorem facts {w : World} {f : Addr} (X : K.In h) (G : h.Ns mainGlobals mg) (hfa : mg ("law" : Str) = some (.ref f)) (c : He.SaysX fa fn [] tf (fun _ => true) w h K) :
    LamX.LawAtS PySem.Challenge.rw_newsways_k13_whole_cut_up w K CX0 14 63 "script" mg f h := by
  have d := c.t.d
  have T := tx_at X G d
  obtain ⟨fd, F⟩ := d.def_ 30 (d := dOf "law" 42) rfl
  have e := hfa.symm.trans (He.glo_ok X G (d.fact 30 (f := .glo "law") rfl))
  cases e
  have b := FunD.bindsA (ps := ["script"]) F fun _ _ _ _ _ _ us hl => match us, hl with | [_], _ => rfl
  obtain ⟨oc, od, dV, kV, doc, pm, an, cdv, ct, osl, rfl, lk, hcd, _, _⟩ := F.ex
  obtain ⟨cc, rfl⟩ := He.codeIn_ref hcd
  have ec : (He.cT K ("law", none)).1 = cc := He.codeOf_eq (p := ("law", none)) lk rfl
  refine ⟨_, [He.cT K ("law", none)], spLaw K (He.cT K ("law", none)).2, fun p hp => ?_, fun p hp => ?_, fun p hp => ?_, fun s v => b s [v] rfl, fun H a ns hl _ hT hS => ⟨a, ns, rfl, hS, hl, hT _ (List.mem_singleton.mpr rfl), fun _ => rfl⟩, fun base KB _ hB => ?_⟩
  · rw [List.mem_singleton.mp hp]
    exact c.empty _ (List.mem_singleton.mpr rfl)
  · rw [List.mem_singleton.mp hp]
    exact c.out _ (List.mem_singleton.mpr rfl)
  · rw [List.mem_singleton.mp hp]
    exact PySem.W.codeHd_of_K X (c.hd _ (List.mem_singleton.mpr rfl))
  · have TB := hB _ (List.mem_singleton.mpr rfl)
    rw [ec] at TB
    have D_is_whole : Def K mg "is_whole" s_is_whole := def_at X G d 0 0
    have c_is_whole := ok_is_whole (P := PySem.Challenge.rw_newsways_k13_whole_cut_up.prog) (w := w) (base := base) D_is_whole T
    have D_is_span : Def K mg "is_span" s_is_span := def_at X G d 1 1
    have c_is_span := ok_is_span (P := PySem.Challenge.rw_newsways_k13_whole_cut_up.prog) (w := w) (base := base) D_is_span T c_is_whole
    have D_is_field : Def K mg "is_field" s_is_field := def_at X G d 2 2
    have c_is_field := ok_is_field (P := PySem.Challenge.rw_newsways_k13_whole_cut_up.prog) (w := w) (base := base) D_is_field T
    have D_are_parts : Def K mg "are_parts" s_are_parts := def_at X G d 3 3
    have c_are_parts := ok_are_parts (P := PySem.Challenge.rw_newsways_k13_whole_cut_up.prog) (w := w) (base := base) D_are_parts T c_is_field
    have D_is_wish : Def K mg "is_wish" s_is_wish := def_at X G d 4 4
    have c_is_wish := ok_is_wish (P := PySem.Challenge.rw_newsways_k13_whole_cut_up.prog) (w := w) (base := base) D_is_wish T c_are_parts c_is_span
    have D_look_wishes : Def K mg "look_wishes" s_look_wishes := def_at X G d 5 5
    have c_look_wishes := ok_look_wishes (P := PySem.Challenge.rw_newsways_k13_whole_cut_up.prog) (w := w) (base := base) D_look_wishes T c_is_wish
    have D_fields_of : Def K mg "fields_of" s_fields_of := def_at X G d 6 6
    have c_fields_of := ok_fields_of (P := PySem.Challenge.rw_newsways_k13_whole_cut_up.prog) (w := w) (base := base) D_fields_of T
    have D_look_few : Def K mg "look_few" s_look_few := def_at X G d 7 7
    have c_look_few := ok_look_few (P := PySem.Challenge.rw_newsways_k13_whole_cut_up.prog) (w := w) (base := base) D_look_few T c_fields_of
    have D_is_between : Def K mg "is_between" s_is_between := def_at X G d 8 8
    have c_is_between := ok_is_between (P := PySem.Challenge.rw_newsways_k13_whole_cut_up.prog) (w := w) (base := base) D_is_between T
    have D_lets_by : Def K mg "lets_by" s_lets_by := def_at X G d 9 9
    have c_lets_by := ok_lets_by (P := PySem.Challenge.rw_newsways_k13_whole_cut_up.prog) (w := w) (base := base) D_lets_by T c_is_between
    have D_ends_of : Def K mg "ends_of" s_ends_of := def_at X G d 10 10
    have c_ends_of := ok_ends_of (P := PySem.Challenge.rw_newsways_k13_whole_cut_up.prog) (w := w) (base := base) D_ends_of T
    have D_tried : Def K mg "tried" s_tried := def_at X G d 11 11
    have c_tried := ok_tried (P := PySem.Challenge.rw_newsways_k13_whole_cut_up.prog) (w := w) (base := base) D_tried T c_ends_of c_is_between
    have D_numbers_free : Def K mg "numbers_free" s_numbers_free := def_at X G d 12 12
    have c_numbers_free := ok_numbers_free (P := PySem.Challenge.rw_newsways_k13_whole_cut_up.prog) (w := w) (base := base) D_numbers_free T c_tried c_lets_by
    have D_uncovered : Def K mg "uncovered" s_uncovered := def_at X G d 13 13
    have c_uncovered := ok_uncovered (P := PySem.Challenge.rw_newsways_k13_whole_cut_up.prog) (w := w) (base := base) D_uncovered T c_fields_of c_numbers_free
    have D_uncovered_piece : Def K mg "uncovered_piece" s_uncovered_piece := def_at X G d 14 14
    have c_uncovered_piece := ok_uncovered_piece (P := PySem.Challenge.rw_newsways_k13_whole_cut_up.prog) (w := w) (base := base) D_uncovered_piece T c_is_wish c_look_wishes c_look_few c_uncovered
    have D_law_take : Def K mg "_law_take" s_law_take := def_at X G d 16 16
    have c_law_take := ok_law_take (P := PySem.Challenge.rw_newsways_k13_whole_cut_up.prog) (w := w) (base := base) D_law_take T
    have D_law_well : Def K mg "_law_well" s_law_well := def_at X G d 15 15
    have c_law_well := ok_law_well (P := PySem.Challenge.rw_newsways_k13_whole_cut_up.prog) (w := w) (base := base) D_law_well T
    have D_law_name : Def K mg "_law_name" s_law_name := def_at X G d 17 17
    have c_law_name := ok_law_name (P := PySem.Challenge.rw_newsways_k13_whole_cut_up.prog) (w := w) (base := base) D_law_name T c_law_take
    have D_law_fields : Def K mg "_law_fields" s_law_fields := def_at X G d 18 18
    have c_law_fields := ok_law_fields (P := PySem.Challenge.rw_newsways_k13_whole_cut_up.prog) (w := w) (base := base) D_law_fields T c_law_take c_law_name
    have D_law_base : Def K mg "_law_base" s_law_base := def_at X G d 19 19
    have c_law_base := ok_law_base (P := PySem.Challenge.rw_newsways_k13_whole_cut_up.prog) (w := w) (base := base) D_law_base T c_law_take
    have D_law_box : Def K mg "_law_box" s_law_box := def_at X G d 20 20
    have c_law_box := ok_law_box (P := PySem.Challenge.rw_newsways_k13_whole_cut_up.prog) (w := w) (base := base) D_law_box T c_law_take c_law_base
    have D_law_cut : Def K mg "_law_cut" s_law_cut := def_at X G d 21 21
    have c_law_cut := ok_law_cut (P := PySem.Challenge.rw_newsways_k13_whole_cut_up.prog) (w := w) (base := base) D_law_cut T c_law_take c_law_base
    have D_law_cut_up : Def K mg "_law_cut_up" s_law_cut_up := def_at X G d 22 22
    have c_law_cut_up := ok_law_cut_up (P := PySem.Challenge.rw_newsways_k13_whole_cut_up.prog) (w := w) (base := base) D_law_cut_up T c_law_take c_law_cut
    have D_law_turned : Def K mg "_law_turned" s_law_turned := def_at X G d 23 23
    have c_law_turned := ok_law_turned (P := PySem.Challenge.rw_newsways_k13_whole_cut_up.prog) (w := w) (base := base) D_law_turned T c_law_take
    have D_law_wants : Def K mg "_law_wants" s_law_wants := def_at X G d 24 24
    have c_law_wants := ok_law_wants (P := PySem.Challenge.rw_newsways_k13_whole_cut_up.prog) (w := w) (base := base) D_law_wants T
    have D_law_whole : Def K mg "_law_whole" s_law_whole := def_at X G d 25 25
    have c_law_whole := ok_law_whole (P := PySem.Challenge.rw_newsways_k13_whole_cut_up.prog) (w := w) (base := base) D_law_whole T
    have D_law_is_piece : Def K mg "_law_is_piece" s_law_is_piece := def_at X G d 26 26
    have c_law_is_piece := ok_law_is_piece (P := PySem.Challenge.rw_newsways_k13_whole_cut_up.prog) (w := w) (base := base) D_law_is_piece T c_law_whole
    have D_law_alike : Def K mg "_law_alike" s_law_alike := def_at X G d 27 27
    have c_law_alike := ok_law_alike (P := PySem.Challenge.rw_newsways_k13_whole_cut_up.prog) (w := w) (base := base) D_law_alike T
    have D_law_widened : Def K mg "_law_widened" s_law_widened := def_at X G d 28 28
    have c_law_widened := ok_law_widened (P := PySem.Challenge.rw_newsways_k13_whole_cut_up.prog) (w := w) (base := base) D_law_widened T c_law_take
    have D_law_shorter : Def K mg "_law_shorter" s_law_shorter := def_at X G d 29 29
    have c_law_shorter := ok_law_shorter (P := PySem.Challenge.rw_newsways_k13_whole_cut_up.prog) (w := w) (base := base) D_law_shorter T c_law_take c_law_base
    exact ok_law lk hcd TB T c_law_well c_law_take c_law_fields c_law_box c_law_cut_up c_law_widened c_law_shorter c_law_turned c_uncovered_piece (c_law_alike 3) c_law_is_piece c_law_wants
end
end Cut
open PySem PySem.W PySem.Calls PyProof.Rows
namespace Cut
theorem run (w : World) : HandSHeadRun.RunEq R (PySem.W.view R.prog [42]) hk ob 2500 loose w := by
  intro os
  kernel_rfl
end Cut
theorem PySem.Challenge.cw_newsways_k13_whole_cut_up_holds : PySem.Challenge.rw_newsways_k13_whole_cut_up.Holds := by
  w_on; o_law
  refine HandSHeadRun.head_any (r := OpenLaw.row PySem.Challenge.rw_newsways_k13_whole_cut_up) (q := view (OpenLaw.row PySem.Challenge.rw_newsways_k13_whole_cut_up).prog [42]) (H := Cut.hk) (ob := Cut.ob) (M := 2500) (loose := Cut.loose) (d := HandSHeadRun.topDef (OpenLaw.row PySem.Challenge.rw_newsways_k13_whole_cut_up).prog 42) (kwd := []) Cut.ob_eq
    (by kernel_rfl) (fun s => by kernel_rfl) Cut.run (by kernel_rfl) (by kernel_rfl) (by kernel_rfl) (by rfl) (by first | assumption | decide +kernel) (by decide +kernel) ⟨rfl, rfl, rfl, rfl, rfl, by decide +kernel⟩ ?hw ?hc
  case hw => w_witness2
  case hc =>
    refine LamX.walk_ofTsE (l := PySem.Challenge.rw_newsways_k13_whole_cut_up) (n := 63) (k := 14) (x := "script") (CX := fun _ => L2.CX0) rfl (by decide) (by kernel_rfl) ⟨rfl, by decide, by decide⟩ ?F (fun _ _ _ _ _ z => z)
    intro w mg fa h Y G hmg0
    obtain ⟨K, KX, c⟩ := Y
    have hmg : mg ("law" : PySem.Str) = some (.ref fa) := by
      have e : (HandSHeadRun.topDef (OpenLaw.row PySem.Challenge.rw_newsways_k13_whole_cut_up).prog 42).name = ("law" : PySem.Str) := by kernel_rfl
      rw [← e]
      exact hmg0
    exact ⟨K, KX, Cut.facts KX G hmg c⟩
