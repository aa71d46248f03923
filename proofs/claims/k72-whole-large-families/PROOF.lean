import PyProof.Rows.All
import Wide.All
import OpenK.AllK
import Wide.FinOn
import HandS.ForMost
import HandS.Style
import HandS.TupAny
import HandS.SetKeys
import HandS.More
import HandS.Deep
import HandS.Defaults
import HandS.Flow
import HandS.Wide
import HandS.TupSets
import KE.SortData
import KE.KeyNested
import KE.KDictPairs
import PySem.Challenge.RW_readorder_k72_whole_large_families
import HandS.Walk
set_option Elab.async false
set_option linter.all false
set_option maxRecDepth 100000
/-! The text by places; data; what a def is worth to its callers. -/
namespace Rd
open PySem L2
def top (i : Nat) : Stmt := PySem.Challenge.pw_readorder_k72_whole_large_families.main.body.getD i (.Pass ⟨0, 0, 0, 0⟩)
abbrev sShared : Stmt := top 5
abbrev sUnread : Stmt := top 7
abbrev sParts : Stmt := top 8
abbrev sSplit : Stmt := top 9
abbrev sBlocks : Stmt := top 10
abbrev sHas : Stmt := top 11
abbrev sStuckB : Stmt := top 12
abbrev sWithout : Stmt := top 13
abbrev sSingle : Stmt := top 14
abbrev sStuckG : Stmt := top 15
abbrev sCheckR : Stmt := top 16
abbrev sCheckL : Stmt := top 17
abbrev sPref : Stmt := top 18
abbrev sBuilt : Stmt := top 19
abbrev sReader : Stmt := top 20
abbrev sBox : Stmt := top 22
abbrev sTake : Stmt := top 23
abbrev sLeaves : Stmt := top 24
abbrev sNames : Stmt := top 25
abbrev sWide : Stmt := top 26
abbrev sParted : Stmt := top 27
abbrev sChanged : Stmt := top 28
abbrev sIsGroup : Stmt := top 29
abbrev sLaw : Stmt := top 30

/-! ### data -/
abbrev Log := List (Str × Int)
def dPair (p : Str × Int) : PyData := .tuple [.str p.1, .int p.2]
def dLog (l : Log) : PyData := .tuple (l.map dPair)
def dLogs (L : List Log) : PyData := .tuple (L.map dLog)

/-! ### heaps -/
theorem same_new {H : Hp} {p : Addr} (h : H p = none) (o : HO) : Same H (upd H p o) := fun b u q => by rw [upd_ne (ne_of_none q h)]; exact q
theorem Same.seqT {K : PySem.W.Frag} {H H' : Hp} {a : Addr} {xs : List V} (e : Same H H') (h : SqT K H a xs) : SqT K H' a xs := by
  rcases h with (h | ⟨o, h⟩) | h
  · exact .inl (.inl (e _ _ h))
  · exact .inl (.inr ⟨o, e _ _ h⟩)
  · exact .inr h
mutual
theorem dp_same {K : PySem.W.Frag} {H H' : Hp} (e : Same H H') : ∀ (d : PyData) (v : V), Dp K H v d → Dp K H' v d
  | .none, _, h => by cases h; exact .non
  | .bool _, _, h => by cases h; exact .bl _
  | .int _, _, h => by cases h; exact .int _
  | .str _, _, h => by cases h; exact .str _
  | .list ds, _, h => by
    cases h with
    | lst hs ha => exact .lst (e.seq hs) (dps_same e ds _ ha)
  | .tuple ds, _, h => by
    cases h with
    | tup hs ha => exact .tup (Same.seqT e hs) (dps_same e ds _ ha)
  | .dict _, _, h => by cases h
theorem dps_same {K : PySem.W.Frag} {H H' : Hp} (e : Same H H') : ∀ (ds : List PyData) (vs : List V), DpAll K H vs ds → DpAll K H' vs ds
  | [], _, h => by cases h; exact .nil
  | d :: ds, _, h => by
    cases h with
    | cons h1 h2 => exact .cons (dp_same e d _ h1) (dps_same e ds _ h2)
end
theorem DpAll.len {K : PySem.W.Frag} {H : Hp} : ∀ {vs : List V} {ds : List PyData}, DpAll K H vs ds → vs.length = ds.length
  | _, _, .nil => rfl
  | _, _, .cons _ h2 => congrArg Nat.succ (DpAll.len h2)
theorem DpAll.get {K : PySem.W.Frag} {H : Hp} : ∀ {vs : List V} {ds : List PyData} {i : Nat} {v : V}, DpAll K H vs ds → vs[i]? = some v → ∃ d, ds[i]? = some d ∧ Dp K H v d
  | _, _, i, v, .nil, h => by simp at h
  | _, _, 0, v, .cons h1 _, h => by
    simp only [List.getElem?_cons_zero, Option.some.injEq] at h
    subst h
    exact ⟨_, rfl, h1⟩
  | _, _, i + 1, v, .cons _ h2, h => by
    simp only [List.getElem?_cons_succ] at h ⊢
    exact DpAll.get h2 h
theorem DpAll.app {K : PySem.W.Frag} {H : Hp} : ∀ {vs ws : List V} {ds es : List PyData}, DpAll K H vs ds → DpAll K H ws es → DpAll K H (vs ++ ws) (ds ++ es)
  | _, _, _, _, .nil, h => h
  | _, _, _, _, .cons h1 h2, h => .cons h1 (DpAll.app h2 h)
theorem DpAll.take {K : PySem.W.Frag} {H : Hp} : ∀ (n : Nat) {vs : List V} {ds : List PyData}, DpAll K H vs ds → DpAll K H (vs.take n) (ds.take n)
  | 0, _, _, _ => by rw [List.take_zero, List.take_zero]; exact .nil
  | n + 1, _, _, .nil => .nil
  | n + 1, _, _, .cons h1 h2 => .cons h1 (DpAll.take n h2)
theorem DpAll.drop {K : PySem.W.Frag} {H : Hp} : ∀ (n : Nat) {vs : List V} {ds : List PyData}, DpAll K H vs ds → DpAll K H (vs.drop n) (ds.drop n)
  | 0, _, _, h => h
  | n + 1, _, _, .nil => .nil
  | n + 1, _, _, .cons _ h2 => DpAll.drop n h2

/-! ### what a def is to its callers -/
/-- the def x stands behind the top -/
structure Known (K : PySem.W.Frag) (mg : Str → Option Value) (x : Str) (st : Stmt) (ps : List Str) : Prop where
  ex : ∃ (f : Addr) (fd : FuncData), Fun K x x st f fd ∧ mg x = some (.ref f) ∧ Binds K fd ps []
/-- the def x keeps the promise sp -/
structure Cal (P : Program) (w : World) (K : PySem.W.Frag) (mg : Str → Option Value) (base : Heap) (k : Nat) (x : Str) (ps : List Str) (sp : Sp) : Prop where
  ex : ∃ (f : Addr) (fd : FuncData) (ds : List Value), FnOk P w K mg base CX0 k f fd ps sp ∧ mg x = some (.ref f) ∧ PySem.W.keepIn K (.ref f) = true ∧ Binds K fd ps ds ∧ ds = []
theorem Known.cal {P : Program} {w : World} {K : PySem.W.Frag} {mg : Str → Option Value} {base : Heap} {k : Nat} {x : Str} {st : Stmt} {ps : List Str} {sp : Sp} (h : Known K mg x st ps)
    (ok : ∀ (f : Addr) (fd : FuncData), Fun K x x st f fd → FnOk P w K mg base CX0 k f fd ps sp) : Cal P w K mg base k x ps sp := by
  obtain ⟨f, fd, F, m, b⟩ := h.ex
  exact ⟨f, fd, [], ok f fd F, m, F.kp, b, rfl⟩
theorem Cal.call {P : Program} {w : World} {K : PySem.W.Frag} {mg : Str → Option Value} {base : Heap} {k : Nat} {x : Str} {ps : List Str} {sp : Sp} (C : Cal P w K mg base k x ps sp) {X : Cx} (hr : Room k X.A) {p pos : Pos} {e : Expr} {es : List Expr} {t : TA} (ha : PA X (e :: es) t)
    (h1 : X.prog = P := by rfl) (h2 : X.w = w := by rfl) (h3 : X.K = K := by rfl) (h4 : X.mg = mg := by rfl) (h5 : X.base = base := by rfl) (hg : Gl X x := by rfl)
    (hdb : (x == ("__debug__" : Str)) = false := by decide) (he : starEach (e :: es) X.env = (false, eval e X.env) :: starEach es X.env := by rfl)
    (hpl : (backTo pos (starEach es X.env)).any (·.1) = false := by rfl) :
    PE X (.Call (.Name x p) (e :: es) [] pos) (tCall sp [] E0 t) := by
  subst h1
  subst h2
  subst h3
  subst h4
  subst h5
  obtain ⟨f, fd, ds, F, m, kp, b, rfl⟩ := C.ex
  exact pe_call F hr hg m kp b .nil pass0 ha (hdb := hdb) (he := he) (hpl := hpl)
/-- the built-in names that no module binds -/
structure Bl (mg : Str → Option Value) : Prop where
  len : mg "len" = none
  dict : mg "dict" = none
  tuple : mg "tuple" = none
  all : mg "all" = none
  any : mg "any" = none
  sorted : mg "sorted" = none
  set : mg "set" = none
  repr : mg "repr" = none
  range : mg "range" = none
  min : mg "min" = none
  abs : mg "abs" = none
  int : mg "int" = none
  list : mg "list" = none
end Rd

set_option Elab.async false
set_option linter.all false
set_option maxRecDepth 100000
/-! Rules of our own over the hand layer. -/
namespace Rd
open PySem PySem.Spec PyProof.Rows L2
/-- a tuple whose object is known, without a dict of its own -/
def PTup (H : Hp) (a : Addr) (xs : List V) : Prop := ∃ o : Obj, H a = some (.frz o (.tup xs)) ∧ o.dict = none
theorem PTup.sq {K : PySem.W.Frag} {H : Hp} {a : Addr} {xs : List V} (h : PTup H a xs) : SqT K H a xs := by
  obtain ⟨o, e, _⟩ := h
  exact .inl (.inr ⟨o, e⟩)
theorem PTup.same {H H' : Hp} {a : Addr} {xs : List V} (e : Same H H') (h : PTup H a xs) : PTup H' a xs := by
  obtain ⟨o, e1, e2⟩ := h
  exact ⟨o, e _ _ e1, e2⟩
section
variable {X : Cx}
/-- a fresh tuple object, told whole -/
theorem ptup_new {pins : List (Addr × Obj)} {σ : L2.St} {H : Hp} {s : Shared} {xs : List V} {its : List Value} (I : Inv X pins σ H s) (r : Vals xs its) (hz : xs.length ≤ sizeLine) :
    ∃ H', Inv X pins σ H' { s with heap := s.heap.push { cls := .type "tuple", data := .seq its.toArray } } ∧ Same H H' ∧ PTup H' s.heap.objs.size xs := by
  have hn : H s.heap.objs.size = none := I.hok.fresh (Nat.le_refl _)
  refine ⟨_, I.laid (t' := s.toks) (o := .frz { cls := .type "tuple", data := .seq its.toArray } (.tup xs)) (fun b o e => Heap.get?_push_of_some _ e) (Nat.le_refl _) ?_, same_new hn _, { cls := .type "tuple", data := .seq its.toArray }, upd_same, rfl⟩
  exact ⟨Heap.get?_push_size _ rfl, hz, its, r, IsTup.new _ _⟩

/-- tuple(xs) of a list, the object told -/
theorem cr_tupP : CallR X (.type "tuple") (fun vs H Q => ∃ p ys, vs = [.ref p] ∧ SqL X.K H p ys ∧ ∀ l H', Same H H' → PTup H' l ys → Q (.ref l) H') := by
  intro pins s σ H xs us Q I r h
  obtain ⟨p, ys, rfl, hq, q⟩ := h
  rw [Vals.ref1 r]
  obtain ⟨its, r1, pl, hz⟩ := I.list hq
  have hlen := r1.length
  refine call_tuple_list pl.isList (fun h' kp => ?_) (by rw [List.size_toArray]; omega)
  have I1 : Inv X pins σ H { s with heap := h' } := I.kept (t' := s.toks) kp
  obtain ⟨H', I2, e, t⟩ := ptup_new (s := { s with heap := h' }) I1 r1 hz
  exact ⟨.ref h'.objs.size, H', I2, rfl, q _ H' e t⟩
/-- t + u: the items together; where both objects are told, the new one's too -/
theorem op_catP : OpR X (binaryOp .Add) (fun x y H Q => ∃ a b xs ys, x = .ref a ∧ y = .ref b ∧ SqT X.K H a xs ∧ SqT X.K H b ys ∧ xs.length + ys.length ≤ sizeLine ∧
    ∀ p H', Same H H' → SqT X.K H' p (xs ++ ys) → (PTup H a xs → PTup H b ys → PTup H' p (xs ++ ys)) → Q (.ref p) H') := by
  intro pins s σ H x y v u Q I rx ry h
  obtain ⟨a, b, xs, ys, rfl, rfl, ha, hb, hz, q⟩ := h
  cases rx
  cases ry
  obtain ⟨its, r1, p1, _⟩ := I.tuple ha
  obtain ⟨its2, r2, p2, _⟩ := I.tuple hb
  by_cases hx : xs = []
  · subst hx
    cases r1
    exact cat_tup0 p1 p2 ⟨.ref b, H, I, rfl, q b H (Same.refl H) hb fun _ h2 => h2⟩
  · refine HT.cat_tup p1 p2 (fun z => hx (r1.nil_iff.mp z)) (fun z => ?_) (fun z => ?_) (by rw [← r1.length, ← r2.length]; exact hz)
    · have e : ys = [] := r2.nil_iff.mp z
      subst e
      rw [List.append_nil] at q
      exact ⟨.ref a, H, I, rfl, q a H (Same.refl H) ha fun h1 _ => h1⟩
    · obtain ⟨H', I2, e, t⟩ := ptup_new I (r1.append r2) (by rw [List.length_append]; exact hz)
      exact ⟨.ref s.heap.objs.size, H', I2, rfl, q _ H' e t.sq fun _ _ => t⟩
/-- t[lo:hi] -/
theorem sl_tupP : SlR X (fun x lo hi H Q => ∃ a xs, x = .ref a ∧ SqT X.K H a xs ∧ ∀ p H', Same H H' → SqT X.K H' p (cutV xs lo hi) → (PTup H a xs → PTup H' p (cutV xs lo hi)) → Q (.ref p) H') := by
  intro pins s σ H x v vl vu lo hi sl Q I rx hs pl pu h
  obtain ⟨a, xs, rfl, hx, q⟩ := h
  cases rx
  obtain ⟨its, r, ht, hz⟩ := I.tuple hx
  have hlen : its.toArray.size = xs.length := by rw [List.size_toArray]; exact r.length.symm
  refine ⟨"tuple", _, PyProof.Rows.slot_tuple_getitem.lookup, ht.typeIs, ?_⟩
  by_cases hw : HT.sIx xs.length 0 lo = 0 ∧ HT.sIx xs.length xs.length hi = xs.length
  · have e : cutV xs lo hi = xs := by
      unfold cutV
      rw [hw.1, hw.2, List.drop_zero, Nat.sub_zero, List.take_length]
    rw [e] at q
    exact getItem_tuple_whole ht hs pl pu (by rw [hlen]; exact hw) ⟨.ref a, H, I, rfl, q a H (Same.refl H) hx fun h => h⟩
  · refine HT.getItem_tuple_cut ht hs pl pu (by rw [hlen]; exact hw) ?_ (by rw [hlen]; exact hz)
    rw [hlen]
    obtain ⟨H', I2, e, t⟩ := ptup_new (xs := cutV xs lo hi) I ((r.drop (HT.sIx xs.length 0 lo)).take (HT.sIx xs.length xs.length hi - HT.sIx xs.length 0 lo)) (Nat.le_trans (cutV_length xs lo hi) hz)
    exact ⟨.ref s.heap.objs.size, H', I2, rfl, q _ H' e t.sq fun _ => t⟩

/-! ### against an empty list, an empty tuple -/
theorem none_eqAt {A : Around} {s : Shared} {vs ws : Array Value} (h : vs.size = 0 ∨ ws.size = 0) (e : Nat → Bool) : ∀ j (h1 : j < vs.size) (h2 : j < ws.size), SeqAt.EqAt A s vs[j] ws[j] (e j) := by
  intro j h1 h2
  omega
theorem op_eq0 (hu : X.A.units < cLine) : OpR X (compareOp .Eq) (fun x y H Q => ∃ a b xs, x = .ref a ∧ y = .ref b ∧ ((SqL X.K H a xs ∧ SqL X.K H b []) ∨ (SqT X.K H a xs ∧ SqT X.K H b [])) ∧ Q (.bl xs.isEmpty) H) := by
  intro pins s σ H x y v u Q I rx ry h
  obtain ⟨a, b, xs, rfl, rfl, h, q⟩ := h
  cases rx
  cases ry
  rcases h with ⟨ha, hb⟩ | ⟨ha, hb⟩
  · obtain ⟨its, r1, p1, _⟩ := I.list ha
    obtain ⟨its2, r2, p2, _⟩ := I.list hb
    cases r2
    cases xs with
    | nil =>
      cases r1
      exact SeqAt.eq_listAt (e := fun _ => true) p1.isList p2.isList rfl hu (none_eqAt (.inl rfl) _) ⟨.bl true, H, I, rfl, q⟩
    | cons z zs =>
      cases r1
      exact SeqAt.eq_list_lengthsAt p1.isList p2.isList (by simp) hu ⟨.bl false, H, I, rfl, q⟩
  · obtain ⟨its, r1, p1, _⟩ := I.tuple ha
    obtain ⟨its2, r2, p2, _⟩ := I.tuple hb
    cases r2
    cases xs with
    | nil =>
      cases r1
      exact SeqAt.eq_tupleAt (e := fun _ => true) p1 p2 hu (none_eqAt (.inl rfl) _) ⟨.bl true, H, I, by rfl, q⟩
    | cons z zs =>
      cases r1
      exact SeqAt.eq_tupleAt (e := fun _ => true) p1 p2 hu (none_eqAt (.inr rfl) _) ⟨.bl false, H, I, by simp [L2.RelV], q⟩
theorem op_ne0 (hu : X.A.units < cLine) : OpR X (compareOp .NotEq) (fun x y H Q => ∃ a b xs, x = .ref a ∧ y = .ref b ∧ ((SqL X.K H a xs ∧ SqL X.K H b []) ∨ (SqT X.K H a xs ∧ SqT X.K H b [])) ∧ Q (.bl (!xs.isEmpty)) H) := by
  intro pins s σ H x y v u Q I rx ry h
  obtain ⟨a, b, xs, rfl, rfl, h, q⟩ := h
  cases rx
  cases ry
  rcases h with ⟨ha, hb⟩ | ⟨ha, hb⟩
  · obtain ⟨its, r1, p1, _⟩ := I.list ha
    obtain ⟨its2, r2, p2, _⟩ := I.list hb
    cases r2
    cases xs with
    | nil =>
      cases r1
      exact SeqAt.RcNeAt.lists (e := fun _ => true) p1.isList p2.isList rfl hu (none_eqAt (.inl rfl) _) _ _ _ _ ⟨.bl false, H, I, rfl, q⟩
    | cons z zs =>
      cases r1
      exact SeqAt.RcNeAt.lists_lengths p1.isList p2.isList (by simp) hu _ _ _ _ ⟨.bl true, H, I, rfl, q⟩
  · obtain ⟨its, r1, p1, _⟩ := I.tuple ha
    obtain ⟨its2, r2, p2, _⟩ := I.tuple hb
    cases r2
    cases xs with
    | nil =>
      cases r1
      exact SeqAt.RcNeAt.tuples (e := fun _ => true) p1 p2 hu (none_eqAt (.inl rfl) _) _ _ _ _ ⟨.bl false, H, I, by rfl, q⟩
    | cons z zs =>
      cases r1
      exact SeqAt.RcNeAt.tuples (e := fun _ => true) p1 p2 hu (none_eqAt (.inr rfl) _) _ _ _ _ ⟨.bl true, H, I, by simp [L2.RelV], q⟩

/-- i ** j of greater numbers -/
theorem op_powW : OpR X (binaryOp .Pow) (fun x y H Q => ∃ i j : Int, x = .int i ∧ y = .int j ∧ 0 ≤ j ∧ (Builtin.Int.intBits i : Int) * j ≤ 2 ^ 27 ∧ Q (.int (i ^ j.toNat)) H) := by
  intro pins s σ H x y v u Q I rx ry h
  obtain ⟨i, j, rfl, rfl, h1, h2, q⟩ := h
  obtain ⟨t, rfl⟩ := rx
  obtain ⟨t', rfl⟩ := ry
  exact pow_int h1 h2 ⟨.int _, H, I.tok _, ⟨_, rfl⟩, q⟩
end
end Rd

set_option Elab.async false
set_option linter.all false
set_option maxRecDepth 100000
/-! sorted(..) of nested data; repr of a bool; len(set(ints)); dict(a tuple of pairs). -/
namespace Rd
open PySem PySem.Spec PyProof.Rows L2
open PySem.W (EachIs AllAlike Sortable dataLe)
abbrev ZD := V × PyData
abbrev zIs (v : Value) (z : ZD) : Prop := L2.RelV z.1 v
theorem each_of_vals : ∀ {zs : List ZD} {us : List Value}, Vals (zs.map (·.1)) us → EachIs zIs us zs
  | [], _, r => by cases r; exact .nil
  | _ :: _, _, r => by
    cases r with
    | cons h t => exact .cons h (each_of_vals t)
theorem vals_of_each : ∀ {zs : List ZD} {us : List Value}, EachIs zIs us zs → Vals (zs.map (·.1)) us
  | _, _, .nil => .nil
  | _, _, .cons h t => .cons h (vals_of_each t)

section
variable {P : Program} {w : World} {A : Around} {E : Value → Shared → Prop} {s : Shared}
/-- sorted(x), whatever gathers x's items: GB tells which data they may be -/
theorem sorted_core {x : Value} {Q : Value → Shared → Prop} (GB : List ZD → Prop)
    (hcol : ∀ Q' : List Value → Shared → Prop, (∀ (vs : List Value) (s1 : Shared) (zs : List ZD), (∀ b o, s.heap.get? b = some o → s1.heap.get? b = some o) → s1.gens = s.gens → s1.os = s.os → GB zs → EachIs zIs vs zs → Q' vs s1) →
      wpAny (model P w) A.in1 (collect x) Q' E s)
    (hread : ∀ zs, GB zs → ∀ vs, EachIs zIs vs zs → EachIs (fun v (z : ZD) => ∃ as, Reads s.heap v z.2 as) vs zs)
    (hal : ∀ zs, GB zs → AllAlike (zs.map (·.2)) ∧ Sortable (zs.map (·.2)) ∧ zs.length ≤ sizeLine ∧ ∀ z ∈ zs, A.units + 2 + z.2.depth < cLine)
    (hQ : ∀ (s1 s' : Shared) (out : Array Value) (c : Nat) (zs : List ZD), GB zs → (∀ b o, s.heap.get? b = some o → s1.heap.get? b = some o) → s1.gens = s.gens → s1.os = s.os → (∀ b o, s1.heap.get? b = some o → s'.heap.get? b = some o) → s'.gens = s1.gens → s'.os = s1.os →
      s'.heap.get? s1.heap.objs.size = some (seqObj "list" out c) → EachIs zIs out.toList (zs.mergeSort (dataLe false (·.2))) → Q (.ref s1.heap.objs.size) s') :
    wpAny (model P w) A (call (.builtin "sorted") [x]) Q E s := by
  refine Calls.call_function_entry kind_sorted plain_sorted entry_sorted (args_sorted1 _) ?_
  unfold Builtin.«sorted»
  refine wpAny_bind (m := checkCount "sorted" 1 1 _) (wpAny_pure ?_)
  refine wpAny_bind (hcol _ fun vs s1 zs k1 g1 o1 gb ev => ?_)
  obtain ⟨ha, hs, hl, hd⟩ := hal zs gb
  have hvl : vs.length ≤ sizeLine := by rw [ev.length]; exact hl
  refine wpAny_bind (wpAny_newList ?_ hvl)
  have hoL : (s1.heap.push (seqObj "list" vs.toArray 0)).get? s1.heap.objs.size = some (seqObj "list" vs.toArray 0) := Heap.get?_push_size _ rfl
  have kall : ∀ b o, s.heap.get? b = some o → (PySem.W.sortingHeap (s1.heap.push (seqObj "list" vs.toArray 0)) s1.heap.objs.size vs).get? b = some o := fun b o e =>
    PySem.W.sortingHeap_old (Nat.ne_of_lt (Heap.lt_size (k1 b o e))) (Heap.get?_push_of_some _ (k1 b o e))
  have er : EachIs (fun v (z : ZD) => ∃ as, Reads (PySem.W.sortingHeap (s1.heap.push (seqObj "list" vs.toArray 0)) s1.heap.objs.size vs) v z.2 as) vs zs :=
    (hread zs gb vs ev).mono fun _ _ ⟨as, r⟩ => ⟨as, PyProof.Rows.Reads.keeps kall r⟩
  have hbody : wpAny (model P w) A.in1 (call (.builtin "list.sort") [.ref s1.heap.objs.size]) (fun v s' => v = .none ∧ ∃ out, EachIs zIs out (zs.mergeSort (dataLe false (·.2))) ∧ s' = { s1 with heap := sortedHeap (s1.heap.push (seqObj "list" vs.toArray 0)) s1.heap.objs.size vs (List.toArray out) }) E { s1 with heap := s1.heap.push (seqObj "list" vs.toArray 0) } := by
    refine wpAny_call_entry slot_list_sort ⟨_, hoL, rfl⟩ entry_list_sort (PySem.W.list_sort_vals (s := { s1 with heap := s1.heap.push (seqObj "list" vs.toArray 0) }) (κ := PySem.W.dataKind (PySem.W.sortingHeap (s1.heap.push (seqObj "list" vs.toArray 0)) s1.heap.objs.size vs) (zs.map (·.2))) hoL
      (PySem.W.SortsAt.data (s := { s1 with heap := PySem.W.sortingHeap (s1.heap.push (seqObj "list" vs.toArray 0)) s1.heap.objs.size vs }) (PySem.W.each_map (R := fun v d => ∃ as, Reads (PySem.W.sortingHeap (s1.heap.push (seqObj "list" vs.toArray 0)) s1.heap.objs.size vs) v d as) (Prod.snd : ZD → PyData) er) ha hs fun d hdm => ?_) hvl ⟨.none, rfl, ?_⟩) (args_list_sort _)
    · obtain ⟨z, hz', e⟩ := List.mem_map.mp hdm
      rw [← e]
      exact hd z hz'
    · exact ⟨rfl, _, PySem.W.sortVals_data false ev er ha, rfl⟩
  refine wpAny_bind (wpAny_holding (wpAny_mono hbody (fun v s' hv => ?_) fun _ _ e => e))
  obtain ⟨rfl, out, he, rfl⟩ := hv
  obtain ⟨c, hc⟩ := sortedHeap_at (vs := vs) (out := List.toArray out) hoL
  refine wpAny_pure ⟨_, rfl, hQ s1 _ (List.toArray out) c zs gb k1 g1 o1 (fun b o q => ?_) rfl rfl hc (by simpa using he)⟩
  have hlt := Heap.lt_size q
  show (sortedHeap (s1.heap.push (seqObj "list" vs.toArray 0)) s1.heap.objs.size vs (List.toArray out)).get? b = some o
  rw [sortedHeap_old (Nat.ne_of_lt hlt) (by rw [size_push']; exact Nat.lt_succ_of_lt hlt)]
  exact Heap.get?_push_of_some _ q
end

section
variable {X : Cx}
theorem shared_eq {s s' : Shared} (o : s'.os = s.os) (g : s'.gens = s.gens) : s' = { s with heap := s'.heap, gens := s.gens, drawn := s'.drawn, toks := s'.toks } := by
  cases s'
  cases s
  cases o
  cases g
  rfl
/-- behind sorted(..): the new list on the abstract heap -/
theorem sorted_done {pins : List (Addr × Obj)} {σ : L2.St} {H : Hp} {s s1 s' : Shared} {Q : VK} {out : Array Value} {c : Nat} {zs : List ZD} (I0 : Inv X pins σ H s)
    (k0 : ∀ b o, s.heap.get? b = some o → s1.heap.get? b = some o) (g0 : s1.gens = s.gens) (o0 : s1.os = s.os)
    (k : ∀ b o, s1.heap.get? b = some o → s'.heap.get? b = some o) (g : s'.gens = s1.gens) (o : s'.os = s1.os) (hg : s'.heap.get? s1.heap.objs.size = some (seqObj "list" out c)) (hz : zs.length ≤ sizeLine)
    (e : EachIs zIs out.toList zs) (q : ∀ p, H p = none → Q (.ref p) (upd H p (.lst (zs.map (·.1))))) : EP X pins σ Q (.ref s1.heap.objs.size) s' := by
  have I' : Inv X pins σ H { s with heap := s1.heap, gens := s.gens, drawn := s1.drawn, toks := s1.toks } := I0.call (ch := []) (Un.kept k0) (I0.hok.kept k0) I0.bare (fun _ z => nomatch z)
  have I : Inv X pins σ H s1 := by
    rw [shared_eq o0 g0]
    exact I'
  obtain ⟨p, hpe⟩ : ∃ p, p = s1.heap.objs.size := ⟨_, rfl⟩
  have hp : s1.heap.objs.size ≤ p := Nat.le_of_eq hpe.symm
  rw [← hpe] at hg ⊢
  have hn : H p = none := I.hok.fresh hp
  have J : Inv X pins σ (upd H p (.lst (zs.map (·.1)))) { s1 with heap := s'.heap, gens := s1.gens, drawn := s'.drawn, toks := s'.toks } :=
    I.call (ch := []) (Un.laid k hp hn) (I.hok.laid k hp ⟨by rw [List.length_map]; exact hz, out.toList, c, vals_of_each e, hg⟩) I.bare (fun _ z => nomatch z)
  rw [shared_eq o g]
  exact ⟨.ref p, _, J, rfl, q p hn⟩
theorem dp_each {pins : List (Addr × Obj)} {σ : L2.St} {H : Hp} {s : Shared} (I : Inv X pins σ H s) {zs : List ZD} (h : ∀ z ∈ zs, Dp X.K H z.1 z.2) : ∀ {vs : List Value}, EachIs zIs vs zs → EachIs (fun v (z : ZD) => ∃ as, Reads s.heap v z.2 as) vs zs := by
  intro vs e
  exact (PySem.W.each_mem e).mono fun v z ⟨r, m⟩ => Dp.reads I _ _ _ (h z m) r
def rSortZ (K : PySem.W.Frag) : List V → Hp → VK → Prop := fun vs H Q => ∃ (a : Addr) (zs : List ZD), vs = [.ref a] ∧ (SqL K H a (zs.map (·.1)) ∨ SqT K H a (zs.map (·.1))) ∧ (∀ z ∈ zs, Dp K H z.1 z.2) ∧
  AllAlike (zs.map (·.2)) ∧ Sortable (zs.map (·.2)) ∧ (∀ z ∈ zs, z.2.depth ≤ 40) ∧ ∀ p, H p = none → Q (.ref p) (upd H p (.lst ((zs.mergeSort (dataLe false (·.2))).map (·.1))))
theorem cr_sortZ (hu : X.A.units + 64 < cLine) : CallR X (.builtin "sorted") (rSortZ X.K) := by
  intro pins s σ H vs us Q I r h
  obtain ⟨a, zs, rfl, hs, hd, hal, hso, hde, q⟩ := h
  rw [Vals.ref1 r]
  have src : ∃ (T : String) (its : List Value) (o : Obj) (n : Nat), (T = "list" ∨ T = "tuple") ∧ Vals (zs.map (·.1)) its ∧ s.heap.get? a = some o ∧ o.cls = .type T ∧ o.data = .seq its.toArray n ∧ zs.length ≤ sizeLine := by
    rcases hs with hs | hs
    · obtain ⟨its, rv, pl, hz⟩ := I.list hs
      obtain ⟨o, ho, hc, n, hdt⟩ := pl.isList
      exact ⟨"list", its, o, n, .inl rfl, rv, ho, hc, hdt, by rw [List.length_map] at hz; exact hz⟩
    · obtain ⟨its, rv, ⟨o, ho, hc, n, hdt⟩, hz⟩ := I.tuple hs
      exact ⟨"tuple", its, o, n, .inr rfl, rv, ho, hc, hdt, by rw [List.length_map] at hz; exact hz⟩
  obtain ⟨T, its, o, n, hT, rv, ho, hc, hdt, hz⟩ := src
  refine sorted_core (fun zs' => zs' = zs) (fun Q' hQ' => ?_) (fun zs' e vs ev => ?_) (fun zs' e => ?_) fun s1 s' out c zs' e k0 g0 o0 k g ho' hg he => ?_
  · refine wpAny_collect_seq (n := n) a hT ho hc hdt (fun h' k => ?_) (by rw [List.size_toArray, ← rv.length, List.length_map]; exact hz)
    exact hQ' _ _ zs k rfl rfl rfl (each_of_vals (by simpa using rv))
  · subst e
    exact dp_each I hd ev
  · subst e
    refine ⟨hal, hso, hz, fun z hm => ?_⟩
    have := hde z hm
    omega
  · subst e
    exact sorted_done I k0 g0 o0 k g ho' hg (by rw [List.length_mergeSort]; exact hz) he q

theorem call_reprB : CallR X (.builtin "repr") (fun xs H Q => ∃ b : Bool, xs = [.bl b] ∧ Q (.str (if b then "True" else "False")) H) := by
  intro pins s σ H xs us Q I r h
  obtain ⟨b, rfl, q⟩ := h
  obtain ⟨u, rfl, ru⟩ := vals1 r
  cases ru
  exact PySem.P.repr_of_bool ⟨.str _, H, I.tok _, ⟨_, rfl⟩, q⟩

/-- set(xs) of ints: how many different ones -/
def fewer (ns : List Int) : List Int := firstMet (fun i => ns.getD i 0) ns.length
def rSetI (K : PySem.W.Frag) : List V → Hp → VK → Prop := fun xs H Q => ∃ (l : Addr) (ns : List Int), xs = [.ref l] ∧ SqL K H l (ns.map V.int) ∧ ns.length ≤ 1000 ∧ ∀ p S, H p = none → Q (.ref p) (upd H p (.set S (fewer ns).length))
theorem cr_setI (hc : X.calm = true) : CallR X (.type "set") (rSetI X.K) := by
  intro pins s σ H xs us Q I r h
  obtain ⟨l, ns, rfl, hs, hz, q⟩ := h
  rw [Vals.ref1 r]
  obtain ⟨its, rv, pl, _⟩ := I.list hs
  have hl : its.toArray.size = ns.length := by rw [List.size_toArray, ← rv.length, List.length_map]
  refine call_set_list (I.ok.hd hc) pl.isList (ns := ns) (by simpa using rv.ints) (by unfold scanBound; omega) fun h' tk hS hk => ?_
  rw [hl] at hS
  have hn : H s.heap.objs.size = none := I.hok.fresh (Nat.le_refl _)
  have kp : ∀ b o, s.heap.get? b = some o → h'.get? b = some o := fun b o e => hk b o (Heap.lt_size e) e
  exact ⟨.ref s.heap.objs.size, _, I.laid (t' := tk) (o := .set _ (fewer ns).length) kp (Nat.le_refl _) hS, rfl, q _ _ hn⟩
theorem call_lenSet : CallR X (.builtin "len") (fun xs H Q => ∃ a S n, xs = [.ref a] ∧ H a = some (.set S n) ∧ Q (.int (n : Nat)) H) := by
  intro pins s σ H xs us Q I r h
  obtain ⟨a, S, n, rfl, ha, q⟩ := h
  rw [Vals.ref1 r]
  obtain ⟨o, es, ep, t, ho, hex, hd, _, _, hb, hf, hn⟩ := I.hok a _ ha
  refine call_len_set ho hex hd hf (by unfold scanBound at hb; omega) ⟨.int (n : Nat), H, I.tok _, ⟨_, by rw [hn]⟩, q⟩
end
end Rd

set_option Elab.async false
set_option linter.all false
set_option maxRecDepth 100000
/-! dict(..) of a told tuple of pairs; dicts of logs. -/
namespace Rd
open PySem PySem.Spec PyProof.Rows L2
section
variable {X : Cx}
/-- dict(t), t a told tuple of pairs -/
theorem call_dictPT (hcalm : X.calm = true) : CallR X (.type "dict") (fun xs H Q => ∃ (a : Addr) (ps : List Addr) (kvs : List (Key × V)), xs = [.ref a] ∧ PTup H a (ps.map V.ref) ∧ Paired (fun p kv => SqT X.K H p [kV kv.1, kv.2]) ps kvs ∧
    ∀ p, H p = none → Q (.ref p) (upd H p (.dK (mergeK [] kvs)))) := by
  intro pins s σ H xs us Q I r q
  obtain ⟨a, ps, kvs, rfl, ⟨o, ho, hdict⟩, hp, q⟩ := q
  rw [Vals.ref1 r]
  obtain ⟨hob, hz, its, rv, o', ho', hc, n, hdt⟩ := I.hok _ _ ho
  have eo : o' = o := Option.some.inj (ho'.symm.trans hob)
  subst eo
  have ei := refs_at rv
  subst ei
  rw [List.length_map] at hz
  obtain ⟨prs, rel, hl, hpr⟩ := pairs_of I hp
  -- the values of the pairs
  have key : ∀ j (q' : Key × Value), prs[j]? = some q' → ∃ u, PySem.PairAt s.heap (ps.getD j 0) u q'.2 ∧ keyIs q'.1 u = true ∧ ps[j]? = some (ps.getD j 0) := fun j q' e => by
    obtain ⟨b, u, e1, e2, e3⟩ := hpr j q' e
    have eb : ps.getD j 0 = b := by rw [List.getD_eq_getElem?_getD, e1]; rfl
    refine ⟨u, ?_, e3, by rw [eb]; exact e1⟩
    rw [eb]
    obtain ⟨ob, h1, h2, m, h3⟩ := e2
    exact .inl ⟨ob, h1, h2, m, h3⟩
  obtain ⟨us, hus, husk⟩ : ∃ us : List (Value × Value), us.length = prs.length ∧ ∀ (j : Nat) (k v : Value), us[j]? = some (k, v) → ∃ q' : Key × Value, prs[j]? = some q' ∧ v = q'.2 ∧ PySem.PairAt s.heap (ps.getD j 0) k v ∧ keyIs q'.1 k = true ∧ ps[j]? = some (ps.getD j 0) := by
    have : ∀ m, m ≤ prs.length → ∃ us : List (Value × Value), us.length = m ∧ ∀ (j : Nat) (k v : Value), us[j]? = some (k, v) → ∃ q' : Key × Value, prs[j]? = some q' ∧ v = q'.2 ∧ PySem.PairAt s.heap (ps.getD j 0) k v ∧ keyIs q'.1 k = true ∧ ps[j]? = some (ps.getD j 0) := by
      intro m
      induction m with
      | zero => intro _; exact ⟨[], rfl, fun j k v e => by simp at e⟩
      | succ m ih =>
        intro hm
        obtain ⟨us, e1, e2⟩ := ih (Nat.le_of_succ_le hm)
        have hlt : m < prs.length := hm
        obtain ⟨u, a1, a2, a3⟩ := key m prs[m] (List.getElem?_eq_getElem hlt)
        refine ⟨us ++ [(u, prs[m].2)], by rw [List.length_append, e1]; rfl, fun j k v e => ?_⟩
        rcases Nat.lt_trichotomy j m with c | c | c
        · rw [List.getElem?_append_left (by rw [e1]; exact c)] at e
          exact e2 j k v e
        · subst c
          rw [List.getElem?_append_right (by rw [e1]; exact Nat.le_refl _), e1, Nat.sub_self] at e
          have e' := Option.some.inj e
          injection e' with e3 e4
          subst e3 e4
          exact ⟨prs[j], List.getElem?_eq_getElem hlt, rfl, a1, a2, a3⟩
        · rw [List.getElem?_eq_none (by rw [List.length_append, e1]; exact c)] at e
          cases e
    exact this prs.length (Nat.le_refl _)
  refine PySem.call_dict_pairs (knd := mixKind X.prog X.w) (kvs := prs) (PySem.PairArg.tuple a (ps.map Value.ref).toArray (fun j => ps.getD j 0) us) (I.ok.hd hcalm) ⟨⟨_, n, hob, hc, hdict, hdt⟩, by rw [List.size_toArray, List.length_map, hus, hl], fun j k v e => ?_⟩ ⟨hus.symm, fun i k v e => ?_⟩ (by rw [hus, hl]; exact hz) fun h' tk hd' k => ?_
  · obtain ⟨q', e1, e2, e3, e4, e5⟩ := husk j k v e
    refine ⟨?_, e3⟩
    show (List.map Value.ref ps).toArray[j]? = some (Value.ref (ps.getD j 0))
    rw [List.getElem?_toArray, List.getElem?_map, e5]
    rfl
  · obtain ⟨q', e1, e2, e3, e4, e5⟩ := husk i k v e
    exact ⟨q'.1, by rw [e1, e2], e4⟩
  · have kp : ∀ b o, s.heap.get? b = some o → h'.get? b = some o := fun b o e => k b o (fun z => nomatch z) e
    have hm : (s.heap.objs.size == sysModules) = false := beq_eq_false_iff_ne.mpr (Nat.ne_of_gt I.big)
    have hlen : (mergeK [] kvs).length ≤ sizeLine := by
      have h1 := length_mergeK kvs []
      have h2 : kvs.length = prs.length := rel.length
      rw [List.length_nil, Nat.zero_add] at h1
      omega
    exact ⟨.ref s.heap.objs.size, upd H s.heap.objs.size (.dK (mergeK [] kvs)), I.laid (t' := tk) kp (Nat.le_refl _) (show ObjOk X.prog X.w _ _ _ (.dK (mergeK [] kvs)) from ⟨hlen, hm, merged [] prs, KV.merge rel .nil, hd'⟩), rfl, q _ (I.hok.fresh (Nat.le_refl _))⟩
end

/-! ### logs as dicts -/
def kvL (l : Log) : List (Key × V) := l.map fun p => (Sum.inr p.1, V.int p.2)
theorem kvL_keys (l : Log) : (kvL l).map (·.1) = (l.map (·.1)).map Sum.inr := by
  unfold kvL
  rw [List.map_map, List.map_map]
  rfl
theorem putK_new {κ : Type} [DecidableEq κ] {kvs : List (κ × V)} {k : κ} {v : V} (h : k ∉ kvs.map (·.1)) : putK kvs k v = kvs ++ [(k, v)] := by
  unfold putK
  rw [if_neg]
  intro z
  obtain ⟨p, h1, h2⟩ := List.any_eq_true.mp z
  exact h (List.mem_map.mpr ⟨p, h1, of_decide_eq_true h2⟩)
theorem mergeK_nodup : ∀ (more acc : List (Key × V)), ((acc ++ more).map (·.1)).Nodup → mergeK acc more = acc ++ more
  | [], acc, _ => by rw [List.append_nil]; rfl
  | p :: r, acc, h => by
    have hp : p.1 ∉ acc.map (·.1) := by
      intro z
      rw [List.map_append, List.map_cons] at h
      exact (List.nodup_append.mp h).2.2 _ z _ List.mem_cons_self rfl
    show mergeK (putK acc p.1 p.2) r = _
    rw [putK_new hp]
    have e : (acc ++ [(p.1, p.2)]) ++ r = acc ++ p :: r := by simp
    rw [mergeK_nodup r _ (by rw [e]; exact h), e]
theorem mergeK_kvL {l : Log} (h : (l.map (·.1)).Nodup) : mergeK [] (kvL l) = kvL l := by
  rw [mergeK_nodup _ _ (by
    rw [List.nil_append, kvL_keys]
    exact List.Pairwise.map _ (fun a b hne e => hne (Sum.inr.inj e)) h)]
  rfl
theorem valV_kvL (l : Log) (c : Str) : valV (kvL l) (Sum.inr c) = (l.lookup c).map V.int := by
  induction l with
  | nil => rfl
  | cons p r ih =>
    obtain ⟨d, n⟩ := p
    show valV ((Sum.inr d, V.int n) :: kvL r) (Sum.inr c) = _
    by_cases e : d = c
    · subst e
      rw [valV_pos rfl, List.lookup_cons, beq_self_eq_true]
      rfl
    · rw [valV_neg (fun q => e (Sum.inr.inj q)), ih, List.lookup_cons]
      have : (c == d) = false := beq_eq_false_iff_ne.mpr (Ne.symm e)
      rw [this]
end Rd

set_option Elab.async false
set_option linter.all false
set_option maxRecDepth 100000
/-! Set tables up to 512 slots: every search ends at a free slot, every new laying finds room. -/
namespace Rd
open PySem PySem.Spec PyProof.Rows L2
def MaskQ (m : Nat) : Prop := MaskOk m ∨ m = 511
theorem MaskQ.odd {m : Nat} (h : MaskQ m) : m % 2 = 1 := by
  rcases h with h | h
  · exact mask_odd h
  · rw [h]
def back511 : List Nat := [0, 1, 326, 495, 412, 365, 2, 379, 376, 281, 254, 327, 404, 261, 58, 339, 496, 305, 438, 415, 140, 413, 370, 43, 360, 73, 366, 247, 132, 309, 426, 3, 480, 97, 38, 335, 380, 461, 226, 219, 344, 377, 478, 167, 372, 357, 282, 179, 464, 401, 150, 255, 108, 509, 82, 395, 328, 169, 78, 87, 100, 405, 138, 355, 448, 193, 262, 175, 348, 45, 450, 59, 312, 473, 190, 7, 340, 453, 506, 19, 432, 497, 374, 95, 76, 93, 306, 235, 296, 265, 302, 439, 68, 501, 362, 195, 416, 289, 486, 15, 316, 141, 162, 411, 280, 57, 414, 359, 308, 37, 218, 371, 400, 81, 86, 447, 44, 189, 18, 75, 264, 361, 14, 279, 36, 85, 74, 35, 384, 385, 198, 367, 284, 237, 386, 251, 248, 153, 126, 199, 276, 133, 442, 211, 368, 177, 310, 287, 12, 285, 242, 427, 232, 457, 238, 119, 4, 181, 298, 387, 352, 481, 422, 207, 252, 333, 98, 91, 216, 249, 350, 39, 244, 229, 154, 51, 336, 273, 22, 127, 492, 381, 466, 267, 200, 41, 462, 471, 484, 277, 10, 227, 320, 65, 134, 47, 220, 429, 322, 443, 184, 345, 62, 391, 212, 325, 378, 403, 304, 369, 246, 479, 460, 477, 178, 107, 168, 137, 174, 311, 452, 373, 234, 67, 288, 161, 358, 399, 188, 13, 34, 283, 152, 441, 286, 231, 180, 421, 90, 243, 272, 465, 470, 319, 428, 61, 402, 459, 136, 233, 398, 151, 420, 469, 458, 419, 256, 257, 70, 239, 156, 109, 258, 123, 120, 25, 510, 71, 148, 5, 314, 83, 240, 49, 182, 159, 396, 157, 114, 299, 104, 329, 110, 503, 388, 53, 170, 259, 224, 353, 294, 79, 124, 205, 482, 475, 88, 121, 222, 423, 116, 101, 26, 435, 208, 145, 406, 511, 364, 253, 338, 139, 72, 425, 334, 343, 356, 149, 394, 99, 192, 449, 6, 431, 92, 301, 194, 315, 56, 217, 446, 263, 84, 197, 250, 275, 176, 241, 118, 351, 332, 349, 50, 491, 40, 9, 46, 183, 324, 245, 106, 451, 160, 33, 230, 271, 60, 397, 418, 155, 24, 313, 158, 103, 52, 293, 474, 115, 144, 337, 342, 191, 300, 445, 274, 331, 8, 105, 270, 23, 292, 341, 330, 291, 128, 129, 454, 111, 28, 493, 130, 507, 504, 409, 382, 455, 20, 389, 186, 467, 112, 433, 54, 31, 268, 29, 498, 171, 488, 201, 494, 375, 260, 437, 42, 131, 96, 225, 166, 463, 508, 77, 354, 347, 472, 505, 94, 295, 500, 485, 410, 307, 80, 17, 278, 383, 236, 125, 210, 11, 456, 297, 206, 215, 228, 21, 266, 483, 64, 321, 390, 303, 476, 173, 66, 187, 440, 89, 318, 135, 468, 69, 122, 147, 48, 113, 502, 223, 204, 221, 434, 363, 424, 393, 430, 55, 196, 117, 490, 323, 32, 417, 102, 143, 444, 269, 290, 27, 408, 185, 30, 487, 436, 165, 346, 499, 16, 209, 214, 63, 172, 317, 146, 203, 392, 489, 142, 407, 164, 213, 202, 163]
theorem back511_ok : ((List.range 512).all fun j => decide (back511.getD j 0 ≤ 511) && (lcgN 511 (back511.getD j 0) == j)) = true := by decide +kernel
theorem whole511 : lcgN 511 512 = 0 := by decide +kernel
theorem again511 : ∀ k, lcgN 511 (512 + k) = lcgN 511 k
  | 0 => whole511
  | k + 1 => by
    have ih := again511 k
    show (lcgN 511 (512 + k) * 5 + 1) % 512 = (lcgN 511 k * 5 + 1) % 512
    rw [ih]
theorem spot511 {j : Nat} (hj : j ≤ 511) : ∃ b, b ≤ 511 ∧ lcgN 511 b = j := by
  have h := List.all_eq_true.mp back511_ok j (List.mem_range.mpr (by omega))
  rw [Bool.and_eq_true] at h
  exact ⟨_, of_decide_eq_true h.1, beq_iff_eq.mp h.2⟩
theorem round511 {i j : Nat} (hi : i ≤ 511) (hj : j ≤ 511) : ∃ k, k ≤ 511 ∧ lcgI 511 i k = j := by
  obtain ⟨a, ha, ea⟩ := spot511 hi
  obtain ⟨b, hb, eb⟩ := spot511 hj
  subst ea
  by_cases c : a ≤ b
  · refine ⟨b - a, by omega, ?_⟩
    rw [lcgN_add, show a + (b - a) = b by omega, eb]
  · refine ⟨b + 512 - a, by omega, ?_⟩
    rw [lcgN_add, show a + (b + 512 - a) = 512 + b by omega, again511, eb]
theorem run_at {m : Nat} (hm : MaskQ m) (h : Int) {j : Nat} (hj : j ≤ m) : ∃ n, n ≤ m + 12 ∧ runI m (SetTable.bits h) n = j := by
  rcases hm with hm | rfl
  · exact run_meets hm h hj
  · obtain ⟨k, hk, e⟩ := round511 (runI_le 511 (SetTable.bits h) 12) hj
    refine ⟨12 + k, by omega, ?_⟩
    rw [runI_tail (bits_lt h), e]
theorem way_at {m : Nat} (hm : MaskQ m) (h : Int) {j : Nat} (hj : j ≤ m) : ∃ k, k < 10 * SetTable.turns m ∧ way m h k = j := by
  obtain ⟨n, hn, e⟩ := run_at hm h hj
  obtain ⟨k, hk, e2⟩ := run_nth m (SetTable.bits h) n
  refine ⟨k, ?_, ?_⟩
  · unfold SetTable.turns
    omega
  · show (nth m (runAt m (SetTable.bits h % (m + 1)) (SetTable.bits h)) k).j = j
    rw [e2, ← e]
    rfl
theorem way_in (m : Nat) (h : Int) (k : Nat) : way m h k ≤ m := by
  have hi : SetTable.bits h % (m + 1) ≤ m := Nat.le_of_lt_succ (Nat.mod_lt _ (Nat.succ_pos _))
  have r := runEnd_bd hi
  have q := nth_in (m := m) k (runAt m (SetTable.bits h % (m + 1)) (SetTable.bits h)) (show SetTable.bits h % (m + 1) + (SetTable.runEnd m (SetTable.bits h % (m + 1)) - SetTable.bits h % (m + 1)) ≤ m by omega)
  exact Nat.le_trans (Nat.le_add_right _ _) q
/-- a table with room: some slot on each way is free -/
structure Roomy (t : SetTable) (n : Nat) : Prop where
  ris : Ris t.place.toList
  dm : t.dummies = #[]
  sz : t.place.size = n
  mok : MaskQ t.mask
  bd : ∀ x ∈ t.place.toList, x ≤ t.mask
theorem Roomy.first {t : SetTable} {n : Nat} (T : Roomy t n) (hn : n ≤ t.mask) (h : Int) : ∃ K, K < 10 * SetTable.turns t.mask ∧ way t.mask h K ∉ t.place.toList ∧ ∀ k, k < K → way t.mask h k ∈ t.place.toList := by
  obtain ⟨j, hj, hno⟩ := st_missing t.place.toList (t.mask + 1) (by rw [Array.length_toList, T.sz]; omega)
  obtain ⟨k, hk, e⟩ := way_at T.mok h (Nat.le_of_lt_succ hj)
  obtain ⟨K, h1, h2, h3⟩ := st_least (p := fun k => way t.mask h k ∉ t.place.toList) k (by rw [e]; exact hno)
  exact ⟨K, Nat.lt_of_le_of_lt h1 hk, h2, fun k' hk' => Classical.not_not.mp (h3 k' hk')⟩
theorem Roomy.put {t : SetTable} {n : Nat} (T : Roomy t n) {j : Nat} (hj : j ∉ t.place.toList) (hm : j ≤ t.mask) :
    Roomy (t.put j).1 (n + 1) ∧ (t.put j).1.fill = n + 1 ∧ SetTable.below t.place j ≤ n := by
  obtain ⟨c1, _, _⟩ := below_cut T.ris j
  have hl : SetTable.below t.place j ≤ t.place.toList.length := by rw [Array.length_toList]; exact c1
  have hnp : t.place[SetTable.below t.place j]? ≠ some j := fun e => hj (List.mem_of_getElem? (by rw [Array.getElem?_toList]; exact e))
  have hsz : (t.put j).1.place.size = n + 1 := by
    rw [← Array.length_toList, put_place, len_ins _ hl, Array.length_toList, T.sz]
  have hd := put_dm T.dm j
  refine ⟨⟨ris_insert T.ris hnp, hd, hsz, T.mok, fun x hx => ?_⟩, ?_, by rw [← T.sz]; exact c1⟩
  · rw [put_place] at hx
    rcases mem_ins.1 hx with z | z
    · rw [z]; exact hm
    · exact T.bd x z
  · unfold SetTable.fill
    rw [hsz, hd]
    rfl
/-- who sits where, in a laying anew -/
structure Seats (m n : Nat) (owner : Array (Option Nat)) : Prop where
  sz : owner.size = m + 1
  few : ∃ ps : List Nat, ps.length = n ∧ ∀ j, j ≤ m → oAt owner j ≠ none → j ∈ ps
  all : ∀ k, k < n → ∃ j, j ≤ m ∧ oAt owner j = some k
  lt : ∀ j k, j ≤ m → oAt owner j = some k → k < n
theorem Seats.step {m n : Nat} {owner : Array (Option Nat)} (W : Seats m n owner) (hm : MaskQ m) (hn : n ≤ m) (h : Int) :
    ∃ j, SetTable.layClean.free m owner (SetTable.turns m) (SetTable.bits h % (m + 1)) (SetTable.bits h) = some j ∧ Seats m (n + 1) (owner.setIfInBounds j (some n)) := by
  obtain ⟨ps, p1, p2⟩ := W.few
  obtain ⟨j0, hj0, hno⟩ := st_missing ps (m + 1) (by omega)
  have f0 : oAt owner j0 = none := Classical.not_not.mp fun z => hno (p2 j0 (Nat.le_of_lt_succ hj0) z)
  obtain ⟨r, hr, e⟩ := run_at hm h (Nat.le_of_lt_succ hj0)
  have w0 : way m h (off m (SetTable.bits h % (m + 1)) (SetTable.bits h) r) = j0 := by
    show (nth m (runAt m (SetTable.bits h % (m + 1)) (SetTable.bits h)) (off m (SetTable.bits h % (m + 1)) (SetTable.bits h) r)).j = j0
    rw [nth_off, itL_run]
    exact e
  obtain ⟨K, k1, k2, k3⟩ := st_least (p := fun k => oAt owner (way m h k) = none) _ (by rw [w0]; exact f0)
  have isF : ∀ k, k < K → (oAt owner (way m h k)).isNone = false := fun k hk => by
    cases z : oAt owner (way m h k) with
    | none => exact absurd z (k3 k hk)
    | some _ => rfl
  refine ⟨way m h K, free_spec m owner (SetTable.turns m) r _ _ K (by unfold SetTable.turns; omega) k1 isF (by rw [show oAt owner (nth m (runAt m (SetTable.bits h % (m + 1)) (SetTable.bits h)) K).j = none from k2]; rfl), ?_⟩
  have hj := way_in m h K
  generalize way m h K = j at k2 hj
  refine ⟨by rw [Array.size_setIfInBounds]; exact W.sz, ⟨j :: ps, by rw [List.length_cons, p1], fun i hi z => ?_⟩, fun k hk => ?_, fun i k hi z => ?_⟩
  · by_cases c : i = j
    · rw [c]; exact List.mem_cons_self
    · rw [oAt_set_ne _ c] at z
      exact List.mem_cons_of_mem _ (p2 i hi z)
  · by_cases c : k = n
    · exact ⟨j, hj, by rw [oAt_set_self _ (by rw [W.sz]; omega), c]⟩
    · obtain ⟨i, hi, ei⟩ := W.all k (by omega)
      refine ⟨i, hi, ?_⟩
      rw [oAt_set_ne _ (fun z => by rw [z, k2] at ei; cases ei)]
      exact ei
  · by_cases c : i = j
    · rw [c, oAt_set_self _ (by rw [W.sz]; omega)] at z
      have := Option.some.inj z
      omega
    · rw [oAt_set_ne _ c] at z
      have := W.lt i k hi z
      omega
theorem Seats.zero (m : Nat) : Seats m 0 (Array.replicate (m + 1) none) where
  sz := Array.size_replicate
  few := ⟨[], rfl, fun j hj z => absurd (oAt_init hj) z⟩
  all := fun k hk => absurd hk (Nat.not_lt_zero k)
  lt := fun j k hj z => by
    rw [oAt_init hj] at z
    cases z
theorem seats_fold {m : Nat} (hm : MaskQ m) : ∀ (rest : List Int) (n : Nat) (owner : Array (Option Nat)), Seats m n owner → n + rest.length ≤ m →
    ∃ owner', rest.foldl (stepF m) (some (owner, n)) = some (owner', n + rest.length) ∧ Seats m (n + rest.length) owner'
  | [], n, owner, W, _ => ⟨owner, rfl, W⟩
  | h :: rest, n, owner, W, hl => by
    rw [List.length_cons] at hl
    obtain ⟨j, e, W'⟩ := W.step hm (by omega) h
    obtain ⟨o', f, W2⟩ := seats_fold hm rest (n + 1) _ W' (by omega)
    have el : n + 1 + rest.length = n + (rest.length + 1) := by omega
    rw [el] at f W2
    refine ⟨o', ?_, W2⟩
    rw [List.foldl_cons, stepF_some e]
    exact f
theorem relaid_q (t : SetTable) {hs : Array Int} {wanted M : Nat} (hw : SetTable.sizeAbove wanted - 1 = M) (hM : MaskQ M) (hn : hs.size ≤ M) :
    ∃ t' order, t.relaid hs wanted = some (t', order) ∧ order.size = hs.size ∧ (∀ i ∈ order.toList, i < hs.size) ∧ Roomy t' hs.size ∧ t'.mask = M ∧ t'.led = t.led := by
  obtain ⟨owner, f, W⟩ := seats_fold hM hs.toList 0 _ (Seats.zero M) (by rw [Array.length_toList]; omega)
  rw [Array.length_toList, Nat.zero_add] at f W
  have e : SetTable.layClean M hs = some owner := by
    rw [layClean_eq, f]
    rfl
  have hr : t.relaid hs wanted = some (tabOf t M owner, ((liveOf M owner).map (·.2)).toArray) := by
    rw [relaid_eq, hw, e]
    rfl
  have ris := ris_live (fun j => owner.getD j none) (List.range (M + 1)) (show Ris (List.range (M + 1)) from List.pairwise_lt_range)
  have r1 : Ris ((liveOf M owner).map (·.1)) := ris.1
  have r2 : ∀ x ∈ (liveOf M owner).map (·.1), x ∈ List.range (M + 1) := ris.2
  have hlen : (liveOf M owner).length = hs.size := by
    obtain ⟨ps, p1, p2⟩ := W.few
    have nd : ((liveOf M owner).map (·.1)).Nodup := List.Pairwise.imp (fun h => Nat.ne_of_lt h) r1
    have a := nat_nodup_len ((liveOf M owner).map (·.1)) ps nd fun x hx => by
      obtain ⟨⟨y, k⟩, hq, ey⟩ := List.mem_map.mp hx
      obtain ⟨b1, b2⟩ := (mem_live W.sz).1 hq
      have ey' : y = x := ey
      subst ey'
      exact p2 y b1 (by rw [b2]; exact fun z => nomatch z)
    have b := nat_nodup_len (List.range hs.size) ((liveOf M owner).map (·.2)) List.nodup_range fun k hk => by
      obtain ⟨j, b1, b2⟩ := W.all k (List.mem_range.mp hk)
      exact List.mem_map.mpr ⟨(j, k), (mem_live W.sz).2 ⟨b1, b2⟩, rfl⟩
    rw [List.length_map] at a b
    rw [List.length_range] at b
    omega
  refine ⟨_, _, hr, by rw [List.size_toArray, List.length_map, hlen], fun i hi => ?_, ⟨r1, rfl, ?_, hM, fun x hx => Nat.le_of_lt_succ (List.mem_range.mp (r2 x hx))⟩, rfl, rfl⟩
  · obtain ⟨⟨j, k⟩, hq, ek⟩ := List.mem_map.mp (show i ∈ (liveOf M owner).map (·.2) from hi)
    obtain ⟨b1, b2⟩ := (mem_live W.sz).1 hq
    have ek' : k = i := ek
    subst ek'
    exact W.lt j k b1 b2
  · show ((liveOf M owner).map (·.1)).toArray.size = hs.size
    rw [List.size_toArray, List.length_map, hlen]
theorem size_308 : SetTable.sizeAbove (SetTable.grown 77) = 512 := by decide +kernel
end Rd

set_option Elab.async false
set_option linter.all false
set_option maxRecDepth 100000
/-! A set of nested tuples: searching, adding. -/
namespace Rd
open PySem PySem.Spec PyProof.Rows L2
section
variable {P : Program} {w : World}
/-! ### small questions about a nested tuple -/
/-- no class statement is met, n levels down -/
def NoClassAt (P : Program) (w : World) (n : Nat) (s : Shared) (v : Value) : Prop := ∀ (A : Around) (E : Value → Shared → Prop) (Q : Bool → Shared → Prop), Q false s → wpAny (model P w) A (ofAClassStatement n v) Q E s
/-- whether its hash goes by value is answered -/
def ByValAt (P : Program) (w : World) (n : Nat) (s : Shared) (v : Value) : Prop := ∀ (A : Around) (E : Value → Shared → Prop) (Q : Bool → Shared → Prop), (∀ b, Q b s) → wpAny (model P w) A (hashByValue n v) Q E s
theorem noClass_tup {n : Nat} {s : Shared} {a : Addr} {o : Obj} {vs : Array Value} {m : Nat} (ho : s.heap.get? a = some o) (hc : o.cls = .type "tuple") (hd : o.data = .seq vs m) (hq : ∀ v ∈ vs.toList, NoClassAt P w n s v) : NoClassAt P w (n + 1) s (.ref a) := fun A E Q h => by
  have hT : s.TypeIs (.ref a) "tuple" := ⟨o, ho, hc⟩
  unfold ofAClassStatement
  refine wpAny_bind (wpAny_typeOf hT ?_)
  dsimp only
  have e : (("tuple" : String) == "tuple") = true := by decide
  simp only [e, if_true, Bool.not_true, Bool.false_eq_true, if_false]
  try refine wpAny_bind (wpAny_pure ?_)
  try simp only [Bool.not_true, Bool.false_eq_true, if_false]
  show wpAny _ _ (seqItems? (.ref a) >>= _) _ _ s
  refine wpAny_bind (wpAny_seqItems ho hd ?_)
  dsimp only
  refine wpAny_bind ?_
  show wpAny _ _ (forIn vs _ _) _ _ s
  rw [← Array.forIn_toList]
  refine wpAny_forIn_list _ (fun rest r s' => r.1 = none ∧ s' = s ∧ ∀ v ∈ rest, NoClassAt P w n s v) _ ?_ ?_ _ _ ⟨rfl, rfl, hq⟩
  · rintro v rest r s' ⟨hr, rfl, hall⟩
    refine wpAny_bind (hall v List.mem_cons_self _ _ _ ?_)
    simp only [Bool.false_eq_true, if_false]
    exact wpAny_pure ⟨rfl, rfl, fun u hu => hall u (List.mem_cons_of_mem _ hu)⟩
  · rintro ⟨r1, r2⟩ s' ⟨hr, rfl, _⟩
    simp only at hr
    subst hr
    exact wpAny_pure h
theorem noClass_val {n : Nat} {s : Shared} {v : Value} (h : ∀ n, ofAClassStatement n v = pure false) : NoClassAt P w n s v := fun A E Q q => by
  rw [h]
  exact wpAny_pure q
mutual
theorem noClass_key : ∀ (k : NestedKey) (v : Value) (n : Nat) (s : Shared), NestedIs s.heap k v → k.depth ≤ n → NoClassAt P w n s v
  | .none, _, n, s, x, _ => by cases x; exact noClass_val fun n => by cases n <;> rfl
  | .num i, _, n, s, x, _ => by cases x <;> exact noClass_val fun n => by cases n <;> rfl
  | .text y, _, n, s, x, _ => by cases x; exact noClass_val fun n => by cases n <;> rfl
  | .tup ks, _, n, s, x, hn => by
    cases x with
    | tup hg hc hd hk =>
      simp only [NestedKey.depth] at hn
      cases n with
      | zero => omega
      | succ n => exact noClass_tup hg hc hd (noClass_keys ks _ n s hk (by omega))
theorem noClass_keys : ∀ (ks : List NestedKey) (vs : List Value) (n : Nat) (s : Shared), NestedAll s.heap ks vs → NestedKey.depthAll ks ≤ n → ∀ v ∈ vs, NoClassAt P w n s v
  | [], _, n, s, x, _, v, hv => by cases x; cases hv
  | k :: ks, _, n, s, x, hn, v, hv => by
    cases x with
    | cons x1 x2 =>
      simp only [NestedKey.depthAll] at hn
      rcases List.mem_cons.mp hv with e | hv
      · rw [e]; exact noClass_key k _ n s x1 (by omega)
      · exact noClass_keys ks _ n s x2 (by omega) v hv
end
theorem byVal_val {n : Nat} {s : Shared} {v : Value} {b : Bool} (h : ∀ n, hashByValue n v = pure b) : ByValAt P w n s v := fun A E Q q => by
  rw [h]
  exact wpAny_pure (q b)
theorem byVal_tup {n : Nat} {s : Shared} {a : Addr} {o : Obj} {vs : Array Value} {m : Nat} (ho : s.heap.get? a = some o) (hc : o.cls = .type "tuple") (hd : o.data = .seq vs m) (hq : ∀ v ∈ vs.toList, ByValAt P w n s v) : ByValAt P w (n + 1) s (.ref a) := fun A E Q h => by
  have hT : s.TypeIs (.ref a) "tuple" := ⟨o, ho, hc⟩
  unfold hashByValue
  refine wpAny_bind (wpAny_specialOf hT F.slot_tuple_hash.lookup ?_)
  show wpAny _ _ (seqItems? (.ref a) >>= _) _ _ s
  refine wpAny_bind (wpAny_seqItems ho hd ?_)
  refine wpAny_bind ?_
  show wpAny _ _ (forIn vs _ _) _ _ s
  rw [← Array.forIn_toList]
  refine wpAny_forIn_list _ (fun rest r s' => (r.1 = none ∨ r.1 = some false) ∧ s' = s ∧ ∀ v ∈ rest, ByValAt P w n s v) _ ?_ ?_ _ _ ⟨.inl rfl, rfl, hq⟩
  · rintro v rest r s' ⟨hr, rfl, hall⟩
    refine wpAny_bind (hall v List.mem_cons_self _ _ _ fun b => ?_)
    cases b with
    | true =>
      simp only [Bool.not_true, Bool.false_eq_true, if_false]
      exact wpAny_pure ⟨.inl rfl, rfl, fun u hu => hall u (List.mem_cons_of_mem _ hu)⟩
    | false =>
      simp only [Bool.not_false, if_true]
      exact wpAny_pure (wpAny_pure (h _))
  · rintro r s' ⟨hr, rfl, _⟩
    obtain ⟨r1, r2⟩ := r
    simp only at hr
    rcases hr with hr | hr
    · subst hr
      exact wpAny_pure (h _)
    · subst hr
      exact wpAny_pure (h _)
mutual
theorem byVal_key : ∀ (k : NestedKey) (v : Value) (n : Nat) (s : Shared), NestedIs s.heap k v → k.depth ≤ n → ByValAt P w n s v
  | .none, _, n, s, x, _ => by cases x; exact byVal_val (b := true) fun n => by cases n <;> rfl
  | .num i, _, n, s, x, _ => by cases x <;> exact byVal_val (b := true) fun n => by cases n <;> rfl
  | .text y, _, n, s, x, _ => by cases x; exact byVal_val (b := false) fun n => by cases n <;> rfl
  | .tup ks, _, n, s, x, hn => by
    cases x with
    | tup hg hc hd hk =>
      simp only [NestedKey.depth] at hn
      cases n with
      | zero => omega
      | succ n => exact byVal_tup hg hc hd (byVal_keys ks _ n s hk (by omega))
theorem byVal_keys : ∀ (ks : List NestedKey) (vs : List Value) (n : Nat) (s : Shared), NestedAll s.heap ks vs → NestedKey.depthAll ks ≤ n → ∀ v ∈ vs, ByValAt P w n s v
  | [], _, n, s, x, _, v, hv => by cases x; cases hv
  | k :: ks, _, n, s, x, hn, v, hv => by
    cases x with
    | cons x1 x2 =>
      simp only [NestedKey.depthAll] at hn
      rcases List.mem_cons.mp hv with e | hv
      · rw [e]; exact byVal_key k _ n s x1 (by omega)
      · exact byVal_keys ks _ n s x2 (by omega) v hv
end
end
end Rd

set_option Elab.async false
set_option linter.all false
set_option maxRecDepth 100000
/-! A set of nested tuples: the search, adding one. -/
namespace Rd
open PySem PySem.Spec PyProof.Rows L2
/-- the tuple at b is a nested key, two levels deep at most -/
def Nk (h : Heap) (b : Addr) : Prop := ∃ k : NestedKey, NestedIs h k (.ref b) ∧ k.depth ≤ 2
theorem Nk.at {h h' : Heap} {b : Addr} (x : Nk h b) (e : ∀ a o vs n, h.get? a = some o → o.data = .seq vs n → h'.get? a = some o) : Nk h' b := by
  obtain ⟨k, i, d⟩ := x
  exact ⟨k, NestedIs.at e k _ i, d⟩
theorem Nk.keep {h h' : Heap} {b : Addr} (x : Nk h b) (e : ∀ a o, h.get? a = some o → h'.get? a = some o) : Nk h' b := x.at fun a o _ _ q _ => e a o q
/-- the set at a, its members the tuples at L (some order) -/
structure SetQ (w : World) (h : Heap) (a : Addr) (L : List Addr) (es : Array (Int × Value)) (ep : Nat) (t : SetTable) : Prop where
  ob : ∃ o, h.get? a = some o ∧ o.ExactSet ∧ o.data = .set es ep t
  rows : es.toList.map (·.2) = L.map Value.ref
  tab : Roomy t L.length
  led : w.params.followText "set-order" = true ∨ t.led = true
  room : L.length * 5 < t.mask * 3
  few : L.length ≤ 300
section
variable {P : Program} {w : World} {A : Around} {E : Value → Shared → Prop} {s : Shared} {a : Addr} {L : List Addr} {es : Array (Int × Value)} {ep : Nat} {t : SetTable}
theorem rows_size (h : es.toList.map (·.2) = L.map Value.ref) : es.size = L.length := by
  have q := congrArg List.length h
  rw [List.length_map, List.length_map, Array.length_toList] at q
  exact q
theorem rows_at (h : es.toList.map (·.2) = L.map Value.ref) {i : Nat} (hi : i < L.length) : ∃ e : Int × Value, es[i]? = some e ∧ e.2 = .ref L[i] := by
  have hz : i < es.size := by rw [rows_size h]; exact hi
  refine ⟨es[i], Array.getElem?_eq_getElem hz, ?_⟩
  have q : (es.toList.map (·.2))[i]? = (L.map Value.ref)[i]? := by rw [h]
  rw [List.getElem?_map, List.getElem?_map, List.getElem?_eq_getElem hi, Array.getElem?_toList, Array.getElem?_eq_getElem hz] at q
  exact Option.some.inj q
theorem fits_of {n : Nat} (T : Roomy t n) (hm : n ≤ t.mask) (he : es.size = n) : t.fits es.size = true := by
  unfold SetTable.fits SetTable.fill
  rw [T.dm, T.sz, he, Bool.and_eq_true, beq_iff_eq, decide_eq_true_eq]
  exact ⟨rfl, hm⟩
theorem SetQ.le (R : SetQ w s.heap a L es ep t) : L.length ≤ t.mask := by have := R.room; omega
theorem SetQ.fits (R : SetQ w s.heap a L es ep t) : t.fits es.size = true := fits_of R.tab R.le (rows_size R.rows)
theorem whole_way (T : Roomy t L.length) : ¬ t.gaveWay = true := by
  unfold SetTable.gaveWay
  rw [T.mok.odd]
  decide
/-- a search among nested tuples shows nothing -/
theorem unseen {b : Addr} {Q : Bool → Shared → Prop} (hb : Nk s.heap b) {ys : List Value} (hy : ∀ y ∈ ys, ∃ c, y = Value.ref c ∧ Nk s.heap c) (h : Q false s) : wpAny (model P w) A (searchCouldBeSeen (.ref b) ys) Q E s := by
  obtain ⟨kb, ib, db⟩ := hb
  unfold searchCouldBeSeen
  refine wpAny_bind ?_
  refine wpAny_forIn_list _ (fun rest r s' => r.1 = none ∧ s' = s ∧ ∀ y ∈ rest, ∃ c, y = Value.ref c ∧ Nk s.heap c) _ ?_ ?_ _ _ ⟨rfl, rfl, hy⟩
  · rintro v rest r s' ⟨hr, e, hall⟩
    subst e
    obtain ⟨c, rfl, kc, ic, dc⟩ := hall v List.mem_cons_self
    have more : ∀ y ∈ rest, ∃ c, y = Value.ref c ∧ Nk s'.heap c := fun u hu => hall u (List.mem_cons_of_mem _ hu)
    dsimp only
    by_cases hv : (b == c || (carriedByValue (.ref b) && carriedByValue (.ref c))) = true
    · exact wp_if_pos hv (wpAny_pure ⟨rfl, rfl, more⟩)
    · refine wp_if_neg hv (wpAny_bind (quiet_key kb _ 8 s' ib (by omega) _ _ _ ?_))
      simp only [Bool.not_true, Bool.false_eq_true, if_false]
      refine wpAny_bind (quiet_key kc _ 8 s' ic (by omega) _ _ _ ?_)
      simp only [Bool.not_true, Bool.false_eq_true, if_false]
      refine wpAny_bind (noClass_key kb _ 8 s' ib (by omega) _ _ _ ?_)
      simp only [Bool.false_eq_true, if_false]
      refine wpAny_bind (noClass_key kc _ 8 s' ic (by omega) _ _ _ ?_)
      simp only [Bool.false_eq_true, if_false]
      exact wpAny_pure ⟨rfl, rfl, more⟩
  · rintro ⟨r1, r2⟩ s' ⟨hr, rfl, _⟩
    simp only at hr
    subst hr
    exact wpAny_pure h
/-- the state of a search on its way -/
abbrev pr (m : Nat) (h : Int) (c : Nat) : SetTable.Probe := nth m (runAt m (SetTable.bits h % (m + 1)) (SetTable.bits h)) c
theorem pr_dummy (m : Nat) : ∀ (n : Nat) (p : SetTable.Probe), p.dummy = none → (nth m p n).dummy = none
  | 0, _, h => h
  | n + 1, p, h => pr_dummy m n (adv m p) (by unfold adv; split <;> exact h)
theorem search_way (R : SetQ w s.heap a L es ep t) (hL : ∀ b ∈ L, Nk s.heap b) {x : Addr} (hx : Nk s.heap x) (h : Int) (hu : A.units + 8 < cLine) {K : Nat} (hKf : K < 10 * SetTable.turns t.mask)
    (hK : way t.mask h K ∉ t.place.toList) (hKb : ∀ c, c < K → way t.mask h c ∈ t.place.toList) {Q : SetFound → Shared → Prop}
    (hin : 0 < L.length → Q (.there none) s) (hout : Q (.free (way t.mask h K) false) s) :
    ∀ (f c : Nat) (stand : Option SetTable.Probe), stand.getD (t.probeStart h) = pr t.mask h c → c ≤ K → K - c < f →
      wpAny (model P w) A (setSearchFrom a (.ref x) h true f stand) Q E s
  | 0, c, stand, _, _, hf => absurd hf (Nat.not_lt_zero _)
  | f + 1, c, stand, hst, hc, hf => by
    obtain ⟨o, ho, hex, hd⟩ := R.ob
    have hsz := rows_size R.rows
    rw [setSearchFrom_succ]
    refine wpAny_bind (wpAny_setState_of ho hd R.fits ?_)
    dsimp only
    refine wp_if_neg (whole_way R.tab) ?_
    try refine wpAny_bind (wpAny_pure ?_)
    have shift : ∀ q, nth t.mask (pr t.mask h c) q = pr t.mask h (c + q) := fun q => (nth_add t.mask c _ q).symm
    have spec := go_spec t R.tab.ris R.tab.dm (fun i => (es[i]?.map (·.1)).getD 0) h (10 * SetTable.turns t.mask) (K - c) (pr t.mask h c) (pr_dummy t.mask c _ rfl) (by omega)
      (fun q hq => by rw [shift]; exact hKb (c + q) (by omega)) (by rw [shift, show c + (K - c) = K by omega]; exact hK)
    rcases spec with ⟨q, i, hq, hi, hh, _, hpr⟩ | ⟨_, hpr⟩
    · have hpr' : t.probe (fun i => (es[i]?.map (·.1)).getD 0) h (stand.getD (t.probeStart h)) = some (.candidate (way t.mask h (c + q)) i (pr t.mask h (c + (q + 1)))) := by
        rw [hst, ← shift, ← show (nth t.mask (pr t.mask h c) q).j = way t.mask h (c + q) from congrArg SetTable.Probe.j (shift q)]
        exact hpr
      rw [hpr']
      dsimp only
      have hi' : t.place.toList[i]? = some (way t.mask h (c + q)) := by
        rw [← show (nth t.mask (pr t.mask h c) q).j = way t.mask h (c + q) from congrArg SetTable.Probe.j (shift q)]
        exact hi
      have hil : i < L.length := by
        have h1 := (List.getElem?_eq_some_iff.mp hi').1
        rw [Array.length_toList, R.tab.sz] at h1
        exact h1
      obtain ⟨⟨g, y⟩, hey, ey⟩ := rows_at R.rows hil
      have ey' : y = .ref L[i] := ey
      subst ey'
      obtain ⟨ky, iy, dy⟩ := hL L[i] (List.getElem_mem hil)
      obtain ⟨kx, ix, dx⟩ := hx
      have rest : wpAny (model P w) A (searchRest a (.ref x) h true f es t (way t.mask h (c + q)) i (pr t.mask h (c + (q + 1)))) Q E s := by
        unfold searchRest
        rw [hey]
        dsimp only
        refine wpAny_bind (wpAny_holding (eqAt_key ky kx A s _ _ iy ix (by omega) _ _ _ _ ?_))
        refine wpAny_bind (wpAny_setState_of ho hd R.fits ?_)
        dsimp only
        cases hkk : NestedKey.beq ky kx with
        | true =>
          refine wp_if_pos (by simp) ?_
          exact wpAny_pure (hin (Nat.lt_of_le_of_lt (Nat.zero_le _) hil))
        | false =>
          refine wp_if_neg (by simp) ?_
          try refine wpAny_bind (wpAny_pure ?_)
          rw [sameMem]
          dsimp only
          have hsl : t.slot (way t.mask h (c + q)) = .live i := slot_live R.tab.ris hi'
          simp only [if_true, hsl, hey]
          refine wpAny_bind (wpAny_isSame_ref_self (wpAny_bind (wpAny_pure ?_)))
          simp only [if_true]
          refine wp_if_neg (by simp) ?_
          exact search_way R hL ⟨kx, ix, dx⟩ h hu hKf hK hKb hin hout f (c + (q + 1)) _ rfl (by omega) (by omega)
      by_cases hl : t.led = true
      · refine wp_if_neg (by simp [hl]) ?_
        try refine wpAny_bind (wpAny_pure ?_)
        exact rest
      · refine wp_if_pos (by simp [hl]) ?_
        refine wpAny_bind (unseen ⟨kx, ix, dx⟩ (fun y hy => ?_) ?_)
        · obtain ⟨e, he, ee⟩ := List.mem_map.mp hy
          have he1 : e ∈ es ∧ e.1 = h := by simpa using he
          have he2 : e.2 ∈ es.toList.map (·.2) := List.mem_map.mpr ⟨e, by simpa using he1.1, rfl⟩
          rw [R.rows] at he2
          obtain ⟨b, hb, eb⟩ := List.mem_map.mp he2
          exact ⟨b, by rw [← ee, eb], hL b hb⟩
        · refine wp_if_neg (by decide) ?_
          try refine wpAny_bind (wpAny_pure ?_)
          exact rest
    · have hpr' : t.probe (fun i => (es[i]?.map (·.1)).getD 0) h (stand.getD (t.probeStart h)) = some (.empty (way t.mask h K) none) := by
        have e2 : way t.mask h K = (nth t.mask (pr t.mask h c) (K - c)).j := by
          rw [shift, show c + (K - c) = K by omega]
        rw [hst, e2]
        exact hpr
      rw [hpr']
      dsimp only
      exact wpAny_pure hout
theorem search_q (R : SetQ w s.heap a L es ep t) (hL : ∀ b ∈ L, Nk s.heap b) {x : Addr} (hx : Nk s.heap x) (h : Int) (hu : A.units + 8 < cLine) {Q : SetFound → Shared → Prop}
    (hin : 0 < L.length → Q (.there none) s) (hout : ∀ j, j ∉ t.place.toList → j ≤ t.mask → Q (.free j false) s) : wpAny (model P w) A (setSearch a (.ref x) h true) Q E s := by
  obtain ⟨K, hKf, hK, hKb⟩ := R.tab.first R.le h
  have hbig : 10 * SetTable.turns t.mask ≤ 6000 := by
    unfold SetTable.turns
    rcases R.tab.mok with (e | e | e) | e <;> omega
  unfold setSearch
  exact search_way R hL hx h hu hKf hK hKb hin (hout _ hK (way_in _ _ _)) 100000 0 none rfl (Nat.zero_le _) (by omega)
theorem nk_same {h h' : Heap} {b : Addr} {o : Obj} (hb : Nk h b) (ho : h.get? a = some o) (hd : o.data = .set es ep t) (hs : Heap.SameBut a h h') : Nk h' b :=
  hb.at fun c u vs n hc hu => by
    refine (hs.2 c fun e => ?_).trans hc
    subst e
    rw [ho] at hc
    cases hc
    rw [hd] at hu
    cases hu
/-- the table laid anew -/
theorem relay_q {o : Obj} (ho : s.heap.get? a = some o) (hex : o.ExactSet) (hd : o.data = .set es ep t) (rows : es.toList.map (·.2) = L.map Value.ref) (T : Roomy t L.length) (hle : L.length ≤ t.mask)
    (ld : w.params.followText "set-order" = true ∨ t.led = true) (few : L.length ≤ 300) {wanted M : Nat} (hw : SetTable.sizeAbove wanted - 1 = M) (hM : MaskQ M) (hw2 : SetTable.sizeAbove wanted ≤ 512) (hn : L.length * 5 < M * 3) {Q : Unit → Shared → Prop}
    (hQ : ∀ h' L' es' ep' t', Heap.SameBut a s.heap h' → SetQ w h' a L' es' ep' t' → L'.length = L.length → (∀ b ∈ L', b ∈ L) → Q () { s with heap := h' }) : wpAny (model P w) A (setRelay a wanted) Q E s := by
  have hsl := rows_size rows
  have hhs : (es.map (·.1)).size = L.length := by rw [Array.size_map, hsl]
  obtain ⟨t', order, e, hp, hlt, T', em, el⟩ := relaid_q t (hs := es.map (·.1)) hw hM (by rw [hhs]; omega)
  rw [hhs] at hp hlt T'
  -- the entries in their new order
  have pick : ∀ l : List Nat, (∀ i ∈ l, i < L.length) → ∃ L' : List Addr, (l.filterMap fun i => es[i]?).map (·.2) = L'.map Value.ref ∧ L'.length = l.length ∧ ∀ b ∈ L', b ∈ L := by
    intro l
    induction l with
    | nil => exact fun _ => ⟨[], rfl, rfl, fun b hb => by cases hb⟩
    | cons i l ih =>
      intro hl
      have hi := hl i List.mem_cons_self
      obtain ⟨L', e1, e2, e3⟩ := ih fun j hj => hl j (List.mem_cons_of_mem _ hj)
      obtain ⟨en, h1, h2⟩ := rows_at rows hi
      refine ⟨L[i] :: L', ?_, by rw [List.length_cons, List.length_cons, e2], fun b hb => ?_⟩
      · rw [List.filterMap_cons_some h1, List.map_cons, List.map_cons, e1, h2]
      · rcases List.mem_cons.mp hb with z | z
        · rw [z]; exact List.getElem_mem hi
        · exact e3 b z
  obtain ⟨L', r1, r2, r3⟩ := pick order.toList hlt
  have r1' : (order.filterMap (es[·]?)).toList.map (·.2) = L'.map Value.ref := by rw [Array.toList_filterMap]; exact r1
  have hl' : L'.length = L.length := by rw [r2, Array.length_toList, hp]
  have hs2 : (order.filterMap (es[·]?)).size = es.size := by rw [rows_size r1', hl', hsl]
  rw [setRelay_eq]
  refine wpAny_bind (wpAny_setState_of ho hd (fits_of T hle hsl) ?_)
  dsimp only
  refine wp_if_neg (by rw [sizeLine_eq]; omega) ?_
  try refine wpAny_bind (wpAny_pure ?_)
  rw [e]
  dsimp only
  refine wpAny_bind ?_
  refine wp_if_neg (by rw [hs2]; simp) ?_
  try refine wpAny_bind (wpAny_pure ?_)
  refine wpAny_pure ?_
  dsimp only
  refine wpAny_storeSet_of ho hd ?_ (by rw [hs2, hsl, sizeLine_eq]; omega)
  have sb : Heap.SameBut a s.heap (s.heap.update a (Obj.putSet (order.filterMap (es[·]?)) t')) := Heap.SameBut.update ..
  exact hQ _ L' _ (ep + 1) t' sb ⟨⟨_, store_at ho hd, ⟨hex.1, hex.2.1, hex.2.2⟩, rfl⟩, r1', by rw [hl']; exact T', by rw [el]; exact ld, by rw [hl', em]; exact hn, by rw [hl']; exact few⟩ hl' r3
/-- adding one -/
theorem add_q (R : SetQ w s.heap a L es ep t) (hL : ∀ b ∈ L, Nk s.heap b) {x : Addr} (hx : Nk s.heap x) (h : Int) (hu : A.units + 8 < cLine) (hfew : L.length + 1 ≤ 300) {Q : Bool → Shared → Prop}
    (hQ : ∀ b h' L' es' ep' t', Heap.SameBut a s.heap h' → SetQ w h' a L' es' ep' t' → L.length ≤ L'.length → L'.length ≤ L.length + 1 → 0 < L'.length → (∀ c ∈ L', c = x ∨ c ∈ L) → Q b { s with heap := h' }) :
    wpAny (model P w) A (setAddHashed a (.ref x) h) Q E s := by
  obtain ⟨o, ho, hex, hd⟩ := R.ob
  have hsl := rows_size R.rows
  have hroom := R.room
  unfold setAddHashed
  refine wpAny_holding ?_
  rw [show (100000 : Nat) = 99999 + 1 from rfl, setAddHashedIn_succ]
  refine wpAny_bind (wpAny_setState_of ho hd R.fits ?_)
  dsimp only
  refine wp_if_neg (by simp [byScan, Value.scannable]) ?_
  try refine wpAny_bind (wpAny_pure ?_)
  refine wpAny_bind (search_q R hL hx h hu (fun hpos => ?_) fun j hj hjm => ?_)
  · dsimp only
    exact wpAny_pure (hQ false s.heap L es ep t (Heap.SameBut.refl a s.heap) R (Nat.le_refl _) (Nat.le_succ _) hpos fun c hc => .inr hc)
  · dsimp only
    refine wpAny_bind (wpAny_setState_of ho hd R.fits ?_)
    dsimp only
    obtain ⟨T1, hfill, hbel⟩ := R.tab.put hj hjm
    have hmask : (t.put j).1.mask = t.mask := rfl
    have hled : (t.put j).1.led = t.led := rfl
    have hsnd : (t.put j).2 = SetTable.below t.place j := rfl
    generalize hpt : t.put j = pt at T1 hfill hmask hled hsnd ⊢
    obtain ⟨t1, p⟩ := pt
    dsimp only at T1 hfill hmask hled hsnd ⊢
    rw [← hsnd] at hbel
    have hin : (SetTable.insertAt es p (h, Value.ref x)).toList.map (·.2) = (L.take p ++ x :: L.drop p).map Value.ref := by
      rw [SetTable.toList_insertAt, List.map_append, List.map_cons, List.map_take, List.map_drop, R.rows, List.map_append, List.map_cons, List.map_take, List.map_drop]
    have hlen : (L.take p ++ x :: L.drop p).length = L.length + 1 := len_ins L hbel x
    have hmem : ∀ c ∈ L.take p ++ x :: L.drop p, c = x ∨ c ∈ L := fun c hc => mem_ins.1 hc
    generalize L.take p ++ x :: L.drop p = L1 at hin hlen hmem
    have hes : (SetTable.insertAt es p (h, Value.ref x)).size = L.length + 1 := by rw [rows_size hin, hlen]
    generalize SetTable.insertAt es p (h, Value.ref x) = es1 at hin hes ⊢
    obtain ⟨kx, ix, dx⟩ := id hx
    -- whichever way the 'plain' goes
    have go : ∀ t2 : SetTable, t2.mask = t1.mask → t2.place = t1.place → t2.dummies = t1.dummies → t2.led = t1.led → wpAny (model P w) A (do
        storeSet a es1 t2
        if !false && t2.tooFull then setRelay a (SetTable.grown (es.size + 1))
        return true) Q E s := by
      intro t2 m1 m2 m3 m4
      have T2 : Roomy t2 (L.length + 1) := ⟨by rw [m2]; exact T1.ris, by rw [m3]; exact T1.dm, by rw [m2]; exact T1.sz, by rw [m1]; exact T1.mok, fun y hy => by rw [m1]; rw [m2] at hy; exact T1.bd y hy⟩
      have f2 : t2.fill = L.length + 1 := by
        unfold SetTable.fill
        rw [T2.sz, T2.dm]
        rfl
      have hm2 : t2.mask = t.mask := m1.trans hmask
      have ld2 : w.params.followText "set-order" = true ∨ t2.led = true := by rw [m4, hled]; exact R.led
      refine wpAny_bind (wpAny_storeSet_of ho hd ?_ (by rw [hes, sizeLine_eq]; omega))
      have sb : Heap.SameBut a s.heap (s.heap.update a (Obj.putSet es1 t2)) := Heap.SameBut.update ..
      have ho1 := store_at (es' := es1) (t' := t2) ho hd
      generalize s.heap.update a (Obj.putSet es1 t2) = h1 at sb ho1 ⊢
      have R1 : (L.length + 1) * 5 < t2.mask * 3 → SetQ w h1 a L1 es1 (ep + 1) t2 := fun hr => ⟨⟨_, ho1, ⟨hex.1, hex.2.1, hex.2.2⟩, rfl⟩, hin, by rw [hlen]; exact T2, ld2, by rw [hlen]; exact hr, by rw [hlen]; exact hfew⟩
      by_cases hf : t2.tooFull = true
      · have hfull : (L.length + 1) * 5 ≥ t2.mask * 3 := by
          have z := hf
          unfold SetTable.tooFull at z
          rw [decide_eq_true_eq, f2] at z
          exact z
        have lay : ∀ M, SetTable.sizeAbove (SetTable.grown (L.length + 1)) - 1 = M → MaskQ M → SetTable.sizeAbove (SetTable.grown (L.length + 1)) ≤ 512 → (L.length + 1) * 5 < M * 3 → L.length + 1 ≤ t2.mask →
            wpAny (model P w) A (setRelay a (SetTable.grown (L.length + 1))) (fun _ s' => wpAny (model P w) A (pure true) Q E s') E { s with heap := h1 } := fun M a1 a2 a3 a4 a5 => by
          refine relay_q (s := { s with heap := h1 }) (L := L1) ho1 ⟨hex.1, hex.2.1, hex.2.2⟩ rfl hin (by rw [hlen]; exact T2) (by rw [hlen]; exact a5) ld2 (by rw [hlen]; exact hfew) a1 a2 a3 (by rw [hlen]; exact a4) ?_
          intro h2 L2 es2 ep2 t3 sb2 R2 l2 m2'
          exact wpAny_pure (hQ true h2 L2 es2 ep2 t3 (sb.trans sb2) R2 (by omega) (by omega) (by omega) fun c hc => hmem c (m2' c hc))
        first
          | (refine wpAny_bind ?_; refine wp_if_pos (by simp [hf]) ?_)
          | (refine wp_if_pos (by simp [hf]) ?_; refine wpAny_bind ?_)
        rw [hsl]
        rcases R.tab.mok with (q | q | q) | q
        · have e2 : L.length + 1 = 5 := by rw [hm2, q] at hfull; rw [q] at hroom; omega
          exact lay 31 (by rw [e2, size_20]) (.inl (.inr (.inl rfl))) (by rw [e2, size_20]; decide) (by omega) (by omega)
        · have e2 : L.length + 1 = 19 := by rw [hm2, q] at hfull; rw [q] at hroom; omega
          exact lay 127 (by rw [e2, size_76]) (.inl (.inr (.inr rfl))) (by rw [e2, size_76]; decide) (by omega) (by omega)
        · have e2 : L.length + 1 = 77 := by rw [hm2, q] at hfull; rw [q] at hroom; omega
          exact lay 511 (by rw [e2, size_308]) (.inr rfl) (by rw [e2, size_308]; decide) (by omega) (by omega)
        · exfalso
          rw [hm2, q] at hfull
          omega
      · first
          | refine wp_if_neg (by simp [hf]) ?_
          | (refine wpAny_bind ?_; refine wp_if_neg (by simp [hf]) ?_; refine wpAny_pure ?_)
        have z := hf
        unfold SetTable.tooFull at z
        rw [decide_eq_true_eq, f2] at z
        exact wpAny_pure (hQ true h1 L1 es1 (ep + 1) t2 sb (R1 (by omega)) (by omega) (by omega) (by omega) hmem)
    by_cases hpl : t1.plain = true
    · first
        | (refine wpAny_bind ?_; refine wp_if_pos hpl ?_; refine byVal_key kx _ 8 s ix (by omega) _ _ _ fun b => ?_)
        | refine wp_if_pos hpl (wpAny_bind (byVal_key kx _ 8 s ix (by omega) _ _ _ fun b => ?_))
      cases b
      · exact go { t1 with plain := false } rfl rfl rfl rfl
      · exact go t1 rfl rfl rfl rfl
    · first
        | (refine wpAny_bind ?_; refine wp_if_neg hpl ?_; refine wpAny_pure ?_)
        | refine wp_if_neg hpl (wpAny_bind (wpAny_pure ?_))
      exact go t1 rfl rfl rfl rfl
end
end Rd

set_option Elab.async false
set_option linter.all false
set_option maxRecDepth 100000
/-! set(t) of a tuple of nested tuples; sorted(set). -/
namespace Rd
open PySem PySem.Spec PyProof.Rows L2
/-- an empty set's object in the world w -/
abbrev set0 (w : World) : Obj := { cls := .type "set", dict := none, data := .set #[] 0 (.fresh 0 0 (!w.params.followText "set-order")) }
theorem setQ_zero {w : World} {h : Heap} {a : Addr} (ho : h.get? a = some (set0 w)) : SetQ w h a [] #[] 0 (.fresh 0 0 (!w.params.followText "set-order")) where
  ob := ⟨_, ho, ⟨rfl, rfl, rfl⟩, rfl⟩
  rows := rfl
  tab := ⟨List.Pairwise.nil, rfl, rfl, .inl (.inl rfl), fun x hx => by cases hx⟩
  led := by
    show _ ∨ (!w.params.followText "set-order") = true
    cases w.params.followText "set-order"
    · exact .inr rfl
    · exact .inl rfl
  room := show 0 * 5 < 7 * 3 by decide
  few := show 0 ≤ 300 by decide
theorem SetQ.keep {w : World} {h h' : Heap} {a : Addr} {L : List Addr} {es : Array (Int × Value)} {ep : Nat} {t : SetTable} (R : SetQ w h a L es ep t) (ha : ∀ o, h.get? a = some o → h'.get? a = some o) : SetQ w h' a L es ep t := by
  obtain ⟨o, ho, r⟩ := R.ob
  exact ⟨⟨o, ha o ho, r⟩, R.rows, R.tab, R.led, R.room, R.few⟩
/-- what the set has behind i items of ks -/
structure Taken (ks : List Addr) (i : Nat) (L : List Addr) : Prop where
  sub : ∀ b ∈ L, b ∈ ks
  len : L.length ≤ i
  pos : 0 < i → 0 < L.length
section
variable {P : Program} {w : World} {A : Around} {E : Value → Shared → Prop} {s : Shared}
/-- the loop within set(..) -/
theorem fill_set {I : Addr} {fp wr : List Addr} {G : Array GenState → Array GenState → Prop} {n : Nat} {Pv : Nat → Value → Prop} {St : Nat → Shared → Prop} {R : Result → Shared → Prop}
    (W : WalksS P w A.in1 I fp wr G n Pv St) (S : Addr) (hSf : S ∉ fp) (ks : List Addr) (hn : n = ks.length) (hfew : ks.length ≤ 300) (hval : ∀ i v, Pv i v → ∃ b, ks[i]? = some b ∧ v = .ref b)
    (h0 : Heap) (hk : ∀ b ∈ ks, Nk h0 b) (hS0 : h0.get? S = none) (hw0 : ∀ b ∈ wr, h0.get? b = none) (hu : A.units + 20 < cLine) :
    ∀ (k i : Nat) (s : Shared), n - i = k → i ≤ n → St i s → (∀ b o, h0.get? b = some o → s.heap.get? b = some o) → (∃ L es ep t, SetQ w s.heap S L es ep t ∧ Taken ks i L) →
      (∀ s' L es ep t, Moved (S :: wr) G s s' → SetQ w s'.heap S L es ep t → Taken ks n L → (∀ b o, h0.get? b = some o → s'.heap.get? b = some o) → R (.ok (.ret .none)) s') →
      codeAny (model P w) A (.builtin "set.update.loop" ⟨[.ref S, .ref I], []⟩) R s := by
  have hSw : S ∉ wr := fun h => hSf (W.sub _ h)
  have wide : ∀ b ∈ wr, b ∈ S :: wr := fun b hb => List.mem_cons_of_mem _ hb
  have stay : ∀ {s s' : Shared}, Moved wr G s s' → (∀ b o, h0.get? b = some o → s.heap.get? b = some o) → ∀ b o, h0.get? b = some o → s'.heap.get? b = some o := fun hm hkp b o e =>
    hm.heap b o (fun hb => by rw [hw0 b hb] at e; cases e) (hkp b o e)
  intro k
  induction k with
  | zero =>
    intro i s hk' hi hst hkp ⟨L, es, ep, t, hS, g⟩ hR
    obtain rfl : i = n := by omega
    refine codeAny_builtin F.entry_set_update_loop ?_
    rw [Around.under_plainId F.plain_set_update_loop _]
    show wpAny _ A.in1 (pyNext (.ref I) >>= _) _ _ s
    refine wpAny_bind (W.done s _ _ hst fun s' hm => ?_)
    show wpAny _ A.in1 (ret Value.none) _ _ s'
    exact wpAny_pure (hR s' L es ep t (hm.mono wide) (hS.keep fun o e => hm.heap S o hSw e) g (stay hm hkp))
  | succ k ih =>
    intro i s hk' hi hst hkp ⟨L, es, ep, t, hS, g⟩ hR
    have hlt : i < n := by omega
    refine codeAny_builtin F.entry_set_update_loop ?_
    rw [Around.under_plainId F.plain_set_update_loop _]
    show wpAny _ A.in1 (pyNext (.ref I) >>= _) _ _ s
    refine wpAny_bind (W.item i s _ _ hlt hst fun v s' hP hst' hm => ?_)
    obtain ⟨b, hb, rfl⟩ := hval i v hP
    have hkp' := stay hm hkp
    have hS' : SetQ w s'.heap S L es ep t := hS.keep fun o e => hm.heap S o hSw e
    have hx : Nk s'.heap b := (hk b (List.mem_of_getElem? hb)).keep hkp'
    obtain ⟨kx, ix, dx⟩ := id hx
    show wpAny _ A.in1 (holding [Value.ref b] (setAdd S (.ref b)) >>= _) _ _ s'
    refine wpAny_bind (wpAny_holding ?_)
    unfold setAdd
    refine wpAny_holding ?_
    have hu1 : A.in1.units + 8 < cLine := by
      have e1 : A.in1.units ≤ A.units + 1 := Nat.le_refl _
      omega
    refine wpAny_bind (pyHash_key kx _ _ _ _ ix (by omega) ?_)
    refine add_q (s := { s' with toks := s'.toks + kx.draws }) hS' (fun c hc => (hk c (g.sub c hc)).keep hkp') hx _ hu1 (by have := g.len; omega) fun bb h' L' es' ep' t' hsb hS2 l1 l2 l3 l4 => ?_
    have g' : Taken ks (i + 1) L' := ⟨fun c hc => (l4 c hc).elim (fun z => by rw [z]; exact List.mem_of_getElem? hb) (g.sub c), by have := g.len; omega, fun _ => l3⟩
    have hkp2 : ∀ b o, h0.get? b = some o → h'.get? b = some o := fun b o e => (hsb.2 b (fun z => by rw [z, hS0] at e; cases e)).trans (hkp' b o e)
    refine wpAny_pure ⟨plainId_quiet F.plain_set_update_loop _, ih (i + 1) _ (by omega) hlt (W.frame _ s' _ _ hst' (Nat.le_add_right _ _) fun c hc o e => ?_) hkp2 ⟨L', es', ep', t', hS2, g'⟩ fun s'' L2 es2 ep2 t2 hm2 hS3 g2 hkp3 => ?_⟩
    · exact (hsb.2 c (fun z => hSf (by rw [← z]; exact hc))).trans e
    · refine hR s'' L2 es2 ep2 t2 (Moved.trans W.gtrans ((hm.mono wide).then_heap (Nat.le_add_right _ _) fun c o hc e => ?_) hm2) hS3 g2 hkp3
      exact (hsb.2 c (fun z => hc (by rw [z]; exact List.mem_cons_self))).trans e

set_option maxHeartbeats 3200000 in
/-- set(t) -/
theorem call_setN {l : Addr} {items : Array Value} (ks : List Addr) {Q : Value → Shared → Prop} (hh : A.handled = none) (hl : s.heap.IsTuple l items) (hit : items.toList = ks.map Value.ref)
    (hk : ∀ b ∈ ks, Nk s.heap b) (hfew : ks.length ≤ 300) (hu : A.units + 30 < cLine)
    (h : ∀ (h' : Heap) (tk : Nat) L es ep t, SetQ w h' s.heap.objs.size L es ep t → Taken ks ks.length L → (∀ b o, s.heap.get? b = some o → h'.get? b = some o) → Q (.ref s.heap.objs.size) { s with heap := h', toks := tk }) :
    wpAny (model P w) A (call (.type "set") [.ref l]) Q E s := by
  have hisz : items.size = ks.length := by
    have q := congrArg List.length hit
    rw [Array.length_toList, List.length_map] at q
    exact q
  obtain ⟨c, tl, hmro⟩ := F.called_set.mro
  have hmade := F.called_set.made
  have hsub := F.called_set.sub
  refine wpAny_call (codeAny_of_tree ?_)
  show wpAny _ _ (callAny (.type "set") _) _ _ _
  refine wpAny_pure ⟨Code.quiet_builtin _ (by decide +kernel), codeAny_builtin F.entry_type_call ?_⟩
  rw [Around.under_plain (weight_type_call_type "set" [.ref l] []) rfl]
  have t1 := F.called_set.notType
  have t2 := F.called_set.canCreate
  have t3 := F.typeCall_set_1 (.ref l)
  repeat (any_goals (first | assumption | wp_step))
  refine codeAny_mono (code_set_led1 (.ref l) (E := E) (Q₁ := fun obj s₁ => obj = .ref s.heap.objs.size ∧ s₁ = { s with heap := s.heap.push (set0 w) }) ⟨rfl, rfl⟩) fun r s₁ hr => ?_
  cases r with
  | error e => exact hr
  | ok fl =>
    cases fl with
    | ret obj =>
      obtain ⟨rfl, rfl⟩ := hr
      have hS : (s.heap.push (set0 w)).get? s.heap.objs.size = some (set0 w) := Heap.get?_push_size _ rfl
      have hT : Shared.TypeIs { s with heap := s.heap.push (set0 w) } (.ref s.heap.objs.size) "set" := ⟨_, hS, rfl⟩
      have hli := F.called_set.init.lookup
      have hbi := F.called_set.init.bind (.ref s.heap.objs.size)
      repeat (any_goals (first | assumption | wp_step))
      refine codeAny_mono (codeAny_call_builtin (R := wants (fun r s₂ => r = .none ∧ ∃ h' tk L es ep t, s₂ = { s with heap := h', toks := tk } ∧ SetQ w h' s.heap.objs.size L es ep t ∧ Taken ks ks.length L ∧
          (∀ b o, s.heap.get? b = some o → h'.get? b = some o)) E) F.called_set.init.plain F.entry_set_init (check_set_init_1 hT ?_)) fun r₂ s₂ hr₂ => ?_
      · obtain ⟨⟨ocls, odict, odata, oslots⟩, hol, hcl, nl, hdl⟩ := hl
        simp only at hcl hdl
        subst hcl; subst hdl
        have hol' : (s.heap.push (set0 w)).get? l = some { cls := .type "tuple", dict := odict, data := .seq items nl, slots := oslots } := Heap.get?_push_of_some _ hol
        have u1 := F.sub_tuple_set
        have u2 := F.sub_tuple_frozenset
        have u3 : (Value.type "tuple" == Value.type "dict") = false := by decide
        have hl1 : (s.heap.push (set0 w)).IsTuple l items := ⟨_, hol', rfl, nl, rfl⟩
        unfold Builtin.«set.__init__» noKeywords Builtin.Frozenset.updateFrom
        generalize hPI : pyIter = PI
        wp_walk
        subst hPI
        refine wpAny_pyIter_tuple hl1 ?_
        refine wpAny_bind (wpAny_runValue ?_)
        have hlS : l < s.heap.objs.size := Heap.lt_size hol
        have hh3 : A.in1.in1.in1.handled = none := by simp [hh]
        have hneI : l ≠ (s.heap.push (set0 w)).objs.size := by
          rw [Heap.size_push]
          exact Nat.ne_of_lt (Nat.lt_succ_of_lt hlS)
        have hSf : s.heap.objs.size ∉ [(s.heap.push (set0 w)).objs.size, l] := by
          rw [Heap.size_push]
          simp only [List.mem_cons, List.not_mem_nil, or_false, not_or]
          exact ⟨Nat.ne_of_lt (Nat.lt_succ_self _), Nat.ne_of_gt hlS⟩
        have hval : ∀ (i : Nat) (v : Value), items[i]? = some v → ∃ b, ks[i]? = some b ∧ v = .ref b := fun i v hv => by
          have q : items.toList[i]? = some v := by rw [Array.getElem?_toList]; exact hv
          rw [hit, List.getElem?_map] at q
          cases hq : ks[i]? with
          | none => rw [hq] at q; cases q
          | some b =>
            rw [hq] at q
            exact ⟨b, rfl, (Option.some.inj q).symm⟩
        have none_of : ∀ b, s.heap.objs.size ≤ b → s.heap.get? b = none := fun b hb => Heap.get?_none_of_le hb
        refine fill_set ((Walks.tuple hh3 _ l hneI items).toS) s.heap.objs.size
          hSf ks hisz hfew hval s.heap hk (none_of _ (Nat.le_refl _)) (fun b hb => none_of b (by
            rw [List.mem_singleton.mp hb, Heap.size_push]
            exact Nat.le_succ _)) (by
              have e1 : A.in1.in1.units ≤ A.units + 2 := Nat.le_refl _
              omega) (items.size - 0) 0 _ (by omega) (Nat.zero_le _)
          ⟨⟨_, Heap.get?_push_size _ rfl, rfl, rfl⟩, (hl1.push _)⟩ (fun b o e => Heap.get?_push_of_some _ (Heap.get?_push_of_some _ e)) ?hS0 ?hR
        case hS0 => exact ⟨[], #[], 0, _, setQ_zero (Heap.get?_push_of_some _ hS), ⟨fun b hb => (by cases hb), Nat.le_refl _, fun z => absurd z (Nat.lt_irrefl _)⟩⟩
        case hR =>
          intro s' L es ep t hm hS' g' hkp
          obtain ⟨h', g2, d', tk', os'⟩ := s'
          have eg : g2 = s.gens := hm.gens
          have ed : d' = s.drawn := hm.drawn
          have eo : os' = s.os := hm.os
          subst eg; subst ed; subst eo
          show wpAny _ _ _ _ _ _
          refine wpAny_pure ?_
          show wpAny _ _ (ret Value.none) _ _ _
          rw [hisz] at g'
          exact wpAny_pure ⟨rfl, h', tk', L, es, ep, t, rfl, hS', g', hkp⟩
      · cases r₂ with
        | error e => exact hr₂
        | ok fl₂ =>
          cases fl₂ with
          | ret r =>
            obtain ⟨rfl, h', tk, L, es, ep, t, rfl, hS', g', hk'⟩ := hr₂
            repeat (any_goals (first | assumption | wp_step))
            exact h _ _ _ _ _ _ hS' g' hk'
          | _ => exact hr₂.elim
    | _ => exact hr.elim
end
/-- the set at a as what stands there -/
def SetQO (w : World) (a : Addr) (L : List Addr) : HO := .ext fun h => ∃ es ep t, SetQ w h a L es ep t
theorem setQO_ok {P : Program} {w : World} {H : Hp} {h : Heap} {a : Addr} {L : List Addr} {es : Array (Int × Value)} {ep : Nat} {t : SetTable} (R : SetQ w h a L es ep t) : ObjOk P w H h a (SetQO w a L) := by
  obtain ⟨o, ho, _⟩ := R.ob
  exact ⟨⟨es, ep, t, R⟩, ⟨o, ho⟩, fun h1 h2 ⟨es', ep', t', R'⟩ k => ⟨es', ep', t', R'.keep k⟩⟩
/-! ### logs as nested keys -/
def kPair (p : Str × Int) : NestedKey := .tup [.text p.1, .num p.2]
def kLog (l : Log) : NestedKey := .tup (l.map kPair)
theorem kLog_depth (l : Log) : (kLog l).depth ≤ 2 := by
  have : ∀ l : Log, NestedKey.depthAll (l.map kPair) ≤ 1 := by
    intro l
    induction l with
    | nil => simp [NestedKey.depthAll]
    | cons p r ih =>
      simp only [List.map_cons, NestedKey.depthAll, kPair, NestedKey.depth]
      omega
  simp only [kLog, NestedKey.depth]
  have := this l
  omega
section
variable {X : Cx}
theorem nk_pair {pins : List (Addr × Obj)} {σ : L2.St} {H : Hp} {s : Shared} (I : Inv X pins σ H s) {p : Str × Int} {v : V} {u : Value} (h : Dp X.K H v (dPair p)) (r : L2.RelV v u) : NestedIs s.heap (kPair p) u := by
  cases h with
  | tup hs ha =>
    cases r
    obtain ⟨its, rv, ⟨o, ho, hc, n, hd⟩, _⟩ := I.tuple hs
    cases ha with
    | cons h1 h2 =>
      cases h2 with
      | cons h3 h4 =>
        cases h1
        cases h3
        cases h4
        cases rv with
        | cons r1 r2 =>
          cases r2 with
          | cons r3 r4 =>
            cases r4
            obtain ⟨t1, rfl⟩ := r1
            obtain ⟨t2, rfl⟩ := r3
            exact .tup ho hc hd (.cons (.text _ _) (.cons (.int _ _) .nil))
theorem nk_log {pins : List (Addr × Obj)} {σ : L2.St} {H : Hp} {s : Shared} (I : Inv X pins σ H s) {l : Log} {b : Addr} (h : Dp X.K H (.ref b) (dLog l)) : Nk s.heap b := by
  cases h with
  | tup hs ha =>
    obtain ⟨its, rv, ⟨o, ho, hc, n, hd⟩, _⟩ := I.tuple hs
    have go : ∀ (l : Log) (xs : List V) (us : List Value), DpAll X.K H xs (l.map dPair) → Vals xs us → NestedAll s.heap (l.map kPair) us := by
      intro l
      induction l with
      | nil =>
        intro xs us h r
        cases h
        cases r
        exact .nil
      | cons p l ih =>
        intro xs us h r
        cases h with
        | cons h1 h2 =>
          cases r with
          | cons r1 r2 => exact .cons (nk_pair I h1 r1) (ih _ _ h2 r2)
    exact ⟨kLog l, .tup ho hc hd (by simpa using go l _ _ ha rv), kLog_depth l⟩
/-- set(t) of a tuple of logs: some of them, not none -/
def rSetN (K : PySem.W.Frag) (w : World) : List V → Hp → VK → Prop := fun xs H Q => ∃ (l : Addr) (ks : List (Addr × Log)), xs = [.ref l] ∧ SqT K H l (ks.map fun p => V.ref p.1) ∧ (∀ p ∈ ks, Dp K H (.ref p.1) (dLog p.2)) ∧ ks.length ≤ 300 ∧ 0 < ks.length ∧
  ∀ a L, H a = none → (∀ b ∈ L, b ∈ ks.map (·.1)) → 0 < L.length → L.length ≤ 300 → Q (.ref a) (upd H a (SetQO w a L))
theorem cr_setN (hc : X.calm = true) (hu : X.A.units + 64 < cLine) : CallR X (.type "set") (rSetN X.K X.w) := by
  intro pins s σ H xs us Q I r h
  obtain ⟨l, ks, rfl, hl, hk, hf, hp, q⟩ := h
  rw [Vals.ref1 r]
  obtain ⟨its, rv, pl, hz⟩ := I.tuple hl
  have hn : H s.heap.objs.size = none := I.hok.fresh (Nat.le_refl _)
  have eits : ∀ (ks : List (Addr × Log)) (us : List Value), Vals (ks.map fun p => V.ref p.1) us → us = (ks.map (·.1)).map Value.ref := by
    intro ks
    induction ks with
    | nil =>
      intro us r
      cases r
      rfl
    | cons p ks ih =>
      intro us r
      cases r with
      | cons r1 r2 =>
        cases r1
        rw [ih _ r2]
        rfl
  refine call_setN (P := X.prog) (w := X.w) (ks.map (·.1)) (I.ok.hd hc) pl (by simpa using eits ks its rv) (fun b hb => ?_) (by rw [List.length_map]; exact hf) (by omega) fun h' tk L es ep t R g k => ?_
  · obtain ⟨p, hpm, e⟩ := List.mem_map.mp hb
    rw [← e]
    exact nk_log I (hk p hpm)
  · rw [List.length_map] at g
    exact ⟨.ref s.heap.objs.size, upd H s.heap.objs.size (SetQO X.w s.heap.objs.size L), I.laid (t' := tk) k (Nat.le_refl _) (setQO_ok R), rfl, q _ L hn g.sub (g.pos hp) R.few⟩
/-- sorted(s) of such a set -/
def rSortN (K : PySem.W.Frag) (w : World) : List V → Hp → VK → Prop := fun vs H Q => ∃ (a : Addr) (L : List Addr) (ks : List (Addr × Log)), vs = [.ref a] ∧ H a = some (SetQO w a L) ∧ (∀ b ∈ L, b ∈ ks.map (·.1)) ∧ (∀ p ∈ ks, Dp K H (.ref p.1) (dLog p.2) ∧ p.2 ≠ []) ∧
  ∀ p (ys : List (Addr × Log)), H p = none → ys.length = L.length → (∀ y ∈ ys, y ∈ ks) → Q (.ref p) (upd H p (.lst (ys.map fun y => V.ref y.1)))
end
end Rd

set_option Elab.async false
set_option linter.all false
set_option maxRecDepth 100000
/-! sorted(set of logs); logs are alike. -/
namespace Rd
open PySem PySem.Spec PyProof.Rows L2
open PySem.W (EachIs AllAlike Sortable dataLe alike alikeAll)
theorem alike_pair (p q : Str × Int) : alike (dPair p) (dPair q) = true := by simp [dPair, alike, alikeAll]
theorem alike_log : ∀ l m : Log, alike (dLog l) (dLog m) = true := by
  have go : ∀ l m : Log, alikeAll (l.map dPair) (m.map dPair) = true := by
    intro l
    induction l with
    | nil => intro m; simp [alikeAll]
    | cons p l ih =>
      intro m
      cases m with
      | nil => simp [alikeAll]
      | cons q m =>
        simp only [List.map_cons, alikeAll, alike_pair, ih m, Bool.and_self]
  intro l m
  simp only [dLog, alike]
  exact go l m
theorem alike_logs : ∀ L M : List Log, alike (dLogs L) (dLogs M) = true := by
  have go : ∀ L M : List Log, alikeAll (L.map dLog) (M.map dLog) = true := by
    intro L
    induction L with
    | nil => intro M; simp [alikeAll]
    | cons l L ih =>
      intro M
      cases M with
      | nil => simp [alikeAll]
      | cons m M =>
        simp only [List.map_cons, alikeAll, alike_log, ih M, Bool.and_self]
  intro L M
  simp only [dLogs, alike]
  exact go L M
theorem depth_pair (p : Str × Int) : (dPair p).depth = 1 := by simp [dPair, PyData.depth, PyData.depthAll]
theorem depth_log (l : Log) : (dLog l).depth ≤ 2 := by
  have go : ∀ l : Log, PyData.depthAll (l.map dPair) ≤ 1 := by
    intro l
    induction l with
    | nil => simp [PyData.depthAll]
    | cons p l ih =>
      simp only [List.map_cons, PyData.depthAll, depth_pair]
      omega
  simp only [dLog, PyData.depth]
  have := go l
  omega
theorem depth_logs (L : List Log) : (dLogs L).depth ≤ 3 := by
  have go : ∀ L : List Log, PyData.depthAll (L.map dLog) ≤ 2 := by
    intro L
    induction L with
    | nil => simp [PyData.depthAll]
    | cons l L ih =>
      simp only [List.map_cons, PyData.depthAll]
      have := depth_log l
      omega
  simp only [dLogs, PyData.depth]
  have := go L
  omega
/-- the cells' names are texts of plain signs -/
def NmOk (l : Log) : Prop := ∀ p ∈ l, PyData.strOk p.1 = true
theorem lay_pair {p : Str × Int} (h : PyData.strOk p.1 = true) : (dPair p).canLay0 = true := by simp [dPair, PyData.canLay0, PyData.canLayAll0, h]
theorem lay_log {l : Log} (h : NmOk l) : (dLog l).canLay0 = true := by
  have go : ∀ l : Log, NmOk l → PyData.canLayAll0 (l.map dPair) = true := by
    intro l
    induction l with
    | nil => intro _; simp [PyData.canLayAll0]
    | cons p l ih =>
      intro h
      simp only [List.map_cons, PyData.canLayAll0, lay_pair (h p List.mem_cons_self), ih fun q hq => h q (List.mem_cons_of_mem _ hq), Bool.and_self]
  simp only [dLog, PyData.canLay0]
  exact go l h
theorem lay_logs {L : List Log} (h : ∀ l ∈ L, NmOk l) : (dLogs L).canLay0 = true := by
  have go : ∀ L : List Log, (∀ l ∈ L, NmOk l) → PyData.canLayAll0 (L.map dLog) = true := by
    intro L
    induction L with
    | nil => intro _; simp [PyData.canLayAll0]
    | cons p l ih =>
      intro h
      simp only [List.map_cons, PyData.canLayAll0, lay_log (h p List.mem_cons_self), ih fun q hq => h q (List.mem_cons_of_mem _ hq), Bool.and_self]
  simp only [dLogs, PyData.canLay0]
  exact go L h
theorem shaped_of {d : PyData} (h1 : d.canLay0 = true) (h2 : d.depth ≤ 64) : SeqAt.shaped d = true := by
  unfold SeqAt.shaped
  rw [h1, decide_eq_true h2]
  rfl
abbrev zLog (y : Addr × Log) : ZD := (V.ref y.1, dLog y.2)
theorem from_ks {ks : List (Addr × Log)} : ∀ l : List ZD, (∀ z ∈ l, ∃ y ∈ ks, z = zLog y) → ∃ ys : List (Addr × Log), l = ys.map zLog ∧ ∀ y ∈ ys, y ∈ ks
  | [], _ => ⟨[], rfl, fun y hy => by cases hy⟩
  | z :: l, h => by
    obtain ⟨y, hy, e⟩ := h z List.mem_cons_self
    obtain ⟨ys, e1, e2⟩ := from_ks l fun z hz => h z (List.mem_cons_of_mem _ hz)
    refine ⟨y :: ys, by rw [List.map_cons, e, e1], fun x hx => ?_⟩
    rcases List.mem_cons.mp hx with q | q
    · rw [q]; exact hy
    · exact e2 x q
section
variable {X : Cx}
theorem cr_sortN (hc : X.calm = true) (hu : X.A.units + 64 < cLine) : CallR X (.builtin "sorted") (rSortN X.K X.w) := by
  intro pins s σ H vs us Q I r h
  obtain ⟨a, L, ks, rfl, ha, hL, hk, q⟩ := h
  rw [Vals.ref1 r]
  obtain ⟨⟨es, ep, t, R⟩, _, _⟩ := I.hok a _ ha
  obtain ⟨o, ho, hex, hd⟩ := R.ob
  have hsz := rows_size R.rows
  have hfew := R.few
  refine sorted_core (fun zs => zs.length = L.length ∧ ∀ z ∈ zs, ∃ y ∈ ks, z = zLog y) (fun Q' hQ' => ?_) (fun zs gb vs ev => ?_) (fun zs gb => ?_) fun s1 s' out c zs gb k0 g0 o0 k g o' hg he => ?_
  · refine collect_set (A := X.A.in1) (I.ok.hd hc) ⟨o, ho, hex.1, hd⟩ R.fits (by unfold scanBound; omega) R.tab.ris R.led fun s1 vs k1 _ g1 o1 pm => ?_
    rw [R.rows] at pm
    have pick : ∀ vs : List Value, (∀ v ∈ vs, v ∈ L.map Value.ref) → ∃ zs : List ZD, zs.length = vs.length ∧ (∀ z ∈ zs, ∃ y ∈ ks, z = zLog y) ∧ EachIs zIs vs zs := by
      intro vs
      induction vs with
      | nil => exact fun _ => ⟨[], rfl, (fun z hz => by cases hz), EachIs.nil⟩
      | cons v vs ih =>
        intro hv
        obtain ⟨b, hb, e⟩ := List.mem_map.mp (hv v List.mem_cons_self)
        obtain ⟨y, hy, ey⟩ := List.mem_map.mp (hL b hb)
        obtain ⟨zs, l1, l2, l3⟩ := ih fun u hu => hv u (List.mem_cons_of_mem _ hu)
        refine ⟨zLog y :: zs, by rw [List.length_cons, List.length_cons, l1], fun z hz => ?_, EachIs.cons ?_ l3⟩
        · rcases List.mem_cons.mp hz with q | q
          · exact ⟨y, hy, q⟩
          · exact l2 z q
        · show v = Value.ref y.1
          rw [← e, ey]
    obtain ⟨zs, l1, l2, l3⟩ := pick vs fun v hv => pm.mem_iff.mp hv
    exact hQ' vs s1 zs k1 g1 o1 ⟨by rw [l1, pm.length_eq, List.length_map], l2⟩ l3
  · exact dp_each I (fun z hz => by
      obtain ⟨y, hy, e⟩ := gb.2 z hz
      rw [e]
      exact (hk y hy).1) ev
  · refine ⟨fun d hd d' hd' => ?_, .inl fun d hd => ?_, by rw [gb.1, sizeLine_eq]; omega, fun z hz => ?_⟩
    · obtain ⟨z, hz, e⟩ := List.mem_map.mp hd
      obtain ⟨z', hz', e'⟩ := List.mem_map.mp hd'
      obtain ⟨y, hy, ey⟩ := gb.2 z hz
      obtain ⟨y', hy', ey'⟩ := gb.2 z' hz'
      rw [← e, ← e', ey, ey']
      exact alike_log _ _
    · obtain ⟨z, hz, e⟩ := List.mem_map.mp hd
      obtain ⟨y, hy, ey⟩ := gb.2 z hz
      have hne := (hk y hy).2
      rw [← e, ey]
      cases hl : y.2 with
      | nil => exact absurd hl hne
      | cons p r => exact ⟨dPair p, r.map dPair, by simp [zLog, hl, dLog]⟩
    · obtain ⟨y, hy, e⟩ := gb.2 z hz
      rw [e]
      have := depth_log y.2
      show X.A.units + 2 + (dLog y.2).depth < cLine
      omega
  · have gm : ∀ z ∈ zs.mergeSort (dataLe false (·.2)), ∃ y ∈ ks, z = zLog y := fun z hz => gb.2 z (List.mem_mergeSort.mp hz)
    obtain ⟨ys, e1, e2⟩ := from_ks _ gm
    have hlen : ys.length = L.length := by
      have := congrArg List.length e1
      rw [List.length_mergeSort, List.length_map, gb.1] at this
      exact this.symm
    refine sorted_done I k0 g0 o0 k g o' hg (by rw [List.length_mergeSort, gb.1, sizeLine_eq]; omega) he fun p hn => ?_
    rw [e1, List.map_map]
    exact q p ys hn hlen e2
end
end Rd

set_option Elab.async false
set_option linter.all false
set_option maxRecDepth 100000
/-! Logs on the heap; comprehensions by what holds of the list so far. -/
namespace Rd
open PySem PySem.Spec PyProof.Rows L2
/-! ### the heap without one address -/
def del (H : Hp) (D : Addr) : Hp := fun b => if b = D then none else H b
theorem del_upd {H : Hp} {D : Addr} {o : HO} : del (upd H D o) D = del H D := by
  funext b
  unfold del upd
  by_cases h : b = D
  · rw [if_pos h, if_pos h]
  · rw [if_neg h, if_neg h, if_neg h]
theorem del_new {H : Hp} {D : Addr} (h : H D = none) : del H D = H := by
  funext b
  unfold del
  by_cases e : b = D
  · rw [if_pos e, e, h]
  · rw [if_neg e]
theorem del_same {H : Hp} {D : Addr} : Same (del H D) H := fun b o h => by
  unfold del at h
  by_cases e : b = D
  · rw [if_pos e] at h; cases h
  · rw [if_neg e] at h; exact h
theorem same_del {H H' : Hp} {D : Addr} (s : Same H H') (h : H D = none) : Same H (del H' D) := fun b o e => by
  unfold del
  have ne : b ≠ D := ne_of_none e h
  rw [if_neg ne]
  exact s b o e
theorem del_mono {H H' : Hp} {D : Addr} (s : Same H H') : Same (del H D) (del H' D) := fun b o e => by
  unfold del at e ⊢
  by_cases h : b = D
  · rw [if_pos h] at e; cases e
  · rw [if_neg h] at e ⊢; exact s b o e
theorem same_upd {H H' : Hp} {D : Addr} {o : HO} (s : Same H H') (h : H D = none) : Same H (upd H' D o) := fun b u e => by
  rw [upd_ne (ne_of_none e h)]
  exact s b u e

/-! ### logs -/
def cells (l : Log) : List Str := l.map (·.1)
structure LogOk (l : Log) : Prop where
  nd : (cells l).Nodup
  ne : l ≠ []
  short : l.length ≤ 8
  vals : ∀ p ∈ l, 0 ≤ p.2 ∧ p.2 < 5
  nm : NmOk l
structure LogsOk (L : List Log) : Prop where
  all : ∀ l ∈ L, LogOk l
  few : L.length ≤ 300
theorem LogsOk.sub {L M : List Log} (h : LogsOk L) (s : M.Sublist L) : LogsOk M := ⟨fun l hl => h.all l (s.mem hl), Nat.le_trans s.length_le h.few⟩
/-- a log's tuple, its object told -/
def LogV (K : PySem.W.Frag) (H : Hp) (v : V) (l : Log) : Prop := ∃ b ys, v = .ref b ∧ PTup H b ys ∧ DpAll K H ys (l.map dPair)
theorem LogV.same {K : PySem.W.Frag} {H H' : Hp} {v : V} {l : Log} (s : Same H H') (h : LogV K H v l) : LogV K H' v l := by
  obtain ⟨b, ys, e, t, d⟩ := h
  exact ⟨b, ys, e, t.same s, dps_same s _ _ d⟩
theorem LogV.dp {K : PySem.W.Frag} {H : Hp} {v : V} {l : Log} (h : LogV K H v l) : Dp K H v (dLog l) := by
  obtain ⟨b, ys, rfl, t, d⟩ := h
  exact .tup t.sq d
/-- values that are these logs, one by one -/
abbrev LogVs (K : PySem.W.Frag) (H : Hp) : List V → List Log → Prop := Paired (LogV K H)
theorem LogVs.same {K : PySem.W.Frag} {H H' : Hp} (s : Same H H') : ∀ {xs : List V} {L : List Log}, LogVs K H xs L → LogVs K H' xs L
  | _, _, .nil => .nil
  | _, _, .cons h t => .cons (h.same s) (LogVs.same s t)
theorem LogVs.len {K : PySem.W.Frag} {H : Hp} {xs : List V} {L : List Log} (h : LogVs K H xs L) : xs.length = L.length := Paired.length h
theorem LogVs.at {K : PySem.W.Frag} {H : Hp} : ∀ {xs : List V} {L : List Log} {i : Nat} {x : V}, LogVs K H xs L → xs[i]? = some x → ∃ l, L[i]? = some l ∧ LogV K H x l
  | _, _, _, _, .nil, h => by simp at h
  | _, _, 0, _, .cons h1 _, h => by
    simp only [List.getElem?_cons_zero, Option.some.injEq] at h
    subst h
    exact ⟨_, rfl, h1⟩
  | _, _, i + 1, _, .cons _ h2, h => by
    simp only [List.getElem?_cons_succ] at h ⊢
    exact LogVs.at h2 h
theorem LogVs.drop {K : PySem.W.Frag} {H : Hp} : ∀ (n : Nat) {xs : List V} {L : List Log}, LogVs K H xs L → LogVs K H (xs.drop n) (L.drop n)
  | 0, _, _, h => h
  | _ + 1, _, _, .nil => .nil
  | n + 1, _, _, .cons _ h2 => LogVs.drop n h2
theorem LogVs.take {K : PySem.W.Frag} {H : Hp} : ∀ (n : Nat) {xs : List V} {L : List Log}, LogVs K H xs L → LogVs K H (xs.take n) (L.take n)
  | 0, xs, L, _ => by rw [List.take_zero, List.take_zero]; exact .nil
  | _ + 1, _, _, .nil => .nil
  | n + 1, _, _, .cons h1 h2 => .cons h1 (LogVs.take n h2)
theorem LogVs.app {K : PySem.W.Frag} {H : Hp} : ∀ {xs ys : List V} {L M : List Log}, LogVs K H xs L → LogVs K H ys M → LogVs K H (xs ++ ys) (L ++ M)
  | _, _, _, _, .nil, h => h
  | _, _, _, _, .cons h1 h2, h => .cons h1 (LogVs.app h2 h)
theorem LogVs.dps {K : PySem.W.Frag} {H : Hp} : ∀ {xs : List V} {L : List Log}, LogVs K H xs L → DpAll K H xs (L.map dLog)
  | _, _, .nil => .nil
  | _, _, .cons h1 h2 => .cons h1.dp (LogVs.dps h2)
/-- a tuple of logs -/
def LogsV (K : PySem.W.Frag) (H : Hp) (v : V) (L : List Log) : Prop := ∃ a xs, v = .ref a ∧ SqT K H a xs ∧ LogVs K H xs L
theorem LogsV.same {K : PySem.W.Frag} {H H' : Hp} {v : V} {L : List Log} (s : Same H H') (h : LogsV K H v L) : LogsV K H' v L := by
  obtain ⟨a, xs, e, t, d⟩ := h
  exact ⟨a, xs, e, Same.seqT s t, d.same s⟩
theorem LogsV.dp {K : PySem.W.Frag} {H : Hp} {v : V} {L : List Log} (h : LogsV K H v L) : Dp K H v (dLogs L) := by
  obtain ⟨a, xs, rfl, t, d⟩ := h
  exact .tup t d.dps
/-- the pairs of a log, by their addresses: what dict(log) asks -/
theorem pairs_at {K : PySem.W.Frag} {H : Hp} : ∀ {ys : List V} {l : Log}, DpAll K H ys (l.map dPair) → ∃ ps : List Addr, ys = ps.map V.ref ∧ Paired (fun p (kv : Key × V) => SqT K H p [kV kv.1, kv.2]) ps (kvL l)
  | _, [], h => by
    cases h
    exact ⟨[], rfl, .nil⟩
  | _, p :: l, h => by
    cases h with
    | cons h1 h2 =>
      obtain ⟨ps, e, q⟩ := pairs_at h2
      cases h1 with
      | tup hs ha =>
        cases ha with
        | cons a1 a2 =>
          cases a2 with
          | cons a3 a4 =>
            cases a1
            cases a3
            cases a4
            exact ⟨_ :: ps, by rw [e]; rfl, .cons hs q⟩
/-- a dict of a log's pairs -/
def DicV (H : Hp) (v : V) (l : Log) : Prop := ∃ d, v = .ref d ∧ H d = some (.dK (kvL l))
theorem DicV.same {H H' : Hp} {v : V} {l : Log} (s : Same H H') (h : DicV H v l) : DicV H' v l := by
  obtain ⟨d, e, q⟩ := h
  exact ⟨d, e, s _ _ q⟩
abbrev DicVs (H : Hp) : List V → List Log → Prop := Paired (DicV H)
theorem DicVs.same {H H' : Hp} (s : Same H H') : ∀ {xs : List V} {L : List Log}, DicVs H xs L → DicVs H' xs L
  | _, _, .nil => .nil
  | _, _, .cons h t => .cons (h.same s) (DicVs.same s t)
theorem DicVs.at {H : Hp} : ∀ {xs : List V} {L : List Log} {i : Nat} {x : V}, DicVs H xs L → xs[i]? = some x → ∃ l, L[i]? = some l ∧ DicV H x l
  | _, _, _, _, .nil, h => by simp at h
  | _, _, 0, _, .cons h1 _, h => by
    simp only [List.getElem?_cons_zero, Option.some.injEq] at h
    subst h
    exact ⟨_, rfl, h1⟩
  | _, _, i + 1, _, .cons _ h2, h => by
    simp only [List.getElem?_cons_succ] at h ⊢
    exact DicVs.at h2 h
theorem DicV.get {H : Hp} {d : Addr} {l : Log} (h : H d = some (.dK (kvL l))) (c : Str) : DGet H d (.str c) ((l.lookup c).map V.int) := by
  have q := DGet.k (k := Sum.inr c) h
  rw [valV_kvL] at q
  exact q
theorem lookup_mem : ∀ {l : Log} {c : Str}, (l.lookup c).isSome = true ↔ c ∈ cells l
  | [], c => by simp [cells]
  | (d, n) :: l, c => by
    rw [List.lookup_cons]
    by_cases e : c = d
    · subst e
      simp [cells]
    · have : (c == d) = false := beq_eq_false_iff_ne.mpr e
      rw [this]
      have ih := lookup_mem (l := l) (c := c)
      simp only [cells, List.map_cons, List.mem_cons] at ih ⊢
      rw [ih]
      exact ⟨.inr, fun z => z.resolve_left e⟩

/-! ### comprehensions: P says what the list so far is -/
/-- behind i turns: the list at D holds acc, of which P is true; all that stood stands -/
def Lc (H1 : Hp) (D : Addr) (P : Nat → List V → Hp → Prop) (i : Nat) (H : Hp) : Prop := Same H1 H ∧ ∃ acc, H D = some (.lst acc) ∧ acc.length ≤ i ∧ P i acc (del H D)
theorem lc_start {H1 : Hp} {D : Addr} {P : Nat → List V → Hp → Prop} (hD : H1 D = none) (h : P 0 [] H1) : Lc H1 D P 0 (upd H1 D (.lst [])) :=
  ⟨same_new hD _, [], upd_same, Nat.le_refl _, by rw [del_upd, del_new hD]; exact h⟩
theorem lc_put {H1 H4 : Hp} {D : Addr} {P : Nat → List V → Hp → Prop} {i : Nat} {acc : List V} {y : V} (hD : H1 D = none) (hi : i < 1000000) (e : H4 D = some (.lst acc)) (l : acc.length ≤ i) (s : Same H1 H4) (h : P (i + 1) (acc ++ [y]) (del H4 D)) :
    ∃ acc, H4 D = some (.lst acc) ∧ acc.length < sizeLine ∧ Lc H1 D P (i + 1) (upd H4 D (.lst (acc ++ [y]))) :=
  ⟨acc, e, by rw [sizeLine_eq]; omega, same_upd s hD, acc ++ [y], upd_same, by rw [List.length_append]; exact Nat.succ_le_succ l, by rw [del_upd]; exact h⟩
theorem lc_skip {H1 H4 : Hp} {D : Addr} {P : Nat → List V → Hp → Prop} {i : Nat} {acc : List V} (e : H4 D = some (.lst acc)) (l : acc.length ≤ i) (s : Same H1 H4) (h : P (i + 1) acc (del H4 D)) : Lc H1 D P (i + 1) H4 :=
  ⟨s, acc, e, Nat.le_succ_of_le l, h⟩
end Rd

set_option Elab.async false
set_option linter.all false
set_option maxRecDepth 100000
/-! The rules in use, the written part told by name (so that they stand in a comprehension's block, too). -/
namespace Rd
open PySem PySem.Spec PyProof.Rows L2
theorem bt_len : bootBuiltins "len" = some (.builtin "len") := by decide +kernel
theorem bt_dict : bootBuiltins "dict" = some (.type "dict") := by decide +kernel
theorem bt_tuple : bootBuiltins "tuple" = some (.type "tuple") := by decide +kernel
theorem bt_list : bootBuiltins "list" = some (.type "list") := by decide +kernel
theorem bt_set : bootBuiltins "set" = some (.type "set") := by decide +kernel
theorem bt_int : bootBuiltins "int" = some (.type "int") := by decide +kernel
theorem bt_all : bootBuiltins "all" = some (.builtin "all") := by decide +kernel
theorem bt_any : bootBuiltins "any" = some (.builtin "any") := by decide +kernel
theorem bt_sorted : bootBuiltins "sorted" = some (.builtin "sorted") := by decide +kernel
theorem bt_repr : bootBuiltins "repr" = some (.builtin "repr") := by decide +kernel
theorem bt_min : bootBuiltins "min" = some (.builtin "min") := by decide +kernel
theorem bt_abs : bootBuiltins "abs" = some (.builtin "abs") := by decide +kernel
/-- one argument -/
abbrev t1 (t : TE) : TA := tCons t tNil
/-! readings -/
def rLen (K : PySem.W.Frag) : List V → Hp → VK → Prop := fun xs H Q => ∃ p ys, xs = [.ref p] ∧ (SqL K H p ys ∨ SqT K H p ys) ∧ Q (.int ys.length) H
def rDictT (K : PySem.W.Frag) : List V → Hp → VK → Prop := fun xs H Q => ∃ (a : Addr) (ps : List Addr) (kvs : List (Key × V)), xs = [.ref a] ∧ PTup H a (ps.map V.ref) ∧ Paired (fun p kv => SqT K H p [kV kv.1, kv.2]) ps kvs ∧
    ∀ p, H p = none → Q (.ref p) (upd H p (.dK (mergeK [] kvs)))
def rDictL (K : PySem.W.Frag) : List V → Hp → VK → Prop := fun xs H Q => ∃ (a : Addr) (ps : List Addr) (kvs : List (Key × V)), xs = [.ref a] ∧ SqL K H a (ps.map V.ref) ∧ Paired (fun p kv => SqT K H p [kV kv.1, kv.2]) ps kvs ∧
    ∀ p, H p = none → Q (.ref p) (upd H p (.dK (mergeK [] kvs)))
def rTup (K : PySem.W.Frag) : List V → Hp → VK → Prop := fun vs H Q => ∃ p ys, vs = [.ref p] ∧ SqL K H p ys ∧ ∀ l H', Same H H' → PTup H' l ys → Q (.ref l) H'
def rList (K : PySem.W.Frag) : List V → Hp → VK → Prop := fun xs H Q => ∃ p ys, xs = [.ref p] ∧ (SqL K H p ys ∨ SqT K H p ys) ∧ ∀ l, H l = none → Q (.ref l) (upd H l (.lst ys))
def rSlT (K : PySem.W.Frag) : V → Option Int → Option Int → Hp → VK → Prop := fun x lo hi H Q => ∃ a xs, x = .ref a ∧ SqT K H a xs ∧ ∀ p H', Same H H' → SqT K H' p (cutV xs lo hi) → (PTup H a xs → PTup H' p (cutV xs lo hi)) → Q (.ref p) H'
def rCatP (K : PySem.W.Frag) : R2 := fun x y H Q => ∃ a b xs ys, x = .ref a ∧ y = .ref b ∧ SqT K H a xs ∧ SqT K H b ys ∧ xs.length + ys.length ≤ sizeLine ∧
    ∀ p H', Same H H' → SqT K H' p (xs ++ ys) → (PTup H a xs → PTup H b ys → PTup H' p (xs ++ ys)) → Q (.ref p) H'
def rEq0 (K : PySem.W.Frag) : R2 := fun x y H Q => ∃ a b xs, x = .ref a ∧ y = .ref b ∧ ((SqL K H a xs ∧ SqL K H b []) ∨ (SqT K H a xs ∧ SqT K H b [])) ∧ Q (.bl xs.isEmpty) H
def rNe0 (K : PySem.W.Frag) : R2 := fun x y H Q => ∃ a b xs, x = .ref a ∧ y = .ref b ∧ ((SqL K H a xs ∧ SqL K H b []) ∨ (SqT K H a xs ∧ SqT K H b [])) ∧ Q (.bl (!xs.isEmpty)) H
section
variable {X : Cx} (K : PySem.W.Frag) {e a b : Expr} {t ta tb : TE} {p pos kk : Pos}
theorem w_len (hm : X.mg "len" = none) (he : PE X e t) (hK : X.K = K := by rfl) (hg : Gl X "len" := by rfl) (h1 : starEach (e :: []) X.env = (false, eval e X.env) :: starEach [] X.env := by rfl) :
    PE X (.Call (.Name "len" p) [e] [] pos) (tCB (rLen K) (t1 t)) := by
  subst hK
  exact pe_callB call_len_seq hg hm bt_len (pa_cons he pa_nil h1) (he := h1)
theorem w_dict (hm : X.mg "dict" = none) (he : PE X e t) (hK : X.K = K := by rfl) (hc : X.calm = true := by rfl) (hg : Gl X "dict" := by rfl) (h1 : starEach (e :: []) X.env = (false, eval e X.env) :: starEach [] X.env := by rfl) :
    PE X (.Call (.Name "dict" p) [e] [] pos) (tCB (rDictT K) (t1 t)) := by
  subst hK
  exact pe_callTy (call_dictPT hc) hg hm bt_dict (pa_cons he pa_nil h1) (he := h1)
theorem w_dictL (hm : X.mg "dict" = none) (he : PE X e t) (hK : X.K = K := by rfl) (hc : X.calm = true := by rfl) (hg : Gl X "dict" := by rfl) (h1 : starEach (e :: []) X.env = (false, eval e X.env) :: starEach [] X.env := by rfl) :
    PE X (.Call (.Name "dict" p) [e] [] pos) (tCB (rDictL K) (t1 t)) := by
  subst hK
  exact pe_callTy (call_dictP hc) hg hm bt_dict (pa_cons he pa_nil h1) (he := h1)
theorem w_tup (hm : X.mg "tuple" = none) (he : PE X e t) (hK : X.K = K := by rfl) (hg : Gl X "tuple" := by rfl) (h1 : starEach (e :: []) X.env = (false, eval e X.env) :: starEach [] X.env := by rfl) :
    PE X (.Call (.Name "tuple" p) [e] [] pos) (tCB (rTup K) (t1 t)) := by
  subst hK
  exact pe_callTy cr_tupP hg hm bt_tuple (pa_cons he pa_nil h1) (he := h1)
theorem w_list (hm : X.mg "list" = none) (he : PE X e t) (hK : X.K = K := by rfl) (hg : Gl X "list" := by rfl) (h1 : starEach (e :: []) X.env = (false, eval e X.env) :: starEach [] X.env := by rfl) :
    PE X (.Call (.Name "list" p) [e] [] pos) (tCB (rList K) (t1 t)) := by
  subst hK
  exact pe_callTy call_list_of hg hm bt_list (pa_cons he pa_nil h1) (he := h1)
theorem w_all (hm : X.mg "all" = none) (he : PE X e t) (hK : X.K = K := by rfl) (hc : X.calm = true := by rfl) (hg : Gl X "all" := by rfl) (h1 : starEach (e :: []) X.env = (false, eval e X.env) :: starEach [] X.env := by rfl) :
    PE X (.Call (.Name "all" p) [e] [] pos) (tCB (rAll K) (t1 t)) := by
  subst hK
  exact pe_callB (cr_all hc) hg hm bt_all (pa_cons he pa_nil h1) (he := h1)
theorem w_any (hm : X.mg "any" = none) (he : PE X e t) (hK : X.K = K := by rfl) (hc : X.calm = true := by rfl) (hg : Gl X "any" := by rfl) (h1 : starEach (e :: []) X.env = (false, eval e X.env) :: starEach [] X.env := by rfl) :
    PE X (.Call (.Name "any" p) [e] [] pos) (tCB (rAny K) (t1 t)) := by
  subst hK
  exact pe_callB (cr_any hc) hg hm bt_any (pa_cons he pa_nil h1) (he := h1)
theorem w_sort (hu : X.A.units + 64 < cLine) (hm : X.mg "sorted" = none) (he : PE X e t) (hK : X.K = K := by rfl) (hg : Gl X "sorted" := by rfl) (h1 : starEach (e :: []) X.env = (false, eval e X.env) :: starEach [] X.env := by rfl) :
    PE X (.Call (.Name "sorted" p) [e] [] pos) (tCB (rSortZ K) (t1 t)) := by
  subst hK
  exact pe_callB (cr_sortZ hu) hg hm bt_sorted (pa_cons he pa_nil h1) (he := h1)
theorem w_setI (hm : X.mg "set" = none) (he : PE X e t) (hK : X.K = K := by rfl) (hc : X.calm = true := by rfl) (hg : Gl X "set" := by rfl) (h1 : starEach (e :: []) X.env = (false, eval e X.env) :: starEach [] X.env := by rfl) :
    PE X (.Call (.Name "set" p) [e] [] pos) (tCB (rSetI K) (t1 t)) := by
  subst hK
  exact pe_callTy (cr_setI hc) hg hm bt_set (pa_cons he pa_nil h1) (he := h1)
theorem w_ixT (ha : PE X a ta) (hb : PE X b tb) (hK : X.K = K := by rfl) (hs : PlainIx b := by exact fun _ _ => rfl) : PE X (.Subscript a b pos) (tOp (rIxT K) ta tb) := by
  subst hK
  exact pe_ix ix_tup ha hb hs
theorem w_ixL (ha : PE X a ta) (hb : PE X b tb) (hK : X.K = K := by rfl) (hs : PlainIx b := by exact fun _ _ => rfl) : PE X (.Subscript a b pos) (tOp (rIxL K) ta tb) := by
  subst hK
  exact pe_ix ix_list ha hb hs
theorem w_sl {lo hi : Option Expr} {tl th : TO} (ha : PE X a ta) (hl : PO X lo tl) (hh : PO X hi th) (hK : X.K = K := by rfl) : PE X (.Subscript a (.Slice lo hi none kk) pos) (tSl (rSlT K) ta tl th) := by
  subst hK
  exact pe_slice sl_tupP ha hl hh
theorem w_cat (ha : PE X a ta) (hb : PE X b tb) (hK : X.K = K := by rfl) : PE X (.BinOp a .Add b pos) (tOp (rCatP K) ta tb) := by
  subst hK
  exact pe_op op_catP ha hb
theorem w_eq0 (hu : X.A.units + 1 < cLine) (ha : PE X a ta) (hb : PE X b tb) (hK : X.K = K := by rfl) : PT X (.Compare a [.Eq] [b] pos) (tTest (tOp (rEq0 K) ta tb)) := by
  subst hK
  exact pt_cmpR (op_eq0 (Nat.lt_of_succ_lt hu)) ha hb (nomark _)
theorem w_ne0 (hu : X.A.units + 1 < cLine) (ha : PE X a ta) (hb : PE X b tb) (hK : X.K = K := by rfl) : PT X (.Compare a [.NotEq] [b] pos) (tTest (tOp (rNe0 K) ta tb)) := by
  subst hK
  exact pt_cmpR (op_ne0 (Nat.lt_of_succ_lt hu)) ha hb (nomark _)
theorem w_in (ha : PE X a ta) (hb : PE X b tb) (hK : X.K = K := by rfl) (hm : behindInMarks .In b = false := by rfl) : PT X (.Compare a [.In] [b] pos) (tTest (tOp (rIn K false) ta tb)) := by
  subst hK
  exact pt_cmpR op_in_seq ha hb hm
theorem w_notIn (ha : PE X a ta) (hb : PE X b tb) (hK : X.K = K := by rfl) (hm : behindInMarks .NotIn b = false := by rfl) : PT X (.Compare a [.NotIn] [b] pos) (tTest (tOp (rIn K true) ta tb)) := by
  subst hK
  exact pt_cmpR op_notIn_seq ha hb hm
theorem w_list_iter {tg : Expr} (he : PE X e t) (hK : X.K = K := by rfl) : PI X tg e (iList K t) := by
  subst hK
  exact pi_list he
theorem w_tup_iter {tg : Expr} (he : PE X e t) (hK : X.K = K := by rfl) : PI X tg e (iTup K t) := by
  subst hK
  exact pi_tup he
theorem w_tgt {es : List Expr} {k n : Nat} {ts : TGs} (h : PGs X es ts) (hK : X.K = K := by rfl) (hc : X.calm = true := by rfl) (hn : (assignEach es X.env).length = n := by rfl) (hst : (assignEach es X.env).findIdx? (·.1) = none := by rfl) :
    PG X (.Tuple es k pos) (gTup K n ts) := by
  subst hK
  exact pg_tup hc h hn hst
end
end Rd

set_option Elab.async false
set_option linter.all false
set_option maxRecDepth 100000
/-! Comprehensions that come more than once. -/
namespace Rd
open PySem PySem.Spec PyProof.Rows L2
/-- what a comprehension's reading asks once the walked thing is there -/
abbrev LcG (J : It) (g : TG) (tt : TT) (te : TE) (vs : List Nat) (σ : L2.St) (H1 : Hp) (D : Addr) (Qd : Hp → Prop) : Prop :=
  ∃ W : Nat → Nat → Hp → Prop, (∃ m, W 0 m (upd H1 D (.lst []))) ∧ ∀ i m H, W i m H →
    (J.stop i H ∧ Qd H) ∨ (J.go i H ∧ ∃ Nx : Hp → Prop, (∀ H', Nx H' → ∃ m', m' < m ∧ W (i + 1) m' H') ∧ ∀ x H', J.yld i H x H' → g x (wipe σ vs) H' fun σ2 H2 => wipe σ2 vs = wipe σ vs ∧ tt σ2 H2 fun b H3 =>
      if b = true then te σ2 H3 fun y H4 => ∃ acc, H4 D = some (.lst acc) ∧ acc.length < sizeLine ∧ Nx (upd H4 D (.lst (acc ++ [y]))) else Nx H3)
theorem wipe_set {σ : L2.St} {j : Nat} {x : V} : wipe ((wipe σ [j]).set j (some x)) [j] = wipe σ [j] := by
  show (((σ.set j none).set j (some x)).set j none) = σ.set j none
  rw [List.set_set, List.set_set]
theorem set_at {σ : L2.St} {j : Nat} {x : V} (h : j < σ.length) : ((wipe σ [j]).set j (some x))[j]? = some (some x) := by
  rw [List.getElem?_set_self (by rw [wipe_length]; exact h)]
theorem paired_take {α β : Type} {F : α → β → Prop} {acc : List α} {L : List β} {i : Nat} {x : β} {y : α} (h : Paired F acc (L.take i)) (hi : L[i]? = some x) (f : F y x) : Paired F (acc ++ [y]) (L.take (i + 1)) := by
  rw [take_next hi]
  exact h.snoc f
theorem filt_yes {α β : Type} (f : α → β) (p : α → Bool) {l : List α} {i : Nat} {x : α} (h : l[i]? = some x) (hp : p x = true) : ((l.take i).filter p).map f ++ [f x] = ((l.take (i + 1)).filter p).map f := by
  rw [take_next h, List.filter_append, List.map_append]
  simp [hp]
theorem filt_no {α β : Type} (f : α → β) (p : α → Bool) {l : List α} {i : Nat} {x : α} (h : l[i]? = some x) (hp : p x = false) : ((l.take i).filter p).map f = ((l.take (i + 1)).filter p).map f := by
  rw [take_next h, List.filter_append, List.map_append]
  simp [hp]
/-- [dict(log) for log in t] -/
theorem rd_dicts {K : PySem.W.Frag} {σ : L2.St} {j : Nat} {p D : Addr} {xs : List V} {L : List Log} {H1 : Hp} {Qd : Hp → Prop} (hj : j < σ.length) (hT : SqT K H1 p xs) (hV : LogVs K H1 xs L) (hok : LogsOk L) (hD : H1 D = none)
    (q : ∀ H2 acc, Same H1 H2 → H2 D = some (.lst acc) → DicVs (del H2 D) acc L → Qd H2) : LcG (Itt K p) (gName j) tYes (tCB (rDictT K) (t1 (tVar j))) [j] σ H1 D Qd := by
  have hl := hV.len
  have hfew := hok.few
  refine lc_tup (K := K) (a := p) (xs := xs) (Lc H1 D fun i acc H => DicVs H acc (L.take i)) (lc_start hD .nil) (fun i H' _ h => Same.seqT h.1 hT) ?_ ?_
  · rintro i y H2 hi ⟨e2, acc, eD, la, hP⟩
    obtain ⟨l, hl', hy⟩ := hV.at hi
    obtain ⟨b, ys, rfl, ht, hd⟩ := hy.same e2
    obtain ⟨ps, rfl, hps⟩ := pairs_at hd
    have hlo := hok.all l (List.mem_of_getElem? hl')
    have hi' : i < xs.length := (List.getElem?_eq_some_iff.mp hi).1
    refine ⟨wipe_set, _, set_at hj, b, ps, kvL l, rfl, ht, hps, fun d hd' => ?_⟩
    have ned : D ≠ d := ne_of_none eD hd'
    refine lc_put hD (by omega) (by rw [upd_ne ned]; exact eD) la (e2.trans (same_new hd' _)) ?_
    refine paired_take (hP.same (del_mono (same_new hd' _))) hl' ⟨d, rfl, ?_⟩
    unfold del
    rw [if_neg (Ne.symm ned), upd_same, mergeK_kvL hlo.nd]
  · rintro H2 ⟨e2, acc, eD, la, hP⟩
    rw [hl, List.take_length] at hP
    exact q H2 acc e2 eD hP
/-- [c in m for m in ms], ms a list of dicts -/
theorem rd_hasAll {K : PySem.W.Frag} {σ : L2.St} {j ic : Nat} {p D : Addr} {ds : List V} {M : List Log} {c : Str} {H1 : Hp} {Qd : Hp → Prop} (hj : j < σ.length) (hne : ic ≠ j) (hc : σ[ic]? = some (some (.str c))) (hL : SqL K H1 p ds) (hV : DicVs H1 ds M) (hfew : M.length ≤ 300) (hD : H1 D = none)
    (q : ∀ H2, Same H1 H2 → H2 D = some (.lst ((M.map fun m => (m.lookup c).isSome).map V.bl)) → Qd H2) : LcG (Itl K p) (gName j) tYes (tDIn (tVar ic) (tVar j)) [j] σ H1 D Qd := by
  have hl : ds.length = M.length := Paired.length hV
  refine lc_list (K := K) (a := p) (xs := ds) (Lc H1 D fun i acc H => acc = ((M.take i).map fun m => (m.lookup c).isSome).map V.bl) (lc_start hD rfl) (fun i H' _ h => Same.seq h.1 hL) ?_ ?_
  · rintro i y H2 hi ⟨e2, acc, eD, la, hP⟩
    obtain ⟨m, hm, hy⟩ := hV.at hi
    obtain ⟨d, rfl, hd⟩ := hy.same e2
    have hi' : i < ds.length := (List.getElem?_eq_some_iff.mp hi).1
    have hcs : ((wipe σ [j]).set j (some (V.ref d)))[ic]? = some (some (.str c)) := by
      show (((σ.set j none).set j (some (V.ref d))))[ic]? = _
      rw [List.getElem?_set_ne (Ne.symm hne), List.getElem?_set_ne (Ne.symm hne), hc]
    refine ⟨wipe_set, _, hcs, _, set_at hj, d, _, rfl, DicV.get hd c, ?_⟩
    refine lc_put hD (by omega) eD la e2 ?_
    have e : ((m.lookup c).map V.int).isSome = (m.lookup c).isSome := by cases m.lookup c <;> rfl
    rw [hP, take_next hm, List.map_append, List.map_append, e]
    rfl
  · rintro H2 ⟨e2, acc, eD, la, hP⟩
    rw [hl, List.take_length] at hP
    rw [hP] at eD
    exact q H2 e2 eD
end Rd

set_option Elab.async false
set_option linter.all false
set_option maxRecDepth 100000
namespace Rd
open PySem PySem.Spec PyProof.Rows L2
def shared : List Log → List Str
  | [] => []
  | l :: r => (cells l).filter fun c => r.all fun m => (m.lookup c).isSome
def spShared (K : PySem.W.Frag) : Sp := fun vs H Q _ => ∃ v L, vs = [v] ∧ LogsV K H v L ∧ LogsOk L ∧ ∀ r H', Same H H' → SqT K H' r ((shared L).map V.str) → Q (.ref r) H'
def PShared (l : Log) (r : List Log) : Nat → List V → Hp → Prop := fun i acc _ => acc = (((cells l).take i).filter fun c => r.all fun m => (m.lookup c).isSome).map V.str
abbrev nShared : List Str := ["logs", "others", "log", "cell", "value", "other"]
theorem scShared : FnScope nShared ["logs"] (defScope sShared) := ⟨rfl, rfl, rfl, by decide +kernel, rfl, by decide +kernel, by decide +kernel⟩
section
variable {P : Program} {w : World} {K : PySem.W.Frag} {mg : Str → Option Value} {base : Heap}
theorem cal_shared (h : Known K mg "shared_cells" sShared ["logs"]) (B : Bl mg) : Cal P w K mg base 1 "shared_cells" ["logs"] (spShared K) := h.cal fun f fd F => by
  refine F.ok scShared (fun vs H Q E h => ?_) (fun cdv A outer s H vs Q E hr h => ?_)
  · obtain ⟨v, L, rfl, _⟩ := h
    rfl
  obtain ⟨v, L, rfl, hL, hok, q⟩ := h
  have hu := hu_of hr
  refine ⟨_, pss_cons (ps_if (w_eq0 K hu (pv 0) (pe_tup pa_nil)) (pss_one (ps_ret (pe_tup pa_nil))) pss_nil)
    (pss_cons (ps_set (i := 1) scShared.nd rfl (Or.inr rfl) (pe_lc (own := [("log", 2)]) (g := gName 2) (tt := tYes) (te := tCB (rDictT K) (t1 (tVar 2))) rfl scShared.nd (w_tup_iter K (w_sl K (pv 0) (po_some pe_int) po_none))
        (blkOk_by (N := nShared) (sc := defScope sShared) (by decide +kernel)) (fun _ _ _ _ _ => pg_name (i := 2) scShared.nd rfl (Or.inl rfl)) (fun _ _ _ _ _ => pts_nil)
        (fun _ _ _ _ _ => w_dict K B.dict (pv 2))))
    (pss_one (ps_ret (w_tup K B.tuple
      (pe_lc (own := [("cell", 3), ("value", 4)]) (g := gTup K 2 (gCons (gName 3) (gCons (gName 4) gNil))) (te := tVar 3)
        (tt := tB (tCB (rAll K) (t1 (tLc (iList K (tVar 1)) (gName 5) tYes (tDIn (tVar 3) (tVar 5)) [5]))))
        rfl scShared.nd (w_tup_iter K (w_ixT K (pv 0) pe_int))
        (blkOk_by (N := nShared) (sc := defScope sShared) (by decide +kernel)) (fun _ _ _ _ _ => w_tgt K (pgs_cons (pg_name (i := 3) scShared.nd rfl (Or.inr rfl)) (pgs_cons (pg_name (i := 4) scShared.nd rfl (Or.inl rfl)) pgs_nil)))
        (fun _ _ _ _ _ => pts_one (pt_val (w_all K B.all
          (pe_lc (own := [("other", 5)]) rfl scShared.nd (w_list_iter K (pv 1)) (blkOk_by (N := nShared) (sc := relS _ (defScope sShared)) (by decide +kernel)) (fun _ _ _ _ _ => pg_name (i := 5) scShared.nd rfl (Or.inl rfl)) (fun _ _ _ _ _ => pts_nil)
            (fun _ _ _ _ _ => pe_cmp (pc_din hu (pv 3) (pv 5)) rfl)))))
        (fun _ _ _ _ _ => pv 3)))))), ?_⟩
  obtain ⟨a, xs, rfl, hT, hV⟩ := hL
  refine ⟨_, rfl, Nat.zero_le _, fun p hp => ⟨a, p, xs, rfl, rfl, .inr ⟨Same.seqT (same_new hp _) hT, .inl (.inl upd_same)⟩, _, rfl, ?_⟩⟩
  have s1 : Same H (upd H p (.tup [])) := same_new hp _
  cases hV with
  | nil => exact iteT ⟨Nat.zero_le _, fun r hr' => q r _ (s1.trans (same_new hr' _)) (.inl (.inl upd_same))⟩
  | @cons x l xs r hx hxs =>
    refine iteF ?_
    have hsz : xs.length ≤ 300 := by
      have h1 : xs.length = r.length := Paired.length hxs
      have h2 := hok.few
      rw [List.length_cons] at h2
      omega
    have hokr : LogsOk r := hok.sub (List.sublist_cons_self l r)
    have hlo := hok.all l List.mem_cons_self
    refine ⟨_, rfl, 1, rfl, a, _, rfl, Same.seqT s1 hT, fun p1 H1 e1 hs1 _ => ?_⟩
    have ecut : cutV (x :: xs) (some 1) none = xs := by
      unfold cutV
      show List.take ((xs.length + 1) - min 1 (xs.length + 1)) (List.drop (min 1 (xs.length + 1)) (x :: xs)) = xs
      rw [show min 1 (xs.length + 1) = 1 by omega, List.drop_succ_cons, List.drop_zero, show xs.length + 1 - 1 = xs.length by omega, List.take_length]
    rw [ecut] at hs1
    have e01 : Same H H1 := s1.trans e1
    refine ⟨p1, rfl, ⟨_, hs1⟩, fun D hD => rd_dicts (L := r) (show 2 < 6 by decide) hs1 (LogVs.same e01 hxs) hokr hD fun H2 ds e12 hDs hdv => ?_⟩
    have e02 : Same H H2 := e01.trans e12
    have hdv2 : DicVs H2 ds r := hdv.same del_same
    -- the comprehension over the first log
    obtain ⟨b, ys, rfl, ht, hd⟩ := hx
    have hlen : ys.length = l.length := by
      have := DpAll.len hd
      rw [List.length_map] at this
      exact this
    refine ⟨_, rfl, a, _, 0, _, rfl, rfl, Same.seqT e02 hT, atI_nat (by rfl), b, rfl, ⟨ys, (ht.same e02).sq⟩, fun D3 hD3 => ?_⟩
    have hd2 := dps_same e02 _ _ hd
    refine lc_tup (K := K) (a := b) (xs := ys) (Lc H2 D3 (PShared l r)) (lc_start hD3 rfl) (fun i H' _ h => Same.seqT h.1 (ht.same e02).sq) ?_ ?_
    · rintro i y H3 hi ⟨e3, acc, eD, la, hP⟩
      obtain ⟨dd, hdd, hy⟩ := DpAll.get hd2 hi
      rw [List.getElem?_map] at hdd
      obtain ⟨pr, hpr, rfl⟩ := Option.map_eq_some_iff.mp hdd
      have hi' : i < ys.length := (List.getElem?_eq_some_iff.mp hi).1
      have hsh := hlo.short
      cases dp_same e3 _ _ hy with
      | @tup aa zs _ hsq hall =>
        cases hall with
        | cons h1 h2 =>
          cases h2 with
          | cons h3 h4 =>
            cases h1
            cases h3
            cases h4
            refine ⟨aa, _, rfl, hsq, rfl, _, _, rfl, _, _, rfl, rfl, rfl, ?_⟩
            have hcell : (cells l)[i]? = some pr.1 := by
              unfold cells
              rw [List.getElem?_map, hpr]
              rfl
            refine ⟨_, rfl, D, rfl, ⟨_, .inl (.inl (e3 _ _ hDs))⟩, fun D4 hD4 => rd_hasAll (M := r) (c := pr.1) (show 5 < 6 by decide) (show 3 ≠ 5 by decide) rfl (.inl (.inl (e3 _ _ hDs))) (hdv2.same e3) hokr.few hD4 fun H4 e4 hD4' => ?_⟩
            refine ⟨D4, _, rfl, .inl (.inl hD4'), _, rfl, ?_⟩
            have eD4 := e4 _ _ eD
            have hall : ((r.map fun m => (m.lookup pr.1).isSome).all id) = r.all fun m => (m.lookup pr.1).isSome := by
              rw [List.all_map]
              rfl
            rw [hall]
            cases hb : r.all fun m => (m.lookup pr.1).isSome with
            | true => exact ⟨_, rfl, lc_put hD3 (by omega) eD4 la (e3.trans e4) ((congrArg (· ++ [V.str pr.1]) hP).trans (filt_yes V.str (fun c => r.all fun m => (m.lookup c).isSome) hcell hb))⟩
            | false => exact (show Lc H2 D3 (PShared l r) (i + 1) H4 from lc_skip eD4 la (e3.trans e4) (hP.trans (filt_no V.str (fun c => r.all fun m => (m.lookup c).isSome) hcell hb)))
    · rintro H3 ⟨e3, acc, eD, la, hP⟩
      have hcl : ys.length = (cells l).length := by
        unfold cells
        rw [List.length_map, hlen]
      have hP : acc = (((cells l).take ys.length).filter fun c => r.all fun m => (m.lookup c).isSome).map V.str := hP
      rw [hcl, List.take_length] at hP
      refine ⟨D3, _, rfl, .inl (.inl eD), fun r4 H4 e4 t4 => ?_⟩
      rw [hP] at t4
      exact q r4 H4 (e02.trans (e3.trans e4)) t4.sq
end
end Rd

set_option Elab.async false
set_option linter.all false
set_option maxRecDepth 100000
namespace Rd
open PySem PySem.Spec PyProof.Rows L2
/-! ### unread_shared -/
def unread (L : List Log) (done : List Str) : List Str := (shared L).filter fun c => !decide (c ∈ done)
theorem inV_str (c : Str) : ∀ done : List Str, inV (.str c) (done.map V.str) = decide (c ∈ done)
  | [] => by simp [inV]
  | d :: r => by
    have ih := inV_str c r
    unfold inV at ih ⊢
    rw [List.map_cons, List.any_cons, ih]
    show ((d == c) || decide (c ∈ r)) = decide (c ∈ d :: r)
    by_cases e : d = c
    · subst e; simp
    · have h1 : (d == c) = false := beq_eq_false_iff_ne.mpr e
      have h2 : ¬ c = d := fun q => e q.symm
      rw [h1, Bool.false_or]
      simp [h2]
theorem flat_strs : ∀ done : List Str, (done.map V.str).all flatV = true
  | [] => rfl
  | d :: r => by
    rw [List.map_cons, List.all_cons, flat_strs r]
    rfl
def spUnread (K : PySem.W.Frag) : Sp := fun vs H Q _ => ∃ v L a done, vs = [v, .ref a] ∧ LogsV K H v L ∧ LogsOk L ∧ SqT K H a (done.map V.str) ∧ ∀ r H', Same H H' → H' r = some (.lst ((unread L done).map V.str)) → Q (.ref r) H'
abbrev nUnread : List Str := ["logs", "done", "cell"]
theorem scUnread : FnScope nUnread ["logs", "done"] (defScope sUnread) := ⟨rfl, rfl, rfl, by decide +kernel, rfl, by decide +kernel, by decide +kernel⟩
theorem shared_len {L : List Log} (h : LogsOk L) : (shared L).length ≤ 8 := by
  cases L with
  | nil => exact Nat.zero_le _
  | cons l r =>
    have h1 := (h.all l List.mem_cons_self).short
    have h2 : (shared (l :: r)).length ≤ (cells l).length := List.length_filter_le _ _
    unfold cells at h2
    rw [List.length_map] at h2
    omega
def PFil (cs : List Str) (p : Str → Bool) : Nat → List V → Hp → Prop := fun i acc _ => acc = ((cs.take i).filter p).map V.str
section
variable {P : Program} {w : World} {K : PySem.W.Frag} {mg : Str → Option Value} {base : Heap}
theorem cal_unread (h : Known K mg "unread_shared" sUnread ["logs", "done"]) (C : Cal P w K mg base 1 "shared_cells" ["logs"] (spShared K)) : Cal P w K mg base 2 "unread_shared" ["logs", "done"] (spUnread K) := h.cal fun f fd F => by
  refine F.ok scUnread (fun vs H Q E h => ?_) (fun cdv A outer s H vs Q E hr h => ?_)
  · obtain ⟨v, L, a, done, rfl, _⟩ := h
    rfl
  obtain ⟨v, L, a, done, rfl, hL, hok, hd, q⟩ := h
  refine ⟨_, pss_one (ps_ret (pe_lc (own := [("cell", 2)]) (g := gName 2) (tt := tTest (tOp (rIn K true) (tVar 2) (tVar 1))) (te := tVar 2) rfl scUnread.nd (w_tup_iter K (C.call hr (pa_cons (pv 0) pa_nil)))
        (blkOk_by (N := nUnread) (sc := defScope sUnread) (by decide +kernel)) (fun _ _ _ _ _ => pg_name (i := 2) scUnread.nd rfl (Or.inl rfl)) (fun _ _ _ _ _ => pts_one (w_notIn K (pv 2) (pv 1)))
        (fun _ _ _ _ _ => pv 2))), ?_⟩
  have hs8 := shared_len hok
  refine ⟨_, rfl, v, L, rfl, hL, hok, fun r H1 e1 hr1 => ⟨r, rfl, ⟨_, hr1⟩, fun D hD => ?_⟩⟩
  refine lc_tup (K := K) (a := r) (xs := (shared L).map V.str) (Lc H1 D (PFil (shared L) fun c => !decide (c ∈ done))) (lc_start hD rfl) (fun i H' _ h => Same.seqT h.1 hr1) ?_ ?_
  · rintro i y H2 hi ⟨e2, acc, eD, la, hP⟩
    rw [List.getElem?_map] at hi
    obtain ⟨c, hc, rfl⟩ := Option.map_eq_some_iff.mp hi
    have hi' : i < (shared L).length := (List.getElem?_eq_some_iff.mp hc).1
    refine ⟨rfl, _, rfl, _, rfl, a, _, rfl, .inr (Same.seqT (e1.trans e2) hd), rfl, flat_strs done, _, rfl, ?_⟩
    show if (!inV (.str c) (done.map V.str)) = true then _ else _
    rw [inV_str]
    cases hb : (!decide (c ∈ done)) with
    | true => exact ⟨_, rfl, lc_put hD (by omega) eD la e2 ((congrArg (· ++ [V.str c]) hP).trans (filt_yes V.str (fun c => !decide (c ∈ done)) hc hb))⟩
    | false => exact (show Lc H1 D (PFil (shared L) fun c => !decide (c ∈ done)) (i + 1) H2 from lc_skip eD la e2 (hP.trans (filt_no V.str (fun c => !decide (c ∈ done)) hc hb)))
  · rintro H2 ⟨e2, acc, eD, la, hP⟩
    have hP : acc = (((shared L).take ((shared L).map V.str).length).filter fun c => !decide (c ∈ done)).map V.str := hP
    rw [List.length_map, List.take_length] at hP
    rw [hP] at eD
    exact q D H2 (e1.trans e2) eD
end
end Rd

set_option Elab.async false
set_option linter.all false
set_option maxRecDepth 100000
namespace Rd
open PySem PySem.Spec PyProof.Rows L2
/-! ### how many different ints -/
theorem dedup_fold : ∀ (ns acc : List Int), acc.Nodup → (ns.foldl step_dedup acc).Nodup ∧ ∀ x, x ∈ ns.foldl step_dedup acc ↔ x ∈ acc ∨ x ∈ ns
  | [], acc, h => ⟨h, fun x => by simp⟩
  | n :: ns, acc, h => by
    rw [List.foldl_cons]
    by_cases c : acc.any (· == n) = true
    · have e : step_dedup acc n = acc := by unfold step_dedup; rw [if_pos c]
      rw [e]
      obtain ⟨h1, h2⟩ := dedup_fold ns acc h
      refine ⟨h1, fun x => (h2 x).trans ?_⟩
      obtain ⟨y, hy, ey⟩ := List.any_eq_true.mp c
      have : y = n := beq_iff_eq.mp ey
      subst this
      simp only [List.mem_cons]
      constructor
      · rintro (z | z)
        · exact .inl z
        · exact .inr (.inr z)
      · rintro (z | z | z)
        · exact .inl z
        · rw [z]; exact .inl hy
        · exact .inr z
    · have e : step_dedup acc n = acc ++ [n] := by unfold step_dedup; rw [if_neg c]
      have hn : n ∉ acc := fun z => c (List.any_eq_true.mpr ⟨n, z, beq_self_eq_true n⟩)
      rw [e]
      obtain ⟨h1, h2⟩ := dedup_fold ns (acc ++ [n]) (by
        rw [List.nodup_append]
        exact ⟨h, by simp, fun a ha b hb e => hn (by rw [List.mem_singleton.mp hb] at e; rw [← e]; exact ha)⟩)
      refine ⟨h1, fun x => (h2 x).trans ?_⟩
      rw [List.mem_append, List.mem_singleton, List.mem_cons, or_assoc]
theorem fewer_eq (ns : List Int) : fewer ns = ns.foldl step_dedup [] := by
  unfold fewer firstMet
  have : (List.range ns.length).map (fun i => ns.getD i 0) = ns := by
    apply List.ext_getElem
    · simp
    · intro i h1 h2
      simp [List.getD_eq_getElem?_getD, List.getElem?_eq_getElem h2]
  rw [this]
theorem fewer_two (ns : List Int) : 1 < (fewer ns).length ↔ ∃ x ∈ ns, ∃ y ∈ ns, x ≠ y := by
  rw [fewer_eq]
  obtain ⟨h1, h2⟩ := dedup_fold ns [] List.nodup_nil
  generalize ns.foldl step_dedup [] = ds at h1 h2
  have h3 : ∀ x, x ∈ ds ↔ x ∈ ns := fun x => (h2 x).trans (by simp)
  constructor
  · intro h
    match ds, h1, h3, h with
    | x :: y :: r, h1, h3, _ =>
      refine ⟨x, (h3 x).mp List.mem_cons_self, y, (h3 y).mp (List.mem_cons_of_mem _ List.mem_cons_self), fun e => ?_⟩
      rw [List.nodup_cons] at h1
      exact h1.1 (by rw [e]; exact List.mem_cons_self)
  · rintro ⟨x, hx, y, hy, ne⟩
    have hx := (h3 x).mpr hx
    have hy := (h3 y).mpr hy
    match ds, hx, hy with
    | [z], hx, hy => exact absurd ((List.mem_singleton.mp hx).trans (List.mem_singleton.mp hy).symm) ne
    | _ :: _ :: _, _, _ => exact Nat.succ_lt_succ (Nat.succ_pos _)
/-! ### splitting_cells -/
def vl (l : Log) (c : Str) : Int := (l.lookup c).getD 0
def twoV (L : List Log) (c : Str) : Bool := decide (1 < (fewer (L.map fun l => vl l c)).length)
def splitting (L : List Log) : List Str := (shared L).filter (twoV L)
theorem mem_shared {L : List Log} {c : Str} (h : c ∈ shared L) : ∀ l ∈ L, (l.lookup c).isSome = true := by
  cases L with
  | nil => cases h
  | cons l r =>
    obtain ⟨h1, h2⟩ := List.mem_filter.mp h
    intro m hm
    rcases List.mem_cons.mp hm with e | e
    · rw [e]; exact lookup_mem.mpr h1
    · exact List.all_eq_true.mp h2 m e
theorem shared_mem {L : List Log} {c : Str} (hne : L ≠ []) (h : ∀ l ∈ L, (l.lookup c).isSome = true) : c ∈ shared L := by
  cases L with
  | nil => exact absurd rfl hne
  | cons l r => exact List.mem_filter.mpr ⟨lookup_mem.mp (h l List.mem_cons_self), List.all_eq_true.mpr fun m hm => h m (List.mem_cons_of_mem _ hm)⟩
theorem vl_get {l : Log} {c : Str} (h : (l.lookup c).isSome = true) : l.lookup c = some (vl l c) := by
  unfold vl
  cases e : l.lookup c with
  | none => rw [e] at h; cases h
  | some v => rfl
def spSplit (K : PySem.W.Frag) : Sp := fun vs H Q _ => ∃ v L, vs = [v] ∧ LogsV K H v L ∧ LogsOk L ∧ ∀ r H', Same H H' → SqT K H' r ((splitting L).map V.str) → Q (.ref r) H'
abbrev nSplit : List Str := ["logs", "maps", "log", "cell", "one"]
theorem scSplit : FnScope nSplit ["logs"] (defScope sSplit) := ⟨rfl, rfl, rfl, by decide +kernel, rfl, by decide +kernel, by decide +kernel⟩
/-- [m[c] for m in ms] -/
theorem rd_vals {K : PySem.W.Frag} {σ : L2.St} {j ic : Nat} {p D : Addr} {ds : List V} {M : List Log} {c : Str} {H1 : Hp} {Qd : Hp → Prop} (hj : j < σ.length) (hne : ic ≠ j) (hc : σ[ic]? = some (some (.str c))) (hL : SqL K H1 p ds) (hV : DicVs H1 ds M) (hfew : M.length ≤ 300) (hD : H1 D = none)
    (hall : ∀ m ∈ M, (m.lookup c).isSome = true)
    (q : ∀ H2, Same H1 H2 → H2 D = some (.lst ((M.map fun m => vl m c).map V.int)) → Qd H2) : LcG (Itl K p) (gName j) tYes (tDGet (tVar j) (tVar ic)) [j] σ H1 D Qd := by
  have hl : ds.length = M.length := Paired.length hV
  refine lc_list (K := K) (a := p) (xs := ds) (Lc H1 D fun i acc H => acc = ((M.take i).map fun m => vl m c).map V.int) (lc_start hD rfl) (fun i H' _ h => Same.seq h.1 hL) ?_ ?_
  · rintro i y H2 hi ⟨e2, acc, eD, la, hP⟩
    obtain ⟨m, hm, hy⟩ := hV.at hi
    obtain ⟨d, rfl, hd⟩ := hy.same e2
    have hi' : i < ds.length := (List.getElem?_eq_some_iff.mp hi).1
    have hcs : ((wipe σ [j]).set j (some (V.ref d)))[ic]? = some (some (.str c)) := by
      show (((σ.set j none).set j (some (V.ref d))))[ic]? = _
      rw [List.getElem?_set_ne (Ne.symm hne), List.getElem?_set_ne (Ne.symm hne), hc]
    have hg := DicV.get hd c
    rw [vl_get (hall m (List.mem_of_getElem? hm))] at hg
    refine ⟨wipe_set, _, set_at hj, _, hcs, d, .int (vl m c), rfl, hg, ?_⟩
    refine lc_put hD (by omega) eD la e2 ?_
    rw [hP, take_next hm, List.map_append, List.map_append]
    rfl
  · rintro H2 ⟨e2, acc, eD, la, hP⟩
    rw [hl, List.take_length] at hP
    rw [hP] at eD
    exact q H2 e2 eD
section
variable {P : Program} {w : World} {K : PySem.W.Frag} {mg : Str → Option Value} {base : Heap}
theorem cal_split (h : Known K mg "splitting_cells" sSplit ["logs"]) (B : Bl mg) (C : Cal P w K mg base 1 "shared_cells" ["logs"] (spShared K)) : Cal P w K mg base 2 "splitting_cells" ["logs"] (spSplit K) := h.cal fun f fd F => by
  refine F.ok scSplit (fun vs H Q E h => ?_) (fun cdv A outer s H vs Q E hr h => ?_)
  · obtain ⟨v, L, rfl, _⟩ := h
    rfl
  obtain ⟨v, L, rfl, hL, hok, q⟩ := h
  have hu := hu_of hr
  refine ⟨_, pss_cons (ps_set (i := 1) scSplit.nd rfl (Or.inr rfl) (pe_lc (own := [("log", 2)]) (g := gName 2) (tt := tYes) (te := tCB (rDictT K) (t1 (tVar 2))) rfl scSplit.nd (w_tup_iter K (pv 0))
        (blkOk_by (N := nSplit) (sc := defScope sSplit) (by decide +kernel)) (fun _ _ _ _ _ => pg_name (i := 2) scSplit.nd rfl (Or.inl rfl)) (fun _ _ _ _ _ => pts_nil)
        (fun _ _ _ _ _ => w_dict K B.dict (pv 2))))
    (pss_one (ps_ret (w_tup K B.tuple
      (pe_lc (own := [("cell", 3)]) (g := gName 3) (te := tVar 3)
        (tt := tTest (tOp (rI0 fun i j => .bl (decide (j < i))) (tCB (fun xs H Q => ∃ a S n, xs = [.ref a] ∧ H a = some (.set S n) ∧ Q (.int (n : Nat)) H) (t1 (tCB (rSetI K) (t1 (tLc (iList K (tVar 1)) (gName 4) tYes (tDGet (tVar 4) (tVar 3)) [4]))))) (tC (.int 1))))
        rfl scSplit.nd (w_tup_iter K (C.call hr (pa_cons (pv 0) pa_nil)))
        (blkOk_by (N := nSplit) (sc := defScope sSplit) (by decide +kernel)) (fun _ _ _ _ _ => pg_name (i := 3) scSplit.nd rfl (Or.inr rfl))
        (fun _ _ _ _ _ => pts_one (pt_cmpR op_gt (pe_callB call_lenSet (by rfl) B.len bt_len (pa_cons (w_setI K B.set
          (pe_lc (own := [("one", 4)]) rfl scSplit.nd (w_list_iter K (pv 1)) (blkOk_by (N := nSplit) (sc := relS _ (defScope sSplit)) (by decide +kernel)) (fun _ _ _ _ _ => pg_name (i := 4) scSplit.nd rfl (Or.inl rfl)) (fun _ _ _ _ _ => pts_nil)
            (fun _ _ _ _ _ => pe_dget hu (pv 4) (pv 3) (fun _ _ => rfl)))) pa_nil)) pe_int (nomark _)))
        (fun _ _ _ _ _ => pv 3))))), ?_⟩
  obtain ⟨a, xs, rfl, hT, hV⟩ := hL
  have hs8 := shared_len hok
  refine ⟨_, rfl, a, rfl, ⟨_, hT⟩, fun D hD => rd_dicts (L := L) (show 2 < 5 by decide) hT hV hok hD fun H2 ds e2 hDs hdv => ?_⟩
  have hdv2 : DicVs H2 ds L := hdv.same del_same
  refine ⟨_, rfl, _, L, rfl, ⟨a, xs, rfl, Same.seqT e2 hT, hV.same e2⟩, hok, fun r H3 e3 hr3 => ⟨r, rfl, ⟨_, hr3⟩, fun D3 hD3 => ?_⟩⟩
  refine lc_tup (K := K) (a := r) (xs := (shared L).map V.str) (Lc H3 D3 (PFil (shared L) (twoV L))) (lc_start hD3 rfl) (fun i H' _ h => Same.seqT h.1 hr3) ?_ ?_
  · rintro i y H4 hi ⟨e4, acc, eD, la, hP⟩
    rw [List.getElem?_map] at hi
    obtain ⟨c, hc, rfl⟩ := Option.map_eq_some_iff.mp hi
    have hi' : i < (shared L).length := (List.getElem?_eq_some_iff.mp hc).1
    have hcm : c ∈ shared L := List.mem_of_getElem? hc
    have e34 : Same H2 H4 := e3.trans e4
    refine ⟨rfl, _, rfl, D, rfl, ⟨_, .inl (.inl (e34 _ _ hDs))⟩, fun D5 hD5 => rd_vals (M := L) (c := c) (show 4 < 5 by decide) (show 3 ≠ 4 by decide) rfl (.inl (.inl (e34 _ _ hDs))) (hdv2.same e34) hok.few hD5 (mem_shared hcm) fun H5 e5 hD5' => ?_⟩
    refine ⟨D5, _, rfl, .inl (.inl hD5'), by rw [List.length_map]; have := hok.few; omega, fun p S hp => ?_⟩
    refine ⟨p, S, _, rfl, upd_same, _, _, rfl, rfl, _, rfl, ?_⟩
    have e45 : Same H4 (upd H5 p (.set S (fewer (L.map fun m => vl m c)).length)) := e5.trans (same_new hp _)
    have eD4 := e45 _ _ eD
    have hb2 : (decide ((1 : Int) < (((fewer (L.map fun m => vl m c)).length : Nat) : Int))) = twoV L c := by
      unfold twoV
      by_cases z : 1 < (fewer (L.map fun l => vl l c)).length
      · rw [decide_eq_true z, decide_eq_true (by omega)]
      · rw [decide_eq_false z, decide_eq_false (by omega)]
    rw [hb2]
    cases hb : twoV L c with
    | true => exact ⟨_, rfl, lc_put hD3 (by omega) eD4 la (e4.trans e45) ((congrArg (· ++ [V.str c]) hP).trans (filt_yes V.str (twoV L) hc hb))⟩
    | false => exact (show Lc H3 D3 (PFil (shared L) (twoV L)) (i + 1) _ from lc_skip eD4 la (e4.trans e45) (hP.trans (filt_no V.str (twoV L) hc hb)))
  · rintro H4 ⟨e4, acc, eD, la, hP⟩
    have hP : acc = (((shared L).take ((shared L).map V.str).length).filter (twoV L)).map V.str := hP
    rw [List.length_map, List.take_length] at hP
    rw [hP] at eD
    exact ⟨D3, _, rfl, .inl (.inl eD), fun r4 H5 e5 t5 => q r4 H5 (e2.trans (e3.trans (e4.trans e5))) t5.sq⟩
end
end Rd

set_option Elab.async false
set_option linter.all false
set_option maxRecDepth 100000
namespace Rd
open PySem PySem.Spec PyProof.Rows L2
/-! ### dicts from ints to objects -/
abbrev Gd := List (Int × Addr)
def kvI (g : Gd) : List (Key × V) := g.map fun p => (Sum.inl p.1, V.ref p.2)
theorem valV_kvI : ∀ (g : Gd) (n : Int), valV (kvI g) (Sum.inl n) = (g.lookup n).map V.ref
  | [], n => rfl
  | (m, a) :: r, n => by
    show valV ((Sum.inl m, V.ref a) :: kvI r) (Sum.inl n) = _
    by_cases e : m = n
    · subst e
      rw [valV_pos rfl, List.lookup_cons, beq_self_eq_true]
      rfl
    · rw [valV_neg (fun q => e (Sum.inl.inj q)), valV_kvI r n, List.lookup_cons]
      have : (n == m) = false := beq_eq_false_iff_ne.mpr (Ne.symm e)
      rw [this]
theorem kvI_keys (g : Gd) : (kvI g).map (·.1) = (g.map (·.1)).map Sum.inl := by
  unfold kvI
  rw [List.map_map, List.map_map]
  rfl
theorem lookup_none {g : Gd} {n : Int} : g.lookup n = none ↔ n ∉ g.map (·.1) := by
  induction g with
  | nil => simp
  | cons p r ih =>
    obtain ⟨m, a⟩ := p
    rw [List.lookup_cons]
    by_cases e : n = m
    · subst e
      simp
    · have : (n == m) = false := beq_eq_false_iff_ne.mpr e
      rw [this]
      simp only [List.map_cons, List.mem_cons, not_or]
      rw [ih]
      exact ⟨fun h => ⟨e, h⟩, fun h => h.2⟩
theorem lookup_in {g : Gd} {n : Int} {a : Addr} (h : g.lookup n = some a) : (n, a) ∈ g := by
  induction g with
  | nil => cases h
  | cons p r ih =>
    obtain ⟨m, b⟩ := p
    rw [List.lookup_cons] at h
    by_cases e : n = m
    · subst e
      rw [beq_self_eq_true] at h
      have := Option.some.inj h
      rw [this]
      exact List.mem_cons_self
    · have z : (n == m) = false := beq_eq_false_iff_ne.mpr e
      rw [z] at h
      exact List.mem_cons_of_mem _ (ih h)
theorem in_lookup {g : Gd} {n : Int} {a : Addr} (nd : (g.map (·.1)).Nodup) (h : (n, a) ∈ g) : g.lookup n = some a := by
  induction g with
  | nil => cases h
  | cons p r ih =>
    obtain ⟨m, b⟩ := p
    rw [List.map_cons, List.nodup_cons] at nd
    rw [List.lookup_cons]
    rcases List.mem_cons.mp h with e | h
    · cases e
      rw [beq_self_eq_true]
    · have ne : n ≠ m := fun e => nd.1 (List.mem_map.mpr ⟨_, h, e⟩)
      have z : (n == m) = false := beq_eq_false_iff_ne.mpr ne
      rw [z]
      exact ih nd.2 h
theorem five {ks : List Int} (nd : ks.Nodup) (h : ∀ n ∈ ks, 0 ≤ n ∧ n < 5) : ks.length ≤ 5 := by
  have := nat_nodup_len (ks.map Int.toNat) (List.range 5) (by
    rw [List.nodup_iff_pairwise_ne, List.pairwise_map]
    refine List.Pairwise.imp_of_mem (fun {a b} ha hb ne e => ne ?_) nd
    have := h a ha
    have := h b hb
    omega) fun x hx => by
      obtain ⟨n, hn, e⟩ := List.mem_map.mp hx
      have := h n hn
      exact List.mem_range.mpr (by omega)
  rw [List.length_map, List.length_range] at this
  exact this
theorem del_keep {H : Hp} {D a : Addr} {o : HO} (h : H a = some o) (ne : a ≠ D) : del H D a = some o := by
  unfold del
  rw [if_neg ne]
  exact h
theorem PTup.del {H : Hp} {D a : Addr} {xs acc : List V} (h : PTup H a xs) (hD : H D = some (.lst acc)) : PTup (del H D) a xs := by
  obtain ⟨o, e1, e2⟩ := h
  exact ⟨o, del_keep e1 (ne_of e1 hD (by intro z; cases z)), e2⟩
theorem mem_of_lookup : ∀ {l : Log} {c : Str} {v : Int}, l.lookup c = some v → (c, v) ∈ l
  | [], _, _, h => by cases h
  | (d, n) :: r, c, v, h => by
    rw [List.lookup_cons] at h
    by_cases e : c = d
    · subst e
      rw [beq_self_eq_true] at h
      rw [← Option.some.inj h]
      exact List.mem_cons_self
    · have z : (c == d) = false := beq_eq_false_iff_ne.mpr e
      rw [z] at h
      exact List.mem_cons_of_mem _ (mem_of_lookup h)
theorem vl_range {l : Log} {c : Str} (h : LogOk l) (hc : (l.lookup c).isSome = true) : 0 ≤ vl l c ∧ vl l c < 5 := h.vals _ (mem_of_lookup (vl_get hc))
/-! ### parts_by -/
/-- the logs of one value -/
def part (L : List Log) (c : Str) (n : Int) : List Log := L.filter fun l => vl l c == n
def PartV (K : PySem.W.Frag) (H : Hp) (L : List Log) (c : Str) (y : V) (n : Int) : Prop := ∃ p g, y = .ref p ∧ SqT K H p [.int n, g] ∧ LogsV K H g (part L c n)
theorem PartV.same {K : PySem.W.Frag} {H H' : Hp} {L : List Log} {c : Str} {y : V} {n : Int} (s : Same H H') (h : PartV K H L c y n) : PartV K H' L c y n := by
  obtain ⟨p, g, e, t, l⟩ := h
  exact ⟨p, g, e, Same.seqT s t, l.same s⟩
/-- these are the values of a cell, each once -/
structure ValsOf (L : List Log) (c : Str) (ns : List Int) : Prop where
  nd : ns.Nodup
  mem : ∀ n, n ∈ ns ↔ ∃ l ∈ L, vl l c = n
def spParts (K : PySem.W.Frag) : Sp := fun vs H Q _ => ∃ v c L, vs = [v, .str c] ∧ LogsV K H v L ∧ LogsOk L ∧ c ∈ shared L ∧
  ∀ r H' ys ns, Same H H' → H' r = some (.lst ys) → Paired (PartV K H' L c) ys ns → ValsOf L c ns → ns.length ≤ 5 → Q (.ref r) H'
abbrev nParts : List Str := ["logs", "cell", "parts", "log", "value"]
theorem scParts : FnScope nParts ["logs", "cell"] (defScope sParts) := ⟨rfl, rfl, rfl, by decide +kernel, rfl, by decide +kernel, by decide +kernel⟩
/-- the dict of parts behind i logs -/
structure PartsAt (K : PySem.W.Frag) (H H' : Hp) (d : Addr) (L : List Log) (c : Str) (i : Nat) (g : Gd) : Prop where
  same : Same H H'
  at_ : H' d = some (.dK (kvI g))
  nd : (g.map (·.1)).Nodup
  ndA : (g.map (·.2)).Nodup
  lists : ∀ p ∈ g, H p.2 = none ∧ ∃ xs, H' p.2 = some (.lst xs) ∧ LogVs K H xs (part (L.take i) c p.1)
  mem : ∀ n, n ∈ g.map (·.1) ↔ ∃ l ∈ L.take i, vl l c = n
theorem part_next {L : List Log} {c : Str} {i : Nat} {l : Log} {n : Int} (h : L[i]? = some l) : part (L.take (i + 1)) c n = part (L.take i) c n ++ (if vl l c = n then [l] else []) := by
  unfold part
  rw [take_next h, List.filter_append]
  congr 1
  by_cases e : vl l c = n
  · rw [if_pos e]
    simp [e]
  · rw [if_neg e]
    simp [e]
def PPart (K : PySem.W.Frag) (L : List Log) (c : Str) (ns : List Int) : Nat → List V → Hp → Prop := fun i acc H => Paired (PartV K H L c) acc (ns.take i)
theorem parts_same {K : PySem.W.Frag} {H H' : Hp} {L : List Log} {c : Str} (s : Same H H') : ∀ {ys : List V} {ns : List Int}, Paired (PartV K H L c) ys ns → Paired (PartV K H' L c) ys ns
  | _, _, .nil => .nil
  | _, _, .cons h t => .cons (h.same s) (parts_same s t)
section
variable {P : Program} {w : World} {K : PySem.W.Frag} {mg : Str → Option Value} {base : Heap}
theorem cal_parts (h : Known K mg "parts_by" sParts ["logs", "cell"]) (B : Bl mg) : Cal P w K mg base 1 "parts_by" ["logs", "cell"] (spParts K) := h.cal fun f fd F => by
  refine F.ok scParts (fun vs H Q E h => ?_) (fun cdv A outer s H vs Q E hr h => ?_)
  · obtain ⟨v, c, L, rfl, _⟩ := h
    rfl
  obtain ⟨v, c, L, rfl, hL, hok, hcs, q⟩ := h
  have hu := hu_of hr
  refine ⟨_, pss_cons (ps_set (i := 2) scParts.nd rfl (Or.inr rfl) pe_dnewK)
    (pss_cons (ps_for PassesOwn.never rfl (w_tup_iter K (pv 0)) (pg_name (i := 3) scParts.nd rfl (Or.inl rfl))
      (pss_one (ps_expr (pe_bm PySem.F.plainAttrs_list PySem.F.slot_list_append PySem.F.type_list_append mt_append
        (pe_dsetd (pv 2) (pe_dget hu (w_dict K B.dict (pv 3)) (pv 1) (fun _ _ => rfl)) (pe_lst pa_nil) ⟨rfl, rfl, rfl, rfl⟩) (pa_cons (pv 3) pa_nil)))))
    (pss_one (ps_ret (pe_lc (own := [("value", 4)]) (g := gName 4) (tt := tYes)
        (te := tTup (tCons (tVar 4) (tCons (tCB (rTup K) (t1 (tDGet (tVar 2) (tVar 4)))) tNil))) rfl scParts.nd (w_list_iter K (pe_callB (call_sortedDI rfl) (by rfl) B.sorted bt_sorted (pa_cons (pv 2) pa_nil)))
        (blkOk_by (N := nParts) (sc := defScope sParts) (by decide +kernel)) (fun _ _ _ _ _ => pg_name (i := 4) scParts.nd rfl (Or.inl rfl)) (fun _ _ _ _ _ => pts_nil)
        (fun _ _ _ _ _ => pe_tup (pa_cons (pv 4) (pa_cons (w_tup K B.tuple (pe_dget hu (pv 2) (pv 4) (fun _ _ => rfl))) pa_nil))))))), ?_⟩
  obtain ⟨a, xs, rfl, hT, hV⟩ := hL
  have hlen : xs.length = L.length := hV.len
  have hfew := hok.few
  intro d hd
  have s1 : Same H (upd H d (.dK [])) := same_new hd _
  refine ⟨_, rfl, a, rfl, ⟨_, Same.seqT s1 hT⟩, for_tup (K := K) (a := a) (xs := xs) (fun i σ H' => ∃ (g : Gd) (z : Option V), σ = [some (.ref a), some (.str c), some (.ref d), z, none] ∧ PartsAt K H H' d L c i g) ?_ ?_ ?_ ?_⟩
  · exact ⟨[], none, rfl, ⟨s1, upd_same, List.nodup_nil, List.nodup_nil, (fun p hp => by cases hp), fun n => by simp⟩⟩
  · rintro i σ H' _ ⟨g, z, _, G⟩
    exact Same.seqT G.same hT
  · rintro i y σ H' hi ⟨g, z, rfl, G⟩
    obtain ⟨l, hl, hy⟩ := hV.at hi
    have hlm : l ∈ L := List.mem_of_getElem? hl
    have hi' : i < xs.length := (List.getElem?_eq_some_iff.mp hi).1
    obtain ⟨b, ys, rfl, ht, hdp⟩ := id (hy.same G.same)
    obtain ⟨ps, rfl, hps⟩ := pairs_at hdp
    have hlo := hok.all l hlm
    refine ⟨_, rfl, d, rfl, .inl ⟨_, .inl G.at_⟩, _, rfl, b, ps, kvL l, rfl, ht, hps, fun dd hdd => ?_⟩
    rw [mergeK_kvL hlo.nd]
    have hg := DicV.get (H := upd H' dd (.dK (kvL l))) (d := dd) (l := l) upd_same c
    rw [vl_get (mem_shared hcs l hlm)] at hg
    refine ⟨_, rfl, dd, .int (vl l c), rfl, hg, Nat.zero_le _, fun e he => ?_⟩
    have s2 : Same H' (upd (upd H' dd (.dK (kvL l))) e (.lst [])) := (same_new hdd _).trans (same_new he _)
    have ned : d ≠ e := ne_of_none (same_new hdd _ _ _ G.at_) he
    have hd3 := s2 _ _ G.at_
    have hfewg : (kvI g).length ≤ 300 := by
      have h5 : (g.map (·.1)).length ≤ 5 := five G.nd fun n hn => by
        obtain ⟨m, hm, e⟩ := (G.mem n).mp hn
        have hmo := (hok.all m (List.mem_of_mem_take hm)).vals
        rw [← e]
        have hv := vl_get (mem_shared hcs m (List.mem_of_mem_take hm))
        have := mem_of_lookup hv
        exact hmo _ this
      unfold kvI
      rw [List.length_map]
      rw [List.length_map] at h5
      omega
    refine ⟨kvI g, Sum.inl (vl l c), hd3, rfl, by rw [sizeLine_eq]; omega, fun v hv => ?_, fun hn => ?_⟩
    · rw [valV_kvI] at hv
      obtain ⟨av, hav, rfl⟩ := Option.map_eq_some_iff.mp hv
      have hin := lookup_in hav
      obtain ⟨h0, zs, hzs, hvs⟩ := G.lists _ hin
      have hzs3 := s2 _ _ hzs
      have hzl : zs.length ≤ 300 := by
        have h1 : zs.length = (part (L.take i) c (vl l c)).length := hvs.len
        have h2 : (part (L.take i) c (vl l c)).length ≤ (L.take i).length := List.length_filter_le _ _
        rw [List.length_take] at h2
        omega
      refine ⟨.inl ⟨rfl, _, SqL.of hzs3⟩, _, rfl, av, zs, _, rfl, rfl, hzs3, by rw [sizeLine_eq]; omega, g, _, rfl, ⟨same_upd (G.same.trans s2) h0, ?_, G.nd, G.ndA, fun p hp => ?_, fun n => ?_⟩⟩
      · rw [upd_ne (ne_of hd3 hzs3 (by intro z; cases z))]
        exact hd3
      · obtain ⟨h0', zs', hzs', hvs'⟩ := G.lists p hp
        refine ⟨h0', ?_⟩
        rw [part_next hl]
        by_cases e : p.2 = av
        · have ep : p = (vl l c, av) := by
            have hnd := G.ndA
            have : ∀ (g : Gd), (g.map (·.2)).Nodup → p ∈ g → (vl l c, av) ∈ g → p = (vl l c, av) := by
              intro g
              induction g with
              | nil => intro _ h; cases h
              | cons q r ih =>
                intro nd h1 h2
                rw [List.map_cons, List.nodup_cons] at nd
                rcases List.mem_cons.mp h1 with e1 | e1
                · rcases List.mem_cons.mp h2 with e2 | e2
                  · rw [e1, e2]
                  · exact absurd (List.mem_map.mpr ⟨_, e2, by rw [← e1]; exact e.symm⟩) nd.1
                · rcases List.mem_cons.mp h2 with e2 | e2
                  · exact absurd (List.mem_map.mpr ⟨_, e1, by rw [← e2]; exact e⟩) nd.1
                  · exact ih nd.2 e1 e2
            exact this g hnd hp hin
          subst ep
          have ez : zs' = zs := by
            have := hzs'.symm.trans hzs
            injection this with this
            injection this
          subst ez
          refine ⟨_, upd_same, ?_⟩
          rw [if_pos rfl]
          exact hvs'.app (.cons hy .nil)
        · refine ⟨zs', by rw [upd_ne e]; exact s2 _ _ hzs', ?_⟩
          have hne : ¬ vl l c = p.1 := fun e2 => by
            have := in_lookup G.nd (show (p.1, p.2) ∈ g from hp)
            rw [← e2, hav] at this
            exact e (Option.some.inj this).symm
          rw [if_neg hne, List.append_nil]
          exact hvs'
      · rw [G.mem n, take_next hl]
        constructor
        · rintro ⟨m, hm, e⟩
          exact ⟨m, List.mem_append_left _ hm, e⟩
        · rintro ⟨m, hm, e⟩
          rcases List.mem_append.mp hm with z | z
          · exact ⟨m, z, e⟩
          · rw [List.mem_singleton.mp z] at e
            obtain ⟨m', hm', e'⟩ := (G.mem (vl l c)).mp (List.mem_map.mpr ⟨_, hin, rfl⟩)
            exact ⟨m', hm', e'.trans e⟩
    · rw [valV_kvI] at hn
      have hnn : g.lookup (vl l c) = none := by
        cases z : g.lookup (vl l c) with
        | none => rfl
        | some _ => rw [z] at hn; cases hn
      have hno := lookup_none.mp hnn
      have hput : putK (kvI g) (Sum.inl (vl l c)) (V.ref e) = kvI (g ++ [(vl l c, e)]) := by
        rw [putK_new (by
          rw [kvI_keys]
          intro z
          obtain ⟨m, hm, em⟩ := List.mem_map.mp z
          exact hno (by rw [← Sum.inl.inj em]; exact hm))]
        unfold kvI
        rw [List.map_append]
        rfl
      rw [hput]
      have he0 : H e = none := by
        cases z : H e with
        | none => rfl
        | some o =>
          have := (same_new hdd (.dK (kvL l))) _ _ (G.same _ _ z)
          rw [he] at this
          cases this
      have hee : (upd (upd (upd H' dd (.dK (kvL l))) e (.lst [])) d (.dK (kvI (g ++ [(vl l c, e)])))) e = some (.lst []) := by
        rw [upd_ne (Ne.symm ned), upd_same]
      refine ⟨.inl ⟨rfl, _, SqL.of hee⟩, _, rfl, e, [], _, rfl, rfl, hee, by decide, g ++ [(vl l c, e)], _, rfl, ⟨same_upd (same_upd (G.same.trans s2) hd) he0, ?_, ?_, ?_, fun p hp => ?_, fun n => ?_⟩⟩
      · rw [upd_ne ned, upd_same]
      · rw [List.map_append, List.nodup_append]
        exact ⟨G.nd, by simp, fun a ha b hb e2 => hno (by have eb : b = vl l c := List.mem_singleton.mp hb; have ea := e2.trans eb; rw [← ea]; exact ha)⟩
      · rw [List.map_append, List.nodup_append]
        refine ⟨G.ndA, by simp, fun a ha b hb e2 => ?_⟩
        rw [List.mem_singleton.mp hb] at e2
        obtain ⟨p, hp, ep⟩ := List.mem_map.mp ha
        obtain ⟨_, zs, hzs, _⟩ := G.lists p hp
        rw [ep, e2] at hzs
        have := same_new hdd (.dK (kvL l)) _ _ hzs
        rw [he] at this
        cases this
      · rw [part_next hl]
        rcases List.mem_append.mp hp with z | z
        · obtain ⟨h0', zs', hzs', hvs'⟩ := G.lists p z
          have hne : ¬ vl l c = p.1 := fun e2 => hno (by rw [e2]; exact List.mem_map.mpr ⟨p, z, rfl⟩)
          have nep : p.2 ≠ e := ne_of_none (same_new hdd _ _ _ hzs') he
          have npd : p.2 ≠ d := fun e2 => by
            rw [e2, G.at_] at hzs'
            cases hzs'
          rw [if_neg hne, List.append_nil]
          exact ⟨h0', zs', by rw [upd_ne nep, upd_ne npd]; exact s2 _ _ hzs', hvs'⟩
        · rw [List.mem_singleton.mp z]
          refine ⟨he0, _, upd_same, ?_⟩
          have hemp : part (L.take i) c (vl l c) = [] := by
            unfold part
            rw [List.filter_eq_nil_iff]
            intro m hm e2
            exact hno ((G.mem _).mpr ⟨m, hm, beq_iff_eq.mp e2⟩)
          rw [hemp, if_pos rfl]
          exact .cons hy .nil
      · rw [List.map_append, List.mem_append, G.mem n, take_next hl]
        constructor
        · rintro (⟨m, hm, e⟩ | z)
          · exact ⟨m, List.mem_append_left _ hm, e⟩
          · exact ⟨l, List.mem_append_right _ List.mem_cons_self, (List.mem_singleton.mp z).symm⟩
        · rintro ⟨m, hm, e⟩
          rcases List.mem_append.mp hm with z | z
          · exact .inl ⟨m, z, e⟩
          · rw [List.mem_singleton.mp z] at e
            exact .inr (by rw [← e]; exact List.mem_cons_self)
  · rintro σ H' ⟨g, z, rfl, G⟩
    have hxl : L.take xs.length = L := by rw [hlen, List.take_length]
    have h5 : (g.map (·.1)).length ≤ 5 := five G.nd fun n hn => by
      obtain ⟨m, hm, e⟩ := (G.mem n).mp hn
      have hmL : m ∈ L := List.mem_of_mem_take hm
      rw [← e]
      exact vl_range (hok.all m hmL) (mem_shared hcs m hmL)
    refine ⟨_, rfl, d, kvI g, g.map (·.1), rfl, .inl G.at_, kvI_keys g, by omega, fun ns p perm _ hp => ⟨p, rfl, ⟨_, .inl (.inl upd_same)⟩, fun D hD => ?_⟩⟩
    have s2 : Same H' (upd H' p (.lst (ns.map V.int))) := same_new hp _
    have hnl : ns.length = (g.map (·.1)).length := perm.length_eq
    refine lc_list (K := K) (a := p) (xs := ns.map V.int) (Lc _ D (PPart K L c ns)) (lc_start hD .nil) (fun i H'' _ h => .inl (.inl (h.1 _ _ upd_same))) ?_ ?_
    · rintro i y H3 hi ⟨e3, acc, eD, la, hP⟩
      rw [List.getElem?_map] at hi
      obtain ⟨n, hn, rfl⟩ := Option.map_eq_some_iff.mp hi
      have hi' : i < ns.length := (List.getElem?_eq_some_iff.mp hn).1
      have hmem : n ∈ g.map (·.1) := perm.mem_iff.mp (List.mem_of_getElem? hn)
      obtain ⟨pp, hpp, epp⟩ := List.mem_map.mp hmem
      obtain ⟨n', av⟩ := pp
      have epp : n' = n := epp
      subst epp
      obtain ⟨h0, zs, hzs, hvs⟩ := G.lists _ hpp
      rw [hxl] at hvs
      have sA : Same H' H3 := s2.trans e3
      have hg := DGet.k (k := Sum.inl n') (sA _ _ G.at_)
      rw [valV_kvI, in_lookup G.nd hpp] at hg
      refine ⟨rfl, _, rfl, _, rfl, _, rfl, d, V.ref av, rfl, hg, av, zs, rfl, .inl (.inl (sA _ _ hzs)), fun pt H4 e4 t4 => ?_⟩
      refine ⟨by rw [sizeLine_eq]; show 2 ≤ _; omega, fun pr hpr => ?_⟩
      have eD4 := e4 _ _ eD
      have s4 : Same H3 (upd H4 pr (.tup [V.int n', V.ref pt])) := e4.trans (same_new hpr _)
      refine lc_put hD (by omega) (by rw [upd_ne (ne_of_none eD4 hpr)]; exact eD4) la (e3.trans s4) ?_
      have sD : Same (del H3 D) (del (upd H4 pr (.tup [V.int n', V.ref pt])) D) := del_mono s4
      refine paired_take (parts_same sD hP) hn ⟨pr, V.ref pt, rfl, .inl (.inl ?_), pt, zs, rfl, ?_, ?_⟩
      · exact del_keep upd_same (Ne.symm (ne_of_none eD4 hpr))
      · exact (PTup.del ((t4.same (same_new hpr _))) (s4 _ _ eD)).sq
      · exact hvs.same (G.same.trans (s2.trans (same_del (e3.trans s4) hD)))
    · rintro H3 ⟨e3, acc, eD, la, hP⟩
      have hP : Paired (PartV K _ L c) acc (ns.take (ns.map V.int).length) := hP
      rw [List.length_map, List.take_length] at hP
      refine q D H3 acc ns (G.same.trans (s2.trans e3)) eD (parts_same del_same hP) ⟨?_, fun n => ?_⟩ (by omega)
      · exact perm.nodup_iff.mpr G.nd
      · rw [perm.mem_iff, G.mem n, hxl]
end
end Rd

set_option Elab.async false
set_option linter.all false
set_option maxRecDepth 100000
namespace Rd
open PySem PySem.Spec PyProof.Rows L2
/-! ### stuck groups -/
def Flat (G : List Log) : Prop := ∀ c ∈ shared G, ∀ l ∈ G, ∀ m ∈ G, vl l c = vl m c
def Stuck (G : List Log) : Prop := 2 ≤ G.length ∧ Flat G
def NoStuck (L : List Log) : Prop := ∀ G : List Log, G.Sublist L → ¬ Stuck G
theorem NoStuck.sub {L M : List Log} (h : NoStuck L) (s : M.Sublist L) : NoStuck M := fun G g => h G (g.trans s)
theorem twoV_iff {L : List Log} {c : Str} : twoV L c = true ↔ ∃ l ∈ L, ∃ m ∈ L, vl l c ≠ vl m c := by
  unfold twoV
  rw [decide_eq_true_iff, fewer_two]
  constructor
  · rintro ⟨x, hx, y, hy, ne⟩
    obtain ⟨l, hl, rfl⟩ := List.mem_map.mp hx
    obtain ⟨m, hm, rfl⟩ := List.mem_map.mp hy
    exact ⟨l, hl, m, hm, ne⟩
  · rintro ⟨l, hl, m, hm, ne⟩
    exact ⟨_, List.mem_map.mpr ⟨l, hl, rfl⟩, _, List.mem_map.mpr ⟨m, hm, rfl⟩, ne⟩
theorem flat_iff {L : List Log} : splitting L = [] ↔ Flat L := by
  unfold splitting Flat
  rw [List.filter_eq_nil_iff]
  constructor
  · intro h c hc l hl m hm
    by_cases e : vl l c = vl m c
    · exact e
    · exact absurd (twoV_iff.mpr ⟨l, hl, m, hm, e⟩) (h c hc)
  · intro h c hc z
    obtain ⟨l, hl, m, hm, ne⟩ := twoV_iff.mp z
    exact ne (h c hc l hl m hm)
theorem mem_split {L : List Log} {c : Str} (h : c ∈ splitting L) : c ∈ shared L ∧ ∃ l ∈ L, ∃ m ∈ L, vl l c ≠ vl m c :=
  ⟨(List.mem_filter.mp h).1, twoV_iff.mp (List.mem_filter.mp h).2⟩
theorem shared_sub {L G : List Log} {c : Str} (s : G.Sublist L) (hne : G ≠ []) (h : c ∈ shared L) : c ∈ shared G := shared_mem hne fun l hl => mem_shared h l (s.mem hl)
theorem part_sub (L : List Log) (c : Str) (n : Int) : (part L c n).Sublist L := List.filter_sublist
theorem mem_part {L : List Log} {c : Str} {n : Int} {l : Log} : l ∈ part L c n ↔ l ∈ L ∧ vl l c = n := by
  unfold part
  rw [List.mem_filter]
  simp
theorem stuck_part {L G : List Log} {c : Str} (h : c ∈ shared L) (s : G.Sublist L) (st : Stuck G) : ∃ l ∈ L, G.Sublist (part L c (vl l c)) := by
  have hne : G ≠ [] := by intro z; rw [z] at st; exact absurd st.1 (by decide)
  obtain ⟨l, hl⟩ := List.exists_mem_of_ne_nil G hne
  have hf := st.2 c (shared_sub s hne h)
  refine ⟨l, s.mem hl, ?_⟩
  have e : G = G.filter fun m => vl m c == vl l c := by
    symm
    rw [List.filter_eq_self]
    intro m hm
    exact beq_iff_eq.mpr (hf m hm l hl)
  rw [e]
  exact s.filter _
theorem part_ne {L : List Log} {c : Str} {n : Int} (h : ∃ l ∈ L, vl l c = n) : part L c n ≠ [] := by
  obtain ⟨l, hl, e⟩ := h
  intro z
  have := mem_part.mpr ⟨hl, e⟩
  rw [z] at this
  cases this
theorem sum_bump (f : Int → Nat) (v : Int) : ∀ (ns : List Int), ns.Nodup → (ns.map fun n => f n + if v = n then 1 else 0).sum = (ns.map f).sum + if v ∈ ns then 1 else 0
  | [], _ => rfl
  | n :: r, h => by
    rw [List.nodup_cons] at h
    rw [List.map_cons, List.map_cons, List.sum_cons, List.sum_cons, sum_bump f v r h.2]
    by_cases e : v = n
    · subst e
      rw [if_pos rfl, if_neg h.1, if_pos List.mem_cons_self]
      omega
    · rw [if_neg e]
      by_cases m : v ∈ r
      · rw [if_pos m, if_pos (List.mem_cons_of_mem _ m)]
        omega
      · rw [if_neg m, if_neg (fun z => (List.mem_cons.mp z).elim e m)]
        omega
theorem sum_zero : ∀ ns : List Int, (ns.map fun _ => 0).sum = 0
  | [] => rfl
  | _ :: r => by
    rw [List.map_cons, List.sum_cons, sum_zero r]
theorem sum_parts {c : Str} {ns : List Int} (nd : ns.Nodup) : ∀ (L : List Log), (∀ l ∈ L, vl l c ∈ ns) → (ns.map fun n => (part L c n).length).sum = L.length
  | [], _ => by
    have : (fun n : Int => (part [] c n).length) = fun _ => 0 := rfl
    rw [this]
    exact sum_zero ns
  | l :: L, h => by
    have e : (fun n : Int => (part (l :: L) c n).length) = fun n => (part L c n).length + if vl l c = n then 1 else 0 := by
      funext n
      unfold part
      by_cases z : vl l c = n
      · simp [z]
      · simp [z]
    rw [e, sum_bump _ _ ns nd, sum_parts nd L fun m hm => h m (List.mem_cons_of_mem _ hm), if_pos (h l List.mem_cons_self)]
    rfl
/-- what a waiting list of groups still costs -/
def cost (ws : List (List Log)) : Nat := (ws.map fun g => 2 * g.length - 1).sum
def size (ws : List (List Log)) : Nat := (ws.map List.length).sum
theorem cost_app (a b : List (List Log)) : cost (a ++ b) = cost a + cost b := by unfold cost; rw [List.map_append, List.sum_append]
theorem size_app (a b : List (List Log)) : size (a ++ b) = size a + size b := by unfold size; rw [List.map_append, List.sum_append]
theorem len_size : ∀ {ws : List (List Log)}, (∀ g ∈ ws, g ≠ []) → ws.length ≤ size ws
  | [], _ => Nat.le_refl _
  | g :: r, h => by
    have ih := len_size (ws := r) fun x hx => h x (List.mem_cons_of_mem _ hx)
    have : 0 < g.length := List.length_pos_iff.mpr (h g List.mem_cons_self)
    show r.length + 1 ≤ size (g :: r)
    have e : size (g :: r) = g.length + size r := rfl
    omega
theorem cost_size : ∀ {ws : List (List Log)}, (∀ g ∈ ws, g ≠ []) → cost ws + ws.length = 2 * size ws
  | [], _ => rfl
  | g :: r, h => by
    have ih := cost_size (ws := r) fun x hx => h x (List.mem_cons_of_mem _ hx)
    have : 0 < g.length := List.length_pos_iff.mpr (h g List.mem_cons_self)
    have e1 : cost (g :: r) = (2 * g.length - 1) + cost r := rfl
    have e2 : size (g :: r) = g.length + size r := rfl
    have e3 : (g :: r).length = r.length + 1 := rfl
    omega
structure ValsOf' (L : List Log) (c : Str) (ns : List Int) : Prop where
  two : 2 ≤ ns.length
  size : size (ns.map (part L c)) = L.length
  ne : ∀ g ∈ ns.map (part L c), g ≠ []
  sub : ∀ g ∈ ns.map (part L c), g.Sublist L
theorem ValsOf.more {L : List Log} {c : Str} {ns : List Int} (h : ValsOf L c ns) (hc : c ∈ splitting L) : ValsOf' L c ns := by
  obtain ⟨hs, l, hl, m, hm, ne⟩ := mem_split hc
  refine ⟨?_, ?_, fun g hg => ?_, fun g hg => ?_⟩
  · have h1 := (h.mem (vl l c)).mpr ⟨l, hl, rfl⟩
    have h2 := (h.mem (vl m c)).mpr ⟨m, hm, rfl⟩
    match ns, h1, h2 with
    | [z], h1, h2 => exact absurd ((List.mem_singleton.mp h1).trans (List.mem_singleton.mp h2).symm) ne
    | _ :: _ :: _, _, _ => exact Nat.succ_le_succ (Nat.succ_le_succ (Nat.zero_le _))
  · unfold Rd.size
    rw [List.map_map]
    exact sum_parts h.nd L fun l hl => (h.mem _).mpr ⟨l, hl, rfl⟩
  · obtain ⟨n, hn, rfl⟩ := List.mem_map.mp hg
    exact part_ne ((h.mem n).mp hn)
  · obtain ⟨n, hn, rfl⟩ := List.mem_map.mp hg
    exact part_sub _ _ _
/-- the loop that splits groups -/
structure Bk (L : List Log) (found ws : List (List Log)) : Prop where
  sub : ∀ g, g ∈ found ∨ g ∈ ws → g.Sublist L
  ne : ∀ g, g ∈ found ∨ g ∈ ws → g ≠ []
  done : ∀ g ∈ found, Flat g
  cov : ∀ G : List Log, G.Sublist L → Stuck G → ∃ B, (B ∈ found ∨ B ∈ ws) ∧ G.Sublist B
  sum : found.length + size ws ≤ L.length
theorem Bk.start {L : List Log} (h : L ≠ []) : Bk L [] [L] := by
  refine ⟨fun g hg => ?_, fun g hg => ?_, fun g hg => (by cases hg), fun G s st => ⟨L, .inr List.mem_cons_self, s⟩, by simp [size]⟩
  · rcases hg with hg | hg
    · cases hg
    · rw [List.mem_singleton.mp hg]; exact List.Sublist.refl _
  · rcases hg with hg | hg
    · cases hg
    · rw [List.mem_singleton.mp hg]; exact h
theorem Bk.nil : Bk [] [] [] := by
  refine ⟨fun g hg => ?_, fun g hg => ?_, fun g hg => (by cases hg), fun G s st => ?_, Nat.le_refl _⟩
  · rcases hg with hg | hg
    · cases hg
    · cases hg
  · rcases hg with hg | hg
    · cases hg
    · cases hg
  · rw [List.sublist_nil.mp s] at st
    exact absurd st.1 (by decide)
theorem Bk.find {L : List Log} {found ws : List (List Log)} {g : List Log} (h : Bk L found (ws ++ [g])) (f : Flat g) : Bk L (found ++ [g]) ws := by
  have key : ∀ x, x ∈ found ++ [g] ∨ x ∈ ws → x ∈ found ∨ x ∈ ws ++ [g] := by
    intro x hx
    simp only [List.mem_append, List.mem_singleton] at hx ⊢
    rcases hx with (a | a) | a
    · exact .inl a
    · exact .inr (.inr a)
    · exact .inr (.inl a)
  refine ⟨fun x hx => h.sub x (key x hx), fun x hx => h.ne x (key x hx), fun x hx => ?_, fun G s st => ?_, ?_⟩
  · rcases List.mem_append.mp hx with a | a
    · exact h.done x a
    · rw [List.mem_singleton.mp a]; exact f
  · obtain ⟨B, hB, sB⟩ := h.cov G s st
    refine ⟨B, ?_, sB⟩
    simp only [List.mem_append, List.mem_singleton] at hB ⊢
    rcases hB with a | a | a
    · exact .inl (.inl a)
    · exact .inr a
    · exact .inl (.inr a)
  · have := h.sum
    rw [size_app] at this
    have e : size [g] = g.length := by simp [size]
    have hp : 0 < g.length := List.length_pos_iff.mpr (h.ne g (.inr (by simp)))
    rw [List.length_append, List.length_singleton]
    omega
/-- a group that no longer matters -/
theorem Bk.dropOne {L : List Log} {found ws : List (List Log)} {g : List Log} (h : Bk L found (ws ++ [g])) (f : g.length ≤ 1) : Bk L found ws := by
  have key : ∀ x, x ∈ found ∨ x ∈ ws → x ∈ found ∨ x ∈ ws ++ [g] := fun x hx => hx.imp_right fun a => List.mem_append_left _ a
  refine ⟨fun x hx => h.sub x (key x hx), fun x hx => h.ne x (key x hx), h.done, fun G s st => ?_, ?_⟩
  · obtain ⟨B, hB, sB⟩ := h.cov G s st
    refine ⟨B, ?_, sB⟩
    rcases hB with a | a
    · exact .inl a
    · rcases List.mem_append.mp a with a | a
      · exact .inr a
      · rw [List.mem_singleton.mp a] at sB
        have := sB.length_le
        have := st.1
        omega
  · have := h.sum
    rw [size_app] at this
    omega
theorem Bk.split {L : List Log} {found ws : List (List Log)} {g : List Log} (h : Bk L found (ws ++ [g])) {c : Str} {ns : List Int} (hc : c ∈ splitting g) (v : ValsOf g c ns) :
    Bk L found (ws ++ ns.map (part g c)) ∧ cost (ws ++ ns.map (part g c)) < cost (ws ++ [g]) := by
  have m := v.more hc
  have hg : g.Sublist L := h.sub g (.inr (by simp))
  refine ⟨⟨fun x hx => ?_, fun x hx => ?_, h.done, fun G s st => ?_, ?_⟩, ?_⟩
  · rcases hx with a | a
    · exact h.sub x (.inl a)
    · rcases List.mem_append.mp a with a | a
      · exact h.sub x (.inr (List.mem_append_left _ a))
      · exact (m.sub x a).trans hg
  · rcases hx with a | a
    · exact h.ne x (.inl a)
    · rcases List.mem_append.mp a with a | a
      · exact h.ne x (.inr (List.mem_append_left _ a))
      · exact m.ne x a
  · obtain ⟨B, hB, sB⟩ := h.cov G s st
    rcases hB with a | a
    · exact ⟨B, .inl a, sB⟩
    · rcases List.mem_append.mp a with a | a
      · exact ⟨B, .inr (List.mem_append_left _ a), sB⟩
      · rw [List.mem_singleton.mp a] at sB
        obtain ⟨l, hl, sp⟩ := stuck_part (mem_split hc).1 sB st
        exact ⟨_, .inr (List.mem_append_right _ (List.mem_map.mpr ⟨vl l c, (v.mem _).mpr ⟨l, hl, rfl⟩, rfl⟩)), sp⟩
  · have := h.sum
    rw [size_app] at this ⊢
    have e : size [g] = g.length := by simp [size]
    have := m.size
    omega
  · rw [cost_app, cost_app]
    have e1 := cost_size m.ne
    rw [m.size, List.length_map] at e1
    have e2 : cost [g] = 2 * g.length - 1 := by simp [cost]
    have := m.two
    have hp : 0 < g.length := List.length_pos_iff.mpr (h.ne g (.inr (by simp)))
    omega
theorem cost_pop {ws : List (List Log)} {g : List Log} (h : g ≠ []) : cost ws < cost (ws ++ [g]) := by
  rw [cost_app]
  have e2 : cost [g] = 2 * g.length - 1 := by simp [cost]
  have hp : 0 < g.length := List.length_pos_iff.mpr h
  omega
theorem Bk.none {L : List Log} {found : List (List Log)} (h : Bk L found []) (s : ∀ g ∈ found, g.length ≤ 1) : NoStuck L := fun G sg st => by
  obtain ⟨B, hB, sB⟩ := h.cov G sg st
  rcases hB with a | a
  · have := sB.length_le
    have := s B a
    have := st.1
    omega
  · cases a
theorem last_pop {α : Type} {xs : List α} (h : xs ≠ []) : ∃ ys x, xs = ys ++ [x] ∧ xs[xs.length - 1]? = some x ∧ xs.dropLast = ys := by
  refine ⟨xs.dropLast, xs.getLast h, (List.dropLast_concat_getLast h).symm, ?_, rfl⟩
  rw [List.getElem?_eq_getElem (by have := List.length_pos_iff.mpr h; omega), List.getLast_eq_getElem]
theorem Paired.unsnoc {α β : Type} {F : α → β → Prop} : ∀ {xs : List α} {ys : List β} {x : α}, Paired F (xs ++ [x]) ys → ∃ zs y, ys = zs ++ [y] ∧ Paired F xs zs ∧ F x y
  | [], _, _, .cons h .nil => ⟨[], _, rfl, .nil, h⟩
  | _ :: _, _, _, .cons h t => by
    obtain ⟨zs, y, e, p, f⟩ := Paired.unsnoc t
    exact ⟨_ :: zs, y, by rw [e]; rfl, .cons h p, f⟩
theorem Paired.append {α β : Type} {F : α → β → Prop} : ∀ {xs xs' : List α} {ys ys' : List β}, Paired F xs ys → Paired F xs' ys' → Paired F (xs ++ xs') (ys ++ ys')
  | _, _, _, _, .nil, h => h
  | _, _, _, _, .cons h t, h' => .cons h (Paired.append t h')
theorem Paired.perm {α β : Type} {F : α → β → Prop} {xs xs' : List α} (p : xs'.Perm xs) : ∀ {ys : List β}, Paired F xs ys → ∃ ys', ys'.Perm ys ∧ Paired F xs' ys' := by
  induction p with
  | nil => intro ys h; cases h; exact ⟨[], .refl _, .nil⟩
  | cons x _ ih =>
    intro ys h
    cases h with
    | cons h t =>
      obtain ⟨zs, pz, hz⟩ := ih t
      exact ⟨_ :: zs, pz.cons _, .cons h hz⟩
  | swap x y l =>
    intro ys h
    cases h with
    | cons h t =>
      cases t with
      | cons h2 t => exact ⟨_, .swap _ _ _, .cons h2 (.cons h t)⟩
  | trans _ _ ih1 ih2 =>
    intro ys h
    obtain ⟨zs, pz, hz⟩ := ih2 h
    obtain ⟨zs', pz', hz'⟩ := ih1 hz
    exact ⟨zs', pz'.trans pz, hz'⟩
theorem Paired.mono {α β : Type} {F G : α → β → Prop} (h : ∀ x y, F x y → G x y) : ∀ {xs : List α} {ys : List β}, Paired F xs ys → Paired G xs ys
  | _, _, .nil => .nil
  | _, _, .cons a t => .cons (h _ _ a) (Paired.mono h t)
theorem Paired.at {α β : Type} {F : α → β → Prop} : ∀ {xs : List α} {ys : List β} {i : Nat} {x : α}, Paired F xs ys → xs[i]? = some x → ∃ y, ys[i]? = some y ∧ F x y
  | _, _, _, _, .nil, h => by simp at h
  | _, _, 0, _, .cons h1 _, h => by
    simp only [List.getElem?_cons_zero, Option.some.injEq] at h
    subst h
    exact ⟨_, rfl, h1⟩
  | _, _, i + 1, _, .cons _ h2, h => by
    simp only [List.getElem?_cons_succ] at h ⊢
    exact Paired.at h2 h
end Rd

set_option Elab.async false
set_option linter.all false
set_option maxRecDepth 100000
namespace Rd
open PySem PySem.Spec PyProof.Rows L2
open PySem.W (AllAlike Sortable dataLe)
/-! ### what never changes: tuples -/
def SameT (H H' : Hp) : Prop := (∀ a xs, H a = some (.tup xs) → H' a = some (.tup xs)) ∧ ∀ a o xs, H a = some (.frz o (.tup xs)) → H' a = some (.frz o (.tup xs))
theorem SameT.of {H H' : Hp} (s : Same H H') : SameT H H' := ⟨fun a xs h => s _ _ h, fun a o xs h => s _ _ h⟩
theorem SameT.trans {H H' H'' : Hp} (s : SameT H H') (t : SameT H' H'') : SameT H H'' := ⟨fun a xs h => t.1 _ _ (s.1 _ _ h), fun a o xs h => t.2 _ _ _ (s.2 _ _ _ h)⟩
theorem sameT_upd {H : Hp} {D : Addr} {acc : List V} {o : HO} (h : H D = some (.lst acc)) : SameT H (upd H D o) :=
  ⟨fun a xs q => by rw [upd_ne (ne_of q h (by intro z; cases z))]; exact q, fun a ob xs q => by rw [upd_ne (ne_of q h (by intro z; cases z))]; exact q⟩
theorem sameT_updD {H : Hp} {D : Addr} {kvs : List (Key × V)} {o : HO} (h : H D = some (.dK kvs)) : SameT H (upd H D o) :=
  ⟨fun a xs q => by rw [upd_ne (ne_of q h (by intro z; cases z))]; exact q, fun a ob xs q => by rw [upd_ne (ne_of q h (by intro z; cases z))]; exact q⟩
theorem sameT_del {H : Hp} {D : Addr} {acc : List V} (h : H D = some (.lst acc)) : SameT H (del H D) :=
  ⟨fun a xs q => del_keep q (ne_of q h (by intro z; cases z)), fun a ob xs q => del_keep q (ne_of q h (by intro z; cases z))⟩
theorem SqT.sameT {K : PySem.W.Frag} {H H' : Hp} {a : Addr} {xs : List V} (s : SameT H H') (h : SqT K H a xs) : SqT K H' a xs := by
  rcases h with (h | ⟨o, h⟩) | h
  · exact .inl (.inl (s.1 _ _ h))
  · exact .inl (.inr ⟨o, s.2 _ _ _ h⟩)
  · exact .inr h
theorem PTup.sameT {H H' : Hp} {a : Addr} {xs : List V} (s : SameT H H') (h : PTup H a xs) : PTup H' a xs := by
  obtain ⟨o, e1, e2⟩ := h
  exact ⟨o, s.2 _ _ _ e1, e2⟩
theorem pairs_sameT {K : PySem.W.Frag} {H H' : Hp} (s : SameT H H') : ∀ {l : Log} {ys : List V}, DpAll K H ys (l.map dPair) → DpAll K H' ys (l.map dPair)
  | [], _, h => by cases h; exact .nil
  | p :: l, _, h => by
    cases h with
    | cons h1 h2 =>
      refine .cons ?_ (pairs_sameT s h2)
      cases h1 with
      | tup hs ha =>
        refine .tup (SqT.sameT s hs) ?_
        cases ha with
        | cons a1 a2 =>
          cases a2 with
          | cons a3 a4 =>
            cases a1
            cases a3
            cases a4
            exact .cons (.str _) (.cons (.int _) .nil)
theorem LogV.sameT {K : PySem.W.Frag} {H H' : Hp} {v : V} {l : Log} (s : SameT H H') (h : LogV K H v l) : LogV K H' v l := by
  obtain ⟨b, ys, e, t, d⟩ := h
  exact ⟨b, ys, e, t.sameT s, pairs_sameT s d⟩
theorem LogVs.sameT {K : PySem.W.Frag} {H H' : Hp} (s : SameT H H') {xs : List V} {L : List Log} (h : LogVs K H xs L) : LogVs K H' xs L := Paired.mono (fun _ _ q => q.sameT s) h
theorem LogsV.sameT {K : PySem.W.Frag} {H H' : Hp} {v : V} {L : List Log} (s : SameT H H') (h : LogsV K H v L) : LogsV K H' v L := by
  obtain ⟨a, xs, e, t, d⟩ := h
  exact ⟨a, xs, e, SqT.sameT s t, d.sameT s⟩
abbrev GrVs (K : PySem.W.Frag) (H : Hp) : List V → List (List Log) → Prop := Paired (LogsV K H)
theorem GrVs.sameT {K : PySem.W.Frag} {H H' : Hp} (s : SameT H H') {xs : List V} {gs : List (List Log)} (h : GrVs K H xs gs) : GrVs K H' xs gs := Paired.mono (fun _ _ q => q.sameT s) h

/-! ### blocks -/
structure Blocks (L : List Log) (bs : List (List Log)) : Prop where
  sub : ∀ g ∈ bs, g.Sublist L
  flat : ∀ g ∈ bs, Flat g
  cov : ∀ G : List Log, G.Sublist L → Stuck G → ∃ B ∈ bs, G.Sublist B
def spBlocks (K : PySem.W.Frag) : Sp := fun vs H Q _ => ∃ v L, vs = [v] ∧ LogsV K H v L ∧ LogsOk L ∧ L ≠ [] ∧ ∀ r H' xs bs, Same H H' → SqT K H' r xs → GrVs K H' xs bs → Blocks L bs → Q (.ref r) H'
abbrev nBlocks : List Str := ["logs", "found", "waiting", "group", "cells", "value", "part"]
theorem scBlocks : FnScope nBlocks ["logs"] (defScope sBlocks) := ⟨rfl, rfl, rfl, by decide +kernel, rfl, by decide +kernel, by decide +kernel⟩
/-- the state of the loop -/
structure BlkAt (K : PySem.W.Frag) (H H' : Hp) (fa wa : Addr) (L : List Log) (fs gs : List (List Log)) : Prop where
  same : Same H H'
  found : ∃ xs, H' fa = some (.lst xs) ∧ GrVs K H' xs fs
  wait : ∃ ws, H' wa = some (.lst ws) ∧ GrVs K H' ws gs
  bk : Bk L fs gs
theorem grs_data {K : PySem.W.Frag} {H : Hp} : ∀ {xs : List V} {gs : List (List Log)}, GrVs K H xs gs → ∃ zs : List ZD, zs.map (·.1) = xs ∧ zs.map (·.2) = gs.map dLogs ∧ ∀ z ∈ zs, Dp K H z.1 z.2
  | _, _, .nil => ⟨[], rfl, rfl, fun z h => by cases h⟩
  | _, _, .cons h t => by
    obtain ⟨zs, e1, e2, e3⟩ := grs_data t
    refine ⟨(_, dLogs _) :: zs, by rw [List.map_cons, e1], by rw [List.map_cons, List.map_cons, e2], fun z hz => ?_⟩
    rcases List.mem_cons.mp hz with q | q
    · rw [q]; exact h.dp
    · exact e3 z q
theorem logs_alike (gs : List (List Log)) : AllAlike (gs.map dLogs) := by
  intro d hd d' hd'
  obtain ⟨g, _, e⟩ := List.mem_map.mp hd
  obtain ⟨g', _, e'⟩ := List.mem_map.mp hd'
  rw [← e, ← e']
  exact alike_logs _ _
theorem logs_sortable {gs : List (List Log)} (h : ∀ g ∈ gs, g ≠ []) : Sortable (gs.map dLogs) := by
  refine .inl fun d hd => ?_
  obtain ⟨g, hg, e⟩ := List.mem_map.mp hd
  rw [← e]
  cases hl : g with
  | nil => exact absurd hl (h g hg)
  | cons p r => exact ⟨dLog p, r.map dLog, by simp [dLogs]⟩
/-- the loop's invariant -/
def BW (K : PySem.W.Frag) (H : Hp) (a fa wa : Addr) (L : List Log) : Nat → L2.St → Hp → Prop := fun m σ H' => ∃ fs gs z3 z4, σ = [some (.ref a), some (.ref fa), some (.ref wa), z3, z4, none, none] ∧ m = cost gs ∧ BlkAt K H H' fa wa L fs gs
def BN (K : PySem.W.Frag) (H : Hp) (a fa wa : Addr) (L : List Log) (m : Nat) : L2.St → Hp → Prop := fun σ H' => ∃ m', m' < m ∧ BW K H a fa wa L m' σ H'
section
variable {P : Program} {w : World} {K : PySem.W.Frag} {mg : Str → Option Value} {base : Heap}
theorem cal_blocks (h : Known K mg "blocks" sBlocks ["logs"]) (B : Bl mg) (C1 : Cal P w K mg base 2 "splitting_cells" ["logs"] (spSplit K)) (C2 : Cal P w K mg base 1 "parts_by" ["logs", "cell"] (spParts K)) : Cal P w K mg base 3 "blocks" ["logs"] (spBlocks K) := h.cal fun f fd F => by
  refine F.ok scBlocks (fun vs H Q E h => ?_) (fun cdv A outer s H vs Q E hr h => ?_)
  · obtain ⟨v, L, rfl, _⟩ := h
    rfl
  obtain ⟨v, L, rfl, hL, hok, hne, q⟩ := h
  have hu := hu_of hr
  refine ⟨_, pss_cons (ps_par (i := 1) (j := 2) rfl scBlocks.nd rfl rfl (by decide) rfl rfl (pa_cons (pe_lst pa_nil) (pa_cons (pe_lst pa_nil) pa_nil)) rfl)
    (pss_cons (ps_if (pt_cmpR op_gt (w_len K B.len (pv 0)) pe_int (nomark _)) (pss_one (ps_expr (pe_bm PySem.F.plainAttrs_list PySem.F.slot_list_append PySem.F.type_list_append mt_append (pv 2) (pa_cons (pv 0) pa_nil)))) pss_nil)
    (pss_cons (ps_while PassesOwn.never (w_ne0 K hu (pv 2) (pe_lst pa_nil))
      (pss_cons (ps_set (i := 3) scBlocks.nd rfl (Or.inl rfl) (pe_bm0 PySem.F.plainAttrs_list PySem.F.slot_list_pop PySem.F.type_list_pop mt_pop (pv 2)))
      (pss_cons (ps_set (i := 4) scBlocks.nd rfl (Or.inl rfl) (C1.call hr (pa_cons (pv 3) pa_nil)))
      (pss_one (ps_if (w_eq0 K hu (pv 4) (pe_tup pa_nil)) (pss_one (ps_expr (pe_bm PySem.F.plainAttrs_list PySem.F.slot_list_append PySem.F.type_list_append mt_append (pv 1) (pa_cons (pv 3) pa_nil))))
        (pss_one (ps_expr (pe_bm PySem.F.plainAttrs_list PySem.F.slot_list_extend PySem.F.type_list_extend mt_extend (pv 2) (pa_cons
          (pe_lc (own := [("value", 5), ("part", 6)]) (g := gTup K 2 (gCons (gName 5) (gCons (gName 6) gNil))) (tt := tYes) (te := tVar 6) rfl scBlocks.nd (w_list_iter K (C2.call (hr.mono (by decide)) (pa_cons (pv 3) (pa_cons (w_ixT K (pv 4) pe_int) pa_nil))))
            (blkOk_by (N := nBlocks) (sc := defScope sBlocks) (by decide +kernel)) (fun _ _ _ _ _ => w_tgt K (pgs_cons (pg_name (i := 5) scBlocks.nd rfl (Or.inl rfl)) (pgs_cons (pg_name (i := 6) scBlocks.nd rfl (Or.inl rfl)) pgs_nil)))
            (fun _ _ _ _ _ => pts_nil) (fun _ _ _ _ _ => pv 6)) pa_nil)))))))))
    (pss_one (ps_ret (w_tup K B.tuple (w_sort K hr.units B.sorted (pv 1))))))), ?_⟩
  obtain ⟨a, xs, rfl, hT, hV⟩ := hL
  have hlen : xs.length = L.length := hV.len
  have hfew := hok.few
  have hpos : 0 < L.length := List.length_pos_iff.mpr hne
  refine ⟨Nat.zero_le _, fun fa hfa => ⟨Nat.zero_le _, fun wa hwa => ⟨_, _, rfl, ?_⟩⟩⟩
  have hwa0 : H wa = none := by
    cases z : H wa with
    | none => rfl
    | some o => rw [same_new hfa _ _ _ z] at hwa; cases hwa
  have nfw : fa ≠ wa := ne_of_none (show upd H fa (.lst []) fa = some (.lst []) from upd_same) hwa
  have s1 : Same H (upd (upd H fa (.lst [])) wa (.lst [])) := (same_new hfa _).trans (same_new hwa _)
  refine ⟨_, rfl, a, xs, rfl, .inr (Same.seqT s1 hT), _, _, rfl, rfl, _, rfl, ?_⟩
  rw [decide_eq_true (by omega : (0 : Int) < (xs.length : Nat))]
  refine iteT ?_
  refine ⟨_, rfl, .inl ⟨rfl, _, SqL.of upd_same⟩, _, rfl, wa, [], _, rfl, rfl, upd_same, by decide, ?_⟩
  refine ⟨BW K H a fa wa L, ⟨_, [], [L], none, none, rfl, rfl, same_upd s1 hwa0, ⟨[], ?_, .nil⟩, ⟨_, upd_same, .cons ⟨a, xs, rfl, ?_, ?_⟩ .nil⟩, Bk.start hne⟩, ?_⟩
  · rw [upd_ne nfw, upd_ne nfw, upd_same]
  · exact Same.seqT (same_upd s1 hwa0) hT
  · exact hV.same (same_upd s1 hwa0)
  rintro m σ H' ⟨fs, gs, z3, z4, rfl, rfl, G⟩
  obtain ⟨fx, hfx, hfs⟩ := G.found
  obtain ⟨ws, hws, hgs⟩ := G.wait
  have hsum := G.bk.sum
  have hszl := len_size (ws := gs) fun g hg => G.bk.ne g (.inr hg)
  have hfl : fx.length = fs.length := Paired.length hfs
  have hwl : ws.length = gs.length := Paired.length hgs
  refine ⟨_, rfl, Nat.zero_le _, fun p hp => ⟨wa, p, ws, rfl, rfl, .inl ⟨.inl (.inl (same_new hp _ _ _ hws)), .inl (.inl upd_same)⟩, _, rfl, ?_⟩⟩
  have s2 : Same H' (upd H' p (.lst [])) := same_new hp _
  have hws2 := s2 _ _ hws
  have hfx2 := s2 _ _ hfx
  generalize upd H' p (.lst []) = H2 at s2 hws2 hfx2 ⊢
  by_cases hwe : ws = []
  · subst hwe
    have hge : gs = [] := List.eq_nil_of_length_eq_zero hwl.symm
    subst hge
    refine iteF ?_
    obtain ⟨zs, ez1, ez2, ez3⟩ := grs_data (GrVs.sameT (.of s2) hfs)
    subst ez1
    refine ⟨_, rfl, fa, zs, rfl, .inl (SqL.of hfx2), ez3, by rw [ez2]; exact logs_alike fs, by rw [ez2]; exact logs_sortable fun g hg => G.bk.ne g (.inl hg), fun z hz => ?_, fun p3 hp3 => ?_⟩
    · have : z.2 ∈ zs.map (·.2) := List.mem_map.mpr ⟨z, hz, rfl⟩
      rw [ez2] at this
      obtain ⟨g, _, e⟩ := List.mem_map.mp this
      rw [← e]
      have := depth_logs g
      omega
    · refine ⟨p3, _, rfl, SqL.of upd_same, fun l H4 s4 t4 => ?_⟩
      have sA : Same H' H4 := s2.trans ((same_new hp3 _).trans s4)
      have pm : ((zs.mergeSort (dataLe false (·.2))).map (·.1)).Perm (zs.map (·.1)) := (List.mergeSort_perm _ _).map _
      obtain ⟨bs, pb, hbs⟩ := Paired.perm pm (GrVs.sameT (.of sA) hfs)
      refine q l H4 _ bs (G.same.trans sA) t4.sq hbs ⟨fun g hg => G.bk.sub g (.inl (pb.mem_iff.mp hg)), fun g hg => G.bk.done g (pb.mem_iff.mp hg), fun M sM st => ?_⟩
      obtain ⟨B', hB, sB⟩ := G.bk.cov M sM st
      rcases hB with hB | hB
      · exact ⟨B', pb.mem_iff.mpr hB, sB⟩
      · cases hB
  have hemp : ws.isEmpty = false := by cases ws with | nil => exact absurd rfl hwe | cons => rfl
  rw [hemp]
  refine ⟨BN K H a fa wa L (cost gs), fun _ _ h => h, ?_⟩
  obtain ⟨ws0, x, ews, hlast, edrop⟩ := last_pop hwe
  refine ⟨_, rfl, .inl ⟨rfl, _, SqL.of hws2⟩, wa, ws, x, rfl, rfl, hws2, hlast, ?_⟩
  rw [edrop]
  rw [ews] at hgs
  obtain ⟨gs0, g, rfl, hgs0, hg⟩ := Paired.unsnoc hgs
  have hH0wa : H wa = none := hwa0
  have s3 : SameT H' (upd H2 wa (.lst ws0)) := (SameT.of s2).trans (sameT_upd hws2)
  have hgL : LogsOk g := hok.sub (G.bk.sub g (.inr (by simp)))
  have hgne : g ≠ [] := G.bk.ne g (.inr (by simp))
  have s3' : Same H (upd H2 wa (.lst ws0)) := same_upd (G.same.trans s2) hwa0
  have hws3 : upd H2 wa (.lst ws0) wa = some (.lst ws0) := upd_same
  have hfx3 : upd H2 wa (.lst ws0) fa = some (.lst fx) := by rw [upd_ne nfw]; exact hfx2
  have hwl0 : ws0.length = gs0.length := Paired.length hgs0
  generalize upd H2 wa (.lst ws0) = H3 at s3 s3' hws3 hfx3 ⊢
  refine ⟨_, rfl, x, g, rfl, hg.sameT s3, hgL, fun r H4 s4 hr4 => ?_⟩
  refine ⟨_, rfl, Nat.zero_le _, fun p5 hp5 => ⟨r, p5, _, rfl, rfl, .inr ⟨Same.seqT (same_new hp5 _) hr4, .inl (.inl upd_same)⟩, _, rfl, ?_⟩⟩
  have s5 : Same H3 (upd H4 p5 (.tup [])) := s4.trans (same_new hp5 _)
  have hr5 : SqT K (upd H4 p5 (.tup [])) r ((splitting g).map V.str) := Same.seqT (same_new hp5 _) hr4
  generalize upd H4 p5 (.tup []) = H5 at s5 hr5 ⊢
  have hws5 := s5 _ _ hws3
  have hfx5 := s5 _ _ hfx3
  have s5t : SameT H' H5 := s3.trans (.of s5)
  rw [size_app] at hsum hszl
  rw [List.length_append, List.length_singleton] at hszl
  cases hsp : splitting g with
  | nil =>
    refine iteT ?_
    refine ⟨_, rfl, .inl ⟨rfl, _, SqL.of hfx5⟩, _, rfl, fa, fx, x, rfl, rfl, hfx5, by rw [sizeLine_eq]; omega, ?_⟩
    refine ⟨_, cost_pop (ws := gs0) hgne, fs ++ [g], gs0, _, _, rfl, rfl, same_upd (s3'.trans s5) hfa, ⟨_, upd_same, ?_⟩, ⟨ws0, by rw [upd_ne (Ne.symm nfw)]; exact hws5, ?_⟩, G.bk.find (flat_iff.mp hsp)⟩
    · exact Paired.append (GrVs.sameT (s5t.trans (sameT_upd hfx5)) hfs) (.cons (hg.sameT (s5t.trans (sameT_upd hfx5))) .nil)
    · exact GrVs.sameT (s5t.trans (sameT_upd hfx5)) hgs0
  | cons c cs =>
    refine iteF ?_
    have hcm : c ∈ splitting g := by rw [hsp]; exact List.mem_cons_self
    rw [hsp] at hr5
    refine ⟨_, rfl, .inl ⟨rfl, _, SqL.of hws5⟩, ?_⟩
    refine ⟨_, rfl, _, rfl, r, _, 0, _, rfl, rfl, hr5, atI_nat (by rfl), ?_⟩
    refine ⟨x, c, g, rfl, hg.sameT s5t, hgL, (mem_split hcm).1, fun r6 H6 ys ns s6 hr6 hys vals hn5 => ?_⟩
    refine ⟨r6, rfl, ⟨_, SqL.of hr6⟩, fun D hD => ?_⟩
    have hyl : ys.length = ns.length := Paired.length hys
    have hws6 := s6 _ _ hws5
    have hfx6 := s6 _ _ hfx5
    refine lc_list (K := K) (a := r6) (xs := ys) (Lc H6 D fun i acc H => GrVs K H acc ((ns.take i).map (part g c))) (lc_start hD .nil) (fun i H' _ h => .inl (.inl (h.1 _ _ hr6))) ?_ ?_
    · rintro i y H7 hi ⟨e7, acc, eD, la, hP⟩
      obtain ⟨n, hn, hy⟩ := Paired.at hys hi
      obtain ⟨pp, gv, rfl, hpp, hgv⟩ := hy.same e7
      have hi' : i < ys.length := (List.getElem?_eq_some_iff.mp hi).1
      refine ⟨pp, _, rfl, hpp, rfl, _, _, rfl, _, _, rfl, rfl, rfl, _, rfl, ?_⟩
      refine lc_put hD (by omega) eD la e7 ?_
      rw [take_next hn, List.map_append]
      refine Paired.append hP (.cons ?_ .nil)
      obtain ⟨pp', gv', e', hpp', hgv'⟩ := hy.same (same_del e7 hD)
      exact hgv.sameT (sameT_del eD)
    · rintro H7 ⟨e7, acc, eD, la, hP⟩
      have hP : GrVs K (del H7 D) acc ((ns.take ys.length).map (part g c)) := hP
      rw [hyl, List.take_length] at hP
      have hal : acc.length = (ns.map (part g c)).length := Paired.length hP
      rw [List.length_map] at hal
      have hws7 := e7 _ _ hws6
      have hfx7 := e7 _ _ hfx6
      have s7 : Same H3 H7 := s5.trans (s6.trans e7)
      have s7t : SameT H' (upd H7 wa (.lst (ws0 ++ acc))) := (s3.trans (.of s7)).trans (sameT_upd hws7)
      obtain ⟨hb, hc⟩ := G.bk.split hcm vals
      refine ⟨wa, D, ws0, acc, rfl, rfl, hws7, eD, by rw [sizeLine_eq]; omega, _, hc, fs, gs0 ++ ns.map (part g c), _, _, rfl, rfl, same_upd (s3'.trans s7) hwa0, ⟨fx, by rw [upd_ne nfw]; exact hfx7, GrVs.sameT s7t hfs⟩, ⟨_, upd_same, ?_⟩, hb⟩
      exact Paired.append (GrVs.sameT s7t hgs0) (GrVs.sameT (sameT_upd hws7) (Paired.mono (fun _ _ q => q.same del_same) hP))
end
end Rd

set_option Elab.async false
set_option linter.all false
set_option maxRecDepth 100000
namespace Rd
open PySem PySem.Spec PyProof.Rows L2
theorem cut_to {xs : List V} {i : Nat} (h : i ≤ xs.length) : cutV xs none (some (i : Int)) = xs.take i := by
  unfold cutV
  rw [HT.sIx_none, HT.sIx_nat, List.drop_zero, Nat.sub_zero, Nat.min_eq_left h]
theorem cut_from {xs : List V} {i : Nat} (h : i ≤ xs.length) : cutV xs (some (i : Int)) none = xs.drop i := by
  unfold cutV
  rw [HT.sIx_none, HT.sIx_nat, Nat.min_eq_left h, List.take_of_length_le]
  rw [List.length_drop]
  omega
def spWithout (K : PySem.W.Frag) : Sp := fun vs H Q _ => ∃ a xs, ∃ i : Nat, vs = [.ref a, .int (i : Int)] ∧ SqT K H a xs ∧ i < xs.length ∧ xs.length ≤ 300 ∧ ∀ r H', Same H H' → SqT K H' r (xs.take i ++ xs.drop (i + 1)) → Q (.ref r) H'
abbrev nWithout : List Str := ["logs", "at"]
theorem scWithout : FnScope nWithout ["logs", "at"] (defScope sWithout) := ⟨rfl, rfl, rfl, by decide +kernel, rfl, by decide +kernel, by decide +kernel⟩
/-- None, or a stuck group -/
def GrpRes (K : PySem.W.Frag) (H : Hp) (L : List Log) (x : V) : Prop := (x = .non ∧ NoStuck L) ∨ ∃ G, LogsV K H x G ∧ G.Sublist L ∧ Stuck G
def spGroup (K : PySem.W.Frag) : Sp := fun vs H Q _ => ∃ v L, vs = [v] ∧ LogsV K H v L ∧ LogsOk L ∧ L ≠ [] ∧ ∀ x H', Same H H' → GrpRes K H' L x → Q x H'
abbrev nStuckB : List Str := ["logs", "block"]
theorem scStuckB : FnScope nStuckB ["logs"] (defScope sStuckB) := ⟨rfl, rfl, rfl, by decide +kernel, rfl, by decide +kernel, by decide +kernel⟩
def spHas (K : PySem.W.Frag) : Sp := fun vs H Q _ => ∃ v L, vs = [v] ∧ LogsV K H v L ∧ LogsOk L ∧ L ≠ [] ∧ ∀ H' b, Same H H' → (b = true ↔ NoStuck L) → Q (.bl b) H'
abbrev nHas : List Str := ["logs"]
theorem scHas : FnScope nHas ["logs"] (defScope sHas) := ⟨rfl, rfl, rfl, by decide +kernel, rfl, by decide +kernel, by decide +kernel⟩
abbrev nSingle : List Str := ["logs", "group", "at", "less"]
theorem scSingle : FnScope nSingle ["logs"] (defScope sSingle) := ⟨rfl, rfl, rfl, by decide +kernel, rfl, by decide +kernel, by decide +kernel⟩
theorem scStuckG : FnScope nHas ["logs"] (defScope sStuckG) := ⟨rfl, rfl, rfl, by decide +kernel, rfl, by decide +kernel, by decide +kernel⟩
abbrev nCheckR : List Str := ["logs", "group"]
theorem scCheckR : FnScope nCheckR ["logs"] (defScope sCheckR) := ⟨rfl, rfl, rfl, by decide +kernel, rfl, by decide +kernel, by decide +kernel⟩
theorem scCheckL : FnScope nHas ["logs"] (defScope sCheckL) := ⟨rfl, rfl, rfl, by decide +kernel, rfl, by decide +kernel, by decide +kernel⟩
def spCheck (K : PySem.W.Frag) : Sp := fun vs H Q _ => ∃ v L, vs = [v] ∧ LogsV K H v L ∧ LogsOk L ∧ L ≠ [] ∧ NoStuck L ∧ ∀ H', Same H H' → Q .non H'
/-- the loop's invariant -/
def GW (K : PySem.W.Frag) (H : Hp) (v : V) (L : List Log) : Nat → L2.St → Hp → Prop := fun m σ H' => ∃ x, ∃ i : Nat, ∃ z, σ = [some v, some x, some (.int (i : Int)), z] ∧ Same H H' ∧
  ((x = .non ∧ NoStuck L ∧ m = 0) ∨ ∃ G, LogsV K H' x G ∧ G.Sublist L ∧ Stuck G ∧ m = 2 * G.length - i + 1)
def GN (K : PySem.W.Frag) (H : Hp) (v : V) (L : List Log) (m : Nat) : L2.St → Hp → Prop := fun σ H' => ∃ m', m' < m ∧ GW K H v L m' σ H'
section
variable {P : Program} {w : World} {K : PySem.W.Frag} {mg : Str → Option Value} {base : Heap}
theorem cal_without (h : Known K mg "without" sWithout ["logs", "at"]) : Cal P w K mg base 1 "without" ["logs", "at"] (spWithout K) := h.cal fun f fd F => by
  refine F.ok scWithout (fun vs H Q E h => ?_) (fun cdv A outer s H vs Q E hr h => ?_)
  · obtain ⟨a, xs, i, rfl, _⟩ := h
    rfl
  obtain ⟨a, xs, i, rfl, hT, hi, hf, q⟩ := h
  refine ⟨_, pss_one (ps_ret (w_cat K (w_sl K (pv 0) po_none (po_some (pv 1))) (w_sl K (pv 0) (po_some (pe_op op_add (pv 1) pe_int)) po_none))), ?_⟩
  refine ⟨_, rfl, _, rfl, i, rfl, a, xs, rfl, hT, fun p H1 s1 h1 _ => ?_⟩
  refine ⟨_, rfl, _, rfl, _, _, rfl, rfl, ((i + 1 : Nat) : Int), rfl, a, xs, rfl, Same.seqT s1 hT, fun p2 H2 s2 h2 _ => ?_⟩
  rw [cut_to (Nat.le_of_lt hi)] at h1
  rw [cut_from hi] at h2
  refine ⟨p, p2, _, _, rfl, rfl, Same.seqT s2 h1, h2, by rw [sizeLine_eq, List.length_take, List.length_drop]; omega, fun r H3 s3 h3 _ => q r H3 (s1.trans (s2.trans s3)) h3⟩
theorem cal_stuckB (h : Known K mg "stuck_block" sStuckB ["logs"]) (B : Bl mg) (C : Cal P w K mg base 3 "blocks" ["logs"] (spBlocks K)) : Cal P w K mg base 4 "stuck_block" ["logs"] (spGroup K) := h.cal fun f fd F => by
  refine F.ok scStuckB (fun vs H Q E h => ?_) (fun cdv A outer s H vs Q E hr h => ?_)
  · obtain ⟨v, L, rfl, _⟩ := h
    rfl
  obtain ⟨v, L, rfl, hL, hok, hne, q⟩ := h
  refine ⟨_, pss_cons (ps_for PassesOwn.never rfl (w_tup_iter K (C.call hr (pa_cons (pv 0) pa_nil))) (pg_name (i := 1) scStuckB.nd rfl (Or.inl rfl))
    (pss_one (ps_if (pt_cmpR op_gt (w_len K B.len (pv 1)) pe_int (nomark _)) (pss_one (ps_ret (pv 1))) pss_nil))) (pss_one (ps_ret pe_non)), ?_⟩
  refine ⟨_, rfl, v, L, rfl, hL, hok, hne, fun r H1 xs bs s1 hr1 hbs hb => ⟨r, rfl, ⟨_, hr1⟩, ?_⟩⟩
  refine for_tup (K := K) (a := r) (xs := xs) (fun i σ H' => ∃ z, σ = [some v, z] ∧ H' = H1 ∧ ∀ g ∈ bs.take i, g.length ≤ 1) ⟨none, rfl, rfl, fun g hg => by cases hg⟩ ?_ ?_ ?_
  · rintro i σ H' _ ⟨z, _, rfl, _⟩
    exact hr1
  · rintro i y σ H' hi ⟨z, rfl, rfl, hall⟩
    obtain ⟨g, hg, hy⟩ := Paired.at hbs hi
    obtain ⟨b, ys, rfl, hT, hV⟩ := id hy
    have hgm : g ∈ bs := List.mem_of_getElem? hg
    refine ⟨_, rfl, b, ys, rfl, .inr hT, _, _, rfl, rfl, _, rfl, ?_⟩
    rw [hV.len]
    by_cases c : 1 < g.length
    · rw [decide_eq_true (by omega)]
      exact iteT ⟨_, rfl, q _ _ s1 (.inr ⟨g, hy, hb.sub g hgm, c, hb.flat g hgm⟩)⟩
    · rw [decide_eq_false (by omega)]
      refine iteF ⟨_, rfl, rfl, fun x hx => ?_⟩
      rw [take_next hg] at hx
      rcases List.mem_append.mp hx with z | z
      · exact hall x z
      · rw [List.mem_singleton.mp z]; omega
  · rintro σ H' ⟨z, rfl, rfl, hall⟩
    rw [show xs.length = bs.length from Paired.length hbs, List.take_length] at hall
    refine q _ _ s1 (.inl ⟨rfl, fun G sG st => ?_⟩)
    obtain ⟨B', hB, sB⟩ := hb.cov G sG st
    have := hall B' hB
    have := sB.length_le
    have := st.1
    omega
theorem cal_has (h : Known K mg "has_reader" sHas ["logs"]) (B : Bl mg) (C : Cal P w K mg base 4 "stuck_block" ["logs"] (spGroup K)) : Cal P w K mg base 5 "has_reader" ["logs"] (spHas K) := h.cal fun f fd F => by
  refine F.ok scHas (fun vs H Q E h => ?_) (fun cdv A outer s H vs Q E hr h => ?_)
  · obtain ⟨v, L, rfl, _⟩ := h
    rfl
  obtain ⟨v, L, rfl, hL, hok, hne, q⟩ := h
  refine ⟨_, pss_one (ps_ret (pe_and (pe_cmpR op_gt (w_len K B.len (pv 0)) pe_int (nomark _)) (pe_one (pe_cmpR op_isN (C.call hr (pa_cons (pv 0) pa_nil)) pe_non (nomark _))))), ?_⟩
  obtain ⟨a, xs, rfl, hT, hV⟩ := id hL
  have hpos : 0 < L.length := List.length_pos_iff.mpr hne
  refine ⟨_, rfl, a, xs, rfl, .inr hT, _, _, rfl, rfl, true, by rw [hV.len]; show V.bl (decide ((0 : Int) < (L.length : Nat))) = _; rw [decide_eq_true (by omega)], ?_⟩
  refine ⟨_, rfl, _, L, rfl, hL, hok, hne, fun x H' s' hx => ⟨rfl, ?_⟩⟩
  rcases hx with ⟨rfl, ns⟩ | ⟨G, hG, sG, st⟩
  · exact q H' _ s' ⟨fun _ => ns, fun _ => rfl⟩
  · obtain ⟨b, _, rfl, _⟩ := hG
    exact q H' _ s' ⟨fun z => (by cases z), fun ns => absurd st (ns G sG)⟩
theorem cal_single (h : Known K mg "single_group" sSingle ["logs"]) (B : Bl mg) (C : Cal P w K mg base 4 "stuck_block" ["logs"] (spGroup K)) (C2 : Cal P w K mg base 1 "without" ["logs", "at"] (spWithout K)) : Cal P w K mg base 5 "single_group" ["logs"] (spGroup K) := h.cal fun f fd F => by
  refine F.ok scSingle (fun vs H Q E h => ?_) (fun cdv A outer s H vs Q E hr h => ?_)
  · obtain ⟨v, L, rfl, _⟩ := h
    rfl
  obtain ⟨v, L, rfl, hL, hok, hne, q⟩ := h
  refine ⟨_, pss_cons (ps_par (i := 1) (j := 2) rfl scSingle.nd rfl rfl (by decide) rfl rfl (pa_cons (C.call hr (pa_cons (pv 0) pa_nil)) (pa_cons pe_int pa_nil)) rfl)
    (pss_cons (ps_while PassesOwn.never (PW.pt (pw_and (pt_cmpR op_notN (pv 1) pe_non (nomark _)) (pw_and1 (pt_cmpR op_lt (pv 2) (w_len K B.len (pv 1)) (nomark _)))))
      (pss_cons (ps_set (i := 3) scSingle.nd rfl (Or.inl rfl) (C.call hr (pa_cons (C2.call (hr.mono (by decide)) (pa_cons (pv 1) (pa_cons (pv 2) pa_nil))) pa_nil)))
      (pss_one (ps_if (pt_cmpR op_isN (pv 3) pe_non (nomark _)) (pss_one (ps_aug (i := 2) scSingle.nd rfl (Or.inl rfl) pe_int ip_add)) (pss_one (ps_set (i := 1) scSingle.nd rfl (Or.inl rfl) (pv 3)))))))
    (pss_one (ps_ret (pv 1)))), ?_⟩
  refine ⟨_, rfl, v, L, rfl, hL, hok, hne, fun x H1 s1 hx => ⟨_, _, rfl, ?_⟩⟩
  refine ⟨GW K H v L, ?_, ?_⟩
  · rcases hx with ⟨rfl, ns⟩ | ⟨G, hG, sG, st⟩
    · exact ⟨_, _, 0, none, rfl, s1, .inl ⟨rfl, ns, rfl⟩⟩
    · exact ⟨_, _, 0, none, rfl, s1, .inr ⟨G, hG, sG, st, rfl⟩⟩
  rintro m σ H' ⟨x, i, z, rfl, s2, hx⟩
  refine ⟨_, rfl, rfl, _, rfl, ?_⟩
  rcases hx with ⟨rfl, ns, rfl⟩ | ⟨G, hG, sG, st, rfl⟩
  · exact iteF (iteF ⟨_, rfl, q _ _ s2 (.inl ⟨rfl, ns⟩)⟩)
  obtain ⟨a, xs, rfl, hT, hV⟩ := id hG
  refine iteT ?_
  have hlen := hV.len
  have hGf := (hok.sub sG).few
  refine ⟨_, rfl, _, rfl, a, xs, rfl, .inr hT, _, _, rfl, rfl, _, rfl, ?_⟩
  by_cases c : i < G.length
  · rw [decide_eq_true (by omega)]
    refine iteT ⟨GN K H v L (2 * G.length - i + 1), fun _ _ h => h, ?_⟩
    refine ⟨_, rfl, _, rfl, a, xs, i, rfl, hT, by omega, by omega, fun r H3 s3 hr3 => ?_⟩
    have sub : (G.take i ++ G.drop (i + 1)).Sublist G := by
      rw [← List.eraseIdx_eq_take_drop_succ]
      exact List.eraseIdx_sublist _ _
    have hlen2 : (G.take i ++ G.drop (i + 1)).length = G.length - 1 := by
      rw [List.length_append, List.length_take, List.length_drop]
      omega
    have h2 := st.1
    refine ⟨_, _, rfl, ⟨r, _, rfl, hr3, ((hV.take i).app (hV.drop (i + 1))).same s3⟩, hok.sub (sub.trans sG), by intro z; rw [z] at hlen2; simp at hlen2; omega, fun x H4 s4 hx => ?_⟩
    refine ⟨_, rfl, rfl, _, rfl, ?_⟩
    rcases hx with ⟨rfl, ns⟩ | ⟨G', hG', sG', st'⟩
    · refine iteT ⟨_, rfl, ?_⟩
      exact ⟨i, 1, rfl, rfl, _, (by omega : 2 * G.length - (i + 1) + 1 < _), _, i + 1, _, rfl, s2.trans (s3.trans s4), .inr ⟨G, hG.same (s3.trans s4), sG, st, rfl⟩⟩
    · obtain ⟨b, _, rfl, _⟩ := id hG'
      have := sG'.length_le
      refine iteF ⟨_, rfl, _, (by omega : 2 * G'.length - i + 1 < _), _, i, _, rfl, s2.trans (s3.trans s4), .inr ⟨G', hG', sG'.trans (sub.trans sG), st', rfl⟩⟩
  · rw [decide_eq_false (by omega)]
    exact iteF ⟨_, rfl, q _ _ s2 (.inr ⟨G, hG, sG, st⟩)⟩
theorem cal_stuckG (h : Known K mg "stuck_group" sStuckG ["logs"]) (C : Cal P w K mg base 5 "single_group" ["logs"] (spGroup K)) : Cal P w K mg base 6 "stuck_group" ["logs"] (spGroup K) := h.cal fun f fd F => by
  refine F.ok scStuckG (fun vs H Q E h => ?_) (fun cdv A outer s H vs Q E hr h => ?_)
  · obtain ⟨v, L, rfl, _⟩ := h
    rfl
  obtain ⟨v, L, rfl, hL, hok, hne, q⟩ := h
  refine ⟨_, pss_one (ps_ret (C.call hr (pa_cons (pv 0) pa_nil))), ?_⟩
  exact ⟨_, rfl, v, L, rfl, hL, hok, hne, fun x H' s' hx => q x H' s' hx⟩
theorem cal_checkR (h : Known K mg "check_reader" sCheckR ["logs"]) (C : Cal P w K mg base 5 "single_group" ["logs"] (spGroup K)) : Cal P w K mg base 6 "check_reader" ["logs"] (spCheck K) := h.cal fun f fd F => by
  refine F.ok scCheckR (fun vs H Q E h => ?_) (fun cdv A outer s H vs Q E hr h => ?_)
  · obtain ⟨v, L, rfl, _⟩ := h
    rfl
  obtain ⟨v, L, rfl, hL, hok, hne, ns, q⟩ := h
  refine ⟨_, pss_cons (ps_set (i := 1) scCheckR.nd rfl (Or.inl rfl) (C.call hr (pa_cons (pv 0) pa_nil))) (pss_one (ps_if (pt_cmpR op_notN (pv 1) pe_non (nomark _)) pss_never pss_nil)), ?_⟩
  refine ⟨_, rfl, v, L, rfl, hL, hok, hne, fun x H' s' hx => ?_⟩
  rcases hx with ⟨rfl, _⟩ | ⟨G, hG, sG, st⟩
  · exact ⟨_, rfl, rfl, _, rfl, iteF (q H' s')⟩
  · exact absurd st (ns G sG)
theorem cal_checkL (h : Known K mg "check_logs" sCheckL ["logs"]) (B : Bl mg) (C : Cal P w K mg base 6 "check_reader" ["logs"] (spCheck K)) : Cal P w K mg base 7 "check_logs" ["logs"] (spCheck K) := h.cal fun f fd F => by
  refine F.ok scCheckL (fun vs H Q E h => ?_) (fun cdv A outer s H vs Q E hr h => ?_)
  · obtain ⟨v, L, rfl, _⟩ := h
    rfl
  obtain ⟨v, L, rfl, hL, hok, hne, ns, q⟩ := h
  refine ⟨_, pss_cons (ps_if (pt_cmpR op_eq (w_len K B.len (pv 0)) pe_int (nomark _)) pss_never pss_nil) (pss_one (ps_expr (C.call hr (pa_cons (pv 0) pa_nil)))), ?_⟩
  obtain ⟨a, xs, rfl, hT, hV⟩ := id hL
  have hpos : 0 < L.length := List.length_pos_iff.mpr hne
  refine ⟨_, rfl, a, xs, rfl, .inr hT, rfl, _, rfl, ?_⟩
  rw [dec_int, beq_eq_false_iff_ne.mpr (by rw [hV.len]; omega)]
  exact iteF ⟨_, rfl, _, L, rfl, hL, hok, hne, ns, fun H' s' => q H' s'⟩
end
end Rd

set_option Elab.async false
set_option linter.all false
set_option maxRecDepth 100000
namespace Rd
open PySem PySem.Spec PyProof.Rows L2
open PySem.W (AllAlike Sortable dataLe keyToks keyToksAll sortLe_total)
/-! ### sorting -/
theorem le_trans' {β : Type} (k : β → PyData) (a b c : β) (h1 : dataLe false k a b = true) (h2 : dataLe false k b c = true) : dataLe false k a c = true := (sortLe_total (PyProof.Rows.listOrd PyProof.Rows.itemOrd) false fun b => keyToks (k b)).trans a b c h1 h2
theorem le_total' {β : Type} (k : β → PyData) (a b : β) : (dataLe false k a b || dataLe false k b a) = true := Bool.or_eq_true_iff.mpr ((sortLe_total (PyProof.Rows.listOrd PyProof.Rows.itemOrd) false fun b => keyToks (k b)).total a b)
theorem le_anti {β : Type} (k : β → PyData) {a b : β} (h1 : dataLe false k a b = true) (h2 : dataLe false k b a = true) : keyToks (k a) = keyToks (k b) := by
  have h1' : (!(PyProof.Rows.listOrd PyProof.Rows.itemOrd).blt (keyToks (k b)) (keyToks (k a))) = true := h1
  have h2' : (!(PyProof.Rows.listOrd PyProof.Rows.itemOrd).blt (keyToks (k a)) (keyToks (k b))) = true := h2
  rw [Bool.not_eq_true'] at h1' h2'
  exact (PyProof.Rows.listOrd PyProof.Rows.itemOrd).total _ _ h2' h1'
theorem toks_pair (p : Str × Int) : keyToks (dPair p) = [.inl 1, .inr p.1.cps.toList, .inl 1, .inl p.2, .inl 0] := rfl
theorem pair_inj {p q : Str × Int} (h : keyToks (dPair p) = keyToks (dPair q)) : p = q := by
  rw [toks_pair, toks_pair] at h
  simp only [List.cons.injEq, Sum.inl.injEq, Sum.inr.injEq, true_and, and_true] at h
  exact Prod.ext (PySem.W.str_of_cps h.1) h.2
theorem log_inj : ∀ {l m : Log}, keyToks (dLog l) = keyToks (dLog m) → l = m
  | [], [], _ => rfl
  | [], _ :: _, h => by
    have : keyToksAll [] = keyToksAll _ := h
    simp [keyToksAll] at this
  | _ :: _, [], h => by
    have : keyToksAll _ = keyToksAll [] := h
    simp [keyToksAll] at this
  | p :: l, q :: m, h => by
    have h : keyToksAll (dPair p :: l.map dPair) = keyToksAll (dPair q :: m.map dPair) := h
    rw [keyToksAll, keyToksAll, toks_pair, toks_pair] at h
    simp only [List.cons_append, List.nil_append, List.cons.injEq, Sum.inl.injEq, Sum.inr.injEq, true_and] at h
    have e : p = q := Prod.ext (PySem.W.str_of_cps h.1) h.2.1
    have e2 : l = m := log_inj (l := l) (m := m) h.2.2
    rw [e, e2]
def sortLog (l : Log) : Log := l.mergeSort (dataLe false dPair)
def sortLogs (L : List Log) : List Log := L.mergeSort (dataLe false dLog)
theorem sortLog_perm (l : Log) : (sortLog l).Perm l := List.mergeSort_perm _ _
theorem sortLogs_perm (L : List Log) : (sortLogs L).Perm L := List.mergeSort_perm _ _
theorem sortLog_eq {l m : Log} (p : l.Perm m) : sortLog l = sortLog m :=
  List.Perm.eq_of_pairwise (fun a b _ _ h1 h2 => pair_inj (le_anti dPair h1 h2)) (List.pairwise_mergeSort (le_trans' dPair) (le_total' dPair) l) (List.pairwise_mergeSort (le_trans' dPair) (le_total' dPair) m)
    ((sortLog_perm l).trans (p.trans (sortLog_perm m).symm))
theorem sortLogs_eq {l m : List Log} (p : l.Perm m) : sortLogs l = sortLogs m :=
  List.Perm.eq_of_pairwise (fun a b _ _ h1 h2 => log_inj (le_anti dLog h1 h2)) (List.pairwise_mergeSort (le_trans' dLog) (le_total' dLog) l) (List.pairwise_mergeSort (le_trans' dLog) (le_total' dLog) m)
    ((sortLogs_perm l).trans (p.trans (sortLogs_perm m).symm))
theorem sortLog_idem (l : Log) : sortLog (sortLog l) = sortLog l := sortLog_eq (sortLog_perm l)
theorem sortLogs_idem (l : List Log) : sortLogs (sortLogs l) = sortLogs l := sortLogs_eq (sortLogs_perm l)
/-- the values of a sorted list -/
theorem sort_vals {β : Type} {F : V → β → Prop} (enc : β → PyData) {xs : List V} {bs : List β} (h : Paired F xs bs) :
    ∃ zs : List ZD, zs.map (·.1) = xs ∧ zs.map (·.2) = bs.map enc ∧ (∀ z ∈ zs, ∃ b, F z.1 b ∧ z.2 = enc b ∧ b ∈ bs) ∧ Paired F ((zs.mergeSort (dataLe false (·.2))).map (·.1)) (bs.mergeSort (dataLe false enc)) := by
  obtain ⟨W, e1, e2, e3⟩ : ∃ W : List (V × β), W.map (·.1) = xs ∧ W.map (·.2) = bs ∧ ∀ p ∈ W, F p.1 p.2 := by
    clear enc
    induction h with
    | nil => exact ⟨[], rfl, rfl, fun p hp => by cases hp⟩
    | @cons x b xs bs hx _ ih =>
      obtain ⟨W, e1, e2, e3⟩ := ih
      refine ⟨(x, b) :: W, by rw [List.map_cons, e1], by rw [List.map_cons, e2], fun p hp => ?_⟩
      rcases List.mem_cons.mp hp with q | q
      · rw [q]; exact hx
      · exact e3 p q
  have em : (W.mergeSort (dataLe false fun p => enc p.2)).map (fun p => (p.1, enc p.2)) = (W.map (fun p => ((p.1, enc p.2) : ZD))).mergeSort (dataLe false (·.2)) := List.map_mergeSort fun a _ b _ => rfl
  have em2 : (W.mergeSort (dataLe false fun p => enc p.2)).map (·.2) = (W.map (·.2)).mergeSort (dataLe false enc) := List.map_mergeSort fun a _ b _ => rfl
  refine ⟨W.map fun p => (p.1, enc p.2), ?_, ?_, fun z hz => ?_, ?_⟩
  · rw [List.map_map]; exact e1
  · rw [List.map_map, ← e2, List.map_map]; rfl
  · obtain ⟨p, hp, rfl⟩ := List.mem_map.mp hz
    exact ⟨p.2, e3 p hp, rfl, by rw [← e2]; exact List.mem_map.mpr ⟨p, hp, rfl⟩⟩
  · rw [← em, ← e2, ← em2, List.map_map]
    have hall : ∀ p ∈ W.mergeSort (dataLe false fun p => enc p.2), F p.1 p.2 := fun p hp => e3 p (List.mem_mergeSort.mp hp)
    clear em em2
    generalize W.mergeSort (dataLe false fun p => enc p.2) = W' at hall
    clear e1 e2 e3
    induction W' with
    | nil => exact .nil
    | cons p r ih => exact .cons (hall p List.mem_cons_self) (ih fun q hq => hall q (List.mem_cons_of_mem _ hq))
/-! ### readers -/
mutual
inductive Rt where
  | leaf
  | node (c : Str) (ks : Rts)
inductive Rts where
  | nil
  | cons (n : Int) (t : Rt) (r : Rts)
end
mutual
/-- the paths to the leaves -/
def lv : Rt → Log → List Log
  | .leaf, p => [p]
  | .node c ks, p => lvs c ks p
def lvs (c : Str) : Rts → Log → List Log
  | .nil, _ => []
  | .cons n t r, p => lv t (p ++ [(c, n)]) ++ lvs c r p
end
mutual
def TreeV (K : PySem.W.Frag) (H : Hp) : Rt → V → Prop
  | .leaf, v => ∃ a, v = .ref a ∧ SqT K H a []
  | .node c ks, v => ∃ a b ys, v = .ref a ∧ SqT K H a [.str c, .ref b] ∧ SqT K H b ys ∧ KidsV K H ks ys
def KidsV (K : PySem.W.Frag) (H : Hp) : Rts → List V → Prop
  | .nil, ys => ys = []
  | .cons n t r, ys => ∃ p x zs, ys = .ref p :: zs ∧ SqT K H p [.int n, x] ∧ TreeV K H t x ∧ KidsV K H r zs
end
mutual
theorem TreeV.sameT {K : PySem.W.Frag} {H H' : Hp} (s : SameT H H') : ∀ (t : Rt) (v : V), TreeV K H t v → TreeV K H' t v
  | .leaf, v, h => by
    obtain ⟨a, e, q⟩ := h
    exact ⟨a, e, SqT.sameT s q⟩
  | .node c ks, v, h => by
    obtain ⟨a, b, ys, e, q1, q2, q3⟩ := h
    exact ⟨a, b, ys, e, SqT.sameT s q1, SqT.sameT s q2, KidsV.sameT s ks ys q3⟩
theorem KidsV.sameT {K : PySem.W.Frag} {H H' : Hp} (s : SameT H H') : ∀ (ks : Rts) (ys : List V), KidsV K H ks ys → KidsV K H' ks ys
  | .nil, _, h => h
  | .cons n t r, ys, h => by
    obtain ⟨p, x, zs, e, q1, q2, q3⟩ := h
    exact ⟨p, x, zs, e, SqT.sameT s q1, TreeV.sameT s t x q2, KidsV.sameT s r zs q3⟩
end
def ofL : List (Int × Rt) → Rts
  | [] => .nil
  | k :: r => .cons k.1 k.2 (ofL r)
def KidV (K : PySem.W.Frag) (H : Hp) (y : V) (k : Int × Rt) : Prop := ∃ p x, y = .ref p ∧ SqT K H p [.int k.1, x] ∧ TreeV K H k.2 x
theorem KidV.sameT {K : PySem.W.Frag} {H H' : Hp} {y : V} {k : Int × Rt} (s : SameT H H') (h : KidV K H y k) : KidV K H' y k := by
  obtain ⟨p, x, e, q1, q2⟩ := h
  exact ⟨p, x, e, SqT.sameT s q1, TreeV.sameT s _ _ q2⟩
theorem kids_of {K : PySem.W.Frag} {H : Hp} : ∀ {ys : List V} {kl : List (Int × Rt)}, Paired (KidV K H) ys kl → KidsV K H (ofL kl) ys
  | _, _, .nil => rfl
  | _, _, .cons h t => by
    obtain ⟨p, x, rfl, q1, q2⟩ := h
    exact ⟨p, x, _, rfl, q1, q2, kids_of t⟩
theorem of_kids {K : PySem.W.Frag} {H : Hp} : ∀ {ks : Rts} {ys : List V}, KidsV K H ks ys → ∃ kl, ks = ofL kl ∧ Paired (KidV K H) ys kl
  | .nil, _, h => by
    have h : _ = [] := h
    rw [h]
    exact ⟨[], rfl, .nil⟩
  | .cons n t r, ys, h => by
    obtain ⟨p, x, zs, rfl, q1, q2, q3⟩ := h
    obtain ⟨kl, e, pl⟩ := of_kids q3
    exact ⟨(n, t) :: kl, by rw [e]; rfl, .cons ⟨p, x, rfl, q1, q2⟩ pl⟩
theorem lvs_ofL (c : Str) (p : Log) : ∀ kl : List (Int × Rt), lvs c (ofL kl) p = kl.flatMap fun k => lv k.2 (p ++ [(c, k.1)])
  | [] => rfl
  | k :: r => by
    rw [List.flatMap_cons, ← lvs_ofL c p r]
    rfl
mutual
/-- every node has a child -/
def Slim : Rt → Prop
  | .leaf => True
  | .node _ ks => ks ≠ .nil ∧ Slims ks
def Slims : Rts → Prop
  | .nil => True
  | .cons _ t r => Slim t ∧ Slims r
end
theorem slims_of : ∀ {kl : List (Int × Rt)}, (∀ k ∈ kl, Slim k.2) → Slims (ofL kl)
  | [], _ => trivial
  | k :: r, h => ⟨h k List.mem_cons_self, slims_of fun j hj => h j (List.mem_cons_of_mem _ hj)⟩
theorem of_slims : ∀ {kl : List (Int × Rt)}, Slims (ofL kl) → ∀ k ∈ kl, Slim k.2
  | [], _, k, hk => by cases hk
  | j :: r, h, k, hk => by
    rcases List.mem_cons.mp hk with e | e
    · rw [e]; exact h.1
    · exact of_slims h.2 k e
/-! ### a log by its cells -/
theorem log_cells : ∀ {l : Log}, (cells l).Nodup → l = (cells l).map fun c => (c, vl l c)
  | [], _ => rfl
  | (c, n) :: r, h => by
    have h : (c :: cells r).Nodup := h
    rw [List.nodup_cons] at h
    have ih := log_cells h.2
    have e0 : vl ((c, n) :: r) c = n := by
      unfold vl
      rw [List.lookup_cons, beq_self_eq_true]
      rfl
    show (c, n) :: r = (c, vl ((c, n) :: r) c) :: (cells r).map fun d => (d, vl ((c, n) :: r) d)
    rw [e0]
    congr 1
    rw [show (cells r).map (fun d => (d, vl ((c, n) :: r) d)) = (cells r).map fun d => (d, vl r d) from List.map_congr_left fun d hd => ?_]
    · exact ih
    · have ne : d ≠ c := fun e => h.1 (by rw [← e]; exact hd)
      unfold vl
      rw [List.lookup_cons, show (d == c) = false from beq_eq_false_iff_ne.mpr ne]
theorem perm_of_nodup {α : Type} {a b : List α} (ha : a.Nodup) (hb : b.Nodup) (h : ∀ x, x ∈ a ↔ x ∈ b) : a.Perm b := (List.perm_ext_iff_of_nodup ha hb).mpr h
/-- the parts together are the whole -/
theorem parts_perm {L : List Log} {c : Str} : ∀ {ns : List Int}, ns.Nodup → (ns.flatMap (part L c)).Perm (L.filter fun l => decide (vl l c ∈ ns))
  | [], _ => by
    rw [show (L.filter fun l => decide (vl l c ∈ ([] : List Int))) = [] from List.filter_eq_nil_iff.mpr fun l _ => by simp]
    exact .refl _
  | n :: r, h => by
    rw [List.nodup_cons] at h
    rw [List.flatMap_cons]
    have ih := parts_perm (L := L) (c := c) h.2
    have e1 : part L c n = (L.filter fun l => decide (vl l c ∈ n :: r)).filter fun l => vl l c == n := by
      unfold part
      rw [List.filter_filter]
      apply List.filter_congr
      intro l _
      by_cases z : vl l c = n
      · simp [z]
      · simp [z]
    have e2 : (L.filter fun l => decide (vl l c ∈ r)) = (L.filter fun l => decide (vl l c ∈ n :: r)).filter fun l => !(vl l c == n) := by
      rw [List.filter_filter]
      apply List.filter_congr
      intro l _
      by_cases z : vl l c = n
      · simp [z, h.1]
      · simp [z]
    rw [e2] at ih
    rw [e1]
    exact (List.Perm.append_left _ ih).trans (List.filter_append_perm _ _)
theorem parts_all {L : List Log} {c : Str} {ns : List Int} (v : ValsOf L c ns) : (ns.flatMap (part L c)).Perm L := by
  have h := parts_perm (L := L) (c := c) v.nd
  rw [List.filter_eq_self.mpr fun l hl => by
    simp only [decide_eq_true_eq]
    exact (v.mem _).mpr ⟨l, hl, rfl⟩] at h
  exact h
end Rd

set_option Elab.async false
set_option linter.all false
set_option maxRecDepth 100000
namespace Rd
open PySem PySem.Spec PyProof.Rows L2
theorem nd_len {α : Type} [DecidableEq α] : ∀ (l D : List α), l.Nodup → (∀ x ∈ l, x ∈ D) → l.length ≤ D.length
  | [], D, _, _ => Nat.zero_le _
  | x :: l, D, hn, h => by
    rw [List.nodup_cons] at hn
    have hx : x ∈ D := h x List.mem_cons_self
    have ih := nd_len l (D.erase x) hn.2 fun y hy => (List.mem_erase_of_ne (fun e => hn.1 (by rw [← e]; exact hy))).mpr (h y (List.mem_cons_of_mem _ hy))
    rw [List.length_erase_of_mem hx] at ih
    have : 0 < D.length := List.length_pos_of_mem hx
    rw [List.length_cons]
    omega
theorem perm_flatMap {α β : Type} {f g : α → List β} : ∀ {kl : List α}, (∀ k ∈ kl, (f k).Perm (g k)) → (kl.flatMap f).Perm (kl.flatMap g)
  | [], _ => .refl _
  | k :: r, h => by
    rw [List.flatMap_cons, List.flatMap_cons]
    exact (h k List.mem_cons_self).append (perm_flatMap fun j hj => h j (List.mem_cons_of_mem _ hj))
def spPref (K : PySem.W.Frag) : Sp := fun vs H Q _ => ∃ a T c cs, vs = [.ref a, .ref T] ∧ SqL K H a ((c :: cs).map V.str) ∧ SqT K H T [] ∧ Q (.str c) H
abbrev nPref : List Str := ["cells", "prefer", "cell"]
theorem scPref : FnScope nPref ["cells", "prefer"] (defScope sPref) := ⟨rfl, rfl, rfl, by decide +kernel, rfl, by decide +kernel, by decide +kernel⟩
/-- the reader t, built of L behind the cells done -/
def Good (L : List Log) (done : List Str) (t : Rt) : Prop := Slim t ∧ ∀ p : Log, (∀ l ∈ L, p = done.map fun c => (c, vl l c)) → ((lv t p).map sortLog).Perm L
structure BArg (L : List Log) (done : List Str) : Prop where
  ok : LogsOk L
  ne : L ≠ []
  ns : NoStuck L
  srt : ∀ l ∈ L, sortLog l = l
  nd : done.Nodup
  sh : ∀ c ∈ done, c ∈ shared L ∧ ∀ l ∈ L, ∀ m ∈ L, vl l c = vl m c
def spBuilt (K : PySem.W.Frag) (n : Nat) : Sp := fun vs H Q _ => ∃ v a T L done, vs = [v, .ref a, .ref T] ∧ LogsV K H v L ∧ SqT K H a (done.map V.str) ∧ SqT K H T [] ∧ BArg L done ∧ 9 ≤ n + done.length ∧
  ∀ r H' t, Same H H' → TreeV K H' t r → Good L done t → Q r H'
abbrev nBuilt : List Str := ["logs", "done", "prefer", "cells", "cell", "value", "part"]
theorem scBuilt : FnScope nBuilt ["logs", "done", "prefer"] (defScope sBuilt) := ⟨rfl, rfl, rfl, by decide +kernel, rfl, by decide +kernel, by decide +kernel⟩
theorem BArg.few {L : List Log} {done : List Str} (h : BArg L done) : done.length ≤ 8 := by
  obtain ⟨l, hl⟩ := List.exists_mem_of_ne_nil L h.ne
  have hs := (h.ok.all l hl).short
  have := nd_len done (cells l) h.nd fun c hc => lookup_mem.mp (mem_shared (h.sh c hc).1 l hl)
  unfold cells at this
  rw [List.length_map] at this
  omega
theorem BArg.leaf {L : List Log} {done : List Str} (h : BArg L done) (e : unread L done = []) : Good L done .leaf := by
  refine ⟨trivial, ?_⟩
  intro p hp
  have hsub : ∀ c ∈ shared L, c ∈ done := fun c hc => by
    by_cases z : c ∈ done
    · exact z
    · have : c ∈ unread L done := List.mem_filter.mpr ⟨hc, by simp [z]⟩
      rw [e] at this
      cases this
  have flat : Flat L := fun c hc => (h.sh c (hsub c hc)).2
  have one : L.length ≤ 1 := by
    rcases Nat.lt_or_ge 1 L.length with z | z
    · exact absurd ⟨z, flat⟩ (h.ns L (List.Sublist.refl _))
    · exact z
  match L, h, hp, one, hsub with
  | [l], h, hp, _, hsub =>
    have hl := h.ok.all l List.mem_cons_self
    have pm : p.Perm l := by
      rw [hp l List.mem_cons_self]
      refine List.Perm.trans (List.Perm.map _ (perm_of_nodup h.nd hl.nd fun c => ⟨fun hc => ?_, fun hc => ?_⟩)) (.of_eq (log_cells hl.nd).symm)
      · exact lookup_mem.mp (mem_shared (h.sh c hc).1 l List.mem_cons_self)
      · exact hsub c (shared_mem (by simp) fun m hm => by rw [List.mem_singleton.mp hm]; exact lookup_mem.mpr hc)
    show [sortLog p].Perm [l]
    rw [sortLog_eq pm, h.srt l List.mem_cons_self]
  | [], h, _, _, _ => exact absurd rfl h.ne
theorem BArg.next {L : List Log} {done : List Str} (h : BArg L done) {c : Str} (hc : c ∈ unread L done) {ns : List Int} (v : ValsOf L c ns) {n : Int} (hn : n ∈ ns) : BArg (part L c n) (done ++ [c]) := by
  obtain ⟨hc1, hc2⟩ := List.mem_filter.mp hc
  have hc2 : c ∉ done := by simpa using hc2
  have hs := part_sub L c n
  have hne := part_ne ((v.mem n).mp hn)
  refine ⟨h.ok.sub hs, hne, h.ns.sub hs, fun l hl => h.srt l (hs.mem hl), ?_, fun d hd => ?_⟩
  · rw [List.nodup_append]
    exact ⟨h.nd, by simp, fun a ha b hb e => hc2 (by rw [List.mem_singleton.mp hb] at e; rw [← e]; exact ha)⟩
  · rcases List.mem_append.mp hd with z | z
    · exact ⟨shared_sub hs hne (h.sh d z).1, fun l hl m hm => (h.sh d z).2 l (hs.mem hl) m (hs.mem hm)⟩
    · rw [List.mem_singleton.mp z]
      exact ⟨shared_sub hs hne hc1, fun l hl m hm => (mem_part.mp hl).2.trans (mem_part.mp hm).2.symm⟩
theorem BArg.node {L : List Log} {done : List Str} (h : BArg L done) {c : Str} (hc : c ∈ unread L done) {ns : List Int} (v : ValsOf L c ns) {kl : List (Int × Rt)} (hk : kl.map (·.1) = ns) (hg : ∀ k ∈ kl, Good (part L c k.1) (done ++ [c]) k.2) : Good L done (.node c (ofL kl)) := by
  refine ⟨⟨fun e => ?_, slims_of fun k hk => (hg k hk).1⟩, ?_⟩
  · obtain ⟨l, hl⟩ := List.exists_mem_of_ne_nil L h.ne
    have := (v.mem (vl l c)).mpr ⟨l, hl, rfl⟩
    rw [← hk] at this
    cases kl with
    | nil => cases this
    | cons k r => cases e
  intro p hp
  show ((lvs c (ofL kl) p).map sortLog).Perm L
  rw [lvs_ofL, List.map_flatMap]
  refine List.Perm.trans ?_ (parts_all v)
  rw [← hk, List.flatMap_map]
  refine perm_flatMap fun k hkm => ?_
  refine (hg k hkm).2 _ fun l hl => ?_
  obtain ⟨hl1, hl2⟩ := mem_part.mp hl
  rw [List.map_append, ← hp l hl1, List.map_singleton, hl2]
/-- the children so far -/
def PKids (K : PySem.W.Frag) (L : List Log) (done : List Str) (c : Str) (ns : List Int) : Nat → List V → Hp → Prop := fun i acc H => ∃ kl : List (Int × Rt), Paired (KidV K H) acc kl ∧ kl.map (·.1) = ns.take i ∧ ∀ k ∈ kl, Good (part L c k.1) (done ++ [c]) k.2
section
variable {P : Program} {w : World} {K : PySem.W.Frag} {mg : Str → Option Value} {base : Heap}
theorem cal_pref (h : Known K mg "preferred" sPref ["cells", "prefer"]) : Cal P w K mg base 1 "preferred" ["cells", "prefer"] (spPref K) := h.cal fun f fd F => by
  refine F.ok scPref (fun vs H Q E h => ?_) (fun cdv A outer s H vs Q E hr h => ?_)
  · obtain ⟨a, T, c, cs, rfl, _⟩ := h
    rfl
  obtain ⟨a, T, c, cs, rfl, hL, hT, q⟩ := h
  refine ⟨_, pss_cons (ps_for PassesOwn.never rfl (w_tup_iter K (pv 1)) (pg_name (i := 2) scPref.nd rfl (Or.inl rfl)) pss_never) (pss_one (ps_ret (w_ixL K (pv 0) pe_int))), ?_⟩
  refine ⟨_, rfl, T, rfl, ⟨_, hT⟩, ?_⟩
  refine for_tup (K := K) (a := T) (xs := []) (fun i σ H' => σ = [some (.ref a), some (.ref T), none] ∧ H' = H) ⟨rfl, rfl⟩ ?_ ?_ ?_
  · rintro i σ H' _ ⟨_, rfl⟩
    exact hT
  · rintro i y σ H' hi
    simp at hi
  · rintro σ H' ⟨rfl, rfl⟩
    exact ⟨_, rfl, a, _, 0, _, rfl, rfl, hL, atI_nat (by rfl), q⟩
theorem cal_built (h : Known K mg "built" sBuilt ["logs", "done", "prefer"]) (B : Bl mg) (C1 : Cal P w K mg base 2 "unread_shared" ["logs", "done"] (spUnread K)) (C2 : Cal P w K mg base 1 "preferred" ["cells", "prefer"] (spPref K))
    (C3 : Cal P w K mg base 1 "parts_by" ["logs", "cell"] (spParts K)) : ∀ n, Cal P w K mg base (n + 3) "built" ["logs", "done", "prefer"] (spBuilt K n)
  | 0 => h.cal fun f fd F => by
    have no : ∀ vs H Q E, ¬ spBuilt K 0 vs H Q E := fun vs H Q E h => by
      obtain ⟨v, a, T, L, done, _, _, _, _, hb, h9, _⟩ := h
      have := hb.few
      omega
    exact ⟨fun vs H Q E h => absurd h (no vs H Q E), fun A outer s H args us vs Q E _ _ _ _ h => absurd h (no vs H Q E)⟩
  | n + 1 => h.cal fun f fd F => by
    have ih := cal_built h B C1 C2 C3 n
    refine F.ok scBuilt (fun vs H Q E h => ?_) (fun cdv A outer s H vs Q E hr h => ?_)
    · obtain ⟨v, a, T, L, done, rfl, _⟩ := h
      rfl
    obtain ⟨v, a, T, L, done, rfl, hL, hD, hT, hb, h9, q⟩ := h
    have hu := hu_of hr
    refine ⟨_, pss_cons (ps_set (i := 3) scBuilt.nd rfl (Or.inl rfl) (C1.call (hr.mono (by omega)) (pa_cons (pv 0) (pa_cons (pv 1) pa_nil))))
      (pss_cons (ps_if (w_eq0 K hu (pv 3) (pe_lst pa_nil)) (pss_one (ps_ret (pe_tup pa_nil))) pss_nil)
      (pss_cons (ps_set (i := 4) scBuilt.nd rfl (Or.inr rfl) (C2.call (hr.mono (by omega)) (pa_cons (pv 3) (pa_cons (pv 2) pa_nil))))
      (pss_one (ps_ret (pe_tup (pa_cons (pv 4) (pa_cons (w_tup K B.tuple
        (pe_lc (own := [("value", 5), ("part", 6)]) (g := gTup K 2 (gCons (gName 5) (gCons (gName 6) gNil))) (tt := tYes)
          (te := tTup (tCons (tVar 5) (tCons (tCall (spBuilt K n) [] E0 (tCons (tVar 6) (tCons (tOp (rCatP K) (tVar 1) (tTup (tCons (tVar 4) tNil))) (tCons (tVar 2) tNil)))) tNil)))
          rfl scBuilt.nd (w_list_iter K (C3.call (hr.mono (by omega)) (pa_cons (pv 0) (pa_cons (pv 4) pa_nil))))
          (blkOk_by (N := nBuilt) (sc := defScope sBuilt) (by decide +kernel)) (fun _ _ _ _ _ => w_tgt K (pgs_cons (pg_name (i := 5) scBuilt.nd rfl (Or.inl rfl)) (pgs_cons (pg_name (i := 6) scBuilt.nd rfl (Or.inl rfl)) pgs_nil)))
          (fun _ _ _ _ _ => pts_nil)
          (fun _ _ _ _ _ => pe_tup (pa_cons (pv 5) (pa_cons (ih.call hr (pa_cons (pv 6) (pa_cons (w_cat K (pv 1) (pe_tup (pa_cons (pv 4) pa_nil))) (pa_cons (pv 2) pa_nil)))) pa_nil))))) pa_nil))))))), ?_⟩
    refine ⟨_, rfl, _, rfl, v, L, a, done, rfl, hL, hb.ok, hD, fun r H1 s1 hr1 => ?_⟩
    refine ⟨_, rfl, Nat.zero_le _, fun p hp => ⟨r, p, _, rfl, rfl, .inl ⟨.inl (.inl (same_new hp _ _ _ hr1)), .inl (.inl upd_same)⟩, _, rfl, ?_⟩⟩
    have s2 : Same H (upd H1 p (.lst [])) := s1.trans (same_new hp _)
    have hr2 := same_new hp (.lst []) _ _ hr1
    generalize upd H1 p (.lst []) = H2 at s2 hr2 ⊢
    cases hun : unread L done with
    | nil =>
      exact iteT ⟨Nat.zero_le _, fun t ht => q _ _ .leaf (s2.trans (same_new ht _)) ⟨t, rfl, .inl (.inl upd_same)⟩ (hb.leaf hun)⟩
    | cons c cs =>
      have hcm : c ∈ unread L done := by rw [hun]; exact List.mem_cons_self
      have hcs : c ∈ shared L := (List.mem_filter.mp hcm).1
      rw [hun] at hr2
      refine iteF ⟨_, rfl, _, rfl, r, T, c, cs, rfl, .inl (.inl hr2), Same.seqT s2 hT, ?_⟩
      refine ⟨_, rfl, _, rfl, _, rfl, v, c, L, rfl, hL.same s2, hb.ok, hcs, fun r3 H3 ys ns s3 hr3 hys vals hn5 => ?_⟩
      refine ⟨r3, rfl, ⟨_, SqL.of hr3⟩, fun D hD3 => ?_⟩
      have s03 : Same H H3 := s2.trans s3
      have hyl : ys.length = ns.length := Paired.length hys
      have hd8 := hb.few
      refine lc_list (K := K) (a := r3) (xs := ys) (Lc H3 D (PKids K L done c ns)) (lc_start hD3 ⟨[], .nil, rfl, fun k hk => by cases hk⟩) (fun i H' _ h => .inl (.inl (h.1 _ _ hr3))) ?_ ?_
      · rintro i y H4 hi ⟨e4, acc, eD, la, kl, hP, hk, hg⟩
        obtain ⟨n', hn', hy⟩ := Paired.at hys hi
        obtain ⟨pp, gv, rfl, hpp, hgv⟩ := hy.same e4
        have hi' : i < ys.length := (List.getElem?_eq_some_iff.mp hi).1
        have hmem : n' ∈ ns := List.mem_of_getElem? hn'
        have s04 : Same H H4 := s03.trans e4
        refine ⟨pp, _, rfl, hpp, rfl, _, _, rfl, _, _, rfl, rfl, rfl, _, rfl, _, rfl, ?_⟩
        refine ⟨_, rfl, _, rfl, ⟨by rw [sizeLine_eq]; show 1 ≤ _; omega, fun p1 hp1 => ?_⟩⟩
        have s5 : Same H4 (upd H4 p1 (.tup [.str c])) := same_new hp1 _
        refine ⟨a, p1, _, _, rfl, rfl, Same.seqT (s04.trans s5) hD, .inl (.inl upd_same), by rw [sizeLine_eq, List.length_map]; show done.length + 1 ≤ _; omega, fun pd H6 s6 h6 _ => ?_⟩
        have s46 : Same H4 H6 := s5.trans s6
        refine ⟨_, rfl, gv, pd, T, part L c n', done ++ [c], rfl, hgv.same s46, by rw [List.map_append]; exact h6, Same.seqT (s04.trans s46) hT, hb.next hcm vals hmem, by rw [List.length_append]; show 9 ≤ n + (done.length + 1); omega, fun x7 H7 t s7 ht hgood => ?_⟩
        refine ⟨by rw [sizeLine_eq]; show 2 ≤ _; omega, fun pr hpr => ?_⟩
        have s48 : Same H4 (upd H7 pr (.tup [.int n', x7])) := s46.trans (s7.trans (same_new hpr _))
        have eD8 := s48 _ _ eD
        refine lc_put hD3 (by omega) eD8 la (e4.trans s48) ⟨kl ++ [(n', t)], ?_, ?_, ?_⟩
        · have sA : SameT (del H4 D) (del (upd H7 pr (.tup [.int n', x7])) D) := .of (del_mono s48)
          refine Paired.append (Paired.mono (fun _ _ q => q.sameT sA) hP) (.cons ⟨pr, x7, rfl, ?_, ?_⟩ .nil)
          · exact SqT.sameT (sameT_del eD8) (.inl (.inl upd_same))
          · exact TreeV.sameT ((SameT.of (same_new hpr _)).trans (sameT_del eD8)) _ _ ht
        · rw [List.map_append, hk, take_next hn']
          rfl
        · intro k hkm
          rcases List.mem_append.mp hkm with z | z
          · exact hg k z
          · rw [List.mem_singleton.mp z]
            exact hgood
      · rintro H4 ⟨e4, acc, eD, la, kl, hP, hk, hg⟩
        rw [hyl, List.take_length] at hk
        refine ⟨D, acc, rfl, SqL.of eD, fun l H5 s5 t5 => ⟨by rw [sizeLine_eq]; show 2 ≤ _; omega, fun pr hpr => ?_⟩⟩
        have s45 : Same H4 (upd H5 pr (.tup [.str c, .ref l])) := s5.trans (same_new hpr _)
        refine q _ _ (.node c (ofL kl)) (s03.trans (e4.trans s45)) ⟨pr, l, acc, rfl, .inl (.inl upd_same), Same.seqT (same_new hpr _) t5.sq, kids_of ?_⟩ (hb.node hcm vals hk hg)
        exact Paired.mono (fun _ _ q => q.sameT ((SameT.of del_same).trans (.of s45))) hP
end
end Rd

set_option Elab.async false
set_option linter.all false
set_option maxRecDepth 100000
namespace Rd
open PySem PySem.Spec PyProof.Rows L2
/-- reader_for stands behind the top, its default an empty tuple -/
structure KnownR (K : PySem.W.Frag) (mg : Str → Option Value) (T : Addr) : Prop where
  ex : ∃ (f : Addr) (fd : FuncData), FunD K "reader_for" "reader_for" (defArgs sReader) (defBody sReader) (defScope sReader) [] [("prefer", V.ref T)] f fd ∧ mg "reader_for" = some (.ref f)
  emp : ∃ (o : Obj) (n : Nat), K.lookup T = some o ∧ o.cls = .type "tuple" ∧ o.data = .seq #[] n
theorem KnownR.binds {K : PySem.W.Frag} {f T : Addr} {fd : FuncData} (F : FunD K "reader_for" "reader_for" (defArgs sReader) (defBody sReader) (defScope sReader) [] [("prefer", V.ref T)] f fd) : ∃ ds, Vals [V.ref T] ds ∧ Binds K fd ["logs", "prefer"] ds := by
  refine F.binds0 1 (by simp) rfl fun D doc pm an cdv ct us ks hu hk => ?_
  match us, ks, hu, hk with
  | [u], [k], _, _ => 
    exact ⟨_, _, _, _, _, _, rfl, rfl, rfl⟩
theorem KnownR.sq {K : PySem.W.Frag} {mg : Str → Option Value} {T : Addr} (h : KnownR K mg T) (H : Hp) : SqT K H T [] := by
  obtain ⟨o, n, h1, h2, h3⟩ := h.emp
  exact .inr ⟨o, #[], n, h1, h2, h3, Nat.zero_le _, .nil⟩
def spReader (K : PySem.W.Frag) (T : Addr) : Sp := fun vs H Q _ => ∃ v L, vs = [v, .ref T] ∧ LogsV K H v L ∧ LogsOk L ∧ L ≠ [] ∧ NoStuck L ∧ (∀ l ∈ L, sortLog l = l) ∧ ∀ r H' t, Same H H' → TreeV K H' t r → Slim t → ((lv t []).map sortLog).Perm L → Q r H'
abbrev nReader : List Str := ["logs", "prefer"]
theorem scReader : FnScope nReader ["logs", "prefer"] (defScope sReader) := ⟨rfl, rfl, rfl, by decide +kernel, rfl, by decide +kernel, by decide +kernel⟩
section
variable {P : Program} {w : World} {K : PySem.W.Frag} {mg : Str → Option Value} {base : Heap}
/-- reader_for, as its callers see it -/
structure CalR (P : Program) (w : World) (K : PySem.W.Frag) (mg : Str → Option Value) (base : Heap) (T : Addr) : Prop where
  ex : ∃ (f : Addr) (fd : FuncData) (ds : List Value), FnOk P w K mg base CX0 13 f fd ["logs", "prefer"] (spReader K T) ∧ mg "reader_for" = some (.ref f) ∧ PySem.W.keepIn K (.ref f) = true ∧ Binds K fd ["logs", "prefer"] ds ∧ Vals [V.ref T] ds
theorem CalR.call {T : Addr} (C : CalR P w K mg base T) {X : Cx} (hr : Room 13 X.A) {p pos : Pos} {e : Expr} {es : List Expr} {t : TA} (ha : PA X (e :: es) t)
    (h1 : X.prog = P := by rfl) (h2 : X.w = w := by rfl) (h3 : X.K = K := by rfl) (h4 : X.mg = mg := by rfl) (h5 : X.base = base := by rfl) (hg : Gl X "reader_for" := by rfl)
    (he : starEach (e :: es) X.env = (false, eval e X.env) :: starEach es X.env := by rfl)
    (hpl : (backTo pos (starEach es X.env)).any (·.1) = false := by rfl) :
    PE X (.Call (.Name "reader_for" p) (e :: es) [] pos) (tCall (spReader K T) [.ref T] E0 t) := by
  subst h1
  subst h2
  subst h3
  subst h4
  subst h5
  obtain ⟨f, fd, ds, F, m, kp, b, hv⟩ := C.ex
  exact pe_call F hr hg m kp b hv pass0 ha (he := he) (hpl := hpl)
theorem cal_reader {T : Addr} (h : KnownR K mg T) (C1 : Cal P w K mg base 7 "check_logs" ["logs"] (spCheck K)) (C2 : Cal P w K mg base 12 "built" ["logs", "done", "prefer"] (spBuilt K 9)) : CalR P w K mg base T := by
  obtain ⟨f, fd, F, hm⟩ := h.ex
  obtain ⟨ds, hv, hb⟩ := KnownR.binds F
  refine ⟨f, fd, ds, F.ok scReader (fun vs H Q E h => ?_) (fun cdv A outer s H vs Q E hr h' => ?_), hm, F.kp, hb, hv⟩
  · obtain ⟨v, L, rfl, _⟩ := h
    rfl
  obtain ⟨v, L, rfl, hL, hok, hne, ns, srt, q⟩ := h'
  refine ⟨_, pss_cons (ps_expr (C1.call (hr.mono (by omega)) (pa_cons (pv 0) pa_nil))) (pss_one (ps_ret (C2.call hr (pa_cons (pv 0) (pa_cons (pe_tup pa_nil) (pa_cons (pv 1) pa_nil)))))), ?_⟩
  refine ⟨_, rfl, v, L, rfl, hL, hok, hne, ns, fun H1 s1 => ?_⟩
  refine ⟨_, rfl, Nat.zero_le _, fun p hp => ⟨_, rfl, v, p, T, L, [], rfl, hL.same (s1.trans (same_new hp _)), .inl (.inl upd_same), h.sq _, ⟨hok, hne, ns, srt, List.nodup_nil, fun c hc => by cases hc⟩, by decide, fun r H2 t s2 ht hg => ?_⟩⟩
  exact q r H2 t (s1.trans ((same_new hp _).trans s2)) ht hg.1 (hg.2 [] fun l _ => rfl)
end
end Rd

set_option Elab.async false
set_option linter.all false
set_option maxRecDepth 100000
namespace Rd
open PySem PySem.Spec PyProof.Rows L2
abbrev nBox : List Str := ["_law_script", "_law_k", "_law_name", "_law_own"]
theorem scBox : FnScope nBox ["_law_script", "_law_k"] (defScope sBox) := ⟨rfl, rfl, rfl, by decide +kernel, rfl, by decide +kernel, by decide +kernel⟩
/-- the box of numbers -/
def BoxAt (H : Hp) (b : Addr) : Prop := ∃ own mx k : Int, H b = some (.lst [.int own, .int mx, .int k]) ∧ 0 ≤ own ∧ 0 ≤ mx ∧ mx < 2305843009213693921 ∧ 0 ≤ k ∧ k ≤ 0
def spBox (K : PySem.W.Frag) : Sp := fun vs H Q _ => ∃ (a : Addr) (ns : List Int), vs = [.ref a, .int 0] ∧ SqL K H a (ns.map V.int) ∧ ∀ r own mx, H r = none → 0 ≤ own → 0 ≤ mx → mx < 2305843009213693921 → Q (.ref r) (upd H r (.lst [.int own, .int mx, .int 0]))
theorem int_bool (b : Bool) : -(2 ^ 64) < (if b = true then (1 : Int) else 0) ∧ (if b = true then (1 : Int) else 0) < 2 ^ 64 := by cases b <;> decide
theorem int_bool0 (b : Bool) : 0 ≤ (if b = true then (1 : Int) else 0) := by cases b <;> decide
theorem box_ne : ((10 : Int) ^ Int.toNat 60) ^ Int.toNat 5 ≠ 0 := by decide +kernel
theorem box_pos : (0 : Int) < ((10 : Int) ^ Int.toNat 60) ^ Int.toNat 5 := by decide +kernel
theorem fm {a b : Int} (h : 0 < b) : 0 ≤ a.fmod b ∧ a.fmod b < b := ⟨Int.fmod_nonneg_of_pos a h, Int.fmod_lt_of_pos a h⟩
theorem mx_b (n : Int) : -(2 ^ 64) < n.fmod 2305843009213693951 + 104729 * 0 * 0 + 37 ∧ n.fmod 2305843009213693951 + 104729 * 0 * 0 + 37 < 2 ^ 64 := by
  have := fm (a := n) (b := 2305843009213693951) (by decide)
  omega
section
variable {P : Program} {w : World} {K : PySem.W.Frag} {mg : Str → Option Value} {base : Heap}
theorem cal_box (h : Known K mg "_law_box" sBox ["_law_script", "_law_k"]) (B : Bl mg) : Cal P w K mg base 1 "_law_box" ["_law_script", "_law_k"] (spBox K) := h.cal fun f fd F => by
  refine F.ok scBox (fun vs H Q E h => ?_) (fun cdv A outer s H vs Q E hr h => ?_)
  · obtain ⟨a, ns, rfl, _⟩ := h
    rfl
  obtain ⟨a, ns, rfl, hL, q⟩ := h
  refine ⟨_, pss_cons (ps_set (i := 2) scBox.nd rfl (Or.inl rfl) (pe_ifExp (pt_cmpR op_lt (pv 1) (w_len K B.len (pv 0)) (nomark _)) (w_ixL K (pv 0) (pv 1)) (pe_op op_add (pe_mul pe_int (pv 1)) pe_int)))
    (pss_cons (ps_set (i := 3) scBox.nd rfl (Or.inl rfl) (pe_op op_mul (pe_op op_modN (pe_callB call_abs (by rfl) B.abs bt_abs (pa_cons (pv 2) pa_nil)) (pe_op op_powW (pe_op op_pow pe_int pe_int) pe_int))
      (pe_callTy call_int1 (by rfl) B.int bt_int (pa_cons (pe_cmpR op_ge (pe_callB call_abs (by rfl) B.abs bt_abs (pa_cons (pv 2) pa_nil)) (pe_op op_pow pe_int pe_int) (nomark _)) pa_nil))))
    (pss_one (ps_ret (pe_lst (pa_cons (pv 3) (pa_cons (pe_op op_modN (pe_mul (pe_op op_add (pe_op op_add (pe_op op_modN (pv 2) pe_int) (pe_mul (pe_mul pe_int (pv 1)) (pv 1))) pe_int) pe_int) pe_int) (pa_cons pe_int pa_nil))))))), ?_⟩
  refine ⟨_, rfl, _, rfl, a, _, rfl, .inl hL, _, _, rfl, rfl, _, rfl, ?_⟩
  rcases ns with _ | ⟨n, r⟩
  all_goals first
    | (rw [decide_eq_true (by rw [List.length_map, List.length_cons]; omega)]; refine iteT ⟨_, rfl, _, rfl, a, _, 0, .int n, rfl, rfl, hL, atI_nat (by rfl), ?_⟩)
    | (rw [decide_eq_false (by simp)]; refine iteF ⟨_, rfl, _, _, rfl, rfl, ⟨by decide, by decide⟩, _, _, rfl, rfl, ?_⟩)
  all_goals
    refine ⟨_, rfl, _, rfl, 10, 60, rfl, rfl, ⟨by decide, by decide, by decide⟩, _, _, rfl, rfl, by decide, by decide +kernel, ?_⟩
    refine ⟨_, _, rfl, rfl, box_ne, ?_⟩
    refine ⟨_, rfl, _, rfl, 10, 18, rfl, rfl, ⟨by decide, by decide, by decide⟩, _, _, rfl, rfl, ?_⟩
    refine .inr ⟨_, rfl, _, _, rfl, rfl, .inr (int_bool _), ?_⟩
    refine ⟨_, rfl, _, rfl, _, _, rfl, rfl, (show (2305843009213693951 : Int) ≠ 0 by decide), _, rfl, _, _, rfl, rfl, ⟨by decide, by decide⟩, _, rfl, _, _, rfl, rfl, ⟨by decide, by decide⟩, _, _, rfl, rfl, _, _, rfl, rfl, _, _, rfl, rfl, ?_, ?_⟩
    · exact mx_b _
    refine ⟨_, _, rfl, rfl, (show (2305843009213693921 : Int) ≠ 0 by decide), (show 3 ≤ sizeLine by decide), fun r hr => q r _ _ hr (Int.mul_nonneg (fm box_pos).1 (int_bool0 _)) (fm (by decide)).1 (fm (by decide)).2⟩
end
end Rd

set_option Elab.async false
set_option linter.all false
set_option maxRecDepth 100000
namespace Rd
open PySem PySem.Spec PyProof.Rows L2
abbrev nTake : List Str := ["_law_box_here", "_law_upon", "_law_digit", "_law_prime", "_law_drawn"]
theorem scTake : FnScope nTake ["_law_box_here", "_law_upon"] (defScope sTake) := ⟨rfl, rfl, rfl, by decide +kernel, rfl, by decide +kernel, by decide +kernel⟩
/-- all but the box stands -/
def SameBut (b : Addr) (H H' : Hp) : Prop := ∀ a o, a ≠ b → H a = some o → H' a = some o
/-- the box, at most k numbers drawn -/
def BoxOk (H : Hp) (b : Addr) (k : Nat) : Prop := ∃ own mx : Int, ∃ j : Nat, H b = some (.lst [.int own, .int mx, .int (j : Int)]) ∧ 0 ≤ own ∧ 0 ≤ mx ∧ mx < 2305843009213693921 ∧ j ≤ k
def spTake (K : PySem.W.Frag) : Sp := fun vs H Q _ => ∃ (b : Addr) (u k : Nat), vs = [.ref b, .int (u : Int)] ∧ BoxOk H b k ∧ k < 1000000 ∧ 1 ≤ u ∧ u ≤ 1000000 ∧ ∀ (r : Nat) H', r < u → SameBut b H H' → BoxOk H' b (k + 1) → Q (.int (r : Int)) H'
abbrev primes : List V := [.int 2147483629, .int 2147483587, .int 2147483579, .int 2147483563, .int 2147483549, .int 2147483543, .int 2147483497]
theorem prime_at {i : Int} (h0 : 0 ≤ i) (h : i < 7) : ∃ p : Int, atI primes i = some (.int p) ∧ 0 < p ∧ p < 2147483648 := by
  obtain ⟨m, rfl⟩ : ∃ m : Nat, i = (m : Int) := ⟨i.toNat, by omega⟩
  match m, h with
  | 0, _ => exact ⟨_, atI_nat (by rfl), by decide, by decide⟩
  | 1, _ => exact ⟨_, atI_nat (by rfl), by decide, by decide⟩
  | 2, _ => exact ⟨_, atI_nat (by rfl), by decide, by decide⟩
  | 3, _ => exact ⟨_, atI_nat (by rfl), by decide, by decide⟩
  | 4, _ => exact ⟨_, atI_nat (by rfl), by decide, by decide⟩
  | 5, _ => exact ⟨_, atI_nat (by rfl), by decide, by decide⟩
  | 6, _ => exact ⟨_, atI_nat (by rfl), by decide, by decide⟩
  | m + 7, h => omega
section
variable {P : Program} {w : World} {K : PySem.W.Frag} {mg : Str → Option Value} {base : Heap}
theorem cal_take (h : Known K mg "_law_take" sTake ["_law_box_here", "_law_upon"]) (B : Bl mg) : Cal P w K mg base 1 "_law_take" ["_law_box_here", "_law_upon"] (spTake K) := h.cal fun f fd F => by
  refine F.ok scTake (fun vs H Q E h => ?_) (fun cdv A outer s H vs Q E hr h => ?_)
  · obtain ⟨b, u, k, rfl, _⟩ := h
    rfl
  obtain ⟨b, u, k, rfl, ⟨own, mx, j, hb, h0, h1, h2, h3⟩, hk, hu1, hu2, q⟩ := h
  refine ⟨_, pss_cons (ps_if (pt_cmpR op_gt (w_ixL K (pv 0) pe_int) pe_int (nomark _))
      (pss_cons (ps_set (i := 2) scTake.nd rfl (Or.inl rfl) (pe_op op_modN (w_ixL K (pv 0) pe_int) (pv 1)))
      (pss_cons (ps_asg (pe_op op_fdivN (w_ixL K (pv 0) pe_int) (pv 1)) (pg_sub (pv 0) pe_int set_list))
      (pss_one (ps_ret (pv 2))))) pss_nil)
    (pss_cons (ps_asg (pe_op op_add (w_ixL K (pv 0) pe_int) pe_int) (pg_sub (pv 0) pe_int set_list))
    (pss_cons (ps_set (i := 3) scTake.nd rfl (Or.inl rfl) (w_ixL K (pe_lst (pa_cons pe_int (pa_cons pe_int (pa_cons pe_int (pa_cons pe_int (pa_cons pe_int (pa_cons pe_int (pa_cons pe_int pa_nil)))))))) (pe_op op_modN (w_ixL K (pv 0) pe_int) pe_int)))
    (pss_cons (ps_set (i := 4) scTake.nd rfl (Or.inl rfl) (pe_op op_modN (pe_op op_pow (pe_op op_add (w_ixL K (pv 0) pe_int) (pe_mul pe_int (w_ixL K (pv 0) pe_int))) pe_int) (pv 3)))
    (pss_cons (ps_set (i := 4) scTake.nd rfl (Or.inl rfl) (pe_op op_modN (pe_mul (pv 4) (pe_op op_add (pe_op op_modN (pv 4) pe_int) (w_ixL K (pv 0) pe_int))) (pv 3)))
    (pss_cons (ps_if (pt_cmpR op_gt (pv 1) (pe_op op_pow pe_int pe_int) (nomark _)) pss_never pss_nil)
    (pss_one (ps_ret (pe_op op_modN (pe_op op_fdivN (pv 4) pe_int) (pv 1))))))))), ?_⟩
  refine ⟨_, rfl, b, _, 0, _, rfl, rfl, SqL.of hb, atI_nat (by rfl), _, _, rfl, rfl, _, rfl, ?_⟩
  by_cases c : 0 < own
  · rw [decide_eq_true c]
    refine iteT ⟨_, rfl, b, _, 0, _, rfl, rfl, SqL.of hb, atI_nat (by rfl), _, rfl, _, _, rfl, rfl, (show (u : Int) ≠ 0 by omega), ?_⟩
    refine ⟨_, rfl, b, _, 0, _, rfl, rfl, SqL.of hb, atI_nat (by rfl), _, rfl, _, _, rfl, rfl, ⟨by omega, by omega⟩, ?_⟩
    refine ⟨_, rfl, b, _, 0, 0, rfl, rfl, hb, (show ixN 3 0 = some 0 by decide), _, rfl, ?_⟩
    have := fm (a := own) (b := (u : Int)) (by omega)
    have hd : 0 ≤ own.fdiv (u : Int) := Int.fdiv_nonneg h0 (by omega)
    have hq := q (own.fmod (u : Int)).toNat (upd H b (.lst [.int (own.fdiv (u : Int)), .int mx, .int (j : Int)])) (by omega) (fun a o ne e => by rw [upd_ne ne]; exact e) ⟨_, mx, j, upd_same, hd, h1, h2, by omega⟩
    rw [Int.toNat_of_nonneg this.1] at hq
    exact hq
  · rw [decide_eq_false c]
    refine iteF ⟨_, rfl, b, _, 2, _, rfl, rfl, SqL.of hb, atI_nat (by rfl), _, _, rfl, rfl, ?_⟩
    refine ⟨_, rfl, b, _, 2, 2, rfl, rfl, hb, (show ixN 3 2 = some 2 by decide), ?_⟩
    show tSeq _ _ _ _ (upd H b (.lst [.int own, .int mx, .int ((j : Int) + 1)]))
    refine ⟨(show 7 ≤ sizeLine by decide), fun p hp => ?_⟩
    have nbp : b ≠ p := ne_of_none (show upd H b (.lst [.int own, .int mx, .int ((j : Int) + 1)]) b = _ from upd_same) hp
    have hb2 : upd (upd H b (.lst [.int own, .int mx, .int ((j : Int) + 1)])) p (.lst primes) b = some (.lst [.int own, .int mx, .int ((j : Int) + 1)]) := by rw [upd_ne nbp, upd_same]
    have hp2 : upd (upd H b (.lst [.int own, .int mx, .int ((j : Int) + 1)])) p (.lst primes) p = some (.lst primes) := upd_same
    have hsb : SameBut b H (upd (upd H b (.lst [.int own, .int mx, .int ((j : Int) + 1)])) p (.lst primes)) := fun a o ne e => by
      have e2 : upd H b (.lst [.int own, .int mx, .int ((j : Int) + 1)]) a = some o := by rw [upd_ne ne]; exact e
      rw [upd_ne (ne_of_none e2 hp)]
      exact e2
    have hbox : BoxOk (upd (upd H b (.lst [.int own, .int mx, .int ((j : Int) + 1)])) p (.lst primes)) b (k + 1) := ⟨own, mx, j + 1, hb2, h0, h1, h2, by omega⟩
    show tOp _ _ _ _ (upd (upd H b (.lst [.int own, .int mx, .int ((j : Int) + 1)])) p (.lst primes)) _
    generalize upd (upd H b (.lst [.int own, .int mx, .int ((j : Int) + 1)])) p (.lst primes) = H2 at hb2 hp2 hsb hbox ⊢
    have hm := fm (a := (j : Int) + 1) (b := 7) (by decide)
    obtain ⟨pr, hpr, p0, p1⟩ := prime_at hm.1 hm.2
    refine ⟨_, rfl, b, _, 2, _, rfl, rfl, SqL.of hb2, atI_nat (by rfl), _, _, rfl, rfl, (show (7 : Int) ≠ 0 by decide), ?_⟩
    refine ⟨p, _, _, _, rfl, rfl, SqL.of hp2, hpr, ?_⟩
    refine ⟨_, rfl, b, _, 1, _, rfl, rfl, SqL.of hb2, atI_nat (by rfl), _, rfl, b, _, 2, _, rfl, rfl, SqL.of hb2, atI_nat (by rfl), _, _, rfl, rfl, ⟨by decide, by decide⟩, _, _, rfl, rfl, _, _, rfl, rfl, ⟨by decide, by decide, by omega⟩, _, rfl, _, _, rfl, rfl, (show pr ≠ 0 by omega), ?_⟩
    have d1 := fm (a := (mx + 7919 * ((j : Int) + 1)) ^ Int.toNat 3) (b := pr) p0
    refine ⟨_, rfl, _, rfl, _, _, rfl, rfl, (show (1009 : Int) ≠ 0 by decide), _, rfl, b, _, 2, _, rfl, rfl, SqL.of hb2, atI_nat (by rfl), _, _, rfl, rfl, _, _, rfl, rfl, ⟨by omega, by omega⟩, _, rfl, _, _, rfl, rfl, (show pr ≠ 0 by omega), ?_⟩
    refine ⟨_, rfl, 10, 6, rfl, rfl, ⟨by decide, by decide, by decide⟩, _, _, rfl, rfl, _, rfl, ?_⟩
    rw [decide_eq_false (show ¬ (10 : Int) ^ Int.toNat 6 < (u : Int) by
      have : (10 : Int) ^ Int.toNat 6 = 1000000 := by decide
      omega)]
    refine iteF ⟨_, rfl, _, _, rfl, rfl, ⟨by decide, by decide⟩, _, rfl, _, _, rfl, rfl, (show (u : Int) ≠ 0 by omega), ?_⟩
    have := fm (a := Int.fdiv (((((mx + 7919 * ((j : Int) + 1)) ^ Int.toNat 3).fmod pr) * ((((mx + 7919 * ((j : Int) + 1)) ^ Int.toNat 3).fmod pr).fmod 1009 + ((j : Int) + 1))).fmod pr) 11) (b := (u : Int)) (by omega)
    have hq := q _ H2 (Int.toNat_lt this.1 |>.mpr this.2) hsb hbox
    rw [Int.toNat_of_nonneg this.1] at hq
    exact hq
end
end Rd

set_option Elab.async false
set_option linter.all false
set_option maxRecDepth 100000
namespace Rd
open PySem PySem.Spec PyProof.Rows L2
open PySem.W (AllAlike Sortable dataLe)
abbrev nLeaves : List Str := ["_law_tree", "_law_found", "_law_waiting", "_law_here", "_law_pairs", "_law_value", "_law_below"]
theorem scLeaves : FnScope nLeaves ["_law_tree"] (defScope sLeaves) := ⟨rfl, rfl, rfl, by decide +kernel, rfl, by decide +kernel, by decide +kernel⟩
def spLeaves (K : PySem.W.Frag) : Sp := fun vs H Q _ => ∃ v t, vs = [v] ∧ TreeV K H t v ∧ Slim t ∧ (lv t []).length ≤ 300 ∧ (∀ q ∈ lv t [], q ≠ [] ∧ q.length ≤ 8) ∧ ∀ r H', Same H H' → LogsV K H' r (sortLogs ((lv t []).map sortLog)) → Q r H'
/-! ### counting -/
mutual
def cnt : Rt → Nat
  | .leaf => 1
  | .node _ ks => 1 + cnts ks
def cnts : Rts → Nat
  | .nil => 0
  | .cons _ t r => cnt t + cnts r
end
theorem cnts_ofL : ∀ kl : List (Int × Rt), cnts (ofL kl) = (kl.map fun k => cnt k.2).sum
  | [] => rfl
  | k :: r => by
    rw [List.map_cons, List.sum_cons, ← cnts_ofL r]
    rfl
mutual
theorem lv_ne : ∀ (t : Rt) (p : Log), Slim t → lv t p ≠ []
  | .leaf, p, _ => by
    show [p] ≠ []
    simp
  | .node c ks, p, h => lvs_ne c ks p h.2 h.1
theorem lvs_ne (c : Str) : ∀ (ks : Rts) (p : Log), Slims ks → ks ≠ .nil → lvs c ks p ≠ []
  | .nil, _, _, h => absurd rfl h
  | .cons n t r, p, h, _ => by
    have := lv_ne t (p ++ [(c, n)]) h.1
    show lv t (p ++ [(c, n)]) ++ lvs c r p ≠ []
    intro z
    exact this (List.append_eq_nil_iff.mp z).1
end
mutual
theorem lv_pre : ∀ (t : Rt) (p : Log), ∀ q ∈ lv t p, ∃ r, q = p ++ r
  | .leaf, p, q, h => ⟨[], by rw [List.append_nil]; exact List.mem_singleton.mp h⟩
  | .node c ks, p, q, h => lvs_pre c ks p q h
theorem lvs_pre (c : Str) : ∀ (ks : Rts) (p : Log), ∀ q ∈ lvs c ks p, ∃ r, q = p ++ r
  | .nil, _, q, h => by cases h
  | .cons n t r, p, q, h => by
    rcases List.mem_append.mp (show q ∈ lv t (p ++ [(c, n)]) ++ lvs c r p from h) with z | z
    · obtain ⟨r', e⟩ := lv_pre t _ q z
      exact ⟨(c, n) :: r', by rw [e, List.append_assoc]; rfl⟩
    · exact lvs_pre c r p q z
end
theorem dps_paired {K : PySem.W.Frag} {H : Hp} {β : Type} {enc : β → PyData} : ∀ {xs : List V} {bs : List β}, DpAll K H xs (bs.map enc) → Paired (fun v b => Dp K H v (enc b)) xs bs
  | _, [], h => by cases h; exact .nil
  | _, b :: bs, h => by
    cases h with
    | cons h1 h2 => exact .cons h1 (dps_paired h2)
theorem paired_dps {K : PySem.W.Frag} {H : Hp} {β : Type} {enc : β → PyData} : ∀ {xs : List V} {bs : List β}, Paired (fun v b => Dp K H v (enc b)) xs bs → DpAll K H xs (bs.map enc)
  | _, _, .nil => .nil
  | _, _, .cons h t => .cons h (paired_dps t)
/-- a path's tuple -/
def PathV (K : PySem.W.Frag) (H : Hp) (v : V) (p : Log) : Prop := ∃ b zs, v = .ref b ∧ SqT K H b zs ∧ DpAll K H zs (p.map dPair)
def WV (K : PySem.W.Frag) (H : Hp) (y : V) (w : Rt × Log) : Prop := ∃ q x pv, y = .ref q ∧ SqT K H q [x, pv] ∧ TreeV K H w.1 x ∧ PathV K H pv w.2
theorem PathV.sameT {K : PySem.W.Frag} {H H' : Hp} {v : V} {p : Log} (s : SameT H H') (h : PathV K H v p) : PathV K H' v p := by
  obtain ⟨b, zs, e, q1, q2⟩ := h
  exact ⟨b, zs, e, SqT.sameT s q1, pairs_sameT s q2⟩
theorem WV.sameT {K : PySem.W.Frag} {H H' : Hp} {y : V} {w : Rt × Log} (s : SameT H H') (h : WV K H y w) : WV K H' y w := by
  obtain ⟨q, x, pv, e, q1, q2, q3⟩ := h
  exact ⟨q, x, pv, e, SqT.sameT s q1, TreeV.sameT s _ _ q2, q3.sameT s⟩
abbrev WVs (K : PySem.W.Frag) (H : Hp) : List V → List (Rt × Log) → Prop := Paired (WV K H)
theorem WVs.sameT {K : PySem.W.Frag} {H H' : Hp} (s : SameT H H') {xs : List V} {ws : List (Rt × Log)} (h : WVs K H xs ws) : WVs K H' xs ws := Paired.mono (fun _ _ q => q.sameT s) h
def rest (ws : List (Rt × Log)) : List Log := ws.flatMap fun w => (lv w.1 w.2).map sortLog
structure LvAt (K : PySem.W.Frag) (H H' : Hp) (fa wa : Addr) (t0 : Rt) (fs : List Log) (ws : List (Rt × Log)) : Prop where
  same : Same H H'
  found : ∃ xs, H' fa = some (.lst xs) ∧ LogVs K H' xs fs
  wait : ∃ ys, H' wa = some (.lst ys) ∧ WVs K H' ys ws
  slim : ∀ w ∈ ws, Slim w.1
  perm : (fs ++ rest ws).Perm ((lv t0 []).map sortLog)
def wcost (ws : List (Rt × Log)) : Nat := (ws.map fun w => cnt w.1).sum
def LW (K : PySem.W.Frag) (H : Hp) (v : V) (fa wa : Addr) (t0 : Rt) : Nat → L2.St → Hp → Prop := fun m σ H' => ∃ fs ws z3 z4, σ = [some v, some (.ref fa), some (.ref wa), z3, z4, none, none] ∧ m = wcost ws ∧ LvAt K H H' fa wa t0 fs ws
def LN (K : PySem.W.Frag) (H : Hp) (v : V) (fa wa : Addr) (t0 : Rt) (m : Nat) : L2.St → Hp → Prop := fun σ H' => ∃ m', m' < m ∧ LW K H v fa wa t0 m' σ H'
theorem rest_app (a b : List (Rt × Log)) : rest (a ++ b) = rest a ++ rest b := by unfold rest; rw [List.flatMap_append]
theorem wcost_app (a b : List (Rt × Log)) : wcost (a ++ b) = wcost a + wcost b := by unfold wcost; rw [List.map_append, List.sum_append]
theorem rest_len : ∀ {ws : List (Rt × Log)}, (∀ w ∈ ws, Slim w.1) → ws.length ≤ (rest ws).length
  | [], _ => Nat.le_refl _
  | w :: r, h => by
    have ih := rest_len (ws := r) fun x hx => h x (List.mem_cons_of_mem _ hx)
    have h1 := List.length_pos_iff.mpr (lv_ne w.1 w.2 (h w List.mem_cons_self))
    have e : (rest (w :: r)).length = (lv w.1 w.2).length + (rest r).length := by
      unfold rest
      rw [List.flatMap_cons, List.length_append, List.length_map]
    rw [List.length_cons, e]
    omega
theorem sortLog_len (l : Log) : (sortLog l).length = l.length := (sortLog_perm l).length_eq
theorem LvAt.short {K : PySem.W.Frag} {H H' : Hp} {fa wa : Addr} {t0 : Rt} {fs : List Log} {ws : List (Rt × Log)} (h : LvAt K H H' fa wa t0 fs ws) (h8 : ∀ q ∈ lv t0 [], q ≠ [] ∧ q.length ≤ 8) {w : Rt × Log} (hw : w ∈ ws) : w.2.length ≤ 8 := by
  obtain ⟨q, hq⟩ := List.exists_mem_of_ne_nil _ (lv_ne w.1 w.2 (h.slim w hw))
  have hm : sortLog q ∈ fs ++ rest ws := List.mem_append_right _ (List.mem_flatMap.mpr ⟨w, hw, List.mem_map.mpr ⟨q, hq, rfl⟩⟩)
  obtain ⟨q0, hq0, e⟩ := List.mem_map.mp (h.perm.mem_iff.mp hm)
  have e2 := congrArg List.length e
  rw [sortLog_len, sortLog_len] at e2
  have := (h8 q0 hq0).2
  obtain ⟨r, er⟩ := lv_pre w.1 w.2 q hq
  rw [er, List.length_append] at e2
  omega
theorem LvAt.size {K : PySem.W.Frag} {H H' : Hp} {fa wa : Addr} {t0 : Rt} {fs : List Log} {ws : List (Rt × Log)} (h : LvAt K H H' fa wa t0 fs ws) (h3 : (lv t0 []).length ≤ 300) : fs.length + ws.length ≤ 300 := by
  have h1 := h.perm.length_eq
  rw [List.length_append, List.length_map] at h1
  have := rest_len h.slim
  omega
theorem kids_rest (c : Str) (p : Log) (kl : List (Int × Rt)) : rest (kl.map fun k => (k.2, p ++ [(c, k.1)])) = (lv (.node c (ofL kl)) p).map sortLog := by
  show _ = (lvs c (ofL kl) p).map sortLog
  rw [lvs_ofL]
  unfold rest
  rw [List.flatMap_map, List.map_flatMap]
theorem kids_cost (c : Str) (p : Log) (kl : List (Int × Rt)) : wcost (kl.map fun k => (k.2, p ++ [(c, k.1)])) + 1 = cnt (.node c (ofL kl)) := by
  show _ = 1 + cnts (ofL kl)
  rw [cnts_ofL]
  unfold wcost
  rw [List.map_map]
  rw [show ((fun w : Rt × Log => cnt w.1) ∘ fun k : Int × Rt => (k.2, p ++ [(c, k.1)])) = fun k => cnt k.2 from rfl]
  omega
end Rd

set_option Elab.async false
set_option linter.all false
set_option maxRecDepth 100000
namespace Rd
open PySem PySem.Spec PyProof.Rows L2
open PySem.W (AllAlike Sortable dataLe)
section
variable {P : Program} {w : World} {K : PySem.W.Frag} {mg : Str → Option Value} {base : Heap}
theorem cal_leaves (h : Known K mg "_law_leaves" sLeaves ["_law_tree"]) (B : Bl mg) : Cal P w K mg base 1 "_law_leaves" ["_law_tree"] (spLeaves K) := h.cal fun f fd F => by
  refine F.ok scLeaves (fun vs H Q E h => ?_) (fun cdv A outer s H vs Q E hr h => ?_)
  · obtain ⟨v, t, rfl, _⟩ := h
    rfl
  obtain ⟨v, t, rfl, hv, hsl, h300, h8, q⟩ := h
  have hu := hu_of hr
  refine ⟨_, pss_cons (ps_par (i := 1) (j := 2) rfl scLeaves.nd rfl rfl (by decide) rfl rfl (pa_cons (pe_lst pa_nil) (pa_cons (pe_lst (pa_cons (pe_tup (pa_cons (pv 0) (pa_cons (pe_tup pa_nil) pa_nil))) pa_nil)) pa_nil)) rfl)
    (pss_cons (ps_while PassesOwn.never (w_ne0 K hu (pv 2) (pe_lst pa_nil))
      (pss_cons (ps_asg (pe_bm0 PySem.F.plainAttrs_list PySem.F.slot_list_pop PySem.F.type_list_pop mt_pop (pv 2)) (w_tgt K (pgs_cons (pg_name (i := 3) scLeaves.nd rfl (Or.inr rfl)) (pgs_cons (pg_name (i := 4) scLeaves.nd rfl (Or.inr rfl)) pgs_nil))))
      (pss_one (ps_if (w_eq0 K hu (pv 3) (pe_tup pa_nil)) (pss_one (ps_expr (pe_bm PySem.F.plainAttrs_list PySem.F.slot_list_append PySem.F.type_list_append mt_append (pv 1) (pa_cons (w_tup K B.tuple (w_sort K hr.units B.sorted (pv 4))) pa_nil))))
        (pss_one (ps_expr (pe_bm PySem.F.plainAttrs_list PySem.F.slot_list_extend PySem.F.type_list_extend mt_extend (pv 2) (pa_cons
          (pe_lc (own := [("_law_value", 5), ("_law_below", 6)]) (g := gTup K 2 (gCons (gName 5) (gCons (gName 6) gNil))) (tt := tYes)
            (te := tTup (tCons (tVar 6) (tCons (tOp (rCatP K) (tVar 4) (tTup (tCons (tTup (tCons (tOp (rIxT K) (tVar 3) (tC (.int 0))) (tCons (tVar 5) tNil))) tNil))) tNil)))
            rfl scLeaves.nd (w_tup_iter K (w_ixT K (pv 3) pe_int))
            (blkOk_by (N := nLeaves) (sc := defScope sLeaves) (by decide +kernel)) (fun _ _ _ _ _ => w_tgt K (pgs_cons (pg_name (i := 5) scLeaves.nd rfl (Or.inl rfl)) (pgs_cons (pg_name (i := 6) scLeaves.nd rfl (Or.inl rfl)) pgs_nil)))
            (fun _ _ _ _ _ => pts_nil)
            (fun _ _ _ _ _ => pe_tup (pa_cons (pv 6) (pa_cons (w_cat K (pv 4) (pe_tup (pa_cons (pe_tup (pa_cons (w_ixT K (pv 3) pe_int) (pa_cons (pv 5) pa_nil))) pa_nil))) pa_nil)))) pa_nil))))))))
    (pss_one (ps_ret (w_tup K B.tuple (w_sort K hr.units B.sorted (pv 1)))))), ?_⟩
  refine ⟨Nat.zero_le _, fun fa hfa => ⟨_, rfl, Nat.zero_le _, fun pe hpe => ⟨(show 2 ≤ sizeLine by decide), fun pt hpt => ⟨(show 1 ≤ sizeLine by decide), fun wa hwa => ⟨_, _, rfl, ?_⟩⟩⟩⟩⟩
  have s1 : Same H (upd H fa (.lst [])) := same_new hfa _
  have s2 : Same (upd H fa (.lst [])) (upd (upd H fa (.lst [])) pe (.tup [])) := same_new hpe _
  have s3 := same_new hpt (.tup [v, .ref pe])
  have s4 := same_new hwa (.lst [.ref pt])
  have e1 : upd H fa (.lst []) fa = some (.lst []) := upd_same
  have e2 : upd (upd H fa (.lst [])) pe (.tup []) pe = some (.tup []) := upd_same
  have e3 : upd (upd (upd H fa (.lst [])) pe (.tup [])) pt (.tup [v, .ref pe]) pt = some (.tup [v, .ref pe]) := upd_same
  have nfw : fa ≠ wa := ne_of_none (s3 _ _ (s2 _ _ e1)) hwa
  have hwa0 : H wa = none := by
    cases z : H wa with
    | none => rfl
    | some o => rw [s3 _ _ (s2 _ _ (s1 _ _ z))] at hwa; cases hwa
  refine ⟨LW K H v fa wa t, ⟨_, [], [(t, [])], none, none, rfl, rfl, s1.trans (s2.trans (s3.trans s4)), ⟨[], s4 _ _ (s3 _ _ (s2 _ _ e1)), .nil⟩, ⟨_, upd_same, .cons ⟨pt, v, .ref pe, rfl, ?_, ?_, pe, [], rfl, ?_, .nil⟩ .nil⟩, fun w hw => ?_, ?_⟩, ?_⟩
  · exact .inl (.inl (s4 _ _ e3))
  · exact TreeV.sameT (.of (s1.trans (s2.trans (s3.trans s4)))) _ _ hv
  · exact .inl (.inl (s4 _ _ (s3 _ _ e2)))
  · rw [List.mem_singleton.mp hw]; exact hsl
  · unfold rest
    simp
  rintro m σ H' ⟨fs, ws, z3, z4, rfl, rfl, G⟩
  obtain ⟨fx, hfx, hfs⟩ := G.found
  obtain ⟨wx, hwx, hws⟩ := G.wait
  have hsz := G.size h300
  have hfl : fx.length = fs.length := Paired.length hfs
  have hwl : wx.length = ws.length := Paired.length hws
  refine ⟨_, rfl, Nat.zero_le _, fun p hp => ⟨wa, p, wx, rfl, rfl, .inl ⟨.inl (.inl (same_new hp _ _ _ hwx)), .inl (.inl upd_same)⟩, _, rfl, ?_⟩⟩
  have s5 : Same H' (upd H' p (.lst [])) := same_new hp _
  have hwx2 := s5 _ _ hwx
  have hfx2 := s5 _ _ hfx
  generalize upd H' p (.lst []) = H2 at s5 hwx2 hfx2 ⊢
  by_cases hwe : wx = []
  · subst hwe
    have hge : ws = [] := List.eq_nil_of_length_eq_zero hwl.symm
    subst hge
    refine iteF ?_
    obtain ⟨zs, ez1, ez2, ez3, ez4⟩ := sort_vals dLog (hfs.same s5)
    subst ez1
    refine ⟨_, rfl, fa, zs, rfl, .inl (SqL.of hfx2), fun z hz => ?_, ?_, ?_, fun z hz => ?_, fun p3 hp3 => ?_⟩
    · obtain ⟨b, h1, h2, _⟩ := ez3 z hz
      rw [h2]
      exact h1.dp
    · rw [ez2]
      intro d hd d' hd'
      obtain ⟨g, _, e⟩ := List.mem_map.mp hd
      obtain ⟨g', _, e'⟩ := List.mem_map.mp hd'
      rw [← e, ← e']
      exact alike_log _ _
    · rw [ez2]
      refine .inl fun d hd => ?_
      obtain ⟨g, hg, e⟩ := List.mem_map.mp hd
      obtain ⟨q0, hq0, e0⟩ := List.mem_map.mp (G.perm.mem_iff.mp (List.mem_append_left _ hg))
      have hl := congrArg List.length e0
      rw [sortLog_len] at hl
      have := List.length_pos_iff.mpr (h8 q0 hq0).1
      rw [← e]
      cases g with
      | nil => rw [List.length_nil] at hl; omega
      | cons p r => exact ⟨dPair p, r.map dPair, by simp [dLog]⟩
    · obtain ⟨b, h1, h2, _⟩ := ez3 z hz
      rw [h2]
      have := depth_log b
      omega
    · refine ⟨p3, _, rfl, SqL.of upd_same, fun l H4 s6 t6 => ?_⟩
      have sA : Same H2 H4 := (same_new hp3 _).trans s6
      have hp : (sortLogs fs) = sortLogs ((lv t []).map sortLog) := sortLogs_eq (by
        have := G.perm
        unfold rest at this
        rw [List.flatMap_nil, List.append_nil] at this
        exact this)
      refine q _ H4 (G.same.trans (s5.trans sA)) ⟨l, _, rfl, t6.sq, ?_⟩
      rw [← hp]
      exact LogVs.same sA ez4
  have hemp : wx.isEmpty = false := by cases wx with | nil => exact absurd rfl hwe | cons => rfl
  rw [hemp]
  refine ⟨LN K H v fa wa t (wcost ws), fun _ _ h => h, ?_⟩
  obtain ⟨wx0, x, ewx, hlast, edrop⟩ := last_pop hwe
  rw [ewx] at hws
  obtain ⟨ws0, wd, rfl, hws0, hw⟩ := Paired.unsnoc hws
  obtain ⟨here, path⟩ := wd
  have hwp : path.length ≤ 8 := G.short h8 (w := (here, path)) (by simp)
  have hwsl : Slim here := G.slim (here, path) (by simp)
  have s6 : SameT H' (upd H2 wa (.lst wx0)) := (SameT.of s5).trans (sameT_upd hwx2)
  obtain ⟨qa, tv, pv', rfl, hqa, htv, pb, zs, rfl, hpb, hpd⟩ := hw.sameT s6
  refine ⟨_, rfl, .inl ⟨rfl, _, SqL.of hwx2⟩, wa, wx, _, rfl, rfl, hwx2, hlast, ?_⟩
  rw [edrop]
  have s7 : Same H (upd H2 wa (.lst wx0)) := same_upd (G.same.trans s5) hwa0
  have hwx3 : upd H2 wa (.lst wx0) wa = some (.lst wx0) := upd_same
  have hfx3 : upd H2 wa (.lst wx0) fa = some (.lst fx) := by rw [upd_ne nfw]; exact hfx2
  have hwl0 : wx0.length = ws0.length := Paired.length hws0
  generalize upd H2 wa (.lst wx0) = H3 at s6 s7 hwx3 hfx3 hqa htv hpb hpd ⊢
  refine ⟨qa, _, rfl, hqa, rfl, _, _, rfl, _, _, rfl, rfl, ?_⟩
  cases here with
  | leaf =>
    obtain ⟨a, rfl, ha⟩ := htv
    refine ⟨_, rfl, Nat.zero_le _, fun p7 hp7 => ⟨a, p7, [], rfl, rfl, .inr ⟨Same.seqT (same_new hp7 _) ha, .inl (.inl upd_same)⟩, _, rfl, ?_⟩⟩
    have s8 : Same H3 (upd H3 p7 (.tup [])) := same_new hp7 _
    generalize upd H3 p7 (.tup []) = H4 at s8 ⊢
    refine iteT ?_
    obtain ⟨vs, ev1, ev2, ev3, ev4⟩ := sort_vals (F := fun v b => Dp K H4 v (dPair b)) dPair (dps_paired (dps_same s8 _ _ hpd))
    subst ev1
    refine ⟨_, rfl, .inl ⟨rfl, _, SqL.of (s8 _ _ hfx3)⟩, _, rfl, pb, vs, rfl, .inr (Same.seqT s8 hpb), fun z hz => ?_, ?_, ?_, fun z hz => ?_, fun p8 hp8 => ?_⟩
    · obtain ⟨b, h1, h2, _⟩ := ev3 z hz
      rw [h2]
      exact h1
    · rw [ev2]
      intro d hd d' hd'
      obtain ⟨g, _, e⟩ := List.mem_map.mp hd
      obtain ⟨g', _, e'⟩ := List.mem_map.mp hd'
      rw [← e, ← e']
      exact alike_pair _ _
    · rw [ev2]
      refine .inl fun d hd => ?_
      obtain ⟨g, _, e⟩ := List.mem_map.mp hd
      exact ⟨.str g.1, [.int g.2], e.symm⟩
    · obtain ⟨b, h1, h2, _⟩ := ev3 z hz
      rw [h2, depth_pair]
      decide
    · refine ⟨p8, _, rfl, SqL.of upd_same, fun l H5 s9 t9 => ?_⟩
      have sB : Same H4 H5 := (same_new hp8 _).trans s9
      have hfx5 := sB _ _ (s8 _ _ hfx3)
      have hwx5 := sB _ _ (s8 _ _ hwx3)
      refine ⟨fa, fx, _, rfl, rfl, hfx5, by rw [sizeLine_eq]; omega, ?_⟩
      have sC : SameT H' (upd H5 fa (.lst (fx ++ [.ref l]))) := s6.trans ((SameT.of (s8.trans sB)).trans (sameT_upd hfx5))
      have pl : LogV K H5 (.ref l) (sortLog path) := ⟨l, _, rfl, t9, paired_dps (Paired.mono (fun _ _ q => dp_same sB _ _ q) ev4)⟩
      refine ⟨wcost ws0, ?_, fs ++ [sortLog path], ws0, _, _, rfl, rfl, same_upd (s7.trans (s8.trans sB)) hfa, ⟨_, upd_same, ?_⟩, ⟨wx0, by rw [upd_ne (Ne.symm nfw)]; exact hwx5, WVs.sameT sC hws0⟩, fun w hw => G.slim w (List.mem_append_left _ hw), ?_⟩
      · rw [wcost_app]
        exact Nat.lt_add_of_pos_right (by simp [wcost, cnt])
      · exact Paired.append (LogVs.sameT sC hfs) (.cons (pl.sameT (sameT_upd hfx5)) .nil)
      · refine List.Perm.trans ?_ G.perm
        rw [rest_app, List.append_assoc]
        exact List.Perm.append_left _ List.perm_append_comm
  | node c ks =>
    obtain ⟨a, b, ys, rfl, ha, hb, hk⟩ := htv
    obtain ⟨kl, rfl, hkl⟩ := of_kids hk
    refine ⟨_, rfl, Nat.zero_le _, fun p7 hp7 => ⟨a, p7, _, rfl, rfl, .inr ⟨Same.seqT (same_new hp7 _) ha, .inl (.inl upd_same)⟩, _, rfl, ?_⟩⟩
    have s8 : Same H3 (upd H3 p7 (.tup [])) := same_new hp7 _
    generalize upd H3 p7 (.tup []) = H4 at s8 ⊢
    refine iteF ?_
    have hwx4 := s8 _ _ hwx3
    have hfx4 := s8 _ _ hfx3
    have hyl : ys.length = kl.length := Paired.length hkl
    have key : wcost (ws0 ++ kl.map fun k => (k.2, path ++ [(c, k.1)])) < wcost (ws0 ++ [(.node c (ofL kl), path)]) := by
      rw [wcost_app, wcost_app]
      have := kids_cost c path kl
      have e : wcost [(.node c (ofL kl), path)] = cnt (.node c (ofL kl)) := by simp [wcost]
      omega
    have hslim2 : ∀ w ∈ ws0 ++ kl.map (fun k => (k.2, path ++ [(c, k.1)])), Slim w.1 := fun w hw => by
      rcases List.mem_append.mp hw with z | z
      · exact G.slim w (List.mem_append_left _ z)
      · obtain ⟨k, hk2, rfl⟩ := List.mem_map.mp z
        exact of_slims hwsl.2 k hk2
    have hperm2 : (fs ++ rest (ws0 ++ kl.map fun k => (k.2, path ++ [(c, k.1)]))).Perm ((lv t []).map sortLog) := by
      have := G.perm
      rw [rest_app] at this ⊢
      rw [kids_rest]
      have e : rest [(.node c (ofL kl), path)] = (lv (.node c (ofL kl)) path).map sortLog := by unfold rest; simp
      rw [e] at this
      exact this
    have hsz2 : ws0.length + kl.length ≤ 300 := by
      have h1 := hperm2.length_eq
      rw [List.length_append, List.length_map] at h1
      have h2 := rest_len hslim2
      rw [List.length_append, List.length_map] at h2
      omega
    refine ⟨_, rfl, .inl ⟨rfl, _, SqL.of hwx4⟩, _, rfl, a, _, 1, _, rfl, rfl, Same.seqT s8 ha, atI_nat (by rfl), b, rfl, ⟨_, Same.seqT s8 hb⟩, fun D hD => ?_⟩
    refine lc_tup (K := K) (a := b) (xs := ys) (Lc H4 D fun i acc H => WVs K H acc ((kl.take i).map fun k => (k.2, path ++ [(c, k.1)]))) (lc_start hD .nil) (fun i H' _ h => Same.seqT (s8.trans h.1) hb) ?_ ?_
    · rintro i y H5 hi ⟨e5, acc, eD, la, hP⟩
      obtain ⟨k, hkk, hy⟩ := Paired.at hkl hi
      have s35 : Same H3 H5 := s8.trans e5
      obtain ⟨pp, xx, rfl, hpp, hxx⟩ := hy.sameT (.of s35)
      have hi' : i < ys.length := (List.getElem?_eq_some_iff.mp hi).1
      refine ⟨pp, _, rfl, hpp, rfl, _, _, rfl, _, _, rfl, rfl, rfl, _, rfl, _, rfl, _, rfl, a, _, 0, _, rfl, rfl, Same.seqT s35 ha, atI_nat (by rfl), _, rfl, (show 2 ≤ sizeLine by decide), fun p9 hp9 => ⟨(show 1 ≤ sizeLine by decide), fun p10 hp10 => ?_⟩⟩
      have s9 := same_new hp9 (.tup [.str c, .int k.1])
      have s10 := same_new hp10 (.tup [.ref p9])
      have e9 : upd H5 p9 (.tup [.str c, .int k.1]) p9 = _ := upd_same
      refine ⟨pb, p10, _, _, rfl, rfl, Same.seqT (s35.trans (s9.trans s10)) hpb, .inl (.inl upd_same), ?_, fun p11 H6 s11 h11 _ => ⟨(show 2 ≤ sizeLine by decide), fun p12 hp12 => ?_⟩⟩
      · have := DpAll.len hpd
        rw [List.length_map] at this
        rw [sizeLine_eq]
        show zs.length + 1 ≤ _
        have : zs.length ≤ 8 := by rw [this]; exact hwp
        omega
      · have sX : Same H5 (upd H6 p12 (.tup [xx, .ref p11])) := s9.trans (s10.trans (s11.trans (same_new hp12 _)))
        have eDX := sX _ _ eD
        refine lc_put hD (by omega) eDX la (e5.trans sX) ?_
        rw [take_next hkk, List.map_append]
        refine Paired.append (WVs.sameT (.of (del_mono sX)) hP) (.cons ?_ .nil)
        refine WV.sameT (sameT_del eDX) ⟨p12, xx, .ref p11, rfl, .inl (.inl upd_same), TreeV.sameT (.of sX) _ _ hxx, p11, zs ++ [.ref p9], rfl, Same.seqT (same_new hp12 _) h11, ?_⟩
        rw [List.map_append]
        refine DpAll.app (dps_same (s35.trans sX) _ _ hpd) (.cons (.tup (xs := [.str c, .int k.1]) (.inl (.inl ?_)) (.cons (.str _) (.cons (.int _) .nil))) .nil)
        exact (s10.trans (s11.trans (same_new hp12 _))) _ _ e9
    · rintro H5 ⟨e5, acc, eD, la, hP⟩
      have hP : WVs K (del H5 D) acc ((kl.take ys.length).map fun k => (k.2, path ++ [(c, k.1)])) := hP
      rw [hyl, List.take_length] at hP
      have hwx5 := e5 _ _ hwx4
      have hfx5 := e5 _ _ hfx4
      have hal : acc.length = kl.length := by
        have := Paired.length hP
        rw [List.length_map] at this
        exact this
      have sC : SameT H' (upd H5 wa (.lst (wx0 ++ acc))) := s6.trans ((SameT.of (s8.trans e5)).trans (sameT_upd hwx5))
      refine ⟨wa, D, wx0, acc, rfl, rfl, hwx5, eD, by rw [sizeLine_eq]; omega, _, key, fs, _, _, _, rfl, rfl, same_upd (s7.trans (s8.trans e5)) hwa0, ⟨fx, by rw [upd_ne nfw]; exact hfx5, LogVs.sameT sC hfs⟩, ⟨_, upd_same, ?_⟩, hslim2, hperm2⟩
      exact Paired.append (WVs.sameT sC hws0) (WVs.sameT ((SameT.of del_same).trans (sameT_upd hwx5)) hP)
end
end Rd

set_option Elab.async false
set_option linter.all false
set_option maxRecDepth 100000
namespace Rd
open PySem PySem.Spec PyProof.Rows L2
abbrev nParted : List Str := ["_law_family", "_law_waiting", "_law_entry", "_law_group", "_law_cells", "_law_cell", "_law_one", "_law_parts", "_law_value"]
theorem scParted : FnScope nParted ["_law_family"] (defScope sParted) := ⟨rfl, rfl, rfl, by decide +kernel, rfl, by decide +kernel, by decide +kernel⟩
def spParted (K : PySem.W.Frag) : Sp := fun vs H Q _ => ∃ v L, vs = [v] ∧ LogsV K H v L ∧ LogsOk L ∧ L ≠ [] ∧ ∀ H' b, Same H H' → (b = true ↔ NoStuck L) → Q (.bl b) H'
/-- [dict(list(log)) for log in t] -/
theorem rd_dictsL {K : PySem.W.Frag} {σ : L2.St} {j : Nat} {p D : Addr} {xs : List V} {L : List Log} {H1 : Hp} {Qd : Hp → Prop} (hj : j < σ.length) (hT : SqT K H1 p xs) (hV : LogVs K H1 xs L) (hok : LogsOk L) (hD : H1 D = none)
    (q : ∀ H2 acc, Same H1 H2 → H2 D = some (.lst acc) → DicVs (del H2 D) acc L → Qd H2) : LcG (Itt K p) (gName j) tYes (tCB (rDictL K) (t1 (tCB (rList K) (t1 (tVar j))))) [j] σ H1 D Qd := by
  have hl := hV.len
  have hfew := hok.few
  refine lc_tup (K := K) (a := p) (xs := xs) (Lc H1 D fun i acc H => DicVs H acc (L.take i)) (lc_start hD .nil) (fun i H' _ h => Same.seqT h.1 hT) ?_ ?_
  · rintro i y H2 hi ⟨e2, acc, eD, la, hP⟩
    obtain ⟨l, hl', hy⟩ := hV.at hi
    obtain ⟨b, ys, rfl, ht, hd⟩ := hy.same e2
    obtain ⟨ps, rfl, hps⟩ := pairs_at hd
    have hlo := hok.all l (List.mem_of_getElem? hl')
    have hi' : i < xs.length := (List.getElem?_eq_some_iff.mp hi).1
    refine ⟨wipe_set, _, set_at hj, b, _, rfl, .inr ht.sq, fun e he => ?_⟩
    have s3 := same_new he (.lst (ps.map V.ref))
    refine ⟨e, ps, kvL l, rfl, .inl (.inl upd_same), Paired.mono (fun _ _ q => Same.seqT s3 q) hps, fun d hd' => ?_⟩
    have sX := s3.trans (same_new hd' (.dK (mergeK [] (kvL l))))
    have ned : D ≠ d := ne_of_none (s3 _ _ eD) hd'
    refine lc_put hD (by omega) (sX _ _ eD) la (e2.trans sX) ?_
    refine paired_take (hP.same (del_mono sX)) hl' ⟨d, rfl, ?_⟩
    unfold del
    rw [if_neg (Ne.symm ned), upd_same, mergeK_kvL hlo.nd]
  · rintro H2 ⟨e2, acc, eD, la, hP⟩
    rw [hl, List.take_length] at hP
    exact q H2 acc e2 eD hP
theorem DicV.updL {H : Hp} {wa : Addr} {ws : List V} {o : HO} {v : V} {l : Log} (hw : H wa = some (.lst ws)) (h : DicV H v l) : DicV (upd H wa o) v l := by
  obtain ⟨d, e, q⟩ := h
  exact ⟨d, e, by rw [upd_ne (ne_of q hw (by intro z; cases z))]; exact q⟩
theorem DicVs.updL {H : Hp} {wa : Addr} {ws : List V} {o : HO} {xs : List V} {L : List Log} (hw : H wa = some (.lst ws)) (h : DicVs H xs L) : DicVs (upd H wa o) xs L := Paired.mono (fun _ _ q => q.updL hw) h
theorem DicV.del' {H : Hp} {wa : Addr} {ws : List V} {v : V} {l : Log} (hw : H wa = some (.lst ws)) (h : DicV H v l) : DicV (del H wa) v l := by
  obtain ⟨d, e, q⟩ := h
  exact ⟨d, e, del_keep q (ne_of q hw (by intro z; cases z))⟩
/-- a group: a list of dicts, not the waiting list -/
def GrD (H : Hp) (wa : Addr) (y : V) (g : List Log) : Prop := ∃ la xs, y = .ref la ∧ la ≠ wa ∧ H la = some (.lst xs) ∧ DicVs H xs g
theorem GrD.same {H H' : Hp} {wa : Addr} {y : V} {g : List Log} (s : Same H H') (h : GrD H wa y g) : GrD H' wa y g := by
  obtain ⟨la, xs, e, n, q, d⟩ := h
  exact ⟨la, xs, e, n, s _ _ q, d.same s⟩
theorem GrD.updW {H : Hp} {wa : Addr} {ws : List V} {o : HO} {y : V} {g : List Log} (hw : H wa = some (.lst ws)) (h : GrD H wa y g) : GrD (upd H wa o) wa y g := by
  obtain ⟨la, xs, e, n, q, d⟩ := h
  exact ⟨la, xs, e, n, by rw [upd_ne n]; exact q, d.updL hw⟩
structure PdAt (H H' : Hp) (wa : Addr) (L : List Log) (gs : List (List Log)) : Prop where
  same : Same H H'
  wait : ∃ ws, H' wa = some (.lst ws) ∧ Paired (GrD H' wa) ws gs
  bk : Bk L [] gs
def DW (H : Hp) (v : V) (wa : Addr) (L : List Log) : Nat → L2.St → Hp → Prop := fun m σ H' => ∃ gs z2 z3 z4 z5 z6 z7 z8, σ = [some v, some (.ref wa), z2, z3, z4, z5, z6, z7, z8] ∧ m = cost gs ∧ PdAt H H' wa L gs
def DN (H : Hp) (v : V) (wa : Addr) (L : List Log) (m : Nat) : L2.St → Hp → Prop := fun σ H' => ∃ m', m' < m ∧ DW H v wa L m' σ H'
/-- [m[c] != g[0][c] for m in g] -/
theorem rd_ne {K : PySem.W.Frag} {σ : L2.St} {j ic ig : Nat} {p D : Addr} {ds : List V} {M : List Log} {m0 : Log} {c : Str} {H1 : Hp} {Qd : Hp → Prop} (hj : j < σ.length) (hne : ic ≠ j) (hne2 : ig ≠ j) (hc : σ[ic]? = some (some (.str c))) (hg : σ[ig]? = some (some (.ref p)))
    (hL : H1 p = some (.lst ds)) (hV : DicVs H1 ds M) (h0 : M[0]? = some m0) (hfew : M.length ≤ 300) (hD : H1 D = none)
    (hall : ∀ m ∈ M, (m.lookup c).isSome = true)
    (q : ∀ H2, Same H1 H2 → H2 D = some (.lst ((M.map fun m => !decide (vl m c = vl m0 c)).map V.bl)) → Qd H2) :
    LcG (Itl K p) (gName j) tYes (tOp rNe (tDGet (tVar j) (tVar ic)) (tDGet (tOp (rIxL K) (tVar ig) (tC (.int 0))) (tVar ic))) [j] σ H1 D Qd := by
  have hl : ds.length = M.length := Paired.length hV
  refine lc_list (K := K) (a := p) (xs := ds) (Lc H1 D fun i acc H => acc = ((M.take i).map fun m => !decide (vl m c = vl m0 c)).map V.bl) (lc_start hD rfl) (fun i H' _ h => .inl (.inl (h.1 _ _ hL))) ?_ ?_
  · rintro i y H2 hi ⟨e2, acc, eD, la, hP⟩
    obtain ⟨m, hm, hy⟩ := hV.at hi
    obtain ⟨d, rfl, hd⟩ := hy.same e2
    have hi' : i < ds.length := (List.getElem?_eq_some_iff.mp hi).1
    have hcs : ((wipe σ [j]).set j (some (V.ref d)))[ic]? = some (some (.str c)) := by
      show (((σ.set j none).set j (some (V.ref d))))[ic]? = _
      rw [List.getElem?_set_ne (Ne.symm hne), List.getElem?_set_ne (Ne.symm hne), hc]
    have hgs : ((wipe σ [j]).set j (some (V.ref d)))[ig]? = some (some (.ref p)) := by
      show (((σ.set j none).set j (some (V.ref d))))[ig]? = _
      rw [List.getElem?_set_ne (Ne.symm hne2), List.getElem?_set_ne (Ne.symm hne2), hg]
    have hgm := DicV.get hd c
    rw [vl_get (hall m (List.mem_of_getElem? hm))] at hgm
    obtain ⟨y0, hy0, hm0⟩ : ∃ y0, ds[0]? = some y0 ∧ DicV H2 y0 m0 := by
      cases ds with
      | nil => simp at hi
      | cons y0 r =>
        obtain ⟨m', hm', hd'⟩ := hV.at (i := 0) (x := y0) rfl
        rw [h0] at hm'
        rw [Option.some.inj hm']
        exact ⟨y0, rfl, hd'.same e2⟩
    obtain ⟨d0, rfl, hd0⟩ := hm0
    have hg0 := DicV.get hd0 c
    rw [vl_get (hall m0 (List.mem_of_getElem? h0))] at hg0
    refine ⟨wipe_set, _, set_at hj, _, hcs, d, .int (vl m c), rfl, hgm, _, hgs, p, _, 0, _, rfl, rfl, .inl (.inl (e2 _ _ hL)), atI_nat (by exact hy0), _, hcs, d0, .int (vl m0 c), rfl, hg0, rfl, ?_⟩
    refine lc_put hD (by omega) eD la e2 ?_
    rw [hP, take_next hm, List.map_append, List.map_append]
    congr 1
    show [V.bl (!decide (V.int (vl m c) = V.int (vl m0 c)))] = [V.bl (!decide (vl m c = vl m0 c))]
    congr 3
    by_cases z : vl m c = vl m0 c
    · simp [z]
    · simp [z]
  · rintro H2 ⟨e2, acc, eD, la, hP⟩
    rw [hl, List.take_length] at hP
    rw [hP] at eD
    exact q H2 e2 eD
/-- the parts so far, of dicts -/
structure PartD (Hb H' : Hp) (d : Addr) (g : List Log) (c : Str) (i : Nat) (gd : Gd) : Prop where
  same : Same Hb H'
  at_ : H' d = some (.dK (kvI gd))
  nd : (gd.map (·.1)).Nodup
  ndA : (gd.map (·.2)).Nodup
  lists : ∀ p ∈ gd, Hb p.2 = none ∧ ∃ xs, H' p.2 = some (.lst xs) ∧ DicVs Hb xs (part (g.take i) c p.1)
  mem : ∀ n, n ∈ gd.map (·.1) ↔ ∃ l ∈ g.take i, vl l c = n
theorem mem_cs2 {g : List Log} {m0 : Log} (h0 : g[0]? = some m0) (ys : List Str) (perm : ys.Perm (cells m0)) {c : Str} :
    c ∈ (ys.filter fun c => g.all fun m => (m.lookup c).isSome).filter (fun c => (g.map fun m => !decide (vl m c = vl m0 c)).any id) ↔ c ∈ splitting g := by
  have hm0 : m0 ∈ g := List.mem_of_getElem? h0
  rw [List.mem_filter, List.mem_filter, perm.mem_iff]
  unfold splitting
  rw [List.mem_filter, twoV_iff]
  constructor
  · rintro ⟨⟨h1, h2⟩, h3⟩
    refine ⟨shared_mem (fun z => by rw [z] at hm0; cases hm0) fun l hl => List.all_eq_true.mp h2 l hl, ?_⟩
    obtain ⟨b, hb, eb⟩ := List.any_eq_true.mp h3
    obtain ⟨m, hm, rfl⟩ := List.mem_map.mp hb
    refine ⟨m, hm, m0, hm0, fun e => ?_⟩
    rw [e] at eb
    simp at eb
  · rintro ⟨h1, l, hl, m, hm, ne⟩
    have hall := mem_shared h1
    refine ⟨⟨lookup_mem.mp (hall m0 hm0), List.all_eq_true.mpr hall⟩, List.any_eq_true.mpr ?_⟩
    by_cases e : vl l c = vl m0 c
    · refine ⟨_, List.mem_map.mpr ⟨m, hm, rfl⟩, ?_⟩
      have : ¬ vl m c = vl m0 c := fun z => ne (e.trans z.symm)
      simp [this]
    · refine ⟨_, List.mem_map.mpr ⟨l, hl, rfl⟩, ?_⟩
      simp [e]
theorem snd_inj {p q : Int × Addr} : ∀ {g : Gd}, (g.map (·.2)).Nodup → p ∈ g → q ∈ g → p.2 = q.2 → p = q
  | [], _, h, _, _ => by cases h
  | r :: g, nd, h1, h2, e => by
    rw [List.map_cons, List.nodup_cons] at nd
    rcases List.mem_cons.mp h1 with e1 | e1
    · rcases List.mem_cons.mp h2 with e2 | e2
      · rw [e1, e2]
      · exact absurd (List.mem_map.mpr ⟨_, e2, by rw [← e1]; exact e.symm⟩) nd.1
    · rcases List.mem_cons.mp h2 with e2 | e2
      · exact absurd (List.mem_map.mpr ⟨_, e1, by rw [← e2]; exact e⟩) nd.1
      · exact snd_inj nd.2 e1 e2 e
theorem paired_map {α β γ : Type} {F : β → γ → Prop} {f : α → β} {h : α → γ} : ∀ {l : List α}, (∀ x ∈ l, F (f x) (h x)) → Paired F (l.map f) (l.map h)
  | [], _ => .nil
  | x :: r, q => .cons (q x List.mem_cons_self) (paired_map fun y hy => q y (List.mem_cons_of_mem _ hy))
end Rd

set_option Elab.async false
set_option linter.all false
set_option maxRecDepth 100000
namespace Rd
open PySem PySem.Spec PyProof.Rows L2
/-- the loop that fills parts: its invariant -/
def QW (fam : V) (wa la d ca : Addr) (Hb : Hp) (g : List Log) (c : Str) : Nat → L2.St → Hp → Prop := fun i σ H' => ∃ gd z2 z5 z6 z8, σ = [some fam, some (.ref wa), z2, some (.ref la), some (.ref ca), z5, z6, some (.ref d), z8] ∧ PartD Hb H' d g c i gd
section
variable {P : Program} {w : World} {K : PySem.W.Frag} {mg : Str → Option Value} {base : Heap}
theorem cal_parted (h : Known K mg "_law_parted" sParted ["_law_family"]) (B : Bl mg) : Cal P w K mg base 1 "_law_parted" ["_law_family"] (spParted K) := h.cal fun f fd F => by
  refine F.ok scParted (fun vs H Q E h => ?_) (fun cdv A outer s H vs Q E hr h => ?_)
  · obtain ⟨v, L, rfl, _⟩ := h
    rfl
  obtain ⟨v, L, rfl, hL, hok, hne, q⟩ := h
  have hu := hu_of hr
  refine ⟨_, pss_cons (ps_set (i := 1) scParted.nd rfl (Or.inl rfl) (pe_lst (pa_cons (pe_lc (own := [("_law_entry", 2)]) (g := gName 2) (tt := tYes) (te := tCB (rDictL K) (t1 (tCB (rList K) (t1 (tVar 2))))) rfl scParted.nd (w_tup_iter K (pv 0))
        (blkOk_by (N := nParted) (sc := defScope sParted) (by decide +kernel)) (fun _ _ _ _ _ => pg_name (i := 2) scParted.nd rfl (Or.inl rfl)) (fun _ _ _ _ _ => pts_nil)
        (fun _ _ _ _ _ => w_dictL K B.dict (w_list K B.list (pv 2)))) pa_nil)))
    (pss_cons (ps_while PassesOwn.never (w_ne0 K hu (pv 1) (pe_lst pa_nil))
      (pss_cons (ps_set (i := 3) scParted.nd rfl (Or.inr rfl) (pe_bm0 PySem.F.plainAttrs_list PySem.F.slot_list_pop PySem.F.type_list_pop mt_pop (pv 1)))
      (pss_one (ps_if (pt_cmpR op_gt (w_len K B.len (pv 3)) pe_int (nomark _))
        (pss_cons (ps_setLc (i := 4) (own := [("_law_cell", 5)]) (g := gName 5) (te := tVar 5) (tt := tB (tCB (rAll K) (t1 (tLc (iList K (tVar 3)) (gName 6) tYes (tDIn (tVar 5) (tVar 6)) [6])))) rfl scParted.nd rfl rfl rfl
          (w_list_iter K (pe_callB (call_sortedD rfl) (by rfl) B.sorted bt_sorted (pa_cons (w_ixL K (pv 3) pe_int) pa_nil)))
          (blkOk_by (N := nParted) (sc := defScope sParted) (by decide +kernel)) (fun _ _ _ _ _ => pg_name (i := 5) scParted.nd rfl (Or.inr rfl))
          (fun _ _ _ _ _ => pts_one (pt_val (w_all K B.all
            (pe_lc (own := [("_law_one", 6)]) rfl scParted.nd (w_list_iter K (pv 3)) (blkOk_by (N := nParted) (sc := relS _ (defScope sParted)) (by decide +kernel)) (fun _ _ _ _ _ => pg_name (i := 6) scParted.nd rfl (Or.inl rfl)) (fun _ _ _ _ _ => pts_nil)
              (fun _ _ _ _ _ => pe_cmp (pc_din hu (pv 5) (pv 6)) rfl)))))
          (fun _ _ _ _ _ => pv 5))
        (pss_cons (ps_setLc (i := 4) (own := [("_law_cell", 5)]) (g := gName 5) (te := tVar 5)
          (tt := tB (tCB (rAny K) (t1 (tLc (iList K (tVar 3)) (gName 6) tYes (tOp rNe (tDGet (tVar 6) (tVar 5)) (tDGet (tOp (rIxL K) (tVar 3) (tC (.int 0))) (tVar 5))) [6])))) rfl scParted.nd rfl rfl rfl (w_list_iter K (pv 4))
          (blkOk_by (N := nParted) (sc := defScope sParted) (by decide +kernel)) (fun _ _ _ _ _ => pg_name (i := 5) scParted.nd rfl (Or.inr rfl))
          (fun _ _ _ _ _ => pts_one (pt_val (w_any K B.any
            (pe_lc (own := [("_law_one", 6)]) rfl scParted.nd (w_list_iter K (pv 3)) (blkOk_by (N := nParted) (sc := relS _ (defScope sParted)) (by decide +kernel)) (fun _ _ _ _ _ => pg_name (i := 6) scParted.nd rfl (Or.inl rfl)) (fun _ _ _ _ _ => pts_nil)
              (fun _ _ _ _ _ => pe_cmpR op_ne (pe_dget hu (pv 6) (pv 5) (fun _ _ => rfl)) (pe_dget hu (w_ixL K (pv 3) pe_int) (pv 5) (fun _ _ => rfl)) (nomark _))))))
          (fun _ _ _ _ _ => pv 5))
        (pss_cons (ps_if (w_eq0 K hu (pv 4) (pe_lst pa_nil)) (pss_one (ps_ret pe_bl)) pss_nil)
        (pss_cons (ps_set (i := 7) scParted.nd rfl (Or.inr rfl) pe_dnewK)
        (pss_cons (ps_for PassesOwn.never rfl (w_list_iter K (pv 3)) (pg_name (i := 6) scParted.nd rfl (Or.inl rfl))
          (pss_one (ps_expr (pe_bm PySem.F.plainAttrs_list PySem.F.slot_list_append PySem.F.type_list_append mt_append
            (pe_dsetd (pv 7) (pe_dget hu (pv 6) (w_ixL K (pv 4) (pe_un un_neg pe_int)) (fun _ _ => rfl)) (pe_lst pa_nil) ⟨rfl, rfl, rfl, rfl⟩) (pa_cons (pv 6) pa_nil)))))
        (pss_one (ps_expr (pe_bm PySem.F.plainAttrs_list PySem.F.slot_list_extend PySem.F.type_list_extend mt_extend (pv 1) (pa_cons
          (pe_lock (pe_lc (own := [("_law_value", 8)]) (g := gName 8) (tt := tYes) (te := tDGet (tVar 7) (tVar 8)) rfl scParted.nd (pi_keys (pv 7))
            (blkOk_by (N := nParted) (sc := defScope sParted) (by decide +kernel)) (fun _ _ _ _ _ => pg_name (i := 8) scParted.nd rfl (Or.inl rfl)) (fun _ _ _ _ _ => pts_nil)
            (fun _ _ _ _ _ => pe_dget hu (pv 7) (pv 8) (fun _ _ => rfl)))) pa_nil)))))))))
        pss_nil))))
    (pss_one (ps_ret pe_bl))), ?_⟩
  obtain ⟨a, xs, rfl, hT, hV⟩ := hL
  refine ⟨_, rfl, a, rfl, ⟨_, hT⟩, fun D hD => rd_dictsL (L := L) (show 2 < 9 by decide) hT hV hok hD fun H1 ds s1 hDs hdv => ⟨(show 1 ≤ sizeLine by decide), fun wa hwa => ?_⟩⟩
  have hwa0 : H wa = none := by
    cases z : H wa with
    | none => rfl
    | some o => rw [s1 _ _ z] at hwa; cases hwa
  have nDw : D ≠ wa := ne_of_none hDs hwa
  have s2 := same_new hwa (.lst [.ref D])
  refine ⟨DW H (.ref a) wa L, ⟨_, [L], none, none, none, none, none, none, none, rfl, rfl, s1.trans s2, ⟨_, upd_same, .cons ⟨D, ds, rfl, nDw, s2 _ _ hDs, (hdv.same del_same).same s2⟩ .nil⟩, Bk.start hne⟩, ?_⟩
  rintro m σ H' ⟨gs, z2, z3, z4, z5, z6, z7, z8, rfl, rfl, G0⟩
  obtain ⟨ws, hws, hgs⟩ := G0.wait
  have hsum := G0.bk.sum
  have hfew := hok.few
  have hszl := len_size (ws := gs) fun g hg => G0.bk.ne g (.inr hg)
  have hwl : ws.length = gs.length := Paired.length hgs
  refine ⟨_, rfl, Nat.zero_le _, fun p hp => ⟨wa, p, ws, rfl, rfl, .inl ⟨.inl (.inl (same_new hp _ _ _ hws)), .inl (.inl upd_same)⟩, _, rfl, ?_⟩⟩
  have s3 : Same H' (upd H' p (.lst [])) := same_new hp _
  have hws2 := s3 _ _ hws
  generalize upd H' p (.lst []) = H2 at s3 hws2 ⊢
  by_cases hwe : ws = []
  · subst hwe
    have hge : gs = [] := List.eq_nil_of_length_eq_zero hwl.symm
    subst hge
    exact iteF (q _ true (G0.same.trans s3) ⟨fun _ => G0.bk.none fun g hg => (by cases hg), fun _ => rfl⟩)
  have hemp : ws.isEmpty = false := by cases ws with | nil => exact absurd rfl hwe | cons => rfl
  rw [hemp]
  refine ⟨DN H (.ref a) wa L (cost gs), fun _ _ h => h, ?_⟩
  obtain ⟨ws0, x, ews, hlast, edrop⟩ := last_pop hwe
  refine ⟨_, rfl, .inl ⟨rfl, _, SqL.of hws2⟩, wa, ws, x, rfl, rfl, hws2, hlast, ?_⟩
  rw [edrop]
  rw [ews] at hgs
  obtain ⟨gs0, g, rfl, hgs0, hg⟩ := Paired.unsnoc hgs
  have hgL : LogsOk g := hok.sub (G0.bk.sub g (.inr (by simp)))
  have hgne : g ≠ [] := G0.bk.ne g (.inr (by simp))
  have hgsub : g.Sublist L := G0.bk.sub g (.inr (by simp))
  have hgf := hgL.few
  have s3' : Same H (upd H2 wa (.lst ws0)) := same_upd (G0.same.trans s3) hwa0
  obtain ⟨la, gx, rfl, nlw, hla, hdg⟩ := (hg.same s3).updW (o := .lst ws0) hws2
  have hgs3 : Paired (GrD (upd H2 wa (.lst ws0)) wa) ws0 gs0 := Paired.mono (fun _ _ q => (q.same s3).updW hws2) hgs0
  have hws3 : upd H2 wa (.lst ws0) wa = some (.lst ws0) := upd_same
  have hwl0 : ws0.length = gs0.length := Paired.length hgs0
  have hgl : gx.length = g.length := Paired.length hdg
  generalize upd H2 wa (.lst ws0) = H3 at s3' hla hdg hgs3 hws3 ⊢
  refine ⟨_, rfl, la, gx, rfl, .inl (SqL.of hla), _, _, rfl, rfl, _, rfl, ?_⟩
  by_cases c1 : ¬ 1 < g.length
  · rw [decide_eq_false (by omega)]
    exact iteF ⟨_, cost_pop (ws := gs0) hgne, gs0, _, _, _, _, _, _, _, rfl, rfl, s3', ⟨ws0, hws3, hgs3⟩, G0.bk.dropOne (by omega)⟩
  have c1 : 1 < g.length := Decidable.of_not_not c1
  rw [decide_eq_true (by omega)]
  refine iteT ?_
  obtain ⟨m0, y0, hm0, hy0, d0, rfl, hd0⟩ : ∃ m0 y0, g[0]? = some m0 ∧ gx[0]? = some y0 ∧ DicV H3 y0 m0 := by
    cases hdg with
    | nil => exact absurd rfl hgne
    | cons h t => exact ⟨_, _, rfl, rfl, h⟩
  have hm0ok := hgL.all m0 (List.mem_of_getElem? hm0)
  refine ⟨_, rfl, la, _, 0, _, rfl, rfl, SqL.of hla, atI_nat (by exact hy0), d0, kvL m0, cells m0, rfl, .inl hd0, kvL_keys m0, by have := hm0ok.short; unfold cells; rw [List.length_map]; omega, fun ys p1 perm _ hp1 => ⟨p1, rfl, ⟨_, SqL.of upd_same⟩, fun D1 hD1 => ?_⟩⟩
  have hyl8 : ys.length ≤ 8 := by
    have := perm.length_eq
    have h8 := hm0ok.short
    unfold cells at this
    rw [List.length_map] at this
    omega
  have s4 : Same H3 (upd H3 p1 (.lst (ys.map V.str))) := same_new hp1 _
  have hp1' : upd H3 p1 (.lst (ys.map V.str)) p1 = some (.lst (ys.map V.str)) := upd_same
  generalize upd H3 p1 (.lst (ys.map V.str)) = H4 at s4 hp1' hD1 ⊢
  refine lc_list (K := K) (a := p1) (xs := ys.map V.str) (Lc H4 D1 (PFil ys fun c => g.all fun m => (m.lookup c).isSome)) (lc_start hD1 rfl) (fun i H' _ h => .inl (.inl (h.1 _ _ hp1'))) ?_ ?_
  · rintro i y H5 hi ⟨e5, acc, eD, la5, hP⟩
    rw [List.getElem?_map] at hi
    obtain ⟨c, hc, rfl⟩ := Option.map_eq_some_iff.mp hi
    have hi' : i < ys.length := (List.getElem?_eq_some_iff.mp hc).1
    refine ⟨rfl, _, rfl, la, rfl, ⟨_, .inl (.inl (e5 _ _ (s4 _ _ hla)))⟩, fun D4 hD4 => rd_hasAll (M := g) (c := c) (show 6 < 9 by decide) (show 5 ≠ 6 by decide) rfl (.inl (.inl (e5 _ _ (s4 _ _ hla)))) ((hdg.same s4).same e5) hgL.few hD4 fun H6 e6 hD6 => ?_⟩
    refine ⟨D4, _, rfl, .inl (.inl hD6), _, rfl, ?_⟩
    have eD6 := e6 _ _ eD
    have hall : ((g.map fun m => (m.lookup c).isSome).all id) = g.all fun m => (m.lookup c).isSome := by
      rw [List.all_map]
      rfl
    rw [hall]
    cases hb : g.all fun m => (m.lookup c).isSome with
    | true => exact ⟨_, rfl, lc_put hD1 (by omega) eD6 la5 (e5.trans e6) ((congrArg (· ++ [V.str c]) hP).trans (filt_yes V.str (fun c => g.all fun m => (m.lookup c).isSome) hc hb))⟩
    | false => exact (show Lc H4 D1 (PFil ys fun c => g.all fun m => (m.lookup c).isSome) (i + 1) H6 from lc_skip eD6 la5 (e5.trans e6) (hP.trans (filt_no V.str (fun c => g.all fun m => (m.lookup c).isSome) hc hb)))
  rintro H5 ⟨e5, acc, eD, _, hP⟩
  have hP : acc = ((ys.take (ys.map V.str).length).filter fun c => g.all fun m => (m.lookup c).isSome).map V.str := hP
  rw [List.length_map, List.take_length] at hP
  subst hP
  have hcs1 : ∀ c ∈ (ys.filter fun c => g.all fun m => (m.lookup c).isSome), ∀ m ∈ g, (m.lookup c).isSome = true := fun c hc m hm => List.all_eq_true.mp (List.mem_filter.mp hc).2 m hm
  have hmem := fun c => mem_cs2 hm0 ys perm (c := c)
  have hcl8 : (ys.filter fun c => g.all fun m => (m.lookup c).isSome).length ≤ 8 := Nat.le_trans (List.length_filter_le _ _) hyl8
  generalize (ys.filter fun c => g.all fun m => (m.lookup c).isSome) = cs1 at eD hcs1 hmem hcl8
  have s35 : Same H3 H5 := s4.trans e5
  refine ⟨_, rfl, D1, rfl, ⟨_, SqL.of eD⟩, fun D2 hD2 => ?_⟩
  refine lc_list (K := K) (a := D1) (xs := cs1.map V.str) (Lc H5 D2 (PFil cs1 fun c => (g.map fun m => !decide (vl m c = vl m0 c)).any id)) (lc_start hD2 rfl) (fun i H' _ h => .inl (.inl (h.1 _ _ eD))) ?_ ?_
  · rintro i y H6 hi ⟨e6, acc, eD2, la6, hP⟩
    rw [List.getElem?_map] at hi
    obtain ⟨c, hc, rfl⟩ := Option.map_eq_some_iff.mp hi
    have hi' : i < cs1.length := (List.getElem?_eq_some_iff.mp hc).1
    have s36 : Same H3 H6 := s35.trans e6
    refine ⟨rfl, _, rfl, la, rfl, ⟨_, .inl (.inl (s36 _ _ hla))⟩, fun D4 hD4 => rd_ne (M := g) (c := c) (m0 := m0) (show 6 < 9 by decide) (show 5 ≠ 6 by decide) (show 3 ≠ 6 by decide) rfl rfl (s36 _ _ hla) (hdg.same s36) hm0 hgL.few hD4 (hcs1 c (List.mem_of_getElem? hc)) fun H7 e7 hD7 => ?_⟩
    refine ⟨D4, _, rfl, .inl (.inl hD7), _, rfl, ?_⟩
    have eD7 := e7 _ _ eD2
    cases hb : (g.map fun m => !decide (vl m c = vl m0 c)).any id with
    | true => exact ⟨_, rfl, lc_put hD2 (by omega) eD7 la6 (e6.trans e7) ((congrArg (· ++ [V.str c]) hP).trans (filt_yes V.str (fun c => (g.map fun m => !decide (vl m c = vl m0 c)).any id) hc hb))⟩
    | false => exact (show Lc H5 D2 (PFil cs1 fun c => (g.map fun m => !decide (vl m c = vl m0 c)).any id) (i + 1) H7 from lc_skip eD7 la6 (e6.trans e7) (hP.trans (filt_no V.str (fun c => (g.map fun m => !decide (vl m c = vl m0 c)).any id) hc hb)))
  rintro H6 ⟨e6, acc, eD2, _, hP⟩
  have hP : acc = ((cs1.take (cs1.map V.str).length).filter fun c => (g.map fun m => !decide (vl m c = vl m0 c)).any id).map V.str := hP
  rw [List.length_map, List.take_length] at hP
  subst hP
  generalize (cs1.filter fun c => (g.map fun m => !decide (vl m c = vl m0 c)).any id) = cs2 at eD2 hmem
  have s36 : Same H3 H6 := s35.trans e6
  refine ⟨_, rfl, Nat.zero_le _, fun p5 hp5 => ⟨D2, p5, _, rfl, rfl, .inl ⟨.inl (.inl (same_new hp5 _ _ _ eD2)), .inl (.inl upd_same)⟩, _, rfl, ?_⟩⟩
  have s37 : Same H3 (upd H6 p5 (.lst [])) := s36.trans (same_new hp5 _)
  have hD7 := same_new hp5 (.lst []) _ _ eD2
  generalize upd H6 p5 (.lst []) = H7 at s37 hD7 ⊢
  by_cases hc2 : cs2 = []
  · subst hc2
    refine iteT (q _ false (s3'.trans s37) ⟨fun z => (by cases z), fun ns => absurd (show Stuck g from ⟨c1, ?_⟩) (ns g hgsub)⟩)
    refine flat_iff.mp ?_
    cases hs : splitting g with
    | nil => rfl
    | cons c r =>
      have := (hmem c).mpr (by rw [hs]; exact List.mem_cons_self)
      cases this
  obtain ⟨cs0, c, rfl, _, _⟩ := last_pop hc2
  have hcm : c ∈ splitting g := (hmem c).mp (by simp)
  have hcs := (mem_split hcm).1
  rw [show (((cs0 ++ [c]).map V.str).isEmpty) = false by cases cs0 <;> rfl]
  refine iteF ?_
  intro d hd
  have hla7 := s37 _ _ hla
  have hws7 := s37 _ _ hws3
  have ndw : d ≠ wa := Ne.symm (ne_of_none hws7 hd)
  have hdg7 : DicVs H7 gx g := hdg.same s37
  refine ⟨_, rfl, la, rfl, ⟨_, SqL.of (same_new hd _ _ _ hla7)⟩, for_list (K := K) (a := la) (xs := gx) (QW (.ref a) wa la d D2 H7 g c) ?_ ?_ ?_ ?_⟩
  · exact ⟨[], _, _, _, _, rfl, ⟨same_new hd _, upd_same, List.nodup_nil, List.nodup_nil, (fun p hp => by cases hp), fun n => by simp⟩⟩
  · rintro i σ H' _ ⟨gd, _, _, _, _, _, G⟩
    exact .inl (.inl (G.same _ _ hla7))
  · rintro i y σ H' hi ⟨gd, z2, z5, z6, z8, rfl, G⟩
    obtain ⟨l, hl, hy⟩ := hdg7.at hi
    have hlm : l ∈ g := List.mem_of_getElem? hl
    have hi' : i < gx.length := (List.getElem?_eq_some_iff.mp hi).1
    obtain ⟨dd, rfl, hdd⟩ := hy.same G.same
    have hgv := DicV.get hdd c
    rw [vl_get (mem_shared hcs l hlm)] at hgv
    refine ⟨_, rfl, d, rfl, .inl ⟨_, .inl G.at_⟩, _, rfl, _, rfl, 1, rfl, D2, _, -1, .str c, rfl, rfl, .inl (.inl (G.same _ _ hD7)), ?_, dd, .int (vl l c), rfl, hgv, Nat.zero_le _, fun e he => ?_⟩
    · rw [List.map_append]
      exact atI_last _ _
    have s2 : Same H' (upd H' e (.lst [])) := same_new he _
    have ned : d ≠ e := ne_of_none G.at_ he
    have hd3 := s2 _ _ G.at_
    have h5 : (gd.map (·.1)).length ≤ 5 := five G.nd fun n hn => by
      obtain ⟨m, hm, e⟩ := (G.mem n).mp hn
      have hmL : m ∈ g := List.mem_of_mem_take hm
      rw [← e]
      exact vl_range (hgL.all m hmL) (mem_shared hcs m hmL)
    have hfewg : (kvI gd).length ≤ 300 := by
      unfold kvI
      rw [List.length_map]
      rw [List.length_map] at h5
      omega
    refine ⟨kvI gd, Sum.inl (vl l c), hd3, rfl, by rw [sizeLine_eq]; omega, fun v hv => ?_, fun hn => ?_⟩
    · rw [valV_kvI] at hv
      obtain ⟨av, hav, rfl⟩ := Option.map_eq_some_iff.mp hv
      have hin := lookup_in hav
      obtain ⟨h0, zs, hzs, hvs⟩ := G.lists _ hin
      have hzs3 := s2 _ _ hzs
      have hzl : zs.length ≤ 300 := by
        have h1 : zs.length = (part (g.take i) c (vl l c)).length := Paired.length hvs
        have h2 : (part (g.take i) c (vl l c)).length ≤ (g.take i).length := List.length_filter_le _ _
        rw [List.length_take] at h2
        omega
      refine ⟨.inl ⟨rfl, _, SqL.of hzs3⟩, _, rfl, av, zs, _, rfl, rfl, hzs3, by rw [sizeLine_eq]; omega, gd, _, _, _, _, rfl, ⟨same_upd (G.same.trans s2) h0, ?_, G.nd, G.ndA, fun p hp => ?_, fun n => ?_⟩⟩
      · rw [upd_ne (ne_of hd3 hzs3 (by intro z; cases z))]
        exact hd3
      · obtain ⟨h0', zs', hzs', hvs'⟩ := G.lists p hp
        refine ⟨h0', ?_⟩
        rw [part_next hl]
        by_cases e : p.2 = av
        · have ep : p = (vl l c, av) := snd_inj G.ndA hp hin e
          subst ep
          have ez : zs' = zs := by
            have := hzs'.symm.trans hzs
            injection this with this
            injection this
          subst ez
          refine ⟨_, upd_same, ?_⟩
          rw [if_pos rfl]
          exact Paired.append hvs' (.cons hy .nil)
        · refine ⟨zs', by rw [upd_ne e]; exact s2 _ _ hzs', ?_⟩
          have hne : ¬ vl l c = p.1 := fun e2 => by
            have := in_lookup G.nd (show (p.1, p.2) ∈ gd from hp)
            rw [← e2, hav] at this
            exact e (Option.some.inj this).symm
          rw [if_neg hne, List.append_nil]
          exact hvs'
      · rw [G.mem n, take_next hl]
        constructor
        · rintro ⟨m, hm, e⟩
          exact ⟨m, List.mem_append_left _ hm, e⟩
        · rintro ⟨m, hm, e⟩
          rcases List.mem_append.mp hm with z | z
          · exact ⟨m, z, e⟩
          · rw [List.mem_singleton.mp z] at e
            obtain ⟨m', hm', e'⟩ := (G.mem (vl l c)).mp (List.mem_map.mpr ⟨_, hin, rfl⟩)
            exact ⟨m', hm', e'.trans e⟩
    · rw [valV_kvI] at hn
      have hnn : gd.lookup (vl l c) = none := by
        cases z : gd.lookup (vl l c) with
        | none => rfl
        | some _ => rw [z] at hn; cases hn
      have hno := lookup_none.mp hnn
      have hput : putK (kvI gd) (Sum.inl (vl l c)) (V.ref e) = kvI (gd ++ [(vl l c, e)]) := by
        rw [putK_new (by
          rw [kvI_keys]
          intro z
          obtain ⟨m, hm, em⟩ := List.mem_map.mp z
          exact hno (by rw [← Sum.inl.inj em]; exact hm))]
        unfold kvI
        rw [List.map_append]
        rfl
      rw [hput]
      have he0 : H7 e = none := by
        cases z : H7 e with
        | none => rfl
        | some o =>
          have := G.same _ _ z
          rw [he] at this
          cases this
      have hee : (upd (upd H' e (.lst [])) d (.dK (kvI (gd ++ [(vl l c, e)])))) e = some (.lst []) := by
        rw [upd_ne (Ne.symm ned), upd_same]
      refine ⟨.inl ⟨rfl, _, SqL.of hee⟩, _, rfl, e, [], _, rfl, rfl, hee, by decide, gd ++ [(vl l c, e)], _, _, _, _, rfl, ⟨same_upd (same_upd (G.same.trans s2) hd) he0, ?_, ?_, ?_, fun p hp => ?_, fun n => ?_⟩⟩
      · rw [upd_ne ned, upd_same]
      · rw [List.map_append, List.nodup_append]
        exact ⟨G.nd, by simp, fun a ha b hb e2 => hno (by have eb : b = vl l c := List.mem_singleton.mp hb; have ea := e2.trans eb; rw [← ea]; exact ha)⟩
      · rw [List.map_append, List.nodup_append]
        refine ⟨G.ndA, by simp, fun a ha b hb e2 => ?_⟩
        rw [List.mem_singleton.mp hb] at e2
        obtain ⟨p, hp, ep⟩ := List.mem_map.mp ha
        obtain ⟨_, zs, hzs, _⟩ := G.lists p hp
        rw [ep, e2] at hzs
        rw [he] at hzs
        cases hzs
      · rw [part_next hl]
        rcases List.mem_append.mp hp with z | z
        · obtain ⟨h0', zs', hzs', hvs'⟩ := G.lists p z
          have hne : ¬ vl l c = p.1 := fun e2 => hno (by rw [e2]; exact List.mem_map.mpr ⟨p, z, rfl⟩)
          have nep : p.2 ≠ e := ne_of_none hzs' he
          have npd : p.2 ≠ d := fun e2 => by
            rw [e2, G.at_] at hzs'
            cases hzs'
          rw [if_neg hne, List.append_nil]
          exact ⟨h0', zs', by rw [upd_ne nep, upd_ne npd]; exact s2 _ _ hzs', hvs'⟩
        · rw [List.mem_singleton.mp z]
          refine ⟨he0, _, upd_same, ?_⟩
          have hemp : part (g.take i) c (vl l c) = [] := by
            unfold part
            rw [List.filter_eq_nil_iff]
            intro m hm e2
            exact hno ((G.mem _).mpr ⟨m, hm, beq_iff_eq.mp e2⟩)
          rw [hemp, if_pos rfl]
          exact .cons hy .nil
      · rw [List.map_append, List.mem_append, G.mem n, take_next hl]
        constructor
        · rintro (⟨m, hm, e⟩ | z)
          · exact ⟨m, List.mem_append_left _ hm, e⟩
          · exact ⟨l, List.mem_append_right _ List.mem_cons_self, (List.mem_singleton.mp z).symm⟩
        · rintro ⟨m, hm, e⟩
          rcases List.mem_append.mp hm with z | z
          · exact .inl ⟨m, z, e⟩
          · rw [List.mem_singleton.mp z] at e
            exact .inr (by rw [← e]; exact List.mem_cons_self)
  · rintro σ H' ⟨gd, z2, z5, z6, z8, rfl, G⟩
    have hxl : g.take gx.length = g := by rw [hgl, List.take_length]
    have vals : ValsOf g c (gd.map (·.1)) := ⟨G.nd, fun n => by rw [G.mem n, hxl]⟩
    obtain ⟨hb, hc⟩ := G0.bk.split hcm vals
    have hsz2 : ws0.length + gd.length ≤ 300 := by
      have h1 := hb.sum
      have h2 := len_size (ws := gs0 ++ (gd.map (·.1)).map (part g c)) fun x hx => hb.ne x (.inr hx)
      rw [List.length_append, List.length_map, List.length_map] at h2
      have h3 : (([] : List (List Log))).length = 0 := rfl
      omega
    have hwsA := G.same _ _ hws7
    refine ⟨_, rfl, .inl ⟨rfl, _, SqL.of hwsA⟩, ?_⟩
    refine ⟨d, .dK (kvI gd), G.at_, trivial, fun od => ⟨_, rfl, d, od, rfl, .inl ⟨kvI gd, upd_same, fun D9 hD9 => ?_⟩⟩⟩
    have nD9 : d ≠ D9 := ne_of_none (show upd H' d (.frz od (.dK (kvI gd))) d = _ from upd_same) hD9
    refine lc_it walk_keys (Lc (upd H' d (.frz od (.dK (kvI gd)))) D9 fun i acc H => acc = (gd.take i).map fun p => V.ref p.2) (lc_start hD9 rfl) (fun i H'' _ h => h.1 _ _ upd_same) ?_ ?_
    · rintro i x HA HB hi ⟨eA, acc, eD, laA, hP⟩ ⟨rfl, k, v, hk, rfl⟩
      unfold kvI at hk hi
      rw [List.length_map] at hi
      rw [List.getElem?_map] at hk
      obtain ⟨pp, hpp, epp⟩ := Option.map_eq_some_iff.mp hk
      cases epp
      have hfz := eA _ _ (show upd H' d (.frz od (.dK (kvI gd))) d = _ from upd_same)
      have hpm : (pp.1, pp.2) ∈ gd := List.mem_of_getElem? hpp
      have hval : valV (kvI gd) (Sum.inl pp.1) = some (V.ref pp.2) := by
        rw [valV_kvI, in_lookup G.nd hpm]
        rfl
      refine ⟨rfl, _, rfl, _, rfl, d, V.ref pp.2, rfl, .inl ⟨kvI gd, Sum.inl pp.1, .inr ⟨od, hfz⟩, rfl, hval.symm⟩, ?_⟩
      refine lc_put hD9 (by omega) eD laA eA ?_
      rw [hP, take_next hpp, List.map_append]
      rfl
    · rintro HA ⟨eA, acc, eD, laA, hP⟩
      have hP : acc = (gd.take (kvI gd).length).map fun p => V.ref p.2 := hP
      rw [show (kvI gd).length = gd.length from List.length_map _, List.take_length] at hP
      subst hP
      refine ⟨eA _ _ upd_same, ?_⟩
      have hwsB : upd HA d (.dK (kvI gd)) wa = some (.lst ws0) := by
        rw [upd_ne (Ne.symm ndw)]
        exact eA _ _ (by rw [upd_ne (Ne.symm ndw)]; exact hwsA)
      have eDB : upd HA d (.dK (kvI gd)) D9 = some (.lst (gd.map fun p => V.ref p.2)) := by
        rw [upd_ne (Ne.symm nD9)]
        exact eD
      have sB : Same H7 (upd HA d (.dK (kvI gd))) := fun b o e => by
        have nbd : b ≠ d := ne_of_none e hd
        rw [upd_ne nbd]
        exact eA _ _ (by rw [upd_ne nbd]; exact G.same _ _ e)
      refine ⟨wa, D9, ws0, _, rfl, rfl, hwsB, eDB, by rw [sizeLine_eq, List.length_map]; omega, _, hc, gs0 ++ (gd.map (·.1)).map (part g c), _, _, _, _, _, _, _, rfl, rfl, same_upd (s3'.trans (s37.trans sB)) hwa0, ⟨_, upd_same, ?_⟩, hb⟩
      refine Paired.append (Paired.mono (fun _ _ q => ((q.same s37).same sB).updW hwsB) hgs3) ?_
      rw [List.map_map]
      refine paired_map fun p hp => ?_
      obtain ⟨hp0, zs, hzs, hvs⟩ := G.lists p hp
      rw [hxl] at hvs
      have npw : p.2 ≠ wa := fun e => by rw [e, hws7] at hp0; cases hp0
      have npd : p.2 ≠ d := fun e => by rw [e, G.at_] at hzs; cases hzs
      refine ⟨p.2, zs, rfl, npw, ?_, (hvs.same sB).updL hwsB⟩
      rw [upd_ne npw, upd_ne npd]
      exact eA _ _ (by rw [upd_ne npd]; exact hzs)
end
end Rd

set_option Elab.async false
set_option linter.all false
set_option maxRecDepth 100000
namespace Rd
open PySem PySem.Spec PyProof.Rows L2
open PySem.W (AllAlike Sortable dataLe)
abbrev nChanged : List Str := ["_law_box_here", "_law_some", "_law_way", "_law_at", "_law_to", "_law_entry", "_law_altered", "_law_spot", "_law_cell", "_law_value"]
theorem scChanged : FnScope nChanged ["_law_box_here", "_law_some"] (defScope sChanged) := ⟨rfl, rfl, rfl, by decide +kernel, rfl, by decide +kernel, by decide +kernel⟩
abbrev zz : Str := "zz"
/-- logs that may be changed -/
structure MayOk (L : List Log) : Prop where
  ok : LogsOk L
  few : L.length ≤ 200
  ne : L ≠ []
  two : ∀ l ∈ L, 2 ≤ l.length
  zz : ∀ l ∈ L, zz ∉ cells l
def spChanged (K : PySem.W.Frag) : Sp := fun vs H Q _ => ∃ (b : Addr) (v : V) (L : List Log) (k : Nat), vs = [.ref b, v] ∧ BoxOk H b k ∧ k + 4 ≤ 1000000 ∧ LogsV K H v L ∧ MayOk L ∧ ∀ r H' M, SameBut b H H' → LogsV K H' r M → LogsOk M → M ≠ [] → Q r H'
theorem SameBut.of {b : Addr} {H H' : Hp} (s : Same H H') : SameBut b H H' := fun a o _ e => s _ _ e
theorem SameBut.trans {b : Addr} {H H' H'' : Hp} (s : SameBut b H H') (t : SameBut b H' H'') : SameBut b H H'' := fun a o n e => t a o n (s a o n e)
theorem SameBut.t {b : Addr} {H H' : Hp} {ws : List V} (h : H b = some (.lst ws)) (s : SameBut b H H') : SameT H H' :=
  ⟨fun a xs q => s _ _ (ne_of q h (by intro z; cases z)) q, fun a o xs q => s _ _ (ne_of q h (by intro z; cases z)) q⟩
theorem BoxOk.lst {H : Hp} {b : Addr} {k : Nat} (h : BoxOk H b k) : ∃ ws, H b = some (.lst ws) := by
  obtain ⟨own, mx, j, e, _⟩ := h
  exact ⟨_, e⟩
theorem BoxOk.same {H H' : Hp} {b : Addr} {k : Nat} (s : Same H H') (h : BoxOk H b k) : BoxOk H' b k := by
  obtain ⟨own, mx, j, e, r⟩ := h
  exact ⟨own, mx, j, s _ _ e, r⟩
theorem BoxOk.t {H H' : Hp} {b : Addr} {k : Nat} (h : BoxOk H b k) (s : SameBut b H H') : SameT H H' := by
  obtain ⟨ws, e⟩ := h.lst
  exact s.t e
theorem refs_logs {K : PySem.W.Frag} {H : Hp} : ∀ {xs : List V} {M : List Log}, LogVs K H xs M → ∃ ks : List (Addr × Log), xs = ks.map (fun p => V.ref p.1) ∧ M = ks.map (·.2) ∧ ∀ p ∈ ks, LogV K H (.ref p.1) p.2
  | _, _, .nil => ⟨[], rfl, rfl, fun p h => by cases h⟩
  | _, _, .cons h t => by
    obtain ⟨ks, e1, e2, e3⟩ := refs_logs t
    obtain ⟨b, ys, rfl, _⟩ := id h
    refine ⟨(b, _) :: ks, by rw [e1]; rfl, by rw [e2]; rfl, fun p hp => ?_⟩
    rcases List.mem_cons.mp hp with z | z
    · rw [z]; exact h
    · exact e3 p z
/-- tuple(sorted(set(t))) -/
theorem fin_read {K : PySem.W.Frag} {w : World} {H : Hp} {Qv : VK} {a : Addr} {xs : List V} {M : List Log} (hT : SqT K H a xs) (hV : LogVs K H xs M) (h0 : 0 < M.length) (hf : M.length ≤ 300) (hne : ∀ m ∈ M, m ≠ [])
    (q : ∀ r H' M', Same H H' → LogsV K H' (.ref r) M' → (∀ m ∈ M', m ∈ M) → M' ≠ [] → M'.length ≤ 300 → Qv (.ref r) H') : rSetN K w [.ref a] H fun y H1 => rSortN K w [y] H1 fun z H2 => rTup K [z] H2 Qv := by
  obtain ⟨ks, rfl, rfl, hk⟩ := refs_logs hV
  rw [List.length_map] at h0 hf
  refine ⟨a, ks, rfl, hT, fun p hp => (hk p hp).dp, hf, h0, fun s L hs hsub hpos hfew => ?_⟩
  have s1 := same_new hs (SetQO w s L)
  refine ⟨s, L, ks, rfl, upd_same, hsub, fun p hp => ⟨((hk p hp).same s1).dp, hne p.2 (List.mem_map.mpr ⟨p, hp, rfl⟩)⟩, fun p ys hp hlen hys => ?_⟩
  have s2 := s1.trans (same_new hp (.lst (ys.map fun y => V.ref y.1)))
  refine ⟨p, _, rfl, SqL.of upd_same, fun l H' s' t' => q l H' (ys.map (·.2)) (s2.trans s') ⟨l, _, rfl, t'.sq, paired_map fun y hy => (hk y (hys y hy)).same (s2.trans s')⟩ (fun m hm => ?_) ?_ ?_⟩
  · obtain ⟨y, hy, rfl⟩ := List.mem_map.mp hm
    exact List.mem_map.mpr ⟨y, hys y hy, rfl⟩
  · intro z
    have := congrArg List.length z
    rw [List.length_map, hlen, List.length_nil] at this
    omega
  · rw [List.length_map, hlen]
    exact hfew
theorem LogOk.sub {l m : Log} (h : LogOk l) (s : m.Sublist l) (ne : m ≠ []) : LogOk m :=
  ⟨List.Sublist.nodup (s.map _) h.nd, ne, Nat.le_trans s.length_le h.short, fun p hp => h.vals p (s.mem hp), fun p hp => h.nm p (s.mem hp)⟩
theorem LogOk.perm {l m : Log} (h : LogOk l) (p : m.Perm l) : LogOk m :=
  ⟨(List.Perm.map (fun q : Str × Int => q.1) p).nodup_iff.mpr h.nd, fun z => h.ne (by rw [z] at p; exact p.symm.eq_nil), by rw [p.length_eq]; exact h.short, fun q hq => h.vals q (p.mem_iff.mp hq), fun q hq => h.nm q (p.mem_iff.mp hq)⟩
/-- the values replaced -/
def repl (l m : Log) : Log := l.map fun p => (p.1, (m.lookup p.1).getD p.2)
theorem repl_ok {l m : Log} (h : LogOk l) (hm : LogOk m) : LogOk (repl l m) := by
  have e : cells (repl l m) = cells l := by
    unfold repl cells
    rw [List.map_map]
    rfl
  refine ⟨by rw [e]; exact h.nd, fun z => ?_, by unfold repl; rw [List.length_map]; exact h.short, fun p hp => ?_, fun p hp => ?_⟩
  · unfold repl at z
    exact h.ne (List.map_eq_nil_iff.mp z)
  · obtain ⟨q, hq, rfl⟩ := List.mem_map.mp hp
    cases z : m.lookup q.1 with
    | none => exact h.vals q hq
    | some v => exact hm.vals _ (mem_of_lookup z)
  · obtain ⟨q, hq, rfl⟩ := List.mem_map.mp hp
    exact h.nm q hq
theorem zz_ok {l : Log} (h : LogOk l) (hz : zz ∉ cells l) : LogOk (l.dropLast ++ [(zz, 1)]) := by
  have s := List.dropLast_sublist l
  refine ⟨?_, by simp, ?_, fun p hp => ?_, fun p hp => ?_⟩
  · unfold cells
    rw [List.map_append, List.nodup_append]
    refine ⟨List.Sublist.nodup (s.map _) h.nd, by simp, fun a ha b hb e => hz ?_⟩
    have eb : b = zz := by simpa using hb
    rw [← eb, ← e]
    exact (s.map (·.1)).mem ha
  · rw [List.length_append, List.length_dropLast]
    have := h.short
    have := List.length_pos_iff.mpr h.ne
    simp
    omega
  · rcases List.mem_append.mp hp with z | z
    · exact h.vals p (s.mem z)
    · rw [List.mem_singleton.mp z]
      exact ⟨by decide, by decide⟩
  · rcases List.mem_append.mp hp with z | z
    · exact h.nm p (s.mem z)
    · rw [List.mem_singleton.mp z]
      decide +kernel
theorem cut_last {xs : List V} : cutV xs none (some (-1)) = xs.dropLast := by
  unfold cutV
  rw [HT.sIx_none, List.drop_zero, Nat.sub_zero]
  show xs.take (if (-1 : Int) < 0 then ((-1 : Int) + (xs.length : Int)).toNat else min ((-1 : Int).toNat) xs.length) = _
  rw [if_pos (by decide), List.dropLast_eq_take]
  congr 1
  omega
/-- the values replaced, pair by pair -/
theorem rd_repl {K : PySem.W.Frag} {x0 x1 x2 x3 x4 x5 x7 x8 x9 : Option V} {d eb D : Addr} {ys : List V} {l m : Log} {H6 : Hp} {Qd : Hp → Prop} (ht6 : PTup H6 eb ys) (hd6' : DpAll K H6 ys (l.map dPair)) (hd6 : H6 d = some (.dK (kvL m))) (hsh : l.length ≤ 8) (hD : H6 D = none)
    (q : ∀ H7 acc, Same H6 H7 → H7 D = some (.lst acc) → DpAll K (del H7 D) acc ((repl l m).map dPair) → Qd H7) :
    LcG (Itt K eb) (gTup K 2 (gCons (gName 8) (gCons (gName 9) gNil))) tYes (tTup (tCons (tVar 8) (tCons (tIf (tB (tDIn (tVar 8) (tVar 6))) (tDGet (tVar 6) (tVar 8)) (tVar 9)) tNil))) [8, 9] [x0, x1, x2, x3, x4, x5, some (.ref d), x7, x8, x9] H6 D Qd := by
    have hyl : ys.length = l.length := by
      have := DpAll.len hd6'
      rw [List.length_map] at this
      exact this
    refine lc_tup (K := K) (a := eb) (xs := ys) (Lc H6 D fun i acc H => DpAll K H acc (((repl l m).take i).map dPair)) (lc_start hD .nil) (fun i H' _ h => (ht6.same h.1).sq) ?_ ?_
    · rintro i y H7 hi ⟨e7, acc, eD, la, hP⟩
      obtain ⟨dd, hdd, hy⟩ := DpAll.get hd6' hi
      rw [List.getElem?_map] at hdd
      obtain ⟨pr, hpr, rfl⟩ := Option.map_eq_some_iff.mp hdd
      have hi' : i < ys.length := (List.getElem?_eq_some_iff.mp hi).1
      have hnx : (repl l m)[i]? = some (pr.1, (m.lookup pr.1).getD pr.2) := by
        unfold repl
        rw [List.getElem?_map, hpr]
        rfl
      have hgm : DGet H7 d (.str pr.1) ((m.lookup pr.1).map V.int) := DicV.get (e7 _ _ hd6) pr.1
      cases dp_same e7 _ _ hy with
      | @tup aa zs' _ hsq hall =>
        cases hall with
        | cons h1 h2 =>
          cases h2 with
          | cons h3 h4 =>
            cases h1
            cases h3
            cases h4
            refine ⟨aa, _, rfl, hsq, rfl, _, _, rfl, _, _, rfl, rfl, rfl, ?_⟩
            refine ⟨_, rfl, _, rfl, _, rfl, d, _, rfl, hgm, _, rfl, ?_⟩
            have put : ∀ v : Int, v = (m.lookup pr.1).getD pr.2 → ∀ p, H7 p = none → ∃ acc, (upd H7 p (.tup [.str pr.1, .int v])) D = some (.lst acc) ∧ acc.length < sizeLine ∧ Lc H6 D (fun i acc H => DpAll K H acc (((repl l m).take i).map dPair)) (i + 1) (upd (upd H7 p (.tup [.str pr.1, .int v])) D (.lst (acc ++ [.ref p]))) := fun v ev p hp => by
              have s8 := same_new hp (.tup [.str pr.1, .int v])
              refine lc_put hD (by omega) (s8 _ _ eD) la (e7.trans s8) ?_
              rw [take_next hnx, List.map_append]
              refine DpAll.app (dps_same (del_mono s8) _ _ hP) (.cons (.tup (xs := [.str pr.1, .int v]) (.inl (.inl ?_)) (.cons (.str _) (.cons (by rw [ev]; exact .int _) .nil))) .nil)
              exact del_keep upd_same (Ne.symm (ne_of_none eD hp))
            cases hlk : m.lookup pr.1 with
            | none => exact iteF ⟨_, rfl, (show 2 ≤ sizeLine by decide), fun p hp => put _ (by rw [hlk]; rfl) p hp⟩
            | some v =>
              rw [hlk] at hgm
              exact iteT ⟨_, rfl, _, rfl, d, .int v, rfl, hgm, (show 2 ≤ sizeLine by decide), fun p hp => put _ (by rw [hlk]; rfl) p hp⟩
    · rintro H7 ⟨e7, acc, eD, la, hP⟩
      have hP : DpAll K _ acc (((repl l m).take ys.length).map dPair) := hP
      rw [show ys.length = (repl l m).length by unfold repl; rw [List.length_map]; exact hyl, List.take_length] at hP
      exact q H7 acc e7 eD hP
section
variable {P : Program} {w : World} {K : PySem.W.Frag} {mg : Str → Option Value} {base : Heap}
theorem cal_changed (h : Known K mg "_law_changed" sChanged ["_law_box_here", "_law_some"]) (B : Bl mg) (C : Cal P w K mg base 1 "_law_take" ["_law_box_here", "_law_upon"] (spTake K)) : Cal P w K mg base 2 "_law_changed" ["_law_box_here", "_law_some"] (spChanged K) := h.cal fun f fd F => by
  refine F.ok scChanged (fun vs H Q E h => ?_) (fun cdv A outer s H vs Q E hr h => ?_)
  · obtain ⟨b, v, L, k, rfl, _⟩ := h
    rfl
  obtain ⟨b, v, L, k, rfl, hb, hk, hL, hm, q⟩ := h
  have hu := hu_of hr
  refine ⟨_, pss_cons (ps_par3 (i := 2) (j := 3) (l := 4) rfl scChanged.nd rfl rfl rfl (by decide) (by decide) (by decide) rfl rfl rfl (pa_cons (C.call hr (pa_cons (pv 0) (pa_cons pe_int pa_nil))) (pa_cons (C.call hr (pa_cons (pv 0) (pa_cons (w_len K B.len (pv 1)) pa_nil))) (pa_cons (C.call hr (pa_cons (pv 0) (pa_cons (w_len K B.len (pv 1)) pa_nil))) pa_nil))) rfl)
    (pss_cons (ps_asg (pe_tup (pa_cons (w_ixT K (pv 1) (pv 3)) (pa_cons (w_dictL K B.dict (w_list K B.list (w_ixT K (pv 1) (pv 4)))) pa_nil))) (w_tgt K (pgs_cons (pg_name (i := 5) scChanged.nd rfl (Or.inl rfl)) (pgs_cons (pg_name (i := 6) scChanged.nd rfl (Or.inr rfl)) pgs_nil))))
    (pss_cons (ps_if (pt_cmpR op_eq (pv 2) pe_int (nomark _))
      (pss_cons (ps_set (i := 7) scChanged.nd rfl (Or.inl rfl) (C.call hr (pa_cons (pv 0) (pa_cons (w_len K B.len (pv 5)) pa_nil))))
      (pss_one (ps_set (i := 5) scChanged.nd rfl (Or.inl rfl) (w_cat K (w_sl K (pv 5) po_none (po_some (pv 7))) (w_sl K (pv 5) (po_some (pe_op op_add (pv 7) pe_int)) po_none)))))
      (pss_one (ps_if (pt_cmpR op_eq (pv 2) pe_int (nomark _))
        (pss_one (ps_set (i := 5) scChanged.nd rfl (Or.inl rfl) (w_tup K B.tuple
          (pe_lc (own := [("_law_cell", 8), ("_law_value", 9)]) (g := gTup K 2 (gCons (gName 8) (gCons (gName 9) gNil))) (tt := tYes)
            (te := tTup (tCons (tVar 8) (tCons (tIf (tB (tDIn (tVar 8) (tVar 6))) (tDGet (tVar 6) (tVar 8)) (tVar 9)) tNil))) rfl scChanged.nd (w_tup_iter K (pv 5))
            (blkOk_by (N := nChanged) (sc := defScope sChanged) (by decide +kernel)) (fun _ _ _ _ _ => w_tgt K (pgs_cons (pg_name (i := 8) scChanged.nd rfl (Or.inl rfl)) (pgs_cons (pg_name (i := 9) scChanged.nd rfl (Or.inl rfl)) pgs_nil)))
            (fun _ _ _ _ _ => pts_nil)
            (fun _ _ _ _ _ => pe_tup (pa_cons (pv 8) (pa_cons (pe_ifExp (pt_cmp (pc_din hu (pv 8) (pv 6)) rfl) (pe_dget hu (pv 6) (pv 8) (fun _ _ => rfl)) (pv 9)) pa_nil)))))))
        (pss_cons (ps_set (i := 5) scChanged.nd rfl (Or.inl rfl) (w_tup K B.tuple (w_sort K hr.units B.sorted (pe_op op_cat (pe_slice sl_list (w_list K B.list (pv 5)) po_none (po_some (pe_un un_neg pe_int))) (pe_lst (pa_cons (pe_tup (pa_cons pe_str (pa_cons pe_int pa_nil))) pa_nil))))))
        (pss_one (ps_ret (w_tup K B.tuple (pe_callB (cr_sortN rfl hr.units) (by rfl) B.sorted bt_sorted (pa_cons (pe_callTy (cr_setN rfl hr.units) (by rfl) B.set bt_set (pa_cons (w_cat K (pv 1) (pe_tup (pa_cons (pv 5) pa_nil))) pa_nil)) pa_nil)))))))))
    (pss_one (ps_ret (w_tup K B.tuple (pe_callB (cr_sortN rfl hr.units) (by rfl) B.sorted bt_sorted (pa_cons (pe_callTy (cr_setN rfl hr.units) (by rfl) B.set bt_set (pa_cons (w_cat K (w_cat K (w_sl K (pv 1) po_none (po_some (pv 3))) (pe_tup (pa_cons (pv 5) pa_nil))) (w_sl K (pv 1) (po_some (pe_op op_add (pv 3) pe_int)) po_none)) pa_nil)) pa_nil))))))), ?_⟩
  obtain ⟨a, xs, rfl, hT, hV⟩ := hL
  have hlen : xs.length = L.length := hV.len
  have hf2 := hm.few
  have hpos : 0 < L.length := List.length_pos_iff.mpr hm.ne
  refine ⟨_, rfl, b, 3, k, rfl, hb, by omega, by omega, by omega, fun r1 H1 hr1 s1 hb1 => ?_⟩
  have t1' := hb.t s1
  refine ⟨_, rfl, _, rfl, a, xs, rfl, .inr (SqT.sameT t1' hT), b, xs.length, k + 1, rfl, hb1, by omega, by omega, by omega, fun r2 H2 hr2 s2 hb2 => ?_⟩
  have t2' := t1'.trans (hb1.t s2)
  refine ⟨_, rfl, _, rfl, a, xs, rfl, .inr (SqT.sameT t2' hT), b, xs.length, k + 1 + 1, rfl, hb2, by omega, by omega, by omega, fun r3 H3 hr3 s3 hb3 => ?_⟩
  have t3 := t2'.trans (hb2.t s3)
  have s03 : SameBut b H H3 := (s1.trans s2).trans s3
  refine ⟨_, _, _, rfl, ?_⟩
  have hT3 := SqT.sameT t3 hT
  have hV3 := LogVs.sameT t3 hV
  obtain ⟨x2, hx2⟩ : ∃ x, xs[r2]? = some x := ⟨_, List.getElem?_eq_getElem hr2⟩
  obtain ⟨x3, hx3⟩ : ∃ x, xs[r3]? = some x := ⟨_, List.getElem?_eq_getElem hr3⟩
  obtain ⟨l, hl, hy2⟩ := hV3.at hx2
  obtain ⟨m, hm3, hy3⟩ := hV3.at hx3
  have hlm : l ∈ L := List.mem_of_getElem? hl
  have hlok := hm.ok.all l hlm
  have hmok := hm.ok.all m (List.mem_of_getElem? hm3)
  obtain ⟨eb, ys, rfl, ht, hd⟩ := id hy2
  obtain ⟨mb, zs, rfl, ht3, hd3⟩ := id hy3
  obtain ⟨ps, rfl, hps⟩ := pairs_at hd3
  refine ⟨_, rfl, _, rfl, a, xs, _, _, rfl, rfl, hT3, atI_nat hx2, _, rfl, _, rfl, a, xs, _, _, rfl, rfl, hT3, atI_nat hx3, mb, _, rfl, .inr ht3.sq, fun e he => ?_⟩
  have s4 := same_new he (.lst (ps.map V.ref))
  refine ⟨e, ps, kvL m, rfl, .inl (.inl upd_same), Paired.mono (fun _ _ q => Same.seqT s4 q) hps, fun d hd' => ⟨(show 2 ≤ sizeLine by decide), fun tp htp => ?_⟩⟩
  rw [mergeK_kvL hmok.nd] at htp ⊢
  have s5 := s4.trans (same_new hd' (.dK (kvL m)))
  have hdd : upd (upd H3 e (.lst (ps.map V.ref))) d (.dK (kvL m)) d = some (.dK (kvL m)) := upd_same
  have s6 := same_new htp (.tup [.ref eb, .ref d])
  refine ⟨tp, _, rfl, .inl (.inl upd_same), rfl, _, _, rfl, _, _, rfl, rfl, ?_⟩
  have s36 : Same H3 (upd (upd (upd H3 e (.lst (ps.map V.ref))) d (.dK (kvL m))) tp (.tup [.ref eb, .ref d])) := s5.trans s6
  have hd6 := s6 _ _ hdd
  generalize upd (upd (upd H3 e (.lst (ps.map V.ref))) d (.dK (kvL m))) tp (.tup [.ref eb, .ref d]) = H6 at s36 hd6 ⊢
  have hT6 := Same.seqT s36 hT3
  have hV6 := hV3.same s36
  have hb6 := hb3.same s36
  have s06 : SameBut b H H6 := s03.trans (.of s36)
  have ht6 : PTup H6 eb ys := ht.same s36
  have hd6' := dps_same s36 _ _ hd
  have hyl : ys.length = l.length := by
    have := DpAll.len hd
    rw [List.length_map] at this
    exact this
  have hr2L : r2 < L.length := by omega
  have hsh := hlok.short
  have htwo := hm.two l hlm
  have fin : ∀ (D : Ends) (z2 z7 : Option V) (Hx : Hp) (eb' : Addr) (l' : Log), D.rt = Q → SameBut b H6 Hx → LogV K Hx (.ref eb') l' → LogOk l' →
      tRet (tCB (rTup K) (t1 (tCB (rSortN K w) (t1 (tCB (rSetN K w) (t1 (tOp (rCatP K) (tOp (rCatP K) (tSl (rSlT K) (tVar 1) tNoPart (tPart (tVar 3))) (tTup (tCons (tVar 5) tNil))) (tSl (rSlT K) (tVar 1) (tPart (tOp (rI0 fun i j => .int (i + j)) (tVar 3) (tC (.int 1)))) tNoPart)))))))) D
        [some (.ref b), some (.ref a), z2, some (.int (r2 : Int)), some (.int (r3 : Int)), some (.ref eb'), some (.ref d), z7, none, none] Hx := by
    intro D z2 z7 Hx eb' l' hD hs hl' hok'
    have sx : SameT H6 Hx := hb6.t hs
    have hTx := SqT.sameT sx hT6
    refine ⟨_, rfl, _, rfl, r2, rfl, a, xs, rfl, hTx, fun p1 Ha sa ha _ => ?_⟩
    refine ⟨_, rfl, (show 1 ≤ sizeLine by decide), fun p2 hp2 => ?_⟩
    have sb := same_new hp2 (.tup [.ref eb'])
    rw [cut_to (by omega)] at ha
    refine ⟨p1, p2, _, _, rfl, rfl, Same.seqT sb ha, .inl (.inl upd_same), by rw [sizeLine_eq, List.length_take]; show _ + 1 ≤ _; omega, fun p3 Hc sc hc _ => ?_⟩
    have s3c := sa.trans (sb.trans sc)
    refine ⟨_, rfl, _, rfl, _, _, rfl, rfl, ((r2 + 1 : Nat) : Int), rfl, a, xs, rfl, Same.seqT s3c hTx, fun p4 Hd sd hd4 _ => ?_⟩
    rw [cut_from (by omega)] at hd4
    refine ⟨p3, p4, _, _, rfl, rfl, Same.seqT sd hc, hd4, by rw [sizeLine_eq, List.length_append, List.length_take, List.length_drop]; show _ + 1 + _ ≤ _; omega, fun p5 He se he5 _ => ?_⟩
    have sxe := s3c.trans (sd.trans se)
    have hVe : LogVs K He xs L := LogVs.sameT (sx.trans (.of sxe)) hV6
    have hokM : ∀ m ∈ L.take r2 ++ [l'] ++ L.drop (r2 + 1), LogOk m := fun m hm' => by
      rcases List.mem_append.mp hm' with z | z
      · rcases List.mem_append.mp z with z | z
        · exact hm.ok.all m (List.mem_of_mem_take z)
        · rw [List.mem_singleton.mp z]; exact hok'
      · exact hm.ok.all m (List.mem_of_mem_drop z)
    have hMl : (L.take r2 ++ [l'] ++ L.drop (r2 + 1)).length = L.length := by
      rw [List.length_append, List.length_append, List.length_take, List.length_drop]
      simp
      omega
    exact fin_read (M := L.take r2 ++ [l'] ++ L.drop (r2 + 1)) he5 (((hVe.take r2).app (.cons (hl'.same sxe) .nil)).app (hVe.drop (r2 + 1))) (by omega) (by omega) (fun m hm' => (hokM m hm').ne) fun r Hf M' sf hM' hsub hne' hfew' => by
      rw [hD]
      exact q _ Hf M' (s06.trans (hs.trans ((SameBut.of sxe).trans (.of sf)))) hM' ⟨fun m hm' => hokM m (hsub m hm'), hfew'⟩ hne'
  have hcase : r1 = 0 ∨ r1 = 1 ∨ r1 = 2 := by omega
  rcases hcase with rfl | rfl | rfl
  · refine ⟨_, rfl, rfl, true, rfl, iteT ?_⟩
    refine ⟨_, rfl, _, rfl, eb, ys, rfl, .inr ht6.sq, b, ys.length, k + 1 + 1 + 1, rfl, hb6, by omega, by omega, by omega, fun r7 H7 hr7 s7 hb7 => ?_⟩
    have ht7 : PTup H7 eb ys := ht6.sameT (hb6.t s7)
    refine ⟨_, rfl, _, rfl, r7, rfl, eb, ys, rfl, ht7.sq, fun p8 H8 s8 h8 k8 => ?_⟩
    have ht8 : PTup H8 eb ys := ht7.same s8
    refine ⟨_, rfl, _, rfl, _, _, rfl, rfl, ((r7 + 1 : Nat) : Int), rfl, eb, ys, rfl, ht8.sq, fun p9 H9 s9 h9 k9 => ?_⟩
    have k8' := (k8 ht7).same s9
    have k9' := k9 ht8
    rw [cut_to (by omega)] at h8 k8'
    rw [cut_from (by omega)] at h9 k9'
    refine ⟨p8, p9, _, _, rfl, rfl, Same.seqT s9 h8, h9, by rw [sizeLine_eq, List.length_take, List.length_drop]; omega, fun p10 H10 s10 h10 k10 => ?_⟩
    have s7x := s8.trans (s9.trans s10)
    have sX : SameBut b H6 H10 := s7.trans (.of s7x)
    refine fin _ _ _ H10 p10 (l.take r7 ++ l.drop (r7 + 1)) rfl sX ⟨p10, _, rfl, k10 k8' k9', ?_⟩ ?_
    · rw [List.map_append, List.map_take, List.map_drop]
      have hdx : DpAll K H10 ys (l.map dPair) := pairs_sameT (hb6.t sX) hd6'
      exact DpAll.app (DpAll.take r7 hdx) (DpAll.drop (r7 + 1) hdx)
    · have sub : (l.take r7 ++ l.drop (r7 + 1)).Sublist l := by
        rw [← List.eraseIdx_eq_take_drop_succ]
        exact List.eraseIdx_sublist _ _
      refine hlok.sub sub fun z => ?_
      have := congrArg List.length z
      rw [List.length_append, List.length_take, List.length_drop, List.length_nil] at this
      omega
  · refine ⟨_, rfl, rfl, false, rfl, iteF ⟨_, rfl, rfl, true, rfl, iteT ?_⟩⟩
    refine ⟨_, rfl, eb, rfl, ⟨_, ht6.sq⟩, fun D hD => ?_⟩
    refine rd_repl ht6 hd6' hd6 hlok.short hD fun H7 acc e7 eD hP => ?_
    refine ⟨D, acc, rfl, SqL.of eD, fun lt H8 s8 t8 => ?_⟩
    exact fin _ _ _ H8 lt (repl l m) rfl (.of (e7.trans s8)) ⟨lt, acc, rfl, t8, dps_same (del_same.trans s8) _ _ hP⟩ (repl_ok hlok hmok)
  · refine ⟨_, rfl, rfl, false, rfl, iteF ⟨_, rfl, rfl, false, rfl, iteF ?_⟩⟩
    refine ⟨_, rfl, eb, ys, rfl, .inr ht6.sq, fun e1 he1 => ?_⟩
    have u1 := same_new he1 (.lst ys)
    refine ⟨1, rfl, -1, rfl, e1, ys, rfl, SqL.of upd_same, fun e2 he2 => ?_⟩
    have hcl : cutV ys none (some (-1)) = ys.dropLast := cut_last
    rw [hcl]
    have u2 := same_new he2 (.lst ys.dropLast)
    refine ⟨(show 2 ≤ sizeLine by decide), fun t1 ht1 => ?_⟩
    have u3 := same_new ht1 (.tup [.str zz, .int 1])
    refine ⟨(show 1 ≤ sizeLine by decide), fun e3 he3 => ?_⟩
    have u4 := same_new he3 (.lst [.ref t1])
    have hd2 : (upd (upd H6 e1 (.lst ys)) e2 (.lst ys.dropLast)) e2 = some (.lst ys.dropLast) := upd_same
    have ht1' : (upd (upd (upd H6 e1 (.lst ys)) e2 (.lst ys.dropLast)) t1 (.tup [.str zz, .int 1])) t1 = some (.tup [.str zz, .int 1]) := upd_same
    refine ⟨e2, e3, ys.dropLast, [.ref t1], rfl, rfl, u4 _ _ (u3 _ _ hd2), upd_same, by rw [sizeLine_eq, List.length_dropLast]; show _ + 1 ≤ _; omega, fun e4 he4 => ?_⟩
    have u5 := same_new he4 (.lst (ys.dropLast ++ [.ref t1]))
    have u15 := u1.trans (u2.trans (u3.trans (u4.trans u5)))
    have hl4 : (upd (upd (upd (upd (upd H6 e1 (.lst ys)) e2 (.lst ys.dropLast)) t1 (.tup [.str zz, .int 1])) e3 (.lst [.ref t1])) e4 (.lst (ys.dropLast ++ [.ref t1]))) e4 = some (.lst (ys.dropLast ++ [.ref t1])) := upd_same
    have ht5 := u5 _ _ (u4 _ _ ht1')
    show tCB (rTup K) (Rd.t1 (tCB (rSortZ K) (Rd.t1 (tC (.ref e4))))) [] (upd (upd (upd (upd (upd H6 e1 (.lst ys)) e2 (.lst ys.dropLast)) t1 (.tup [.str zz, .int 1])) e3 (.lst [.ref t1])) e4 (.lst (ys.dropLast ++ [.ref t1]))) _
    generalize (upd (upd (upd (upd (upd H6 e1 (.lst ys)) e2 (.lst ys.dropLast)) t1 (.tup [.str zz, .int 1])) e3 (.lst [.ref t1])) e4 (.lst (ys.dropLast ++ [.ref t1]))) = He at u15 hl4 ht5 ⊢
    have hdp : DpAll K He (ys.dropLast ++ [.ref t1]) ((l.dropLast ++ [(zz, 1)]).map dPair) := by
      rw [List.map_append]
      refine DpAll.app ?_ (.cons (.tup (xs := [.str zz, .int 1]) (.inl (.inl ht5)) (.cons (.str _) (.cons (.int _) .nil))) .nil)
      rw [List.dropLast_eq_take, List.dropLast_eq_take, hyl, List.map_take]
      exact DpAll.take _ (dps_same u15 _ _ hd6')
    obtain ⟨vs, ev1, ev2, ev3, ev4⟩ := sort_vals (F := fun v b => Dp K He v (dPair b)) dPair (dps_paired hdp)
    refine ⟨e4, vs, rfl, .inl (by rw [ev1]; exact SqL.of hl4), fun z hz => ?_, ?_, ?_, fun z hz => ?_, fun p8 hp8 => ?_⟩
    · obtain ⟨b, h1, h2, _⟩ := ev3 z hz
      rw [h2]
      exact h1
    · rw [ev2]
      intro d hd d' hd'
      obtain ⟨g, _, e⟩ := List.mem_map.mp hd
      obtain ⟨g', _, e'⟩ := List.mem_map.mp hd'
      rw [← e, ← e']
      exact alike_pair _ _
    · rw [ev2]
      refine .inl fun d hd => ?_
      obtain ⟨g, _, e⟩ := List.mem_map.mp hd
      exact ⟨.str g.1, [.int g.2], e.symm⟩
    · obtain ⟨b, h1, h2, _⟩ := ev3 z hz
      rw [h2, depth_pair]
      decide
    refine ⟨p8, _, rfl, SqL.of upd_same, fun lt Hf sf tf => ?_⟩
    have sB : Same He Hf := (same_new hp8 _).trans sf
    have pl : LogV K Hf (.ref lt) (sortLog (l.dropLast ++ [(zz, 1)])) := ⟨lt, _, rfl, tf, paired_dps (Paired.mono (fun _ _ q => dp_same sB _ _ q) ev4)⟩
    have plok : LogOk (sortLog (l.dropLast ++ [(zz, 1)])) := (zz_ok hlok (hm.zz l hlm)).perm (sortLog_perm _)
    refine ⟨_, rfl, _, rfl, (show 1 ≤ sizeLine by decide), fun p2 hp2 => ?_⟩
    have sc := same_new hp2 (.tup [.ref lt])
    have sx := u15.trans (sB.trans sc)
    refine ⟨a, p2, _, _, rfl, rfl, Same.seqT sx hT6, .inl (.inl upd_same), by rw [sizeLine_eq]; show _ + 1 ≤ _; omega, fun p5 Hg sg hg5 _ => ?_⟩
    have sxg := sx.trans sg
    have hokM : ∀ m ∈ L ++ [sortLog (l.dropLast ++ [(zz, 1)])], LogOk m := fun m hm' => by
      rcases List.mem_append.mp hm' with z | z
      · exact hm.ok.all m z
      · rw [List.mem_singleton.mp z]; exact plok
    have hMl : (L ++ [sortLog (l.dropLast ++ [(zz, 1)])]).length = L.length + 1 := by
      rw [List.length_append]
      rfl
    exact fin_read (M := L ++ [sortLog (l.dropLast ++ [(zz, 1)])]) hg5 ((hV6.same sxg).app (.cons (pl.same (sc.trans sg)) .nil)) (by omega) (by omega) (fun m hm' => (hokM m hm').ne) fun r Hh M' sh hM' hsub hne' hfew' => by
      exact q _ Hh M' (s06.trans ((SameBut.of sxg).trans (.of sh))) hM' ⟨fun m hm' => hokM m (hsub m hm'), hfew'⟩ hne'
end
end Rd

set_option Elab.async false
set_option linter.all false
set_option maxRecDepth 100000
namespace Rd
open PySem PySem.Spec PyProof.Rows L2
/-- x in t, t a tuple of nested data -/
def rInTD (K : PySem.W.Frag) : R2 := fun x y H Q => ∃ d ds, Dp K H x d ∧ Dp K H y (.tuple ds) ∧ SeqAt.shaped d = true ∧ SeqAt.shaped (.tuple ds) = true ∧ Q (.bl (ds.any fun z => PyData.eqv z d)) H
theorem op_inTD {X : Cx} (hu : X.A.units + 65 < cLine) : OpR X (compareOp .In) (rInTD X.K) := by
  intro pins s σ H x y v u Q I rx ry h
  obtain ⟨d, ds, hd, he, sd, se, q⟩ := h
  obtain ⟨as, r1⟩ := Dp.reads I d x v hd rx
  obtain ⟨bs, r2⟩ := Dp.reads I (.tuple ds) y u he ry
  exact SeqAt.in_tuple_reads r2 r1 (SeqAt.canLay_of_shaped se) (SeqAt.canLay_of_shaped sd) (room_in_shaped sd hu) ⟨.bl _, H, I, rfl, q⟩
theorem w_inTD {X : Cx} (K : PySem.W.Frag) {a b : Expr} {ta tb : TE} {pos : Pos} (hu : X.A.units + 65 < cLine) (ha : PE X a ta) (hb : PE X b tb) (hK : X.K = K := by rfl) (hm : behindInMarks .In b = false := by rfl) : PE X (.Compare a [.In] [b] pos) (tOp (rInTD K) ta tb) := by
  subst hK
  exact pe_cmpR (op_inTD hu) ha hb hm
abbrev nIsGroup : List Str := ["_law_some", "_law_group", "_law_entry", "_law_pairs", "_law_cells", "_law_cell", "_law_one"]
theorem scIsGroup : FnScope nIsGroup ["_law_some", "_law_group"] (defScope sIsGroup) := ⟨rfl, rfl, rfl, by decide +kernel, rfl, by decide +kernel, by decide +kernel⟩
def spIsGroup (K : PySem.W.Frag) : Sp := fun vs H Q _ => ∃ v u M G, vs = [v, u] ∧ LogsV K H v M ∧ LogsV K H u G ∧ LogsOk M ∧ G.Sublist M ∧ Stuck G ∧ ∀ H', Q (.bl true) H'
/-- [m[c] == g[0][c] for m in g], all alike -/
theorem rd_eq {K : PySem.W.Frag} {σ : L2.St} {j ic ig : Nat} {p D : Addr} {ds : List V} {M : List Log} {m0 : Log} {c : Str} {H1 : Hp} {Qd : Hp → Prop} (hj : j < σ.length) (hne : ic ≠ j) (hne2 : ig ≠ j) (hc : σ[ic]? = some (some (.str c))) (hg : σ[ig]? = some (some (.ref p)))
    (hL : H1 p = some (.lst ds)) (hV : DicVs H1 ds M) (h0 : M[0]? = some m0) (hfew : M.length ≤ 300) (hD : H1 D = none)
    (hall : ∀ m ∈ M, (m.lookup c).isSome = true) (heq : ∀ m ∈ M, vl m c = vl m0 c)
    (q : ∀ H2, Same H1 H2 → H2 D = some (.lst ((M.map fun _ => true).map V.bl)) → Qd H2) :
    LcG (Itl K p) (gName j) tYes (tOp rEq (tDGet (tVar j) (tVar ic)) (tDGet (tOp (rIxL K) (tVar ig) (tC (.int 0))) (tVar ic))) [j] σ H1 D Qd := by
  have hl : ds.length = M.length := Paired.length hV
  refine lc_list (K := K) (a := p) (xs := ds) (Lc H1 D fun i acc H => acc = ((M.take i).map fun _ => true).map V.bl) (lc_start hD rfl) (fun i H' _ h => .inl (.inl (h.1 _ _ hL))) ?_ ?_
  · rintro i y H2 hi ⟨e2, acc, eD, la, hP⟩
    obtain ⟨m, hm, hy⟩ := hV.at hi
    obtain ⟨d, rfl, hd⟩ := hy.same e2
    have hi' : i < ds.length := (List.getElem?_eq_some_iff.mp hi).1
    have hcs : ((wipe σ [j]).set j (some (V.ref d)))[ic]? = some (some (.str c)) := by
      show (((σ.set j none).set j (some (V.ref d))))[ic]? = _
      rw [List.getElem?_set_ne (Ne.symm hne), List.getElem?_set_ne (Ne.symm hne), hc]
    have hgs : ((wipe σ [j]).set j (some (V.ref d)))[ig]? = some (some (.ref p)) := by
      show (((σ.set j none).set j (some (V.ref d))))[ig]? = _
      rw [List.getElem?_set_ne (Ne.symm hne2), List.getElem?_set_ne (Ne.symm hne2), hg]
    have hgm := DicV.get hd c
    rw [vl_get (hall m (List.mem_of_getElem? hm)), heq m (List.mem_of_getElem? hm)] at hgm
    obtain ⟨y0, hy0, hm0⟩ : ∃ y0, ds[0]? = some y0 ∧ DicV H2 y0 m0 := by
      cases ds with
      | nil => simp at hi
      | cons y0 r =>
        obtain ⟨m', hm', hd'⟩ := hV.at (i := 0) (x := y0) rfl
        rw [h0] at hm'
        rw [Option.some.inj hm']
        exact ⟨y0, rfl, hd'.same e2⟩
    obtain ⟨d0, rfl, hd0⟩ := hm0
    have hg0 := DicV.get hd0 c
    rw [vl_get (hall m0 (List.mem_of_getElem? h0))] at hg0
    refine ⟨wipe_set, _, set_at hj, _, hcs, d, .int (vl m0 c), rfl, hgm, _, hgs, p, _, 0, _, rfl, rfl, .inl (.inl (e2 _ _ hL)), atI_nat (by exact hy0), _, hcs, d0, .int (vl m0 c), rfl, hg0, rfl, ?_⟩
    rw [decide_eq_true (rfl : V.int (vl m0 c) = V.int (vl m0 c))]
    refine lc_put hD (by omega) eD la e2 ?_
    rw [hP, take_next hm, List.map_append, List.map_append]
    rfl
  · rintro H2 ⟨e2, acc, eD, la, hP⟩
    rw [hl, List.take_length] at hP
    rw [hP] at eD
    exact q H2 e2 eD
theorem all_true {α : Type} (M : List α) : ((M.map fun _ => true).all id) = true := by
  rw [List.all_map]
  exact List.all_eq_true.mpr fun _ _ => rfl
section
variable {P : Program} {w : World} {K : PySem.W.Frag} {mg : Str → Option Value} {base : Heap}
theorem cal_isGroup (h : Known K mg "_law_is_group" sIsGroup ["_law_some", "_law_group"]) (B : Bl mg) : Cal P w K mg base 1 "_law_is_group" ["_law_some", "_law_group"] (spIsGroup K) := h.cal fun f fd F => by
  refine F.ok scIsGroup (fun vs H Q E h => ?_) (fun cdv A outer s H vs Q E hr h => ?_)
  · obtain ⟨v, u, M, G, rfl, _⟩ := h
    rfl
  obtain ⟨v, u, M, G, rfl, hM, hG, hok, hsub, hst, q⟩ := h
  have hu := hu_of hr
  have hu65 : (A.deeper (envOfC "_law_is_group" (defScope sIsGroup) s.heap.objs.size f cdv)).units + 65 < cLine := by have := hr.un; omega
  refine ⟨_, pss_cons (ps_if (PW.pt (pw_or (pt_cmpR op_lt (w_len K B.len (pv 1)) pe_int (nomark _)) (pw_or1 (pt_not (pt_val (w_all K B.all
        (pe_lc (own := [("_law_entry", 2)]) (g := gName 2) (tt := tYes) (te := tOp (rInTD K) (tVar 2) (tVar 0)) rfl scIsGroup.nd (w_tup_iter K (pv 1)) (blkOk_by (N := nIsGroup) (sc := defScope sIsGroup) (by decide +kernel)) (fun _ _ _ _ _ => pg_name (i := 2) scIsGroup.nd rfl (Or.inl rfl)) (fun _ _ _ _ _ => pts_nil)
          (fun _ _ _ _ _ => w_inTD K hu65 (pv 2) (pv 0))))))))) (pss_one (ps_ret pe_bl)) pss_nil)
    (pss_cons (ps_set (i := 3) scIsGroup.nd rfl (Or.inr rfl) (pe_lc (own := [("_law_entry", 2)]) (g := gName 2) (tt := tYes) (te := tCB (rDictL K) (t1 (tCB (rList K) (t1 (tVar 2))))) rfl scIsGroup.nd (w_tup_iter K (pv 1))
        (blkOk_by (N := nIsGroup) (sc := defScope sIsGroup) (by decide +kernel)) (fun _ _ _ _ _ => pg_name (i := 2) scIsGroup.nd rfl (Or.inl rfl)) (fun _ _ _ _ _ => pts_nil)
        (fun _ _ _ _ _ => w_dictL K B.dict (w_list K B.list (pv 2)))))
    (pss_cons (ps_setLc (i := 4) (own := [("_law_cell", 5)]) (g := gName 5) (te := tVar 5) (tt := tB (tCB (rAll K) (t1 (tLc (iList K (tVar 3)) (gName 6) tYes (tDIn (tVar 5) (tVar 6)) [6])))) rfl scIsGroup.nd rfl rfl rfl
          (w_list_iter K (pe_callB (call_sortedD rfl) (by rfl) B.sorted bt_sorted (pa_cons (w_ixL K (pv 3) pe_int) pa_nil)))
          (blkOk_by (N := nIsGroup) (sc := defScope sIsGroup) (by decide +kernel)) (fun _ _ _ _ _ => pg_name (i := 5) scIsGroup.nd rfl (Or.inr rfl))
          (fun _ _ _ _ _ => pts_one (pt_val (w_all K B.all
            (pe_lc (own := [("_law_one", 6)]) rfl scIsGroup.nd (w_list_iter K (pv 3)) (blkOk_by (N := nIsGroup) (sc := relS _ (defScope sIsGroup)) (by decide +kernel)) (fun _ _ _ _ _ => pg_name (i := 6) scIsGroup.nd rfl (Or.inl rfl)) (fun _ _ _ _ _ => pts_nil)
              (fun _ _ _ _ _ => pe_cmp (pc_din hu (pv 5) (pv 6)) rfl)))))
          (fun _ _ _ _ _ => pv 5))
    (pss_one (ps_ret (w_all K B.all
        (pe_lc (own := [("_law_cell", 5)]) (g := gName 5) (tt := tYes)
          (te := tCB (rAll K) (t1 (tLc (iList K (tVar 3)) (gName 6) tYes (tOp rEq (tDGet (tVar 6) (tVar 5)) (tDGet (tOp (rIxL K) (tVar 3) (tC (.int 0))) (tVar 5))) [6]))) rfl scIsGroup.nd (w_list_iter K (pv 4))
          (blkOk_by (N := nIsGroup) (sc := defScope sIsGroup) (by decide +kernel)) (fun _ _ _ _ _ => pg_name (i := 5) scIsGroup.nd rfl (Or.inr rfl)) (fun _ _ _ _ _ => pts_nil)
          (fun _ _ _ _ _ => w_all K B.all
            (pe_lc (own := [("_law_one", 6)]) rfl scIsGroup.nd (w_list_iter K (pv 3)) (blkOk_by (N := nIsGroup) (sc := relS _ (defScope sIsGroup)) (by decide +kernel)) (fun _ _ _ _ _ => pg_name (i := 6) scIsGroup.nd rfl (Or.inl rfl)) (fun _ _ _ _ _ => pts_nil)
              (fun _ _ _ _ _ => pe_cmpR op_eq (pe_dget hu (pv 6) (pv 5) (fun _ _ => rfl)) (pe_dget hu (w_ixL K (pv 3) pe_int) (pv 5) (fun _ _ => rfl)) (nomark _)))))))))), ?_⟩
  obtain ⟨a, xs, rfl, hT, hV⟩ := id hG
  have hGok := hok.sub hsub
  have hgf := hGok.few
  have hlen : xs.length = G.length := hV.len
  have h2 := hst.1
  have hMd := hM.dp
  have hlayM : SeqAt.shaped (dLogs M) = true := shaped_of (lay_logs fun l hl => (hok.all l hl).nm) (by have := depth_logs M; omega)
  refine ⟨_, rfl, a, xs, rfl, .inr hT, _, _, rfl, rfl, _, rfl, ?_⟩
  rw [decide_eq_false (by omega)]
  refine iteF ?_
  refine ⟨_, rfl, a, rfl, ⟨_, hT⟩, fun D hD => ?_⟩
  refine lc_tup (K := K) (a := a) (xs := xs) (Lc H D fun i acc H => acc = ((G.take i).map fun _ => true).map V.bl) (lc_start hD rfl) (fun i H' _ h => Same.seqT h.1 hT) ?_ ?_
  · rintro i y H1 hi ⟨e1, acc, eD, la, hP⟩
    obtain ⟨l, hl, hy⟩ := hV.at hi
    have hi' : i < xs.length := (List.getElem?_eq_some_iff.mp hi).1
    have hlG : l ∈ G := List.mem_of_getElem? hl
    have hlok := hGok.all l hlG
    have hsl : SeqAt.shaped (dLog l) = true := shaped_of (lay_log hlok.nm) (by have := depth_log l; omega)
    refine ⟨rfl, _, rfl, _, rfl, dLog l, M.map dLog, (hy.same e1).dp, dp_same e1 _ _ hMd, hsl, hlayM, ?_⟩
    have hany : ((M.map dLog).any fun z => PyData.eqv z (dLog l)) = true := List.any_eq_true.mpr ⟨dLog l, List.mem_map.mpr ⟨l, hsub.mem hlG, rfl⟩, PySem.SeqAt.eqv_refl _ (lay_log hlok.nm)⟩
    rw [hany]
    refine lc_put hD (by omega) eD la e1 ?_
    rw [hP, take_next hl, List.map_append, List.map_append]
    rfl
  rintro H1 ⟨s1, acc, eD, _, hP⟩
  have hP : acc = ((G.take xs.length).map fun _ => true).map V.bl := hP
  rw [hlen, List.take_length] at hP
  rw [hP] at eD
  refine ⟨D, _, rfl, .inl (.inl eD), _, rfl, ?_⟩
  rw [all_true]
  refine iteF ?_
  have hV1 := hV.same s1
  have hT1 := Same.seqT s1 hT
  refine ⟨_, rfl, a, rfl, ⟨_, hT1⟩, fun Dp' hDp => rd_dictsL (L := G) (show 2 < 7 by decide) hT1 hV1 hGok hDp fun H3 gx s3 hla hdv => ?_⟩
  have hdg : DicVs H3 gx G := hdv.same del_same
  obtain ⟨m0, y0, hm0, hy0, d0, rfl, hd0⟩ : ∃ m0 y0, G[0]? = some m0 ∧ gx[0]? = some y0 ∧ DicV H3 y0 m0 := by
    cases hdg with
    | nil => exact absurd h2 (by decide)
    | cons h t => exact ⟨_, _, rfl, rfl, h⟩
  have hm0ok := hGok.all m0 (List.mem_of_getElem? hm0)
  refine ⟨_, rfl, Dp', _, 0, _, rfl, rfl, SqL.of hla, atI_nat (by exact hy0), d0, kvL m0, cells m0, rfl, .inl hd0, kvL_keys m0, by have := hm0ok.short; unfold cells; rw [List.length_map]; omega, fun ys p1 perm _ hp1 => ⟨p1, rfl, ⟨_, SqL.of upd_same⟩, fun D1 hD1 => ?_⟩⟩
  have hyl8 : ys.length ≤ 8 := by
    have := perm.length_eq
    have h8 := hm0ok.short
    unfold cells at this
    rw [List.length_map] at this
    omega
  have s4 : Same H3 (upd H3 p1 (.lst (ys.map V.str))) := same_new hp1 _
  have hp1' : upd H3 p1 (.lst (ys.map V.str)) p1 = some (.lst (ys.map V.str)) := upd_same
  generalize upd H3 p1 (.lst (ys.map V.str)) = H4 at s4 hp1' hD1 ⊢
  refine lc_list (K := K) (a := p1) (xs := ys.map V.str) (Lc H4 D1 (PFil ys fun c => G.all fun m => (m.lookup c).isSome)) (lc_start hD1 rfl) (fun i H' _ h => .inl (.inl (h.1 _ _ hp1'))) ?_ ?_
  · rintro i y H5 hi ⟨e5, acc, eD, la5, hP⟩
    rw [List.getElem?_map] at hi
    obtain ⟨c, hc, rfl⟩ := Option.map_eq_some_iff.mp hi
    have hi' : i < ys.length := (List.getElem?_eq_some_iff.mp hc).1
    refine ⟨rfl, _, rfl, Dp', rfl, ⟨_, .inl (.inl (e5 _ _ (s4 _ _ hla)))⟩, fun D4 hD4 => rd_hasAll (M := G) (c := c) (show 6 < 7 by decide) (show 5 ≠ 6 by decide) rfl (.inl (.inl (e5 _ _ (s4 _ _ hla)))) ((hdg.same s4).same e5) hGok.few hD4 fun H6 e6 hD6 => ?_⟩
    refine ⟨D4, _, rfl, .inl (.inl hD6), _, rfl, ?_⟩
    have eD6 := e6 _ _ eD
    have hall : ((G.map fun m => (m.lookup c).isSome).all id) = G.all fun m => (m.lookup c).isSome := by
      rw [List.all_map]
      rfl
    rw [hall]
    cases hb : G.all fun m => (m.lookup c).isSome with
    | true => exact ⟨_, rfl, lc_put hD1 (by omega) eD6 la5 (e5.trans e6) ((congrArg (· ++ [V.str c]) hP).trans (filt_yes V.str (fun c => G.all fun m => (m.lookup c).isSome) hc hb))⟩
    | false => exact (show Lc H4 D1 (PFil ys fun c => G.all fun m => (m.lookup c).isSome) (i + 1) H6 from lc_skip eD6 la5 (e5.trans e6) (hP.trans (filt_no V.str (fun c => G.all fun m => (m.lookup c).isSome) hc hb)))
  rintro H5 ⟨e5, acc, eD, _, hP⟩
  have hP : acc = ((ys.take (ys.map V.str).length).filter fun c => G.all fun m => (m.lookup c).isSome).map V.str := hP
  rw [List.length_map, List.take_length] at hP
  subst hP
  have hcs1 : ∀ c ∈ (ys.filter fun c => G.all fun m => (m.lookup c).isSome), ∀ m ∈ G, (m.lookup c).isSome = true := fun c hc m hm => List.all_eq_true.mp (List.mem_filter.mp hc).2 m hm
  have hcl8 : (ys.filter fun c => G.all fun m => (m.lookup c).isSome).length ≤ 8 := Nat.le_trans (List.length_filter_le _ _) hyl8
  generalize (ys.filter fun c => G.all fun m => (m.lookup c).isSome) = cs1 at eD hcs1 hcl8
  have s35 : Same H3 H5 := s4.trans e5
  refine ⟨_, rfl, D1, rfl, ⟨_, SqL.of eD⟩, fun D2 hD2 => ?_⟩
  refine lc_list (K := K) (a := D1) (xs := cs1.map V.str) (Lc H5 D2 fun i acc H => acc = ((cs1.take i).map fun _ => true).map V.bl) (lc_start hD2 rfl) (fun i H' _ h => .inl (.inl (h.1 _ _ eD))) ?_ ?_
  · rintro i y H6 hi ⟨e6, acc, eD2, la6, hP⟩
    rw [List.getElem?_map] at hi
    obtain ⟨c, hc, rfl⟩ := Option.map_eq_some_iff.mp hi
    have hi' : i < cs1.length := (List.getElem?_eq_some_iff.mp hc).1
    have s36 : Same H3 H6 := s35.trans e6
    have hall := hcs1 c (List.mem_of_getElem? hc)
    have hcsh : c ∈ shared G := shared_mem (fun z => by rw [z] at h2; exact absurd h2 (by decide)) hall
    refine ⟨rfl, _, rfl, Dp', rfl, ⟨_, .inl (.inl (s36 _ _ hla))⟩, fun D4 hD4 => rd_eq (M := G) (c := c) (m0 := m0) (show 6 < 7 by decide) (show 5 ≠ 6 by decide) (show 3 ≠ 6 by decide) rfl rfl (s36 _ _ hla) (hdg.same s36) hm0 hGok.few hD4 hall (fun m hm => hst.2 c hcsh m hm m0 (List.mem_of_getElem? hm0)) fun H7 e7 hD7 => ?_⟩
    refine ⟨D4, _, rfl, .inl (.inl hD7), ?_⟩
    rw [all_true]
    refine lc_put hD2 (by omega) (e7 _ _ eD2) la6 (e6.trans e7) ?_
    rw [hP, take_next hc, List.map_append, List.map_append]
    rfl
  rintro H6 ⟨e6, acc, eD2, _, hP⟩
  have hP : acc = ((cs1.take (cs1.map V.str).length).map fun _ => true).map V.bl := hP
  rw [List.length_map, List.take_length] at hP
  rw [hP] at eD2
  refine ⟨D2, _, rfl, .inl (.inl eD2), ?_⟩
  rw [all_true]
  exact q H6
end
end Rd

set_option Elab.async false
set_option linter.all false
set_option maxRecDepth 100000
namespace Rd
open PySem PySem.Spec PyProof.Rows L2
abbrev letters : Str := "abcdefghijklmnopqrstuvwxyz"
def chAt (k : Nat) : Str := ⟨#[letters.cps.getD k 0]⟩
def nmAt (i : Nat) : Str := (chAt (7 * i % 26) ++ chAt (i / 26)) ++ ("q" : Str)
def names30 : List Str := (List.range 30).map nmAt
theorem letters_len : letters.length = 26 := by decide +kernel
theorem letters_size : letters.cps.size = 26 := by decide +kernel
theorem ch_get {k : Nat} (h : k < 26) : letters.cps[k]? = some (letters.cps.getD k 0) := by
  have h : k < letters.cps.size := by rw [letters_size]; exact h
  rw [Array.getElem?_eq_getElem h, Array.getD, dif_pos h]
  rfl
theorem ch_len (k : Nat) : (chAt k).length = 1 := rfl
theorem names_nd : names30.Nodup := by decide +kernel
theorem names_ok : ∀ c ∈ names30, PyData.strOk c = true ∧ c ≠ zz := by decide +kernel
theorem names_len : names30.length = 30 := by decide +kernel
abbrev nNames : List Str := ["_law_count", "_law_letters", "_law_turn"]
theorem scNames : FnScope nNames ["_law_count"] (defScope sNames) := ⟨rfl, rfl, rfl, by decide +kernel, rfl, by decide +kernel, by decide +kernel⟩
def spNames (K : PySem.W.Frag) : Sp := fun vs H Q _ => vs = [.int 30] ∧ ∀ r H', Same H H' → H' r = some (.lst (names30.map V.str)) → Q (.ref r) H'
section
variable {P : Program} {w : World} {K : PySem.W.Frag} {mg : Str → Option Value} {base : Heap}
theorem cal_names (h : Known K mg "_law_names" sNames ["_law_count"]) (B : Bl mg) : Cal P w K mg base 1 "_law_names" ["_law_count"] (spNames K) := h.cal fun f fd F => by
  refine F.ok scNames (fun vs H Q E h => ?_) (fun cdv A outer s H vs Q E hr h => ?_)
  · obtain ⟨rfl, _⟩ := h
    rfl
  obtain ⟨rfl, q⟩ := h
  refine ⟨_, pss_cons (ps_set (i := 1) scNames.nd rfl (Or.inr rfl) pe_str)
    (pss_one (ps_ret (pe_lc (own := [("_law_turn", 2)]) (g := gName 2) (tt := tYes)
      (te := tOp (fun x y H Q => ∃ i j, x = .str i ∧ y = .str j ∧ i.length + j.length ≤ sizeLine ∧ Q (.str (i ++ j)) H)
        (tOp (fun x y H Q => ∃ i j, x = .str i ∧ y = .str j ∧ i.length + j.length ≤ sizeLine ∧ Q (.str (i ++ j)) H)
          (tOp (fun x y H Q => ∃ z i c, x = .str z ∧ y = .int i ∧ 0 ≤ i ∧ i < 2 ^ 63 ∧ i < z.length ∧ z.cps[i.toNat]? = some c ∧ Q (.str ⟨#[c]⟩) H) (tVar 1) (tOp (rI (fun _ j => j ≠ 0) fun i j => .int (i.fmod j)) (tMul (tC (.int 7)) (tVar 2)) (tC (.int 26))))
          (tOp (fun x y H Q => ∃ z i c, x = .str z ∧ y = .int i ∧ 0 ≤ i ∧ i < 2 ^ 63 ∧ i < z.length ∧ z.cps[i.toNat]? = some c ∧ Q (.str ⟨#[c]⟩) H) (tVar 1) (tOp (rI CDivN fun i j => .int (i.fdiv j)) (tVar 2) (tC (.int 26)))))
        (tC (.str "q"))) rfl scNames.nd (pi_range1 (by rfl) B.range (pa_cons (pv 0) pa_nil))
      (blkOk_by (N := nNames) (sc := defScope sNames) (by decide +kernel)) (fun _ _ _ _ _ => pg_name (i := 2) scNames.nd rfl (Or.inl rfl)) (fun _ _ _ _ _ => pts_nil)
      (fun _ _ _ _ _ => pe_op op_add_str (pe_op op_add_str (pe_item_str (pv 1) (pe_op op_modN (pe_mul pe_int (pv 2)) pe_int) (fun _ _ => rfl)) (pe_item_str (pv 1) (pe_op op_fdivN (pv 2) pe_int) (fun _ _ => rfl))) pe_str)))), ?_⟩
  refine ⟨_, rfl, 30, rfl, by decide, by decide, fun D hD => ?_⟩
  refine lc_range (lo := 0) (n := 30) (Lc H D fun i acc _ => acc = ((List.range i).map nmAt).map V.str) (lc_start hD rfl) ?_ ?_
  · rintro i H1 hi ⟨e1, acc, eD, la, hP⟩
    have e0 : (0 : Int) + (i : Int) = (i : Int) := by omega
    rw [e0]
    have em : (7 * (i : Int)).fmod 26 = ((7 * i % 26 : Nat) : Int) := by
      rw [Int.fmod_eq_emod_of_nonneg _ (by decide)]
      omega
    have ed : (i : Int).fdiv 26 = ((i / 26 : Nat) : Int) := by
      rw [Int.fdiv_eq_ediv_of_nonneg _ (by decide)]
      omega
    refine ⟨rfl, _, rfl, _, rfl, _, _, rfl, rfl, ⟨by decide, by decide⟩, _, _, rfl, rfl, (show (26 : Int) ≠ 0 by decide), letters, _, letters.cps.getD (7 * i % 26) 0, rfl, rfl, ?_, ?_, ?_, ?_, ?_⟩
    · show 0 ≤ (7 * (i : Int)).fmod 26
      rw [em]; omega
    · show (7 * (i : Int)).fmod 26 < _
      rw [em]; omega
    · show (7 * (i : Int)).fmod 26 < _
      rw [em, letters_len]; omega
    · show letters.cps[((7 * (i : Int)).fmod 26).toNat]? = _
      rw [em, Int.toNat_natCast]
      exact ch_get (Nat.mod_lt _ (by decide))
    refine ⟨_, rfl, _, rfl, _, _, rfl, rfl, ⟨by decide, by decide⟩, letters, _, letters.cps.getD (i / 26) 0, rfl, rfl, ?_, ?_, ?_, ?_, ?_⟩
    · show 0 ≤ (i : Int).fdiv 26
      rw [ed]; omega
    · show (i : Int).fdiv 26 < _
      rw [ed]; omega
    · show (i : Int).fdiv 26 < _
      rw [ed, letters_len]; omega
    · show letters.cps[((i : Int).fdiv 26).toNat]? = _
      rw [ed, Int.toNat_natCast]
      exact ch_get (by omega)
    refine ⟨_, _, rfl, rfl, (show 1 + 1 ≤ sizeLine by decide), _, _, rfl, rfl, (show 2 + 1 ≤ sizeLine by decide), ?_⟩
    refine lc_put hD (by omega) eD la e1 ?_
    rw [hP, List.range_succ, List.map_append, List.map_append]
    rfl
  · rintro H1 ⟨e1, acc, eD, la, hP⟩
    have hP : acc = names30.map V.str := hP
    rw [hP] at eD
    exact q D H1 e1 eD
end
end Rd

set_option Elab.async false
set_option linter.all false
set_option maxRecDepth 100000
namespace Rd
open PySem PySem.Spec PyProof.Rows L2
/-! {k: v} with one key, a tuple -/
section
variable {prog : Program} {w : World} {κ : Type} [DecidableEq κ] {knd : HeapKind prog w κ} {A : Around} {E : Value → Shared → Prop} {s : Shared}
theorem wpAny_Dict1 {env : Env} {ke ve : Expr} {pos : Pos} {Q : Value → Shared → Prop} (hu : knd.room A)
    (h : wpAny (model prog w) A (eval ke env) (fun kv s1 => wpAny (model prog w) A (eval ve env) (fun vv s2 => ∃ a k, kv = .ref a ∧ knd.is s2.heap k a ∧ s2.heap.DictOfH knd s.heap.objs.size [] ∧
      ∀ h', h'.DictOfH knd s.heap.objs.size (storedH [] k a vv) → Heap.SameBut s.heap.objs.size s2.heap h' → Q (.ref s.heap.objs.size) { s2 with heap := h', toks := s2.toks + knd.draws k }) E s1) E
      { s with heap := s.heap.push { cls := .type "dict", data := .dict #[] } }) :
    wpAny (model prog w) A (eval (.Dict [some ke] [ve] pos) env) Q E s := by
  have hn := pairTrees_length [some ke] [ve] env pos rfl rfl
  have h0 : pairTrees [some ke] [ve] env pos ≠ [] := fun z => by rw [z] at hn; cases hn
  rw [arm_eval_Dict, zip_pairTrees [some ke] [ve] env pos rfl rfl, dictDisplay_pairs _ h0 (by rw [hn]; show 1 < 17; decide)]
  refine wpAny_bind (wpAny_standAt (wpAny_bind ?_))
  unfold subDict
  refine wpAny_bind (wpAny_alloc ?_)
  refine wpAny_bind (wpAny_holding ?_)
  rw [if_pos (by rw [hn]; show 1 ≤ 15; decide)]
  refine wpAny_bind (pairTrees_cons_walk (wpAny_mono h (fun kv s1 h1 => wpAny_mono h1 (fun vv s2 h2 => pairTrees_nil_walk ?_) fun _ _ e => e) fun _ _ e => e))
  obtain ⟨a, k, rfl, hk, hd, hq⟩ := h2
  refine wpAny_holding ?_
  refine wpAny_bind ?_
  rw [List.forIn_cons]
  refine wpAny_bind (wpAny_bind (wpAny_dictSet_heap (hsz := Nat.zero_le _) hu hk hd fun h' hd' hs' => wpAny_pure ?_))
  exact wpAny_pure (wpAny_pure (wpAny_pure (wpAny_pure (hq h' hd' hs'))))
end
def tDisp1T (tk tv : TE) : TE := fun σ H Q => ∀ p, H p = none → tk σ (upd H p (.dT [])) fun x H1 => tv σ H1 fun y H2 => H2 p = some (.dT []) ∧ ∃ (b : Addr) (k : List L2.Key), x = .ref b ∧ H2 b = some (.tup (k.map kV)) ∧ Q (.ref p) (upd H2 p (.dT [(k, y)]))
theorem pe_disp1T {X : Cx} {ke ve : Expr} {pos : Pos} {tk tv : TE} (hu : X.A.units + 1 < cLine) (hk : PE X ke tk) (hv : PE X ve tv) : PE X (.Dict [some ke] [ve] pos) (tDisp1T tk tv) := by
  refine ⟨fun pins s σ H Q I q => ?_⟩
  have hn := I.hok.fresh (Nat.le_refl s.heap.objs.size)
  have I1 := I.laid (a := s.heap.objs.size) (o := .dT []) (h' := s.heap.push { cls := .type "dict", data := .dict #[] }) (t' := s.toks) (fun _ _ q => Heap.get?_push_of_some _ q) (Nat.le_refl _) (dt_empty s.heap I.big)
  refine wpAny_Dict1 (knd := tupleKind (mixKind X.prog X.w)) (show X.A.units < cLine from Nat.lt_of_succ_lt hu) (thn (hk.run pins _ σ _ _ I1 (q _ hn)) fun u s1 ⟨x, H1, I2, rx, q1⟩ => thn (hv.run pins s1 σ H1 _ I2 q1) fun v s2 ⟨y, H2, I3, ry, e, b, k, ex, hb, q2⟩ => ?_)
  subst ex
  cases rx
  obtain ⟨z, hd, xs, rel, dd⟩ := dt_of I3.hok e
  cases rel
  refine ⟨b, k, rfl, key_of I3.hok hb, dd, fun h' dd' hs => ⟨.ref _, _, ?_, rfl, q2⟩⟩
  obtain ⟨q, es, ep, hq, h2, h3, h4, _, h5⟩ := dd'
  refine d_write I3 (by rw [e]; exact True.intro) hs ⟨q, hq⟩ ⟨by rw [sizeLine_eq]; show 1 ≤ _; omega, hd, _, (KT.put .nil k hb ry).keeps fun c ys ec => ?_, q, es, ep, hq, h2, h3, h4, h5⟩
  rw [upd_ne (ne_of ec e (fun z => nomatch z))]
  exact ec
end Rd

set_option Elab.async false
set_option linter.all false
set_option maxRecDepth 100000
namespace Rd
open PySem PySem.Spec PyProof.Rows L2
mutual
/-- a reader that law_wide makes -/
def GoodT : Rt → List Str → Nat → Nat → Prop
  | .leaf, _, many, deep => many < 2 ∨ 7 < deep
  | .node c ks, left, many, deep => ∃ spot w : Nat, left[spot]? = some c ∧ 2 ≤ w ∧ w ≤ many ∧ w ≤ 5 ∧ deep ≤ 7 ∧ GoodKs ks (left.eraseIdx spot) (many / w) (deep + 1) 0 w
def GoodKs : Rts → List Str → Nat → Nat → Nat → Nat → Prop
  | .nil, _, _, _, i, w => i = w
  | .cons n t r, left, many, deep, i, w => n = (i : Int) ∧ i < w ∧ GoodT t left many deep ∧ GoodKs r left many deep (i + 1) w
end
theorem goodks_of {left : List Str} {many deep w : Nat} : ∀ (ts : List Rt) (i : Nat), i + ts.length = w → (∀ t ∈ ts, GoodT t left many deep) → GoodKs (ofL ((ts.zipIdx i).map fun p => (((p.2 : Nat) : Int), p.1))) left many deep i w
  | [], i, h, _ => by
    show i = w
    simpa using h
  | t :: ts, i, h, hg => by
    rw [List.length_cons] at h
    rw [List.zipIdx_cons]
    exact ⟨rfl, by omega, hg t List.mem_cons_self, goodks_of ts (i + 1) (by omega) fun x hx => hg x (List.mem_cons_of_mem _ hx)⟩
/-! ### what waits, what is made -/
structure Wd where
  path : List Int
  left : List Str
  many : Nat
  deep : Nat
structure En where
  wd : Wd
  nd : Option (Nat × Nat)
def child (w : Wd) (spot width t : Nat) : Wd := ⟨w.path ++ [(t : Int)], w.left.eraseIdx spot, w.many / width, w.deep + 1⟩
structure WOk (w : Wd) : Prop where
  pos : 1 ≤ w.many
  top : w.many ≤ 200
  len : w.left.length + w.deep = 30
  deep : w.deep ≤ 8
  plen : w.path.length = w.deep
def NodeOk (w : Wd) (spot width : Nat) : Prop := spot < w.left.length ∧ 2 ≤ width ∧ width ≤ w.many ∧ width ≤ 5 ∧ w.deep ≤ 7
def EnOk (e : En) : Prop := match e.nd with
  | none => e.wd.many < 2 ∨ 7 < e.wd.deep
  | some (spot, width) => NodeOk e.wd spot width
theorem child_ok {w : Wd} {spot width t : Nat} (h : WOk w) (n : NodeOk w spot width) : WOk (child w spot width t) := by
  obtain ⟨n1, n2, n3, n4, n5⟩ := n
  have h1 := h.len
  have h2 := h.top
  have h3 : (w.left.eraseIdx spot).length = w.left.length - 1 := by rw [List.length_eraseIdx, if_pos n1]
  have h4 := h.plen
  refine ⟨?_, ?_, ?_, ?_, ?_⟩
  · show 1 ≤ w.many / width
    exact Nat.div_pos n3 (by omega)
  · show w.many / width ≤ 200
    exact Nat.le_trans (Nat.div_le_self _ _) h2
  · show (w.left.eraseIdx spot).length + (w.deep + 1) = 30
    omega
  · show w.deep + 1 ≤ 8
    omega
  · show (w.path ++ [(t : Int)]).length = w.deep + 1
    rw [List.length_append, h4]
    rfl
def mcost (ws : List Wd) : Nat := (ws.map fun w => 2 * w.many - 1).sum
theorem mcost_app (a b : List Wd) : mcost (a ++ b) = mcost a + mcost b := by unfold mcost; rw [List.map_append, List.sum_append]
theorem mcost_len : ∀ {ws : List Wd}, (∀ w ∈ ws, WOk w) → ws.length ≤ mcost ws
  | [], _ => Nat.le_refl _
  | w :: r, h => by
    have ih := mcost_len (ws := r) fun x hx => h x (List.mem_cons_of_mem _ hx)
    have := (h w List.mem_cons_self).pos
    have e : mcost (w :: r) = (2 * w.many - 1) + mcost r := rfl
    rw [List.length_cons, e]
    omega
theorem mcost_kids (w : Wd) (spot width : Nat) : ∀ n, mcost ((List.range n).map (child w spot width)) = n * (2 * (w.many / width) - 1)
  | 0 => by simp [mcost]
  | n + 1 => by
    rw [List.range_succ, List.map_append, mcost_app, mcost_kids w spot width n]
    show _ + ((2 * (w.many / width) - 1) + 0) = _
    generalize (2 * (w.many / width) - 1) = x
    rw [Nat.add_zero, Nat.succ_mul]
theorem mcost_node {w : Wd} {spot width : Nat} (n : NodeOk w spot width) : mcost ((List.range width).map (child w spot width)) + 1 ≤ 2 * w.many - 1 := by
  obtain ⟨n1, n2, n3, n4, n5⟩ := n
  rw [mcost_kids]
  have h1 : width * (w.many / width) ≤ w.many := Nat.mul_div_le _ _
  have h2 : 1 ≤ w.many / width := Nat.div_pos n3 (by omega)
  rw [Nat.mul_sub, Nat.mul_one, ← Nat.mul_assoc, Nat.mul_comm width 2, Nat.mul_assoc]
  omega
def places (es : List En) : List (List Int) := (es.filter fun e => e.nd.isSome).map fun e => e.wd.path
structure W1 (bud : Nat) (es : List En) (ws : List Wd) : Prop where
  ok : ∀ w, w ∈ ws ∨ (∃ e ∈ es, e.wd = w) → WOk w
  eok : ∀ e ∈ es, EnOk e
  nd : (es.map (fun e => e.wd.path) ++ ws.map (·.path)).Nodup
  par : ∀ p ∈ es.map (fun e => e.wd.path) ++ ws.map (·.path), p = [] ∨ ∃ e ∈ es, ∃ t, p = e.wd.path ++ [t]
  kids : ∀ e ∈ es, ∀ spot width, e.nd = some (spot, width) → ∀ t < width, child e.wd spot width t ∈ ws ∨ ∃ e' ∈ es, e'.wd = child e.wd spot width t
  root : (⟨[], names30, bud, 0⟩ : Wd) ∈ ws ∨ ∃ e ∈ es, e.wd = ⟨[], names30, bud, 0⟩
  cost : es.length + mcost ws ≤ 400
  order : (places es).Pairwise fun a b => ∀ t, a ≠ b ++ [t]
theorem W1.start {bud : Nat} (h1 : 100 ≤ bud) (h2 : bud ≤ 200) : W1 bud [] [⟨[], names30, bud, 0⟩] := by
  refine ⟨fun w hw => ?_, fun e he => (by cases he), by simp, fun p hp => ?_, fun e he => (by cases he), .inl List.mem_cons_self, ?_, List.Pairwise.nil⟩
  · rcases hw with hw | ⟨e, he, _⟩
    · rw [List.mem_singleton.mp hw]
      exact ⟨by show 1 ≤ bud; omega, h2, by show names30.length + 0 = 30; rw [names_len], by show 0 ≤ 8; omega, rfl⟩
    · cases he
  · simp at hp
    exact .inl hp
  · simp [mcost]
    omega
theorem W1.fresh {bud : Nat} {es : List En} {ws : List Wd} {w : Wd} (h : W1 bud es (ws ++ [w])) : (∀ e ∈ es, e.wd.path ≠ w.path) ∧ ∀ e ∈ es, ∀ t, e.wd.path ≠ w.path ++ [t] := by
  have key : ∀ e ∈ es, e.wd.path ≠ w.path := fun e he z => by
    have := (List.nodup_append.mp h.nd).2.2 e.wd.path (List.mem_map.mpr ⟨e, he, rfl⟩) w.path (List.mem_map.mpr ⟨w, by simp, rfl⟩)
    exact this z
  refine ⟨key, fun e he t z => ?_⟩
  rcases h.par e.wd.path (List.mem_append_left _ (List.mem_map.mpr ⟨e, he, rfl⟩)) with q | ⟨e2, he2, t2, q⟩
  · rw [q] at z; simp at z
  · rw [q] at z
    have := List.append_inj_left' z rfl
    exact key e2 he2 this
theorem places_app (es : List En) (e : En) : places (es ++ [e]) = places es ++ (if e.nd.isSome then [e.wd.path] else []) := by
  unfold places
  rw [List.filter_append, List.map_append]
  congr 1
  cases h : e.nd with
  | none => simp [h]
  | some x => simp [h]
theorem mem_places {es : List En} {p : List Int} (h : p ∈ places es) : ∃ e ∈ es, e.nd.isSome = true ∧ e.wd.path = p := by
  unfold places at h
  obtain ⟨e, he, rfl⟩ := List.mem_map.mp h
  exact ⟨e, (List.mem_filter.mp he).1, (List.mem_filter.mp he).2, rfl⟩
/-- one turn: w is done, its children (none of a leaf) wait -/
theorem W1.step {bud : Nat} {es : List En} {ws cs : List Wd} {w : Wd} {nd : Option (Nat × Nat)} (h : W1 bud es (ws ++ [w])) (he : EnOk ⟨w, nd⟩)
    (hc : (nd = none ∧ cs = []) ∨ ∃ spot width, nd = some (spot, width) ∧ cs = (List.range width).map (child w spot width)) : W1 bud (es ++ [⟨w, nd⟩]) (ws ++ cs) := by
  obtain ⟨f1, f2⟩ := h.fresh
  have hw : WOk w := h.ok w (.inl (by simp))
  have hcs : ∀ c ∈ cs, WOk c ∧ ∃ t : Int, c.path = w.path ++ [t] := fun c hcm => by
    rcases hc with ⟨_, e⟩ | ⟨spot, width, e1, e2⟩
    · rw [e] at hcm; cases hcm
    · rw [e2] at hcm
      obtain ⟨t, ht, rfl⟩ := List.mem_map.mp hcm
      rw [e1] at he
      exact ⟨child_ok hw he, t, rfl⟩
  have hcn : (cs.map (·.path)).Nodup := by
    rcases hc with ⟨_, e⟩ | ⟨spot, width, e1, e2⟩
    · rw [e]; exact List.nodup_nil
    · rw [e2, List.map_map]
      refine List.Pairwise.map _ (fun a b hne z => hne ?_) List.nodup_range
      have z : w.path ++ [(a : Int)] = w.path ++ [(b : Int)] := z
      have := List.append_inj_right z rfl
      simp at this
      omega
  have hnd := h.nd
  rw [List.map_append, List.map_singleton, ← List.append_assoc, List.nodup_append] at hnd
  obtain ⟨n1, n2, n3⟩ := hnd
  have kfresh : ∀ c ∈ cs, ∀ p ∈ es.map (fun e => e.wd.path) ++ ws.map (·.path), c.path ≠ p := fun c hcm p hp z => by
    obtain ⟨_, t, et⟩ := hcs c hcm
    have hp' : p ∈ es.map (fun e => e.wd.path) ++ (ws ++ [w]).map (·.path) := by
      rw [List.map_append, ← List.append_assoc]
      exact List.mem_append_left _ hp
    rcases h.par p hp' with q | ⟨e2, he2, t2, q⟩
    · rw [← z, et] at q; simp at q
    · rw [← z, et] at q
      exact f1 e2 he2 (List.append_inj_left' q rfl).symm
  refine ⟨fun x hx => ?_, fun e hm => ?_, ?_, fun p hp => ?_, fun e hm spot width hs t ht => ?_, ?_, ?_, ?_⟩
  · rcases hx with hx | ⟨e, hm, rfl⟩
    · rcases List.mem_append.mp hx with z | z
      · exact h.ok x (.inl (List.mem_append_left _ z))
      · exact (hcs x z).1
    · rcases List.mem_append.mp hm with z | z
      · exact h.ok _ (.inr ⟨e, z, rfl⟩)
      · rw [List.mem_singleton.mp z]; exact hw
  · rcases List.mem_append.mp hm with z | z
    · exact h.eok e z
    · rw [List.mem_singleton.mp z]; exact he
  · rw [List.map_append, List.map_append, List.map_singleton]
    have e0 : es.map (fun e => e.wd.path) ++ [w.path] ++ (ws.map (·.path) ++ cs.map (·.path)) = es.map (fun e => e.wd.path) ++ ([w.path] ++ ws.map (·.path)) ++ cs.map (·.path) := by simp
    rw [e0, List.nodup_append]
    refine ⟨?_, hcn, fun a ha b hb z => ?_⟩
    · have p1 : (es.map (fun e => e.wd.path) ++ ([w.path] ++ ws.map (·.path))).Perm (es.map (fun e => e.wd.path) ++ ws.map (·.path) ++ [w.path]) := by
        rw [List.append_assoc]
        exact List.Perm.append_left _ List.perm_append_comm
      exact p1.nodup_iff.mpr (List.nodup_append.mpr ⟨n1, n2, n3⟩)
    · obtain ⟨c, hcm, rfl⟩ := List.mem_map.mp hb
      rcases List.mem_append.mp ha with q | q
      · exact kfresh c hcm a (List.mem_append_left _ q) z.symm
      · rcases List.mem_append.mp q with q | q
        · obtain ⟨_, t, et⟩ := hcs c hcm
          rw [List.mem_singleton.mp q] at z
          rw [et] at z
          simp at z
        · exact kfresh c hcm a (List.mem_append_right _ q) z.symm
  · have put : ∀ p, (p = [] ∨ ∃ e ∈ es, ∃ t, p = e.wd.path ++ [t]) → p = [] ∨ ∃ e ∈ es ++ [(⟨w, nd⟩ : En)], ∃ t, p = e.wd.path ++ [t] := fun p q => q.imp_right fun ⟨e, he, t, z⟩ => ⟨e, List.mem_append_left _ he, t, z⟩
    rw [List.map_append, List.map_append] at hp
    rcases List.mem_append.mp hp with q | q
    · rcases List.mem_append.mp q with q | q
      · exact put p (h.par p (List.mem_append_left _ q))
      · rw [List.map_singleton] at q
        refine put p (h.par p (List.mem_append_right _ ?_))
        rw [List.mem_singleton.mp q]
        exact List.mem_map.mpr ⟨w, by simp, rfl⟩
    · rcases List.mem_append.mp q with q | q
      · refine put p (h.par p (List.mem_append_right _ ?_))
        rw [List.map_append]
        exact List.mem_append_left _ q
      · obtain ⟨c, hcm, rfl⟩ := List.mem_map.mp q
        obtain ⟨_, t, et⟩ := hcs c hcm
        exact .inr ⟨⟨w, nd⟩, by simp, t, et⟩
  · rcases List.mem_append.mp hm with z | z
    · rcases h.kids e z spot width hs t ht with q | ⟨e', he', q⟩
      · rcases List.mem_append.mp q with q | q
        · exact .inl (List.mem_append_left _ q)
        · exact .inr ⟨⟨w, nd⟩, by simp, (List.mem_singleton.mp q).symm⟩
      · exact .inr ⟨e', List.mem_append_left _ he', q⟩
    · have ez := List.mem_singleton.mp z
      subst ez
      rcases hc with ⟨e1, _⟩ | ⟨spot', width', e1, e2⟩
      · rw [show nd = some (spot, width) from hs] at e1; cases e1
      · rw [show nd = some (spot, width) from hs] at e1
        cases e1
        refine .inl (List.mem_append_right _ ?_)
        rw [e2]
        exact List.mem_map.mpr ⟨t, List.mem_range.mpr ht, rfl⟩
  · rcases h.root with q | ⟨e, he, q⟩
    · rcases List.mem_append.mp q with q | q
      · exact .inl (List.mem_append_left _ q)
      · exact .inr ⟨⟨w, nd⟩, by simp, (List.mem_singleton.mp q).symm⟩
    · exact .inr ⟨e, List.mem_append_left _ he, q⟩
  · have h1 := h.cost
    rw [mcost_app] at h1 ⊢
    have h2 : mcost [w] = 2 * w.many - 1 := by simp [mcost]
    have h3 := hw.pos
    rw [List.length_append, List.length_singleton]
    have h4 : mcost cs + 1 ≤ 2 * w.many - 1 := by
      rcases hc with ⟨_, e⟩ | ⟨spot, width, e1, e2⟩
      · rw [e]
        have : mcost [] = 0 := rfl
        omega
      · rw [e2]
        rw [e1] at he
        exact mcost_node he
    omega
  · rw [places_app]
    cases nd with
    | none =>
      simp only [Option.isSome_none, Bool.false_eq_true, if_false, List.append_nil]
      exact h.order
    | some x =>
      simp only [Option.isSome_some, if_true]
      rw [List.pairwise_append]
      refine ⟨h.order, List.pairwise_singleton _ _, fun a ha b hb t z => ?_⟩
      rw [List.mem_singleton.mp hb] at z
      obtain ⟨e, he', _, rfl⟩ := mem_places ha
      exact f2 e he' t z
end Rd

set_option Elab.async false
set_option linter.all false
set_option maxRecDepth 100000
namespace Rd
open PySem PySem.Spec PyProof.Rows L2
/-- t + u, u a new tuple with an item: what comes stands as a tuple of its own -/
def rCatK (K : PySem.W.Frag) : R2 := fun x y H Q => ∃ a b xs ys, x = .ref a ∧ y = .ref b ∧ SqT K H a xs ∧ H b = some (.tup ys) ∧ ys ≠ [] ∧ xs.length + ys.length ≤ sizeLine ∧ ∀ p H', Same H H' → H' p = some (.tup (xs ++ ys)) → Q (.ref p) H'
theorem op_catK {X : Cx} : OpR X (binaryOp .Add) (rCatK X.K) := by
  intro pins s σ H x y v u Q I rx ry h
  obtain ⟨a, b, xs, ys, rfl, rfl, hx, hb, hne, hl, q⟩ := h
  exact op_catA pins s σ H _ _ v u Q I rx ry ⟨a, b, xs, ys, rfl, rfl, hx, .inl (.inl hb), hl, fun e => q b H (Same.refl H) (by rw [e]; exact hb), fun _ e => absurd e hne, fun _ _ p hp => q p _ (same_new hp _) upd_same⟩
theorem w_catK {X : Cx} (K : PySem.W.Frag) {a b : Expr} {ta tb : TE} {pos : Pos} (ha : PE X a ta) (hb : PE X b tb) (hK : X.K = K := by rfl) : PE X (.BinOp a .Add b pos) (tOp (rCatK K) ta tb) := by
  subst hK
  exact pe_op op_catK ha hb
abbrev nWide : List Str := ["_law_box_here", "_law_names_here", "_law_budget", "_law_made", "_law_waiting", "_law_places", "_law_path", "_law_left", "_law_many", "_law_deep", "_law_spot", "_law_width", "_law_turn", "_law_name"]
theorem scWide : FnScope nWide ["_law_box_here", "_law_names_here", "_law_budget"] (defScope sWide) := ⟨rfl, rfl, rfl, by decide +kernel, rfl, by decide +kernel, by decide +kernel⟩
def spWide (K : PySem.W.Frag) : Sp := fun vs H Q _ => ∃ (b na : Addr) (bud k : Nat), vs = [.ref b, .ref na, .int (bud : Int)] ∧ BoxOk H b k ∧ k + 900 ≤ 1000000 ∧ H na = some (.lst (names30.map V.str)) ∧ 100 ≤ bud ∧ bud ≤ 200 ∧
  ∀ r H' t, SameBut b H H' → BoxOk H' b (k + 800) → TreeV K H' t r → GoodT t names30 bud 0 → Q r H'
def keyOf (p : List Int) : List L2.Key := p.map Sum.inl
theorem key_map (p : List Int) : (keyOf p).map kV = p.map V.int := by
  unfold keyOf
  rw [List.map_map]
  rfl
theorem key_inj : ∀ {p q : List Int}, keyOf p = keyOf q → p = q
  | [], [], _ => rfl
  | [], _ :: _, h => by cases h
  | _ :: _, [], h => by cases h
  | a :: p, b :: q, h => by
    have h : (Sum.inl a : L2.Key) :: keyOf p = Sum.inl b :: keyOf q := h
    injection h with h1 h2
    rw [Sum.inl.inj h1, key_inj h2]
/-- a path's own tuple -/
def PtV (H : Hp) (a : Addr) (p : List Int) : Prop := H a = some (.tup (p.map V.int))
def WdV (K : PySem.W.Frag) (H : Hp) (y : V) (w : Wd) : Prop := ∃ q pa la, y = .ref q ∧ SqT K H q [.ref pa, .ref la, .int (w.many : Int), .int (w.deep : Int)] ∧ PtV H pa w.path ∧ SqT K H la (w.left.map V.str)
def EnV (K : PySem.W.Frag) (H : Hp) (v : V) (e : En) : Prop := match e.nd with
  | none => ∃ a, v = .ref a ∧ SqT K H a []
  | some (spot, width) => ∃ a c, e.wd.left[spot]? = some c ∧ v = .ref a ∧ SqT K H a [.str c, .int (width : Int)]
def PlV (H : Hp) (y : V) (p : List Int) : Prop := ∃ a, y = .ref a ∧ PtV H a p
theorem WdV.sameT {K : PySem.W.Frag} {H H' : Hp} {y : V} {w : Wd} (s : SameT H H') (h : WdV K H y w) : WdV K H' y w := by
  obtain ⟨q, pa, la, e, q1, q2, q3⟩ := h
  exact ⟨q, pa, la, e, SqT.sameT s q1, s.1 _ _ q2, SqT.sameT s q3⟩
theorem EnV.sameT {K : PySem.W.Frag} {H H' : Hp} {v : V} {e : En} (s : SameT H H') (h : EnV K H v e) : EnV K H' v e := by
  obtain ⟨wd, nd⟩ := e
  cases nd with
  | none =>
    obtain ⟨a, e, q⟩ := h
    exact ⟨a, e, SqT.sameT s q⟩
  | some x =>
    obtain ⟨a, c, h1, e, q⟩ := h
    exact ⟨a, c, h1, e, SqT.sameT s q⟩
theorem PlV.sameT {H H' : Hp} {y : V} {p : List Int} (s : SameT H H') (h : PlV H y p) : PlV H' y p := by
  obtain ⟨a, e, q⟩ := h
  exact ⟨a, e, s.1 _ _ q⟩
theorem sameT_updT {H : Hp} {D : Addr} {kvs : List (List L2.Key × V)} {o : HO} (h : H D = some (.dT kvs)) : SameT H (upd H D o) :=
  ⟨fun a xs q => by rw [upd_ne (ne_of q h (by intro z; cases z))]; exact q, fun a ob xs q => by rw [upd_ne (ne_of q h (by intro z; cases z))]; exact q⟩
/-- what stands while the tree is drawn -/
structure Ph1 (K : PySem.W.Frag) (H H' : Hp) (b d wa pa : Addr) (k bud : Nat) (es : List En) (ws : List Wd) : Prop where
  same : SameBut b H H'
  box : BoxOk H' b (k + 2 * es.length)
  made : ∃ kvs, H' d = some (.dT kvs) ∧ kvs.length ≤ es.length + 1 ∧ ∀ e ∈ es, ∃ v, valV kvs (keyOf e.wd.path) = some v ∧ EnV K H' v e
  wait : ∃ xs, H' wa = some (.lst xs) ∧ Paired (WdV K H') xs ws
  plc : ∃ xs, H' pa = some (.lst xs) ∧ Paired (PlV H') xs (places es)
  w1 : W1 bud es ws
def KW (K : PySem.W.Frag) (H : Hp) (b na d wa pa : Addr) (k bud : Nat) : Nat → L2.St → Hp → Prop := fun m σ H' => ∃ es ws z6 z7 z8 z9 z10 z11 z12 z13,
  σ = [some (.ref b), some (.ref na), some (.int (bud : Int)), some (.ref d), some (.ref wa), some (.ref pa), z6, z7, z8, z9, z10, z11, z12, z13] ∧ m = mcost ws ∧ Ph1 K H H' b d wa pa k bud es ws
def KN (K : PySem.W.Frag) (H : Hp) (b na d wa pa : Addr) (k bud m : Nat) : L2.St → Hp → Prop := fun σ H' => ∃ m', m' < m ∧ KW K H b na d wa pa k bud m' σ H'
/-- the children that wait so far -/
structure ChAt (K : PySem.W.Frag) (Hn H' : Hp) (wa : Addr) (wx0 : List V) (w : Wd) (spot width i : Nat) : Prop where
  same : SameBut wa Hn H'
  wait : ∃ ys, H' wa = some (.lst (wx0 ++ ys)) ∧ Paired (WdV K H') ys ((List.range i).map (child w spot width))
/-- what the dict holds while the nodes are put together: the first n places still wait -/
def MI (K : PySem.W.Frag) (d : Addr) (es : List En) (n : Nat) (H' : Hp) : Prop := ∃ kvs, H' d = some (.dT kvs) ∧ kvs.length ≤ es.length + 1 ∧ ∀ e ∈ es, ∃ v, valV kvs (keyOf e.wd.path) = some v ∧
    ((e.wd.path ∈ (places es).take n ∧ EnV K H' v e) ∨ (e.wd.path ∉ (places es).take n ∧ ∃ t, TreeV K H' t v ∧ GoodT t e.wd.left e.wd.many e.wd.deep))
theorem W1.uniq {bud : Nat} {es : List En} {ws : List Wd} (h : W1 bud es ws) {e e' : En} (he : e ∈ es) (he' : e' ∈ es) (p : e.wd.path = e'.wd.path) : e = e' := by
  have nd := (List.nodup_append.mp h.nd).1
  clear h
  induction es with
  | nil => cases he
  | cons x r ih =>
    rw [List.map_cons, List.nodup_cons] at nd
    rcases List.mem_cons.mp he with z | z
    · rcases List.mem_cons.mp he' with z' | z'
      · rw [z, z']
      · exact absurd (List.mem_map.mpr ⟨e', z', by rw [← p, z]⟩) nd.1
    · rcases List.mem_cons.mp he' with z' | z'
      · exact absurd (List.mem_map.mpr ⟨e, z, by rw [p, z']⟩) nd.1
      · exact ih z z' nd.2
theorem W1.placesNd {bud : Nat} {es : List En} {ws : List Wd} (h : W1 bud es ws) : (places es).Nodup := List.Sublist.nodup (List.Sublist.map _ List.filter_sublist) (List.nodup_append.mp h.nd).1
theorem MI.start {K : PySem.W.Frag} {H' : Hp} {d : Addr} {bud : Nat} {es : List En} (h : W1 bud es []) {kvs : List (List L2.Key × V)} (hd : H' d = some (.dT kvs)) (hl : kvs.length ≤ es.length + 1) (he : ∀ e ∈ es, ∃ v, valV kvs (keyOf e.wd.path) = some v ∧ EnV K H' v e) : MI K d es (places es).length H' := by
  refine ⟨kvs, hd, hl, fun e hm => ?_⟩
  obtain ⟨v, h1, h2⟩ := he e hm
  refine ⟨v, h1, ?_⟩
  rw [List.take_length]
  have hok := h.eok e hm
  cases hnd : e.nd with
  | none =>
    right
    refine ⟨fun z => ?_, .leaf, ?_, ?_⟩
    · obtain ⟨e', he', hs, hp⟩ := mem_places z
      rw [h.uniq he' hm hp, hnd] at hs
      cases hs
    · unfold EnV at h2
      rw [hnd] at h2
      exact h2
    · unfold EnOk at hok
      rw [hnd] at hok
      exact hok
  | some x =>
    left
    exact ⟨List.mem_map.mpr ⟨e, List.mem_filter.mpr ⟨hm, by rw [hnd]; rfl⟩, rfl⟩, h2⟩
def TW (K : PySem.W.Frag) (b na d wa pa : Addr) (bud : Nat) (Hr : Hp) (es : List En) : Nat → L2.St → Hp → Prop := fun i σ H' => ∃ z6 z7 z8 z9 z10 z11 z12 z13,
  σ = [some (.ref b), some (.ref na), some (.int (bud : Int)), some (.ref d), some (.ref wa), some (.ref pa), z6, z7, z8, z9, z10, z11, z12, z13] ∧ SameBut d Hr H' ∧ MI K d es ((places es).length - i) H'
/-- the children so far -/
def PKid (K : PySem.W.Frag) (left : List Str) (many deep : Nat) : Nat → List V → Hp → Prop := fun i acc H => ∃ ts : List Rt, ts.length = i ∧ Paired (KidV K H) acc ((ts.zipIdx 0).map fun p => (((p.2 : Nat) : Int), p.1)) ∧ ∀ t ∈ ts, GoodT t left many deep
section
variable {P : Program} {w : World} {K : PySem.W.Frag} {mg : Str → Option Value} {base : Heap}
theorem cal_wide (h : Known K mg "_law_wide" sWide ["_law_box_here", "_law_names_here", "_law_budget"]) (B : Bl mg) (C : Cal P w K mg base 1 "_law_take" ["_law_box_here", "_law_upon"] (spTake K)) : Cal P w K mg base 2 "_law_wide" ["_law_box_here", "_law_names_here", "_law_budget"] (spWide K) := h.cal fun f fd F => by
  refine F.ok scWide (fun vs H Q E h => ?_) (fun cdv A outer s H vs Q E hr h => ?_)
  · obtain ⟨b, na, bud, k, rfl, _⟩ := h
    rfl
  obtain ⟨b, na, bud, k, rfl, hb, hk, hna, hb1, hb2, q⟩ := h
  have hu := hu_of hr
  refine ⟨_, pss_cons (ps_asg (pe_tup (pa_cons (pe_disp1T hu (pe_tup pa_nil) (pe_tup pa_nil)) (pa_cons (pe_lst (pa_cons (pe_tup (pa_cons (pe_tup pa_nil) (pa_cons (w_tup K B.tuple (pv 1)) (pa_cons (pv 2) (pa_cons pe_int pa_nil))))) pa_nil)) (pa_cons (pe_lst pa_nil) pa_nil))))
      (w_tgt K (pgs_cons (pg_name (i := 3) scWide.nd rfl (Or.inr rfl)) (pgs_cons (pg_name (i := 4) scWide.nd rfl (Or.inl rfl)) (pgs_cons (pg_name (i := 5) scWide.nd rfl (Or.inl rfl)) pgs_nil)))))
    (pss_cons (ps_while PassesOwn.never (w_ne0 K hu (pv 4) (pe_lst pa_nil))
      (pss_cons (ps_asg (pe_bm0 PySem.F.plainAttrs_list PySem.F.slot_list_pop PySem.F.type_list_pop mt_pop (pv 4)) (w_tgt K (pgs_cons (pg_name (i := 6) scWide.nd rfl (Or.inr rfl)) (pgs_cons (pg_name (i := 7) scWide.nd rfl (Or.inl rfl)) (pgs_cons (pg_name (i := 8) scWide.nd rfl (Or.inl rfl)) (pgs_cons (pg_name (i := 9) scWide.nd rfl (Or.inl rfl)) pgs_nil))))))
      (pss_one (ps_if (PW.pt (pw_or (pt_cmpR op_lt (pv 8) pe_int (nomark _)) (pw_or1 (pt_cmpR op_gt (pv 9) pe_int (nomark _)))))
        (pss_one (ps_dput hu (pv 3) (pv 6) (pe_tup pa_nil) rfl))
        (pss_cons (ps_par (i := 10) (j := 11) rfl scWide.nd rfl rfl (by decide) rfl rfl (pa_cons (C.call hr (pa_cons (pv 0) (pa_cons (w_len K B.len (pv 7)) pa_nil))) (pa_cons (pe_callB (call_min2 rfl) (by rfl) B.min bt_min (pa_cons (pv 8) (pa_cons (pe_op op_add pe_int (C.call hr (pa_cons (pv 0) (pa_cons pe_int pa_nil)))) pa_nil))) pa_nil)) rfl)
        (pss_cons (ps_dput hu (pv 3) (pv 6) (pe_tup (pa_cons (w_ixT K (pv 7) (pv 10)) (pa_cons (pv 11) pa_nil))) rfl)
        (pss_cons (ps_expr (pe_bm PySem.F.plainAttrs_list PySem.F.slot_list_append PySem.F.type_list_append mt_append (pv 5) (pa_cons (pv 6) pa_nil)))
        (pss_one (ps_for PassesOwn.never rfl (pi_range1 (by rfl) B.range (pa_cons (pv 11) pa_nil)) (pg_name (i := 12) scWide.nd rfl (Or.inl rfl))
          (pss_one (ps_expr (pe_bm PySem.F.plainAttrs_list PySem.F.slot_list_append PySem.F.type_list_append mt_append (pv 4) (pa_cons
            (pe_tup (pa_cons (w_catK K (pv 6) (pe_tup (pa_cons (pv 12) pa_nil))) (pa_cons (w_cat K (w_sl K (pv 7) po_none (po_some (pv 10))) (w_sl K (pv 7) (po_some (pe_op op_add (pv 10) pe_int)) po_none))
              (pa_cons (pe_op op_fdivN (pv 8) (pv 11)) (pa_cons (pe_op op_add (pv 9) pe_int) pa_nil))))) pa_nil)))))))))))))
    (pss_cons (ps_for PassesOwn.never rfl (w_list_iter K (pe_revL (pv 5))) (pg_name (i := 6) scWide.nd rfl (Or.inr rfl))
      (pss_cons (ps_asg (pe_dget hu (pv 3) (pv 6) (fun _ _ => rfl)) (w_tgt K (pgs_cons (pg_name (i := 13) scWide.nd rfl (Or.inl rfl)) (pgs_cons (pg_name (i := 11) scWide.nd rfl (Or.inl rfl)) pgs_nil))))
      (pss_one (ps_dput hu (pv 3) (pv 6) (pe_tup (pa_cons (pv 13) (pa_cons (w_tup K B.tuple
        (pe_lc (own := [("_law_turn", 12)]) (g := gName 12) (tt := tYes) (te := tTup (tCons (tVar 12) (tCons (tDGet (tVar 3) (tOp (rCatK K) (tVar 6) (tTup (tCons (tVar 12) tNil)))) tNil))) rfl scWide.nd (pi_range1 (by rfl) B.range (pa_cons (pv 11) pa_nil))
          (blkOk_by (N := nWide) (sc := defScope sWide) (by decide +kernel)) (fun _ _ _ _ _ => pg_name (i := 12) scWide.nd rfl (Or.inl rfl)) (fun _ _ _ _ _ => pts_nil)
          (fun _ _ _ _ _ => pe_tup (pa_cons (pv 12) (pa_cons (pe_dget hu (pv 3) (w_catK K (pv 6) (pe_tup (pa_cons (pv 12) pa_nil))) (fun _ _ => rfl)) pa_nil))))) pa_nil))) rfl))))
    (pss_one (ps_ret (pe_dget hu (pv 3) (pe_tup pa_nil) (fun _ _ => rfl)))))), ?_⟩
  obtain ⟨bl, hbl⟩ := hb.lst
  refine fun d hd => ⟨Nat.zero_le _, fun kk hkk => ⟨Nat.zero_le _, fun vv hvv => ?_⟩⟩
  have a1 := same_new hkk (.tup [])
  have a2 := same_new hvv (.tup [])
  have hd0 : upd H d (.dT []) d = some (.dT []) := upd_same
  have hd2 := a2 _ _ (a1 _ _ hd0)
  have hkk1 : upd (upd H d (.dT [])) kk (.tup []) kk = some (.tup []) := upd_same
  have hkk2 := a2 _ _ hkk1
  have hvv2 : upd (upd (upd H d (.dT [])) kk (.tup [])) vv (.tup []) vv = some (.tup []) := upd_same
  refine ⟨hd2, kk, [], rfl, hkk2, ?_⟩
  have sH : Same H (upd (upd (upd (upd H d (.dT [])) kk (.tup [])) vv (.tup [])) d (.dT [([], .ref vv)])) := same_upd ((same_new hd _).trans (a1.trans a2)) hd
  have hdd : upd (upd (upd (upd H d (.dT [])) kk (.tup [])) vv (.tup [])) d (.dT [([], .ref vv)]) d = some (.dT [([], .ref vv)]) := upd_same
  generalize upd (upd (upd (upd H d (.dT [])) kk (.tup [])) vv (.tup [])) d (.dT [([], .ref vv)]) = H1 at sH hdd ⊢
  refine ⟨Nat.zero_le _, fun pp hpp => ?_⟩
  have s1 := same_new hpp (.tup [])
  have hpp1 : upd H1 pp (.tup []) pp = some (.tup []) := upd_same
  refine ⟨_, rfl, na, _, rfl, SqL.of (s1 _ _ (sH _ _ hna)), fun nt H2 s2 tn => ?_⟩
  refine ⟨_, rfl, (show 4 ≤ sizeLine by decide), fun wt hwt => ?_⟩
  have s3 := same_new hwt (.tup [.ref pp, .ref nt, .int (bud : Int), .int 0])
  have hwt1 : upd H2 wt (.tup [.ref pp, .ref nt, .int (bud : Int), .int 0]) wt = some (.tup [.ref pp, .ref nt, .int (bud : Int), .int 0]) := upd_same
  refine ⟨(show 1 ≤ sizeLine by decide), fun wa hwa => ?_⟩
  have s4 := same_new hwa (.lst [.ref wt])
  have hwa1 : upd (upd H2 wt (.tup [.ref pp, .ref nt, .int (bud : Int), .int 0])) wa (.lst [.ref wt]) wa = some (.lst [.ref wt]) := upd_same
  refine ⟨Nat.zero_le _, fun pa hpa => ?_⟩
  have s5 := same_new hpa (.lst [])
  have hpa1 : upd (upd (upd H2 wt (.tup [.ref pp, .ref nt, .int (bud : Int), .int 0])) wa (.lst [.ref wt])) pa (.lst []) pa = some (.lst []) := upd_same
  refine ⟨(show 3 ≤ sizeLine by decide), fun tp htp => ?_⟩
  have s6 := same_new htp (.tup [.ref d, .ref wa, .ref pa])
  refine ⟨tp, _, rfl, .inl (.inl upd_same), rfl, _, _, rfl, _, _, rfl, _, _, rfl, rfl, ?_⟩
  have nbd : b ≠ d := ne_of_none hbl hd
  have nbw : b ≠ wa := ne_of_none (s3 _ _ (s2 _ _ (s1 _ _ (sH _ _ hbl)))) hwa
  have nbp : b ≠ pa := ne_of_none (s4 _ _ (s3 _ _ (s2 _ _ (s1 _ _ (sH _ _ hbl))))) hpa
  have ndw : d ≠ wa := ne_of_none (s3 _ _ (s2 _ _ (s1 _ _ hdd))) hwa
  have ndp : d ≠ pa := ne_of_none (s4 _ _ (s3 _ _ (s2 _ _ (s1 _ _ hdd)))) hpa
  have nwp : wa ≠ pa := ne_of_none hwa1 hpa
  have hwaN : H wa = none := by
    cases z : H wa with
    | none => rfl
    | some o => rw [s3 _ _ (s2 _ _ (s1 _ _ (sH _ _ z)))] at hwa; cases hwa
  have hpaN : H pa = none := by
    cases z : H pa with
    | none => rfl
    | some o => rw [s4 _ _ (s3 _ _ (s2 _ _ (s1 _ _ (sH _ _ z))))] at hpa; cases hpa
  have sAll := sH.trans (s1.trans (s2.trans (s3.trans (s4.trans s5))))
  have s36 := s3.trans (s4.trans (s5.trans s6))
  have start : Ph1 K H (upd (upd (upd (upd H2 wt (.tup [.ref pp, .ref nt, .int (bud : Int), .int 0])) wa (.lst [.ref wt])) pa (.lst [])) tp (.tup [.ref d, .ref wa, .ref pa])) b d wa pa k bud [] [⟨[], names30, bud, 0⟩] := by
    refine ⟨.of (sAll.trans s6), hb.same (sAll.trans s6), ⟨_, (s1.trans (s2.trans s36)) _ _ hdd, Nat.le_refl _, fun e he => (by cases he)⟩, ⟨_, (s5.trans s6) _ _ hwa1, .cons ⟨wt, pp, nt, rfl, ?_, ?_, ?_⟩ .nil⟩, ⟨_, s6 _ _ hpa1, .nil⟩, W1.start hb1 hb2⟩
    · exact .inl (.inl ((s4.trans (s5.trans s6)) _ _ hwt1))
    · exact (s2.trans s36) _ _ hpp1
    · exact Same.seqT s36 tn.sq
  refine ⟨KW K H b na d wa pa k bud, ⟨_, [], _, none, none, none, none, none, none, none, none, rfl, rfl, start⟩, ?_⟩
  clear start s36 sAll s6 s5 s4 s3 s2 s1 hpa1 hwa1 hwt1 hpp1 sH hdd hvv2 hkk2 hkk1 hd2 hd0 a1 a2
  rintro m σ H' ⟨es, ws, z6, z7, z8, z9, z10, z11, z12, z13, rfl, rfl, G⟩
  obtain ⟨wx, hwx, hws⟩ := G.wait
  obtain ⟨px, hpx, hpl⟩ := G.plc
  obtain ⟨kvs, hkv, hkl, hes⟩ := G.made
  have hcost := G.w1.cost
  have hwl : wx.length = ws.length := Paired.length hws
  have hml := mcost_len (ws := ws) fun w hw => G.w1.ok w (.inl hw)
  refine ⟨_, rfl, Nat.zero_le _, fun p hp => ⟨wa, p, wx, rfl, rfl, .inl ⟨.inl (.inl (same_new hp _ _ _ hwx)), .inl (.inl upd_same)⟩, _, rfl, ?_⟩⟩
  have u1 : Same H' (upd H' p (.lst [])) := same_new hp _
  generalize upd H' p (.lst []) = Ha at u1 ⊢
  by_cases hwe : wx = []
  · subst hwe
    have hge : ws = [] := List.eq_nil_of_length_eq_zero hwl.symm
    subst hge
    refine iteF ?_
    have hpx2 := u1 _ _ hpx
    have hpl2 : Paired (PlV Ha) px (places es) := Paired.mono (fun _ _ q => q.sameT (.of u1)) hpl
    have hkv2 := u1 _ _ hkv
    have hes2 : ∀ e ∈ es, ∃ v, valV kvs (keyOf e.wd.path) = some v ∧ EnV K Ha v e := fun e he => by
      obtain ⟨v, h1, h2⟩ := hes e he
      exact ⟨v, h1, h2.sameT (.of u1)⟩
    have sb2 : SameBut b H Ha := G.same.trans (.of u1)
    have hbx2 := G.box.same u1
    have W := G.w1
    clear hes hkv hpl hpx hws hwx
    have hn : px.length = (places es).length := Paired.length hpl2
    refine ⟨_, rfl, pa, px, rfl, SqL.of hpx2, fun rv hrv => ?_⟩
    have y1 := same_new hrv (.lst px.reverse)
    have hrvd : rv ≠ d := Ne.symm (ne_of_none hkv2 hrv)
    have hrv1 : upd Ha rv (.lst px.reverse) rv = some (.lst px.reverse) := upd_same
    have hpl3 : Paired (PlV (upd Ha rv (.lst px.reverse))) px (places es) := Paired.mono (fun _ _ q => q.sameT (.of y1)) hpl2
    have hkv3 := y1 _ _ hkv2
    have hes3 : ∀ e ∈ es, ∃ v, valV kvs (keyOf e.wd.path) = some v ∧ EnV K (upd Ha rv (.lst px.reverse)) v e := fun e he => by
      obtain ⟨v, h1, h2⟩ := hes2 e he
      exact ⟨v, h1, h2.sameT (.of y1)⟩
    have sb3 := sb2.trans (.of y1)
    have hbx3 := hbx2.same y1
    generalize upd Ha rv (.lst px.reverse) = Hr at hrv1 hpl3 hkv3 hes3 sb3 hbx3 ⊢
    have start2 := MI.start W hkv3 hkl hes3
    have dT : ∀ {Hx : Hp}, SameBut d Hr Hx → SameT Hr Hx := fun s => ⟨fun a xs q => s _ _ (ne_of q hkv3 (by intro z; cases z)) q, fun a o xs q => s _ _ (ne_of q hkv3 (by intro z; cases z)) q⟩
    refine ⟨rv, rfl, ⟨_, SqL.of hrv1⟩, for_list (K := K) (a := rv) (xs := px.reverse) (TW K b na d wa pa bud Hr es) ⟨_, _, _, _, _, _, _, _, rfl, fun a o _ e => e, start2⟩ ?_ ?_ ?_⟩
    · rintro i σ H5 _ ⟨_, _, _, _, _, _, _, _, _, s5, _⟩
      exact .inl (.inl (s5 _ _ hrvd hrv1))
    · rintro i y σ H5 hi ⟨z6, z7, z8, z9, z10, z11, z12, z13, rfl, s5, kv5, hd5, hl5, he5⟩
      have hi' : i < px.length := by
        have := (List.getElem?_eq_some_iff.mp hi).1
        rw [List.length_reverse] at this
        exact this
      rw [List.getElem?_reverse hi'] at hi
      obtain ⟨p, hp, hy⟩ := Paired.at hpl3 hi
      have hj : (places es).length - i = (px.length - 1 - i) + 1 := by omega
      have hj2 : (places es).length - (i + 1) = px.length - 1 - i := by omega
      rw [hj, take_next hp] at he5
      generalize px.length - 1 - i = j at hi hp hj hj2 he5
      have hpm : p ∈ places es := List.mem_of_getElem? hp
      have hpn : p ∉ (places es).take j := by
        have := W.placesNd
        rw [← List.take_append_drop j (places es), List.nodup_append] at this
        have hdr : p ∈ (places es).drop j := by
          rw [List.mem_iff_getElem?]
          exact ⟨0, by rw [List.getElem?_drop]; exact hp⟩
        exact fun z => this.2.2 p z p hdr rfl
      have hord : ∀ t, p ++ [t] ∉ (places es).take j := by
        intro t z
        have hpw := W.order
        rw [← List.take_append_drop j (places es), List.pairwise_append] at hpw
        have hdr : p ∈ (places es).drop j := by
          rw [List.mem_iff_getElem?]
          exact ⟨0, by rw [List.getElem?_drop]; exact hp⟩
        exact hpw.2.2 _ z p hdr t rfl
      obtain ⟨e, hem, hsome, hep⟩ := mem_places hpm
      obtain ⟨x, hx⟩ := Option.isSome_iff_exists.mp hsome
      obtain ⟨spot, width⟩ := x
      have hok := W.eok e hem
      unfold EnOk at hok
      rw [hx] at hok
      obtain ⟨n1, n2, n3, n4, n5⟩ := hok
      obtain ⟨v, hv1, hv2⟩ := he5 e hem
      have hv2 : EnV K H5 v e := by
        rcases hv2 with ⟨_, q⟩ | ⟨q, _⟩
        · exact q
        · exact absurd (by rw [hep]; simp) q
      unfold EnV at hv2
      rw [hx] at hv2
      obtain ⟨va, c, hc, rfl, hva⟩ := hv2
      obtain ⟨ya, rfl, hya⟩ := hy.sameT (dT s5)
      have hdg : DGet H5 d (.ref ya) (some (.ref va)) := by
        have := DGet.t (k := keyOf p) hd5 (by rw [key_map]; exact hya)
        rw [← hep, hv1] at this
        exact this
      have hwk := W.ok e.wd (.inr ⟨e, hem, rfl⟩)
      have hplen := hwk.plen
      have hdp := hwk.deep
      refine ⟨_, rfl, _, rfl, d, .ref va, rfl, hdg, va, _, rfl, hva, rfl, _, _, rfl, _, _, rfl, rfl, ?_⟩
      refine ⟨_, rfl, _, rfl, (width : Int), rfl, by omega, by omega, fun D hD => ?_⟩
      have nDd : D ≠ d := Ne.symm (ne_of_none hd5 hD)
      refine lc_range (lo := 0) (n := width) (Lc H5 D (PKid K (e.wd.left.eraseIdx spot) (e.wd.many / width) (e.wd.deep + 1))) (lc_start hD ⟨[], rfl, .nil, fun t ht => by cases ht⟩) ?_ ?_
      · rintro t H6 ht ⟨e6, acc, eD, la6, ts, hts, hP, hg⟩
        have e0 : (0 : Int) + (t : Int) = (t : Int) := by omega
        rw [e0]
        refine ⟨rfl, _, rfl, _, rfl, _, rfl, _, rfl, (show 1 ≤ sizeLine by decide), fun u hu6 => ?_⟩
        have y6 := same_new hu6 (.tup [.int (t : Int)])
        refine ⟨ya, u, _, [.int (t : Int)], rfl, rfl, .inl (.inl (y6 _ _ (e6 _ _ hya))), upd_same, by simp, by rw [sizeLine_eq, List.length_map, ← hep, hplen]; show _ + 1 ≤ _; omega, fun p7 H7 s7 h7 => ?_⟩
        have s57 : Same H5 H7 := e6.trans (y6.trans s7)
        have hkid := W.kids e hem spot width hx t ht
        obtain ⟨e', he', hwd⟩ := hkid.resolve_left (by simp)
        have hpath' : e'.wd.path = p ++ [(t : Int)] := by rw [hwd, ← hep]; rfl
        obtain ⟨v', hv', hv2'⟩ := he5 e' he'
        have htree : ∃ t', TreeV K H5 t' v' ∧ GoodT t' e'.wd.left e'.wd.many e'.wd.deep := by
          rcases hv2' with ⟨q, _⟩ | ⟨_, q⟩
          · rw [hpath'] at q
            rcases List.mem_append.mp q with q | q
            · exact absurd q (hord _)
            · have := List.mem_singleton.mp q
              simp at this
          · exact q
        obtain ⟨t', ht1, ht2⟩ := htree
        have hdg7 : DGet H7 d (.ref p7) (some v') := by
          have := DGet.t (k := keyOf e'.wd.path) (s57 _ _ hd5) (by rw [key_map, hpath', List.map_append]; exact h7)
          rw [hv'] at this
          exact this
        refine ⟨d, v', rfl, hdg7, (show 2 ≤ sizeLine by decide), fun pr hpr => ?_⟩
        have s6x : Same H6 (upd H7 pr (.tup [.int (t : Int), v'])) := y6.trans (s7.trans (same_new hpr _))
        have eDx := s6x _ _ eD
        refine lc_put hD (by omega) eDx la6 (e6.trans s6x) ⟨ts ++ [t'], by rw [List.length_append, hts]; rfl, ?_, fun x hxm => ?_⟩
        · rw [List.zipIdx_append, List.map_append, hts]
          refine Paired.append (Paired.mono (fun _ _ q => q.sameT (.of (del_mono s6x))) hP) (.cons ⟨pr, v', rfl, ?_, ?_⟩ .nil)
          · have := SqT.sameT (K := K) (sameT_del eDx) (.inl (.inl upd_same) : SqT K (upd H7 pr (.tup [.int (t : Int), v'])) pr _)
            simpa using this
          · exact TreeV.sameT ((SameT.of (s57.trans (same_new hpr _))).trans (sameT_del eDx)) _ _ ht1
        · rcases List.mem_append.mp hxm with z | z
          · exact hg x z
          · rw [List.mem_singleton.mp z]
            rw [hwd] at ht2
            exact ht2
      · rintro H6 ⟨e6, acc, eD, la6, ts, hts, hP, hg⟩
        refine ⟨D, acc, rfl, SqL.of eD, fun lt H7 s7 t7 => ⟨(show 2 ≤ sizeLine by decide), fun nv hnv => ?_⟩⟩
        have y8 := same_new hnv (.tup [.str c, .ref lt])
        have s58 : Same H5 (upd H7 nv (.tup [.str c, .ref lt])) := e6.trans (s7.trans y8)
        have hd8 := s58 _ _ hd5
        refine ⟨_, rfl, _, rfl, d, _, rfl, DPut.t hd8 (k := keyOf p) (by rw [key_map]; exact s58 _ _ hya) (by rw [sizeLine_eq]; have := W.cost; omega), ?_⟩
        have tD : SameT (upd H7 nv (.tup [.str c, .ref lt])) (upd (upd H7 nv (.tup [.str c, .ref lt])) d (.dT (putK kv5 (keyOf p) (.ref nv)))) := sameT_updT hd8
        refine ⟨_, _, _, _, _, _, _, _, rfl, fun a o ne q => ?_, _, upd_same, ?_, fun e2 he2 => ?_⟩
        · rw [upd_ne ne]
          exact s58 _ _ (s5 _ _ ne q)
        · have hin : (kv5.any fun kv => decide (kv.1 = keyOf p)) = true := by
            rw [valV_any, ← hep, hv1]
            rfl
          unfold putK
          rw [if_pos hin, List.length_map]
          exact hl5
        · rw [hj2]
          by_cases c2 : e2.wd.path = p
          · have e2e : e2 = e := W.uniq he2 hem (c2.trans hep.symm)
            subst e2e
            refine ⟨.ref nv, by rw [valV_put, c2, if_pos rfl], .inr ⟨by rw [c2]; exact hpn, .node c (ofL ((ts.zipIdx 0).map fun p => (((p.2 : Nat) : Int), p.1))), ⟨nv, lt, acc, rfl, SqT.sameT tD (.inl (.inl upd_same)), SqT.sameT tD (Same.seqT y8 t7.sq), kids_of ?_⟩, ?_⟩⟩
            · exact Paired.mono (fun _ _ q => q.sameT (((SameT.of (del_same.trans (s7.trans y8)))).trans tD)) hP
            · exact ⟨spot, width, hc, n2, n3, n4, n5, goodks_of ts 0 (by omega) hg⟩
          · obtain ⟨v2, h21, h22⟩ := he5 e2 he2
            refine ⟨v2, by rw [valV_put, if_neg (fun z => c2 (key_inj z))]; exact h21, ?_⟩
            have tF := (SameT.of s58).trans tD
            rcases h22 with ⟨q, q2⟩ | ⟨q, t2, q2, q3⟩
            · refine .inl ⟨?_, q2.sameT tF⟩
              rcases List.mem_append.mp q with q | q
              · exact q
              · exact absurd (List.mem_singleton.mp q) c2
            · exact .inr ⟨fun z => q (List.mem_append_left _ z), t2, TreeV.sameT tF _ _ q2, q3⟩
    · rintro σ H5 ⟨z6, z7, z8, z9, z10, z11, z12, z13, rfl, s5, kv5, hd5, hl5, he5⟩
      obtain ⟨e, hem, hroot⟩ := W.root.resolve_left (by simp)
      obtain ⟨v, hv1, hv2⟩ := he5 e hem
      have hz : (places es).length - px.reverse.length = 0 := by rw [List.length_reverse]; omega
      rw [hz, List.take_zero] at hv2
      obtain ⟨t, ht1, ht2⟩ : ∃ t, TreeV K H5 t v ∧ GoodT t e.wd.left e.wd.many e.wd.deep := by
        rcases hv2 with ⟨q, _⟩ | ⟨_, q⟩
        · cases q
        · exact q
      rw [hroot] at ht2 hv1
      refine ⟨_, rfl, Nat.zero_le _, fun p5 hp5 => ?_⟩
      have y5 := same_new hp5 (.tup [])
      have hdg : DGet (upd H5 p5 (.tup [])) d (.ref p5) (some v) := by
        have := DGet.t (k := keyOf []) (y5 _ _ hd5) (show upd H5 p5 (.tup []) p5 = _ from upd_same)
        rw [hv1] at this
        exact this
      refine ⟨d, v, rfl, hdg, q v _ t (fun a o ne q => y5 _ _ (s5 _ _ (ne_of_none q hd) (sb3 _ _ ne q))) ?_ (TreeV.sameT (.of y5) _ _ ht1) ht2⟩
      · obtain ⟨own, mx, jj, q0, r1, r2, r3, r4⟩ := hbx3
        refine ⟨own, mx, jj, y5 _ _ (s5 _ _ nbd q0), r1, r2, r3, by have := W.cost; omega⟩
  have hemp : wx.isEmpty = false := by cases wx with | nil => exact absurd rfl hwe | cons => rfl
  rw [hemp]
  refine ⟨KN K H b na d wa pa k bud (mcost ws), fun _ _ h => h, ?_⟩
  obtain ⟨wx0, x, ewx, hlast, edrop⟩ := last_pop hwe
  rw [ewx] at hws
  obtain ⟨ws0, wd, rfl, hws0, hw⟩ := Paired.unsnoc hws
  have hwa' := u1 _ _ hwx
  have t1 : SameT H' (upd Ha wa (.lst wx0)) := (SameT.of u1).trans (sameT_upd hwa')
  obtain ⟨qa, pth, la, rfl, hqa, hpth, hla⟩ := hw.sameT t1
  refine ⟨_, rfl, .inl ⟨rfl, _, SqL.of hwa'⟩, wa, wx, _, rfl, rfl, hwa', hlast, ?_⟩
  rw [edrop]
  have sb1 : SameBut b H (upd Ha wa (.lst wx0)) := fun a o ne e => by
    rw [upd_ne (ne_of_none e hwaN)]
    exact u1 _ _ (G.same _ _ ne e)
  have hbx1 : BoxOk (upd Ha wa (.lst wx0)) b (k + 2 * es.length) := by
    obtain ⟨own, mx, j, e, r⟩ := G.box
    exact ⟨own, mx, j, by rw [upd_ne nbw]; exact u1 _ _ e, r⟩
  have hkv1 : upd Ha wa (.lst wx0) d = some (.dT kvs) := by rw [upd_ne ndw]; exact u1 _ _ hkv
  have hpx1 : upd Ha wa (.lst wx0) pa = some (.lst px) := by rw [upd_ne (Ne.symm nwp)]; exact u1 _ _ hpx
  have hwx1 : upd Ha wa (.lst wx0) wa = some (.lst wx0) := upd_same
  have hwl0 : wx0.length = ws0.length := Paired.length hws0
  generalize upd Ha wa (.lst wx0) = H1 at t1 sb1 hbx1 hkv1 hpx1 hwx1 hqa hpth hla ⊢
  have hwk : WOk wd := G.w1.ok wd (.inl (by simp))
  refine ⟨qa, _, rfl, hqa, rfl, _, _, rfl, _, _, rfl, _, _, rfl, _, _, rfl, rfl, ?_⟩
  have hkl2 : kvs.length < sizeLine := by rw [sizeLine_eq]; omega
  have leafGo : (wd.many < 2 ∨ 7 < wd.deep) → ∀ D : Ends, D.nx = KN K H b na d wa pa k bud (mcost (ws0 ++ [wd])) → sDPut (tVar 3) (tVar 6) (tTup tNil) D [some (.ref b), some (.ref na), some (.int (bud : Int)), some (.ref d), some (.ref wa), some (.ref pa), some (.ref pth), some (.ref la), some (.int (wd.many : Int)), some (.int (wd.deep : Int)), z10, z11, z12, z13] H1 := by
    intro hc D hD
    refine ⟨Nat.zero_le _, fun v hv => ?_⟩
    have v1 := same_new hv (.tup [])
    have hdA := v1 _ _ hkv1
    refine ⟨_, rfl, _, rfl, d, _, rfl, DPut.t hdA (k := keyOf wd.path) (by rw [key_map]; exact v1 _ _ hpth) hkl2, ?_⟩
    rw [hD]
    have tt : SameT H' (upd (upd H1 v (.tup [])) d (.dT (putK kvs (keyOf wd.path) (.ref v)))) := t1.trans ((SameT.of v1).trans (sameT_updT hdA))
    have key : ∀ e ∈ es, keyOf e.wd.path ≠ keyOf wd.path := fun e he z => G.w1.fresh.1 e he (key_inj z)
    refine ⟨mcost ws0, ?_, es ++ [⟨wd, none⟩], ws0, _, _, _, _, _, _, _, _, rfl, rfl, ?_, ?_, ⟨_, upd_same, ?_, fun e he => ?_⟩, ⟨wx0, ?_, ?_⟩, ⟨px, ?_, ?_⟩, ?_⟩
    · rw [mcost_app]
      have := hwk.pos
      have e : mcost [wd] = 2 * wd.many - 1 := by simp [mcost]
      omega
    · intro a o ne e
      rw [upd_ne (ne_of_none e hd)]
      exact v1 _ _ (sb1 _ _ ne e)
    · obtain ⟨own, mx, j, e, r1, r2, r3, r4⟩ := hbx1
      refine ⟨own, mx, j, by rw [upd_ne nbd]; exact v1 _ _ e, r1, r2, r3, ?_⟩
      rw [List.length_append]
      omega
    · have := length_putK kvs (keyOf wd.path) (.ref v)
      rw [List.length_append, List.length_singleton]
      omega
    · rcases List.mem_append.mp he with z | z
      · obtain ⟨v', h1, h2⟩ := hes e z
        exact ⟨v', by rw [valV_put, if_neg (key e z)]; exact h1, h2.sameT tt⟩
      · rw [List.mem_singleton.mp z]
        refine ⟨.ref v, by rw [valV_put, if_pos rfl], v, rfl, .inl (.inl ?_)⟩
        rw [upd_ne (ne_of (show upd H1 v (.tup []) v = _ from upd_same) hdA (by intro z; cases z)), upd_same]
    · rw [upd_ne (Ne.symm ndw)]; exact v1 _ _ hwx1
    · exact Paired.mono (fun _ _ q => q.sameT tt) hws0
    · rw [upd_ne (Ne.symm ndp)]; exact v1 _ _ hpx1
    · rw [places_app]
      simp only [Option.isSome_none, Bool.false_eq_true, if_false, List.append_nil]
      exact Paired.mono (fun _ _ q => q.sameT tt) hpl
    · have := G.w1.step (cs := []) (nd := none) hc (.inl ⟨rfl, rfl⟩)
      rw [List.append_nil] at this
      exact this
  refine ⟨_, rfl, _, _, rfl, rfl, _, rfl, ?_⟩
  by_cases c1 : (wd.many : Int) < 2
  · rw [decide_eq_true c1]
    exact iteT (iteT (leafGo (.inl (by omega)) _ rfl))
  rw [decide_eq_false c1]
  refine iteF ⟨_, rfl, _, _, rfl, rfl, _, rfl, ?_⟩
  by_cases c2 : (7 : Int) < (wd.deep : Int)
  · rw [decide_eq_true c2]
    exact iteT (leafGo (.inr (by omega)) _ rfl)
  rw [decide_eq_false c2]
  refine iteF ?_
  have hm2 : 2 ≤ wd.many := by omega
  have hd7 : wd.deep ≤ 7 := by omega
  have hlen := hwk.len
  have htop := hwk.top
  refine ⟨_, rfl, _, rfl, la, _, rfl, .inr hla, b, (wd.left.map V.str).length, k + 2 * es.length, rfl, hbx1, by omega, by rw [List.length_map]; omega, by rw [List.length_map]; omega, fun r1 H2 hr1 sk2 hbx2 => ?_⟩
  rw [List.length_map] at hr1
  refine ⟨_, rfl, _, rfl, b, 4, k + 2 * es.length + 1, rfl, hbx2, by omega, by omega, by omega, fun r2 H3 hr2 sk3 hbx3 => ?_⟩
  refine ⟨_, _, rfl, rfl, _, _, rfl, ?_⟩
  obtain ⟨wdt, hwdt, w2, wm, w5⟩ : ∃ wdt : Nat, (if (2 + (r2 : Int)) < (wd.many : Int) then 2 + (r2 : Int) else (wd.many : Int)) = (wdt : Int) ∧ 2 ≤ wdt ∧ wdt ≤ wd.many ∧ wdt ≤ 5 := by
    by_cases c : (2 + (r2 : Int)) < (wd.many : Int)
    · rw [if_pos c]
      exact ⟨2 + r2, by omega, by omega, by omega, by omega⟩
    · rw [if_neg c]
      exact ⟨wd.many, rfl, by omega, by omega, by omega⟩
  rw [hwdt]
  refine ⟨_, _, rfl, ?_⟩
  have hnode : NodeOk wd r1 wdt := ⟨hr1, w2, wm, w5, hd7⟩
  have sk13 : SameBut b H1 H3 := sk2.trans sk3
  have tt3 : SameT H1 H3 := hbx1.t sk13
  have hkv3 := sk13 _ _ (Ne.symm nbd) hkv1
  have hpx3 := sk13 _ _ (Ne.symm nbp) hpx1
  have hwx3 := sk13 _ _ (Ne.symm nbw) hwx1
  have hpth3 : H3 pth = some (.tup (wd.path.map V.int)) := tt3.1 _ _ hpth
  have hla3 := SqT.sameT tt3 hla
  have sb3 : SameBut b H H3 := sb1.trans sk13
  have t3 : SameT H' H3 := t1.trans tt3
  clear sk2 sk3 sk13 hbx2 hla hpth hkv1 hpx1 hwx1
  obtain ⟨c, hc⟩ : ∃ c, wd.left[r1]? = some c := ⟨_, List.getElem?_eq_getElem hr1⟩
  have hcv : (wd.left.map V.str)[r1]? = some (.str c) := by rw [List.getElem?_map, hc]; rfl
  refine ⟨_, rfl, _, rfl, la, _, _, .str c, rfl, rfl, hla3, atI_nat hcv, _, rfl, (show 2 ≤ sizeLine by decide), fun v hv => ?_⟩
  have v1 := same_new hv (.tup [.str c, .int (wdt : Int)])
  have hdA := v1 _ _ hkv3
  refine ⟨_, rfl, _, rfl, d, _, rfl, DPut.t hdA (k := keyOf wd.path) (by rw [key_map]; exact v1 _ _ hpth3) hkl2, ?_⟩
  have hvv : upd H3 v (.tup [.str c, .int (wdt : Int)]) v = some (.tup [.str c, .int (wdt : Int)]) := upd_same
  have tt4 : SameT H3 (upd (upd H3 v (.tup [.str c, .int (wdt : Int)])) d (.dT (putK kvs (keyOf wd.path) (.ref v)))) := (SameT.of v1).trans (sameT_updT hdA)
  have hd4 : upd (upd H3 v (.tup [.str c, .int (wdt : Int)])) d (.dT (putK kvs (keyOf wd.path) (.ref v))) d = some (.dT (putK kvs (keyOf wd.path) (.ref v))) := upd_same
  have hp4 : upd (upd H3 v (.tup [.str c, .int (wdt : Int)])) d (.dT (putK kvs (keyOf wd.path) (.ref v))) pa = some (.lst px) := by rw [upd_ne (Ne.symm ndp)]; exact v1 _ _ hpx3
  have hw4 : upd (upd H3 v (.tup [.str c, .int (wdt : Int)])) d (.dT (putK kvs (keyOf wd.path) (.ref v))) wa = some (.lst wx0) := by rw [upd_ne (Ne.symm ndw)]; exact v1 _ _ hwx3
  have sb4 : SameBut b H (upd (upd H3 v (.tup [.str c, .int (wdt : Int)])) d (.dT (putK kvs (keyOf wd.path) (.ref v)))) := fun a o ne e => by
    rw [upd_ne (ne_of_none e hd)]
    exact v1 _ _ (sb3 _ _ ne e)
  have hbx4 : BoxOk (upd (upd H3 v (.tup [.str c, .int (wdt : Int)])) d (.dT (putK kvs (keyOf wd.path) (.ref v)))) b (k + 2 * es.length + 1 + 1) := by
    obtain ⟨own, mx, j, e, r⟩ := hbx3
    exact ⟨own, mx, j, by rw [upd_ne nbd]; exact v1 _ _ e, r⟩
  have hv4 : upd (upd H3 v (.tup [.str c, .int (wdt : Int)])) d (.dT (putK kvs (keyOf wd.path) (.ref v))) v = some (.tup [.str c, .int (wdt : Int)]) := by
    rw [upd_ne (ne_of hvv hdA (by intro z; cases z))]; exact hvv
  generalize upd (upd H3 v (.tup [.str c, .int (wdt : Int)])) d (.dT (putK kvs (keyOf wd.path) (.ref v))) = H4 at tt4 hd4 hp4 hw4 sb4 hbx4 hv4 ⊢
  have hpl4 : px.length = (places es).length := Paired.length hpl
  have hplen : (places es).length ≤ es.length := by unfold places; rw [List.length_map]; exact List.length_filter_le _ _
  refine ⟨_, rfl, .inl ⟨rfl, _, SqL.of hp4⟩, _, rfl, pa, px, _, rfl, rfl, hp4, by rw [sizeLine_eq]; omega, ?_⟩
  have tt5 : SameT H4 (upd H4 pa (.lst (px ++ [.ref pth]))) := sameT_upd hp4
  have hd5 : upd H4 pa (.lst (px ++ [.ref pth])) d = some (.dT (putK kvs (keyOf wd.path) (.ref v))) := by rw [upd_ne ndp]; exact hd4
  have hp5 : upd H4 pa (.lst (px ++ [.ref pth])) pa = some (.lst (px ++ [.ref pth])) := upd_same
  have hw5 : upd H4 pa (.lst (px ++ [.ref pth])) wa = some (.lst wx0) := by rw [upd_ne nwp]; exact hw4
  have sb5 : SameBut b H (upd H4 pa (.lst (px ++ [.ref pth]))) := fun a o ne e => by
    rw [upd_ne (ne_of_none e hpaN)]
    exact sb4 _ _ ne e
  have hbx5 : BoxOk (upd H4 pa (.lst (px ++ [.ref pth]))) b (k + 2 * es.length + 1 + 1) := by
    obtain ⟨own, mx, j, e, r⟩ := hbx4
    exact ⟨own, mx, j, by rw [upd_ne nbp]; exact e, r⟩
  generalize upd H4 pa (.lst (px ++ [.ref pth])) = H5 at tt5 hd5 hp5 hw5 sb5 hbx5 ⊢
  have t35 : SameT H3 H5 := tt4.trans tt5
  have t5 : SameT H' H5 := t3.trans t35
  have hv5 : SqT K H5 v [.str c, .int (wdt : Int)] := SqT.sameT tt5 (.inl (.inl hv4))
  have hpth5 : H5 pth = some (.tup (wd.path.map V.int)) := t35.1 _ _ hpth3
  have hla5 := SqT.sameT t35 hla3
  have hws5 : Paired (WdV K H5) wx0 ws0 := Paired.mono (fun _ _ q => q.sameT t5) hws0
  have key : ∀ e ∈ es, keyOf e.wd.path ≠ keyOf wd.path := fun e he z => G.w1.fresh.1 e he (key_inj z)
  have hstep := G.w1.step (nd := some (r1, wdt)) (cs := (List.range wdt).map (child wd r1 wdt)) hnode (.inr ⟨r1, wdt, rfl, rfl⟩)
  have hbig : ws0.length + wdt ≤ 400 := by
    have := mcost_len (ws := ws0) fun w hw => G.w1.ok w (.inl (List.mem_append_left _ hw))
    rw [mcost_app] at hcost
    have e : mcost [wd] = 2 * wd.many - 1 := by simp [mcost]
    omega
  refine ⟨_, rfl, (wdt : Int), rfl, by omega, by omega, for_range (lo := 0) (n := wdt) (fun i σ Hx => ∃ z, σ = [some (.ref b), some (.ref na), some (.int (bud : Int)), some (.ref d), some (.ref wa), some (.ref pa), some (.ref pth), some (.ref la), some (.int (wd.many : Int)), some (.int (wd.deep : Int)), some (.int (r1 : Int)), some (.int (wdt : Int)), z, z13] ∧ ChAt K H5 Hx wa wx0 wd r1 wdt i) ?_ ?_ ?_⟩
  · exact ⟨_, rfl, fun a o _ e => e, [], by rw [List.append_nil]; exact hw5, .nil⟩
  · rintro i σ H6 hi ⟨z, rfl, C6⟩
    obtain ⟨ys, hys, hP⟩ := C6.wait
    have hyl : ys.length = i := by
      have := Paired.length hP
      rw [List.length_map, List.length_range] at this
      exact this
    have t56 : SameT H5 H6 := C6.same.t hw5
    have e0 : (0 : Int) + (i : Int) = (i : Int) := by omega
    rw [e0]
    refine ⟨_, rfl, .inl ⟨rfl, _, SqL.of hys⟩, ?_⟩
    refine ⟨_, rfl, _, rfl, (show 1 ≤ sizeLine by decide), fun u1' hu1 => ?_⟩
    have y1 := same_new hu1 (.tup [.int (i : Int)])
    refine ⟨pth, u1', _, [.int (i : Int)], rfl, rfl, .inl (.inl (y1 _ _ (t56.1 _ _ hpth5))), upd_same, by simp, by rw [sizeLine_eq, List.length_map, hwk.plen]; show _ + 1 ≤ _; omega, fun p7 H7 s7 h7 => ?_⟩
    have t57 : SameT H5 H7 := t56.trans ((SameT.of y1).trans (.of s7))
    refine ⟨_, rfl, _, rfl, r1, rfl, la, _, rfl, SqT.sameT t57 hla5, fun p8 H8 s8 h8 _ => ?_⟩
    refine ⟨_, rfl, _, rfl, _, _, rfl, rfl, ((r1 + 1 : Nat) : Int), rfl, la, _, rfl, Same.seqT s8 (SqT.sameT t57 hla5), fun p9 H9 s9 h9 _ => ?_⟩
    rw [cut_to (by rw [List.length_map]; omega)] at h8
    rw [cut_from (by rw [List.length_map]; omega)] at h9
    refine ⟨p8, p9, _, _, rfl, rfl, Same.seqT s9 h8, h9, by rw [sizeLine_eq, List.length_take, List.length_drop, List.length_map]; omega, fun p10 H10 s10 h10 _ => ?_⟩
    refine ⟨_, rfl, _, rfl, _, _, rfl, rfl, ⟨by omega, by omega⟩, _, rfl, _, _, rfl, rfl, (show 4 ≤ sizeLine by decide), fun p11 hp11 => ?_⟩
    have s6x := y1.trans (s7.trans (s8.trans (s9.trans s10)))
    have ed : (wd.many : Int).fdiv (wdt : Int) = ((wd.many / wdt : Nat) : Int) := by
      rw [Int.fdiv_eq_ediv_of_nonneg _ (by omega)]
      rfl
    have s11 := same_new hp11 (.tup [.ref p7, .ref p10, .int ((wd.many : Int).fdiv (wdt : Int)), .int ((wd.deep : Int) + 1)])
    have hwa11 := (s6x.trans s11) _ _ hys
    refine ⟨wa, wx0 ++ ys, _, rfl, rfl, hwa11, by rw [sizeLine_eq, List.length_append]; omega, _, rfl, fun a o ne e => ?_, ys ++ [.ref p11], ?_, ?_⟩
    · rw [upd_ne ne]
      exact (s6x.trans s11) _ _ (C6.same _ _ ne e)
    · rw [upd_same, List.append_assoc]
    · rw [List.range_succ, List.map_append]
      have tx := (SameT.of (s6x.trans s11)).trans (sameT_upd (o := .lst (wx0 ++ ys ++ [.ref p11])) hwa11)
      refine Paired.append (Paired.mono (fun _ _ q => q.sameT tx) hP) (.cons (WdV.sameT (sameT_upd hwa11) ⟨p11, p7, p10, rfl, ?_, ?_, ?_⟩) .nil)
      · refine .inl (.inl ?_)
        rw [upd_same]
        show some (HO.tup [.ref p7, .ref p10, .int ((wd.many : Int).fdiv (wdt : Int)), .int ((wd.deep : Int) + 1)]) = _
        rw [ed]
        rfl
      · have h7' := (s8.trans (s9.trans (s10.trans s11))) _ _ h7
        unfold PtV
        rw [h7']
        show some (HO.tup (wd.path.map V.int ++ [.int (i : Int)])) = some (.tup ((wd.path ++ [(i : Int)]).map V.int))
        rw [List.map_append]
        rfl
      · have h10' := Same.seqT s11 h10
        show SqT K _ p10 ((wd.left.eraseIdx r1).map V.str)
        rw [List.eraseIdx_eq_take_drop_succ, List.map_append, List.map_take, List.map_drop]
        exact h10'
  · rintro σ H6 ⟨z, rfl, C6⟩
    obtain ⟨ys, hys, hP⟩ := C6.wait
    have t56 : SameT H5 H6 := C6.same.t hw5
    have t6 : SameT H' H6 := t5.trans t56
    refine ⟨mcost (ws0 ++ (List.range wdt).map (child wd r1 wdt)), ?_, es ++ [⟨wd, some (r1, wdt)⟩], _, _, _, _, _, _, _, _, _, rfl, rfl, ?_, ?_, ⟨_, C6.same _ _ ndw hd5, ?_, fun e he => ?_⟩, ⟨_, hys, ?_⟩, ⟨_, C6.same _ _ (Ne.symm nwp) hp5, ?_⟩, hstep⟩
    · rw [mcost_app, mcost_app]
      have := mcost_node hnode
      have e : mcost [wd] = 2 * wd.many - 1 := by simp [mcost]
      omega
    · exact fun a o ne e => C6.same _ _ (ne_of_none e hwaN) (sb5 _ _ ne e)
    · obtain ⟨own, mx, j, e, r1', r2', r3', r4'⟩ := hbx5
      refine ⟨own, mx, j, C6.same _ _ nbw e, r1', r2', r3', ?_⟩
      rw [List.length_append, List.length_singleton]
      omega
    · have := length_putK kvs (keyOf wd.path) (.ref v)
      rw [List.length_append, List.length_singleton]
      omega
    · rcases List.mem_append.mp he with q | q
      · obtain ⟨v', h1, h2⟩ := hes e q
        exact ⟨v', by rw [valV_put, if_neg (key e q)]; exact h1, h2.sameT t6⟩
      · rw [List.mem_singleton.mp q]
        exact ⟨.ref v, by rw [valV_put, if_pos rfl], v, c, hc, rfl, SqT.sameT t56 hv5⟩
    · exact Paired.append (Paired.mono (fun _ _ q => q.sameT t56) hws5) hP
    · rw [places_app]
      simp only [Option.isSome_some, if_true]
      exact Paired.append (Paired.mono (fun _ _ q => q.sameT t6) hpl) (.cons ⟨pth, rfl, t56.1 _ _ hpth5⟩ .nil)
end
end Rd

set_option Elab.async false
set_option linter.all false
set_option maxRecDepth 100000
namespace Rd
open PySem PySem.Spec PyProof.Rows L2
theorem erase_nd {left : List Str} (h : left.Nodup) (i : Nat) : (left.eraseIdx i).Nodup := List.Sublist.nodup (List.eraseIdx_sublist _ _) h
theorem erase_out : ∀ {left : List Str} {i : Nat} {c : Str}, left.Nodup → left[i]? = some c → c ∉ left.eraseIdx i
  | [], i, c, _, h => by simp at h
  | x :: r, 0, c, nd, h => by
    simp only [List.getElem?_cons_zero, Option.some.injEq] at h
    subst h
    rw [List.nodup_cons] at nd
    exact nd.1
  | x :: r, i + 1, c, nd, h => by
    simp only [List.getElem?_cons_succ] at h
    rw [List.nodup_cons] at nd
    rw [List.eraseIdx_cons_succ]
    intro z
    rcases List.mem_cons.mp z with e | e
    · exact nd.1 (by rw [← e]; exact List.mem_of_getElem? h)
    · exact erase_out nd.2 h e
theorem mem_erase {left : List Str} {i : Nat} {c : Str} (h : c ∈ left.eraseIdx i) : c ∈ left := (List.eraseIdx_sublist _ _).mem h
theorem lookup_app {p r : Log} {c : Str} (h : c ∉ cells p) : (p ++ r).lookup c = r.lookup c := by
  induction p with
  | nil => rfl
  | cons x p ih =>
    obtain ⟨d, n⟩ := x
    have h : c ∉ d :: cells p := h
    rw [List.mem_cons, not_or] at h
    rw [List.cons_append, List.lookup_cons, show (c == d) = false from beq_eq_false_iff_ne.mpr h.1]
    exact ih h.2
theorem vl_app {p r : Log} {c : Str} {n : Int} (h : c ∉ cells p) : vl (p ++ (c, n) :: r) c = n := by
  unfold vl
  rw [lookup_app h, List.lookup_cons, beq_self_eq_true]
  rfl
theorem lk_app {p r : Log} {c : Str} {n : Int} : ((p ++ (c, n) :: r).lookup c).isSome = true := lookup_mem.mpr (by simp [cells])
mutual
theorem good_slim : ∀ (t : Rt) (left : List Str) (many deep : Nat), GoodT t left many deep → Slim t
  | .leaf, _, _, _, _ => trivial
  | .node c ks, left, many, deep, h => by
    obtain ⟨spot, w, h1, h2, h3, h4, h5, h6⟩ := h
    refine ⟨fun e => ?_, goods_slim ks _ _ _ _ _ h6⟩
    rw [e] at h6
    have h6 : 0 = w := h6
    omega
theorem goods_slim : ∀ (ks : Rts) (left : List Str) (many deep i w : Nat), GoodKs ks left many deep i w → Slims ks
  | .nil, _, _, _, _, _, _ => trivial
  | .cons n t r, left, many, deep, i, w, h => ⟨good_slim t _ _ _ h.2.2.1, goods_slim r _ _ _ _ _ h.2.2.2⟩
end
mutual
theorem good_count : ∀ (t : Rt) (left : List Str) (many deep : Nat) (p : Log), GoodT t left many deep → 1 ≤ many → (lv t p).length ≤ many
  | .leaf, _, many, _, p, _, h1 => h1
  | .node c ks, left, many, deep, p, h, _ => by
    obtain ⟨spot, w, h1, h2, h3, h4, h5, h6⟩ := h
    have := goods_count c ks _ _ _ _ _ p h6 (Nat.div_pos h3 (by omega))
    rw [Nat.sub_zero] at this
    exact Nat.le_trans this (Nat.mul_div_le _ _)
theorem goods_count (c : Str) : ∀ (ks : Rts) (left : List Str) (many deep i w : Nat) (p : Log), GoodKs ks left many deep i w → 1 ≤ many → (lvs c ks p).length ≤ (w - i) * many
  | .nil, _, _, _, _, _, _, _, _ => Nat.zero_le _
  | .cons n t r, left, many, deep, i, w, p, h, h1 => by
    obtain ⟨q1, q2, q3, q4⟩ := h
    have a := good_count t _ _ _ (p ++ [(c, n)]) q3 h1
    have b := goods_count c r _ _ _ _ _ p q4 h1
    show (lv t (p ++ [(c, n)]) ++ lvs c r p).length ≤ _
    rw [List.length_append]
    have e : w - i = (w - (i + 1)) + 1 := by omega
    rw [e, Nat.succ_mul]
    omega
end
/-- a path behind a reader's root -/
structure PathOk (left : List Str) (deep : Nat) (r : Log) : Prop where
  mem : ∀ x ∈ r, x.1 ∈ left ∧ 0 ≤ x.2 ∧ x.2 < 5
  nd : (cells r).Nodup
  len : r.length + deep ≤ 8
mutual
theorem good_path : ∀ (t : Rt) (left : List Str) (many deep : Nat) (p : Log), GoodT t left many deep → left.Nodup → deep ≤ 8 → ∀ q ∈ lv t p, ∃ r, q = p ++ r ∧ PathOk left deep r
  | .leaf, left, many, deep, p, _, _, h8, q, hq => ⟨[], by rw [List.append_nil]; exact List.mem_singleton.mp hq, fun x hx => (by cases hx), List.nodup_nil, by show 0 + deep ≤ 8; omega⟩
  | .node c ks, left, many, deep, p, h, nd, h8, q, hq => by
    obtain ⟨spot, w, h1, h2, h3, h4, h5, h6⟩ := h
    obtain ⟨n, r, e, n0, n5, pk⟩ := goods_path c ks _ _ _ _ _ p h6 (erase_nd nd spot) (by omega) h4 q hq
    refine ⟨(c, n) :: r, e, fun x hx => ?_, ?_, ?_⟩
    · rcases List.mem_cons.mp hx with z | z
      · rw [z]
        exact ⟨List.mem_of_getElem? h1, n0, n5⟩
      · have := pk.mem x z
        exact ⟨mem_erase this.1, this.2⟩
    · show (c :: cells r).Nodup
      rw [List.nodup_cons]
      refine ⟨fun z => ?_, pk.nd⟩
      obtain ⟨x, hx, e⟩ := List.mem_map.mp z
      have := (pk.mem x hx).1
      rw [e] at this
      exact erase_out nd h1 this
    · have := pk.len
      rw [List.length_cons]
      omega
theorem goods_path (c : Str) : ∀ (ks : Rts) (left : List Str) (many deep i w : Nat) (p : Log), GoodKs ks left many deep i w → left.Nodup → deep ≤ 8 → w ≤ 5 → ∀ q ∈ lvs c ks p, ∃ (n : Int) (r : Log), q = p ++ (c, n) :: r ∧ 0 ≤ n ∧ n < 5 ∧ PathOk left deep r
  | .nil, _, _, _, _, _, _, _, _, _, _, q, hq => by cases hq
  | .cons n t r, left, many, deep, i, w, p, h, nd, h8, h5, q, hq => by
    obtain ⟨q1, q2, q3, q4⟩ := h
    rcases List.mem_append.mp (show q ∈ lv t (p ++ [(c, n)]) ++ lvs c r p from hq) with z | z
    · obtain ⟨r', e, pk⟩ := good_path t _ _ _ _ q3 nd h8 q z
      exact ⟨n, r', by rw [e, List.append_assoc]; rfl, by omega, by omega, pk⟩
    · exact goods_path c r _ _ _ _ _ p q4 nd h8 h5 q z
end
theorem goods_mem (c : Str) : ∀ (ks : Rts) (left : List Str) (many deep i w : Nat) (p : Log), GoodKs ks left many deep i w → ∀ q ∈ lvs c ks p, ∃ (n : Int) (t : Rt), (i : Int) ≤ n ∧ GoodT t left many deep ∧ q ∈ lv t (p ++ [(c, n)])
  | .nil, _, _, _, _, _, _, _, q, hq => by cases hq
  | .cons n t r, left, many, deep, i, w, p, h, q, hq => by
    obtain ⟨q1, q2, q3, q4⟩ := h
    rcases List.mem_append.mp (show q ∈ lv t (p ++ [(c, n)]) ++ lvs c r p from hq) with z | z
    · exact ⟨n, t, by omega, q3, z⟩
    · obtain ⟨m, t', h1, h2, h3⟩ := goods_mem c r _ _ _ _ _ p q4 q z
      exact ⟨m, t', by omega, h2, h3⟩
theorem goods_val {c : Str} {ks : Rts} {left : List Str} {many deep i w : Nat} {p : Log} (h : GoodKs ks left many deep i w) (hc : c ∉ cells p) {q : Log} (hq : q ∈ lvs c ks p) : (i : Int) ≤ vl q c := by
  obtain ⟨n, t, h1, h2, h3⟩ := goods_mem c ks _ _ _ _ _ p h q hq
  obtain ⟨r, e⟩ := lv_pre t _ q h3
  rw [e, List.append_assoc]
  show (i : Int) ≤ vl (p ++ (c, n) :: r) c
  rw [vl_app hc]
  exact h1
theorem good_two {t : Rt} {left : List Str} {many deep : Nat} {p : Log} (h : GoodT t left many deep) (h1 : 10 ≤ many) (h2 : deep ≤ 6) : ∀ q ∈ lv t p, p.length + 2 ≤ q.length := by
  intro q hq
  cases t with
  | leaf =>
    have h : many < 2 ∨ 7 < deep := h
    omega
  | node c ks =>
    obtain ⟨spot, w, g1, g2, g3, g4, g5, g6⟩ := h
    obtain ⟨n, t, h3, h4, h5⟩ := goods_mem c ks _ _ _ _ _ p g6 q hq
    have hm : 2 ≤ many / w := by
      rw [Nat.le_div_iff_mul_le (by omega)]
      omega
    cases t with
    | leaf =>
      have h4 : many / w < 2 ∨ 7 < deep + 1 := h4
      omega
    | node c2 ks2 =>
      obtain ⟨spot2, w2, k1, k2, k3, k4, k5, k6⟩ := h4
      obtain ⟨n2, t2, h6, h7, h8⟩ := goods_mem c2 ks2 _ _ _ _ _ _ k6 q h5
      obtain ⟨r, e⟩ := lv_pre t2 _ q h8
      rw [e]
      simp
mutual
theorem good_ns : ∀ (t : Rt) (left : List Str) (many deep : Nat) (p : Log), GoodT t left many deep → left.Nodup → (∀ c ∈ cells p, c ∉ left) → ∀ G : List Log, G.Sublist (lv t p) → ¬ Stuck G
  | .leaf, _, _, _, p, _, _, _, G, s, st => by
    have := s.length_le
    have := st.1
    have e : (lv .leaf p).length = 1 := rfl
    omega
  | .node c ks, left, many, deep, p, h, nd, hp, G, s, st => by
    obtain ⟨spot, w, h1, h2, h3, h4, h5, h6⟩ := h
    have hcp : c ∉ cells p := fun z => hp c z (List.mem_of_getElem? h1)
    have hne : G ≠ [] := fun z => by rw [z] at st; exact absurd st.1 (by decide)
    obtain ⟨g0, hg0⟩ := List.exists_mem_of_ne_nil G hne
    have hcs : c ∈ shared G := shared_mem hne fun l hl => by
      obtain ⟨n, t, _, _, q⟩ := goods_mem c ks _ _ _ _ _ p h6 l (s.mem hl)
      obtain ⟨r, e⟩ := lv_pre t _ l q
      rw [e, List.append_assoc]
      exact lk_app
    have e : G = G.filter fun m => vl m c == vl g0 c := by
      symm
      rw [List.filter_eq_self]
      exact fun m hm => beq_iff_eq.mpr (st.2 c hcs m hm g0 hg0)
    refine goods_ns c ks _ _ _ _ _ p h6 (erase_nd nd spot) (fun d hd z => ?_) hcp (vl g0 c) G ?_ st
    · rcases List.mem_cons.mp hd with q | q
      · rw [q] at z
        exact erase_out nd h1 z
      · exact hp d q (mem_erase z)
    · rw [e]
      exact s.filter _
theorem goods_ns (c : Str) : ∀ (ks : Rts) (left : List Str) (many deep i w : Nat) (p : Log), GoodKs ks left many deep i w → left.Nodup → (∀ d ∈ c :: cells p, d ∉ left) → c ∉ cells p → ∀ (n0 : Int) (G : List Log), G.Sublist ((lvs c ks p).filter fun m => vl m c == n0) → ¬ Stuck G
  | .nil, _, _, _, _, _, p, _, _, _, _, n0, G, s, st => by
    have := s.length_le
    have := st.1
    have e : ((lvs c .nil p).filter fun m => vl m c == n0).length = 0 := rfl
    omega
  | .cons n t r, left, many, deep, i, w, p, h, nd, hp, hcp, n0, G, s, st => by
    obtain ⟨q1, q2, q3, q4⟩ := h
    have hval : ∀ q ∈ lv t (p ++ [(c, n)]), vl q c = n := fun q hq => by
      obtain ⟨r', e⟩ := lv_pre t _ q hq
      rw [e, List.append_assoc]
      exact vl_app hcp
    have s : G.Sublist ((lv t (p ++ [(c, n)]) ++ lvs c r p).filter fun m => vl m c == n0) := s
    rw [List.filter_append] at s
    by_cases e : n = n0
    · have e2 : ((lvs c r p).filter fun m => vl m c == n0) = [] := by
        rw [List.filter_eq_nil_iff]
        intro q hq z
        have := goods_val q4 hcp hq
        have z := beq_iff_eq.mp z
        omega
      rw [e2, List.append_nil] at s
      refine good_ns t _ _ _ (p ++ [(c, n)]) q3 nd (fun d hd => ?_) G (s.trans List.filter_sublist) st
      unfold cells at hd
      rw [List.map_append] at hd
      rcases List.mem_append.mp hd with z | z
      · exact hp d (List.mem_cons_of_mem _ z)
      · refine hp d ?_
        rw [List.mem_singleton.mp z]
        exact List.mem_cons_self
    · have e2 : ((lv t (p ++ [(c, n)])).filter fun m => vl m c == n0) = [] := by
        rw [List.filter_eq_nil_iff]
        intro q hq z
        exact e ((hval q hq).symm.trans (beq_iff_eq.mp z))
      rw [e2, List.nil_append] at s
      exact goods_ns c r _ _ _ _ _ p q4 nd hp hcp n0 G s st
end
/-! ### sorted logs -/
theorem lookup_some_mem {l : Log} (nd : (cells l).Nodup) {c : Str} {v : Int} (h : (c, v) ∈ l) : l.lookup c = some v := by
  induction l with
  | nil => cases h
  | cons x r ih =>
    obtain ⟨d, n⟩ := x
    have nd : (d :: cells r).Nodup := nd
    rw [List.nodup_cons] at nd
    rw [List.lookup_cons]
    rcases List.mem_cons.mp h with e | e
    · cases e
      rw [beq_self_eq_true]
    · have ne : c ≠ d := fun z => nd.1 (by rw [← z]; exact List.mem_map.mpr ⟨_, e, rfl⟩)
      rw [show (c == d) = false from beq_eq_false_iff_ne.mpr ne]
      exact ih nd.2 e
theorem lookup_perm {l m : Log} (nd : (cells l).Nodup) (p : l.Perm m) (c : Str) : l.lookup c = m.lookup c := by
  have ndm : (cells m).Nodup := (List.Perm.map (fun q : Str × Int => q.1) p).nodup_iff.mp nd
  cases h : l.lookup c with
  | some v => exact (lookup_some_mem ndm (p.mem_iff.mp (mem_of_lookup h))).symm
  | none =>
    cases h2 : m.lookup c with
    | none => rfl
    | some v =>
      have := lookup_some_mem nd (p.mem_iff.mpr (mem_of_lookup h2))
      rw [h] at this
      cases this
theorem stuck_same {G G' : List Log} (f : Log → Log) (p : G.Perm (G'.map f)) (hf : ∀ g ∈ G', ∀ c, (f g).lookup c = g.lookup c) (st : Stuck G) : Stuck G' := by
  have hlen : G.length = G'.length := by rw [p.length_eq, List.length_map]
  have hm : ∀ g ∈ G', f g ∈ G := fun g hg => p.mem_iff.mpr (List.mem_map.mpr ⟨g, hg, rfl⟩)
  have hv : ∀ g ∈ G', ∀ c, vl (f g) c = vl g c := fun g hg c => by unfold vl; rw [hf g hg c]
  have hne : G ≠ [] := fun z => by rw [z] at st; exact absurd st.1 (by decide)
  refine ⟨by rw [← hlen]; exact st.1, fun c hc l hl m hm' => ?_⟩
  have hcG : c ∈ shared G := shared_mem hne fun x hx => by
    obtain ⟨g, hg, rfl⟩ := List.mem_map.mp (p.mem_iff.mp hx)
    rw [hf g hg c]
    exact mem_shared hc g hg
  rw [← hv l hl c, ← hv m hm' c]
  exact st.2 c hcG _ (hm l hl) _ (hm m hm')
/-- the logs of a reader that law_wide makes -/
def logsT (t : Rt) : List Log := sortLogs ((lv t []).map sortLog)
theorem mem_logsT {t : Rt} {l : Log} (h : l ∈ logsT t) : ∃ q ∈ lv t [], l = sortLog q := by
  obtain ⟨q, hq, e⟩ := List.mem_map.mp ((sortLogs_perm _).mem_iff.mp h)
  exact ⟨q, hq, e.symm⟩
theorem good_log {t : Rt} {bud : Nat} (h : GoodT t names30 bud 0) (h1 : 100 ≤ bud) {q : Log} (hq : q ∈ lv t []) : LogOk q ∧ 2 ≤ q.length ∧ zz ∉ cells q := by
  obtain ⟨r, e, pk⟩ := good_path t _ _ _ [] h names_nd (by omega) q hq
  rw [List.nil_append] at e
  subst e
  have h2 := good_two h (by omega) (by omega) q hq
  rw [List.length_nil, Nat.zero_add] at h2
  refine ⟨⟨pk.nd, fun z => by rw [z] at h2; simp at h2, pk.len, fun x hx => (pk.mem x hx).2, fun x hx => (names_ok x.1 (pk.mem x hx).1).1⟩, h2, fun z => ?_⟩
  obtain ⟨x, hx, e⟩ := List.mem_map.mp z
  exact (names_ok x.1 (pk.mem x hx).1).2 e
theorem good_len {t : Rt} {bud : Nat} (h : GoodT t names30 bud 0) (h1 : 100 ≤ bud) : (logsT t).length ≤ bud ∧ logsT t ≠ [] := by
  have e : (logsT t).length = (lv t []).length := by
    unfold logsT
    rw [(sortLogs_perm _).length_eq, List.length_map]
  refine ⟨by rw [e]; exact good_count t _ _ _ [] h (by omega), fun z => ?_⟩
  rw [z] at e
  exact lv_ne t [] (good_slim t _ _ _ h) (List.eq_nil_of_length_eq_zero e.symm)
theorem good_may {t : Rt} {bud : Nat} (h : GoodT t names30 bud 0) (h1 : 100 ≤ bud) (h2 : bud ≤ 200) : MayOk (logsT t) := by
  have hl := good_len h h1
  have key : ∀ l ∈ logsT t, LogOk l ∧ 2 ≤ l.length ∧ zz ∉ cells l := fun l hl => by
    obtain ⟨q, hq, rfl⟩ := mem_logsT hl
    obtain ⟨a, b, c⟩ := good_log h h1 hq
    refine ⟨a.perm (sortLog_perm q), by rw [sortLog_len]; exact b, fun z => c ?_⟩
    exact ((sortLog_perm q).map (·.1)).mem_iff.mp z
  exact ⟨⟨fun l hm => (key l hm).1, by omega⟩, by omega, hl.2, fun l hm => (key l hm).2.1, fun l hm => (key l hm).2.2⟩
theorem good_nostuck {t : Rt} {bud : Nat} (h : GoodT t names30 bud 0) (h1 : 100 ≤ bud) : NoStuck (logsT t) := fun G s st => by
  obtain ⟨G1, p1, s1⟩ := List.exists_perm_sublist s (sortLogs_perm _)
  obtain ⟨G2, s2, e⟩ := List.sublist_map_iff.mp s1
  subst e
  refine good_ns t _ _ _ [] h names_nd (fun c hc => (by cases hc)) G2 s2 (stuck_same sortLog p1.symm (fun g hg c => ?_) st)
  exact (lookup_perm (good_log h h1 (s2.mem hg)).1.nd (sortLog_perm g).symm c).symm
theorem logsT_srt {t : Rt} {l : Log} (h : l ∈ logsT t) : sortLog l = l := by
  obtain ⟨q, _, rfl⟩ := mem_logsT h
  exact sortLog_idem q
end Rd

set_option Elab.async false
set_option linter.all false
set_option maxRecDepth 100000
namespace Rd
open PySem PySem.Spec PyProof.Rows L2
abbrev nLaw : List Str := ["_law_script", "_law_box_here", "_law_reader", "_law_some", "_law_altered", "_law_due", "_law_group"]
theorem scLaw : FnScope nLaw ["_law_script"] (defScope sLaw) := ⟨rfl, rfl, rfl, by decide +kernel, rfl, by decide +kernel, by decide +kernel⟩
/-- what law(script) promises -/
def spLaw (K : PySem.W.Frag) : Sp := fun vs H Q _ => ∃ (a : Addr) (ns : List Int), vs = [.ref a] ∧ SqL K H a (ns.map V.int) ∧ ∀ H', Q (.bl true) H'
theorem ok_law {P : Program} {w : World} {K : PySem.W.Frag} {mg : Str → Option Value} {base : Heap} {T f : Addr} {fd : FuncData} (F : Fun K "law" "law" sLaw f fd) (B : Bl mg)
    (CB : Cal P w K mg base 1 "_law_box" ["_law_script", "_law_k"] (spBox K)) (CT : Cal P w K mg base 1 "_law_take" ["_law_box_here", "_law_upon"] (spTake K)) (CN : Cal P w K mg base 1 "_law_names" ["_law_count"] (spNames K))
    (CW : Cal P w K mg base 2 "_law_wide" ["_law_box_here", "_law_names_here", "_law_budget"] (spWide K)) (CL : Cal P w K mg base 1 "_law_leaves" ["_law_tree"] (spLeaves K)) (CH : Cal P w K mg base 5 "has_reader" ["logs"] (spHas K))
    (CR : CalR P w K mg base T) (CS : Cal P w K mg base 6 "stuck_group" ["logs"] (spGroup K)) (CC : Cal P w K mg base 2 "_law_changed" ["_law_box_here", "_law_some"] (spChanged K))
    (CP : Cal P w K mg base 1 "_law_parted" ["_law_family"] (spParted K)) (CG : Cal P w K mg base 1 "_law_is_group" ["_law_some", "_law_group"] (spIsGroup K)) : FnOk P w K mg base CX0 14 f fd ["_law_script"] (spLaw K) := by
  refine F.ok scLaw (fun vs H Q E h => ?_) (fun cdv A outer s H vs Q E hr h => ?_)
  · obtain ⟨a, ns, rfl, _⟩ := h
    rfl
  obtain ⟨a, ns, rfl, hS, q⟩ := h
  refine ⟨_, pss_cons (ps_set (i := 1) scLaw.nd rfl (Or.inl rfl) (CB.call (hr.mono (by decide)) (pa_cons (pv 0) (pa_cons pe_int pa_nil))))
    (pss_cons (ps_set (i := 2) scLaw.nd rfl (Or.inl rfl) (CW.call (hr.mono (by decide)) (pa_cons (pv 1) (pa_cons (CN.call (hr.mono (by decide)) (pa_cons pe_int pa_nil)) (pa_cons (pe_op op_add pe_int (CT.call (hr.mono (by decide)) (pa_cons (pv 1) (pa_cons pe_int pa_nil)))) pa_nil)))))
    (pss_cons (ps_set (i := 3) scLaw.nd rfl (Or.inl rfl) (CL.call (hr.mono (by decide)) (pa_cons (pv 2) pa_nil)))
    (pss_cons (ps_if (PW.pt (pw_or (pt_cmpR op_notBl (CH.call (hr.mono (by decide)) (pa_cons (pv 3) pa_nil)) pe_bl (nomark _)) (pw_or (pt_cmpR (op_neD hr.units) (CL.call (hr.mono (by decide)) (pa_cons (CR.call hr (pa_cons (pv 3) pa_nil)) pa_nil)) (pv 3) (nomark _))
        (pw_or1 (pt_cmpR op_notN (CS.call (hr.mono (by decide)) (pa_cons (pv 3) pa_nil)) pe_non (nomark _)))))) (pss_one (ps_ret pe_bl)) pss_nil)
    (pss_cons (ps_set (i := 4) scLaw.nd rfl (Or.inl rfl) (CC.call (hr.mono (by decide)) (pa_cons (pv 1) (pa_cons (pv 3) pa_nil))))
    (pss_cons (ps_set (i := 5) scLaw.nd rfl (Or.inl rfl) (CP.call (hr.mono (by decide)) (pa_cons (pv 4) pa_nil)))
    (pss_cons (ps_if (pt_cmpR op_ne (pe_callB call_reprB (by rfl) B.repr bt_repr (pa_cons (CH.call (hr.mono (by decide)) (pa_cons (pv 4) pa_nil)) pa_nil)) (pe_callB call_reprB (by rfl) B.repr bt_repr (pa_cons (pv 5) pa_nil)) (nomark _)) (pss_one (ps_ret pe_bl)) pss_nil)
    (pss_cons (ps_set (i := 6) scLaw.nd rfl (Or.inl rfl) (CS.call (hr.mono (by decide)) (pa_cons (pv 4) pa_nil)))
    (pss_one (ps_ret (pe_ifExp (pt_val (pv 5)) (pe_cmpR op_isN (pv 6) pe_non (nomark _)) (CG.call (hr.mono (by decide)) (pa_cons (pv 4) (pa_cons (pv 6) pa_nil)))))))))))))  , ?_⟩
  refine ⟨_, rfl, a, ns, rfl, hS, fun b own mx hb h0 h1 h2 => ?_⟩
  have hbox : BoxOk (upd H b (.lst [.int own, .int mx, .int 0])) b 0 := ⟨own, mx, 0, upd_same, h0, h1, h2, Nat.le_refl _⟩
  show tSeq _ _ _ _ (upd H b (.lst [.int own, .int mx, .int 0]))
  generalize upd H b (.lst [.int own, .int mx, .int 0]) = H1 at hbox ⊢
  refine ⟨_, rfl, rfl, fun nr H2 s2 hn => ?_⟩
  have hbox2 := hbox.same s2
  refine ⟨_, rfl, b, 101, 0, rfl, hbox2, by omega, by omega, by omega, fun r1 H3 hr1 s3 hbox3 => ?_⟩
  obtain ⟨bl, hbl⟩ := hbox2.lst
  have nnb : nr ≠ b := fun e => by
    rw [e, hbl] at hn
    obtain ⟨own', mx', j', q', _⟩ := hbox2
    rw [hbl] at q'
    injection q' with q'
    injection q' with q'
    rw [q'] at hn
    injection hn with hn
    injection hn with hn
    have := congrArg List.length hn
    rw [List.length_map, names_len] at this
    simp at this
  have hn3 := s3 _ _ nnb hn
  refine ⟨_, _, rfl, rfl, b, nr, 100 + r1, 0 + 1, by simp, hbox3, by omega, hn3, by omega, by omega, fun tv H4 t s4 hbox4 htv hgood => ?_⟩
  have hbud : 100 ≤ 100 + r1 := by omega
  have hbud2 : 100 + r1 ≤ 200 := by omega
  have hmay := good_may hgood hbud hbud2
  have hns := good_nostuck hgood hbud
  have hsrt : ∀ l ∈ logsT t, sortLog l = l := fun l hl => logsT_srt hl
  have hcount : (lv t []).length ≤ 100 + r1 := good_count t _ _ _ [] hgood (by omega)
  have hshaped : SeqAt.shaped (dLogs (logsT t)) = true := shaped_of (lay_logs fun l hl => (hmay.ok.all l hl).nm) (by have := depth_logs (logsT t); omega)
  have heqv : PyData.eqv (dLogs (logsT t)) (dLogs (logsT t)) = true := PySem.SeqAt.eqv_refl _ (lay_logs fun l hl => (hmay.ok.all l hl).nm)
  have hidem : sortLogs (logsT t) = logsT t := sortLogs_idem _
  refine ⟨_, rfl, tv, t, rfl, htv, good_slim t _ _ _ hgood, by omega, fun q hq => ?_, fun sv H5 s5 hsv => ?_⟩
  · obtain ⟨h1, h2, _⟩ := good_log hgood hbud hq
    exact ⟨h1.ne, h1.short⟩
  have hsv : LogsV K H5 sv (logsT t) := hsv
  have hbox5 := hbox4.same s5
  generalize logsT t = L at hmay hns hsrt hshaped heqv hidem hsv
  refine ⟨_, rfl, sv, L, rfl, hsv, hmay.ok, hmay.ne, fun H6 b6 s6 hb6 => ?_⟩
  have eb6 : b6 = true := hb6.mpr hns
  subst eb6
  refine ⟨true, true, rfl, rfl, false, rfl, iteF ?_⟩
  have hsv6 := hsv.same s6
  refine ⟨_, rfl, sv, L, rfl, hsv6, hmay.ok, hmay.ne, hns, hsrt, fun rv H7 t2 s7 ht2 hsl2 hperm => ?_⟩
  have hf2 := hmay.few
  refine ⟨rv, t2, rfl, ht2, hsl2, ?_, fun q hq => ?_, fun lv2 H8 s8 hlv2 => ?_⟩
  · have := hperm.length_eq
    rw [List.length_map] at this
    omega
  · have hm : sortLog q ∈ L := hperm.mem_iff.mp (List.mem_map.mpr ⟨q, hq, rfl⟩)
    have h2 := hmay.two _ hm
    have h8 := (hmay.ok.all _ hm).short
    rw [sortLog_len] at h2 h8
    exact ⟨fun z => by rw [z] at h2; simp at h2, h8⟩
  have hsv8 := hsv6.same (s7.trans s8)
  have hlv2 : LogsV K H8 lv2 L := by
    rw [sortLogs_eq hperm, hidem] at hlv2
    exact hlv2
  refine ⟨_, rfl, dLogs L, dLogs L, hlv2.dp, hsv8.dp, hshaped, hshaped, false, by rw [heqv]; rfl, iteF ?_⟩
  refine ⟨_, rfl, sv, L, rfl, hsv8, hmay.ok, hmay.ne, fun x H9 s9 hx => ?_⟩
  rcases hx with ⟨rfl, _⟩ | ⟨G, _, sG, st⟩
  case inr => exact absurd st (hns G sG)
  refine ⟨rfl, false, rfl, iteF ?_⟩
  have hbox9 := hbox5.same (s6.trans (s7.trans (s8.trans s9)))
  refine ⟨_, rfl, _, rfl, b, sv, L, _, rfl, hbox9, by omega, hsv8.same s9, hmay, fun av H10 M s10 hav hMok hMne => ?_⟩
  refine ⟨_, rfl, av, M, rfl, hav, hMok, hMne, fun H11 due s11 hdue => ?_⟩
  have hav11 := hav.same s11
  refine ⟨_, rfl, av, M, rfl, hav11, hMok, hMne, fun H12 b12 s12 hb12 => ?_⟩
  have eb : b12 = due := Bool.eq_iff_iff.mpr (hb12.trans hdue.symm)
  subst eb
  refine ⟨b12, rfl, _, rfl, b12, rfl, rfl, false, ?_, iteF ?_⟩
  · show V.bl (!decide (V.str (if b12 = true then "True" else "False") = V.str (if b12 = true then "True" else "False"))) = V.bl false
    rw [decide_eq_true rfl]
    rfl
  have hav12 := hav11.same s12
  refine ⟨_, rfl, av, M, rfl, hav12, hMok, hMne, fun x H13 s13 hx => ?_⟩
  refine ⟨_, rfl, b12, rfl, ?_⟩
  cases hd : b12 with
  | true =>
    subst hd
    rcases hx with ⟨rfl, _⟩ | ⟨G, _, sG, st⟩
    · exact iteT ⟨_, rfl, rfl, q H13⟩
    · exact absurd st (hdue.mp rfl G sG)
  | false =>
    subst hd
    rcases hx with ⟨rfl, ns⟩ | ⟨G, hG, sG, st⟩
    · exact absurd (hdue.mpr ns) (by decide)
    · exact iteF ⟨_, rfl, _, rfl, av, x, M, G, rfl, hav12.same s13, hG, hMok, sG, st, q⟩
end Rd

set_option Elab.async false
set_option linter.all false
set_option maxRecDepth 100000
namespace Rd
open PySem PySem.Spec PyProof.Rows L2
theorem known_mk {K : PySem.W.Frag} {h : Heap} {mg : Str → Option Value} {x : Str} {st : Stmt} {ps : List Str} {f : Addr} {fd : FuncData} (X : K.In h) (G : h.Ns mainGlobals mg) (F : Fun K x x st f fd) (a : PySem.W.nsIn K mainGlobals x = some (some (.ref f))) (b : Binds K fd ps []) : Known K mg x st ps :=
  ⟨f, fd, F, PySem.W.mg_of X G a, b⟩
theorem all_mk {l : PySem.W.OpenLaw} {w : World} {K : PySem.W.Frag} {h : Heap} {mg : Str → Option Value} {fa fR DR T f1 f2 f3 f4 f5 f6 f7 f8 f9 f10 f11 f12 f13 f14 f15 f16 f17 f18 f19 f20 f21 f22 f23 : Addr} (X : K.In h) (G : h.Ns mainGlobals mg) (hfa : mg "law" = some (.ref fa))
    {odR anR odT od1 an1 od2 an2 od3 an3 od4 an4 od5 an5 od6 an6 od7 an7 od8 an8 od9 an9 od10 an10 od11 an11 od12 an12 od13 an13 od14 an14 od15 an15 od16 an16 od17 an17 od18 an18 od19 an19 od20 an20 od21 an21 od22 an22 od23 an23 : Option Addr} {slR slT sl1 sl2 sl3 sl4 sl5 sl6 sl7 sl8 sl9 sl10 sl11 sl12 sl13 sl14 sl15 sl16 sl17 sl18 sl19 sl20 sl21 sl22 sl23 : Array (Option Value)} {nT : Nat} {ocR dcR pmR cdR ctR oc1 kV1 dc1 pm1 cd1 ct1 oc2 kV2 dc2 pm2 cd2 ct2 oc3 kV3 dc3 pm3 cd3 ct3 oc4 kV4 dc4 pm4 cd4 ct4 oc5 kV5 dc5 pm5 cd5 ct5 oc6 kV6 dc6 pm6 cd6 ct6 oc7 kV7 dc7 pm7 cd7 ct7 oc8 kV8 dc8 pm8 cd8 ct8 oc9 kV9 dc9 pm9 cd9 ct9 oc10 kV10 dc10 pm10 cd10 ct10 oc11 kV11 dc11 pm11 cd11 ct11 oc12 kV12 dc12 pm12 cd12 ct12 oc13 kV13 dc13 pm13 cd13 ct13 oc14 kV14 dc14 pm14 cd14 ct14 oc15 kV15 dc15 pm15 cd15 ct15 oc16 kV16 dc16 pm16 cd16 ct16 oc17 kV17 dc17 pm17 cd17 ct17 oc18 kV18 dc18 pm18 cd18 ct18 oc19 kV19 dc19 pm19 cd19 ct19 oc20 kV20 dc20 pm20 cd20 ct20 oc21 kV21 dc21 pm21 cd21 ct21 oc22 kV22 dc22 pm22 cd22 ct22 oc23 kV23 dc23 pm23 cd23 ct23 : Value}
    (a1 : PySem.W.nsIn K mainGlobals "shared_cells" = some (some (.ref f1))) (l1 : K.lookup f1 = some ⟨oc1, od1, .func (PySem.W.fnOf "shared_cells" "shared_cells" (defArgs sShared) (defBody sShared) (defScope sShared) .none kV1 dc1 pm1 an1 cd1 ct1), sl1⟩) (c1 : PySem.W.codeIn K cd1 "shared_cells" = true) (k1 : PySem.W.keepIn K (.ref f1) = true)
    (a2 : PySem.W.nsIn K mainGlobals "unread_shared" = some (some (.ref f2))) (l2 : K.lookup f2 = some ⟨oc2, od2, .func (PySem.W.fnOf "unread_shared" "unread_shared" (defArgs sUnread) (defBody sUnread) (defScope sUnread) .none kV2 dc2 pm2 an2 cd2 ct2), sl2⟩) (c2 : PySem.W.codeIn K cd2 "unread_shared" = true) (k2 : PySem.W.keepIn K (.ref f2) = true)
    (a3 : PySem.W.nsIn K mainGlobals "parts_by" = some (some (.ref f3))) (l3 : K.lookup f3 = some ⟨oc3, od3, .func (PySem.W.fnOf "parts_by" "parts_by" (defArgs sParts) (defBody sParts) (defScope sParts) .none kV3 dc3 pm3 an3 cd3 ct3), sl3⟩) (c3 : PySem.W.codeIn K cd3 "parts_by" = true) (k3 : PySem.W.keepIn K (.ref f3) = true)
    (a4 : PySem.W.nsIn K mainGlobals "splitting_cells" = some (some (.ref f4))) (l4 : K.lookup f4 = some ⟨oc4, od4, .func (PySem.W.fnOf "splitting_cells" "splitting_cells" (defArgs sSplit) (defBody sSplit) (defScope sSplit) .none kV4 dc4 pm4 an4 cd4 ct4), sl4⟩) (c4 : PySem.W.codeIn K cd4 "splitting_cells" = true) (k4 : PySem.W.keepIn K (.ref f4) = true)
    (a5 : PySem.W.nsIn K mainGlobals "blocks" = some (some (.ref f5))) (l5 : K.lookup f5 = some ⟨oc5, od5, .func (PySem.W.fnOf "blocks" "blocks" (defArgs sBlocks) (defBody sBlocks) (defScope sBlocks) .none kV5 dc5 pm5 an5 cd5 ct5), sl5⟩) (c5 : PySem.W.codeIn K cd5 "blocks" = true) (k5 : PySem.W.keepIn K (.ref f5) = true)
    (a6 : PySem.W.nsIn K mainGlobals "has_reader" = some (some (.ref f6))) (l6 : K.lookup f6 = some ⟨oc6, od6, .func (PySem.W.fnOf "has_reader" "has_reader" (defArgs sHas) (defBody sHas) (defScope sHas) .none kV6 dc6 pm6 an6 cd6 ct6), sl6⟩) (c6 : PySem.W.codeIn K cd6 "has_reader" = true) (k6 : PySem.W.keepIn K (.ref f6) = true)
    (a7 : PySem.W.nsIn K mainGlobals "stuck_block" = some (some (.ref f7))) (l7 : K.lookup f7 = some ⟨oc7, od7, .func (PySem.W.fnOf "stuck_block" "stuck_block" (defArgs sStuckB) (defBody sStuckB) (defScope sStuckB) .none kV7 dc7 pm7 an7 cd7 ct7), sl7⟩) (c7 : PySem.W.codeIn K cd7 "stuck_block" = true) (k7 : PySem.W.keepIn K (.ref f7) = true)
    (a8 : PySem.W.nsIn K mainGlobals "without" = some (some (.ref f8))) (l8 : K.lookup f8 = some ⟨oc8, od8, .func (PySem.W.fnOf "without" "without" (defArgs sWithout) (defBody sWithout) (defScope sWithout) .none kV8 dc8 pm8 an8 cd8 ct8), sl8⟩) (c8 : PySem.W.codeIn K cd8 "without" = true) (k8 : PySem.W.keepIn K (.ref f8) = true)
    (a9 : PySem.W.nsIn K mainGlobals "single_group" = some (some (.ref f9))) (l9 : K.lookup f9 = some ⟨oc9, od9, .func (PySem.W.fnOf "single_group" "single_group" (defArgs sSingle) (defBody sSingle) (defScope sSingle) .none kV9 dc9 pm9 an9 cd9 ct9), sl9⟩) (c9 : PySem.W.codeIn K cd9 "single_group" = true) (k9 : PySem.W.keepIn K (.ref f9) = true)
    (a10 : PySem.W.nsIn K mainGlobals "stuck_group" = some (some (.ref f10))) (l10 : K.lookup f10 = some ⟨oc10, od10, .func (PySem.W.fnOf "stuck_group" "stuck_group" (defArgs sStuckG) (defBody sStuckG) (defScope sStuckG) .none kV10 dc10 pm10 an10 cd10 ct10), sl10⟩) (c10 : PySem.W.codeIn K cd10 "stuck_group" = true) (k10 : PySem.W.keepIn K (.ref f10) = true)
    (a11 : PySem.W.nsIn K mainGlobals "check_reader" = some (some (.ref f11))) (l11 : K.lookup f11 = some ⟨oc11, od11, .func (PySem.W.fnOf "check_reader" "check_reader" (defArgs sCheckR) (defBody sCheckR) (defScope sCheckR) .none kV11 dc11 pm11 an11 cd11 ct11), sl11⟩) (c11 : PySem.W.codeIn K cd11 "check_reader" = true) (k11 : PySem.W.keepIn K (.ref f11) = true)
    (a12 : PySem.W.nsIn K mainGlobals "check_logs" = some (some (.ref f12))) (l12 : K.lookup f12 = some ⟨oc12, od12, .func (PySem.W.fnOf "check_logs" "check_logs" (defArgs sCheckL) (defBody sCheckL) (defScope sCheckL) .none kV12 dc12 pm12 an12 cd12 ct12), sl12⟩) (c12 : PySem.W.codeIn K cd12 "check_logs" = true) (k12 : PySem.W.keepIn K (.ref f12) = true)
    (a13 : PySem.W.nsIn K mainGlobals "preferred" = some (some (.ref f13))) (l13 : K.lookup f13 = some ⟨oc13, od13, .func (PySem.W.fnOf "preferred" "preferred" (defArgs sPref) (defBody sPref) (defScope sPref) .none kV13 dc13 pm13 an13 cd13 ct13), sl13⟩) (c13 : PySem.W.codeIn K cd13 "preferred" = true) (k13 : PySem.W.keepIn K (.ref f13) = true)
    (a14 : PySem.W.nsIn K mainGlobals "built" = some (some (.ref f14))) (l14 : K.lookup f14 = some ⟨oc14, od14, .func (PySem.W.fnOf "built" "built" (defArgs sBuilt) (defBody sBuilt) (defScope sBuilt) .none kV14 dc14 pm14 an14 cd14 ct14), sl14⟩) (c14 : PySem.W.codeIn K cd14 "built" = true) (k14 : PySem.W.keepIn K (.ref f14) = true)
    (a15 : PySem.W.nsIn K mainGlobals "_law_box" = some (some (.ref f15))) (l15 : K.lookup f15 = some ⟨oc15, od15, .func (PySem.W.fnOf "_law_box" "_law_box" (defArgs sBox) (defBody sBox) (defScope sBox) .none kV15 dc15 pm15 an15 cd15 ct15), sl15⟩) (c15 : PySem.W.codeIn K cd15 "_law_box" = true) (k15 : PySem.W.keepIn K (.ref f15) = true)
    (a16 : PySem.W.nsIn K mainGlobals "_law_take" = some (some (.ref f16))) (l16 : K.lookup f16 = some ⟨oc16, od16, .func (PySem.W.fnOf "_law_take" "_law_take" (defArgs sTake) (defBody sTake) (defScope sTake) .none kV16 dc16 pm16 an16 cd16 ct16), sl16⟩) (c16 : PySem.W.codeIn K cd16 "_law_take" = true) (k16 : PySem.W.keepIn K (.ref f16) = true)
    (a17 : PySem.W.nsIn K mainGlobals "_law_leaves" = some (some (.ref f17))) (l17 : K.lookup f17 = some ⟨oc17, od17, .func (PySem.W.fnOf "_law_leaves" "_law_leaves" (defArgs sLeaves) (defBody sLeaves) (defScope sLeaves) .none kV17 dc17 pm17 an17 cd17 ct17), sl17⟩) (c17 : PySem.W.codeIn K cd17 "_law_leaves" = true) (k17 : PySem.W.keepIn K (.ref f17) = true)
    (a18 : PySem.W.nsIn K mainGlobals "_law_names" = some (some (.ref f18))) (l18 : K.lookup f18 = some ⟨oc18, od18, .func (PySem.W.fnOf "_law_names" "_law_names" (defArgs sNames) (defBody sNames) (defScope sNames) .none kV18 dc18 pm18 an18 cd18 ct18), sl18⟩) (c18 : PySem.W.codeIn K cd18 "_law_names" = true) (k18 : PySem.W.keepIn K (.ref f18) = true)
    (a19 : PySem.W.nsIn K mainGlobals "_law_wide" = some (some (.ref f19))) (l19 : K.lookup f19 = some ⟨oc19, od19, .func (PySem.W.fnOf "_law_wide" "_law_wide" (defArgs sWide) (defBody sWide) (defScope sWide) .none kV19 dc19 pm19 an19 cd19 ct19), sl19⟩) (c19 : PySem.W.codeIn K cd19 "_law_wide" = true) (k19 : PySem.W.keepIn K (.ref f19) = true)
    (a20 : PySem.W.nsIn K mainGlobals "_law_parted" = some (some (.ref f20))) (l20 : K.lookup f20 = some ⟨oc20, od20, .func (PySem.W.fnOf "_law_parted" "_law_parted" (defArgs sParted) (defBody sParted) (defScope sParted) .none kV20 dc20 pm20 an20 cd20 ct20), sl20⟩) (c20 : PySem.W.codeIn K cd20 "_law_parted" = true) (k20 : PySem.W.keepIn K (.ref f20) = true)
    (a21 : PySem.W.nsIn K mainGlobals "_law_changed" = some (some (.ref f21))) (l21 : K.lookup f21 = some ⟨oc21, od21, .func (PySem.W.fnOf "_law_changed" "_law_changed" (defArgs sChanged) (defBody sChanged) (defScope sChanged) .none kV21 dc21 pm21 an21 cd21 ct21), sl21⟩) (c21 : PySem.W.codeIn K cd21 "_law_changed" = true) (k21 : PySem.W.keepIn K (.ref f21) = true)
    (a22 : PySem.W.nsIn K mainGlobals "_law_is_group" = some (some (.ref f22))) (l22 : K.lookup f22 = some ⟨oc22, od22, .func (PySem.W.fnOf "_law_is_group" "_law_is_group" (defArgs sIsGroup) (defBody sIsGroup) (defScope sIsGroup) .none kV22 dc22 pm22 an22 cd22 ct22), sl22⟩) (c22 : PySem.W.codeIn K cd22 "_law_is_group" = true) (k22 : PySem.W.keepIn K (.ref f22) = true)
    (a23 : PySem.W.nsIn K mainGlobals "law" = some (some (.ref f23))) (l23 : K.lookup f23 = some ⟨oc23, od23, .func (PySem.W.fnOf "law" "law" (defArgs sLaw) (defBody sLaw) (defScope sLaw) .none kV23 dc23 pm23 an23 cd23 ct23), sl23⟩) (c23 : PySem.W.codeIn K cd23 "law" = true) (k23 : PySem.W.keepIn K (.ref f23) = true)
    (aR : PySem.W.nsIn K mainGlobals "reader_for" = some (some (.ref fR))) (lR : K.lookup fR = some ⟨ocR, odR, .func (PySem.W.fnOf "reader_for" "reader_for" (defArgs sReader) (defBody sReader) (defScope sReader) .none (.ref DR) dcR pmR anR cdR ctR), slR⟩) (cR : PySem.W.codeIn K cdR "reader_for" = true) (kR : PySem.W.keepIn K (.ref fR) = true)
    (dR : PySem.W.nsIn K DR "prefer" = some (some (.ref T))) (tR : K.lookup T = some ⟨.type "tuple", odT, .seq #[] nT, slT⟩)
    (z_len : PySem.W.nsIn K mainGlobals "len" = some none) (z_dict : PySem.W.nsIn K mainGlobals "dict" = some none) (z_tuple : PySem.W.nsIn K mainGlobals "tuple" = some none) (z_all : PySem.W.nsIn K mainGlobals "all" = some none) (z_any : PySem.W.nsIn K mainGlobals "any" = some none) (z_sorted : PySem.W.nsIn K mainGlobals "sorted" = some none) (z_set : PySem.W.nsIn K mainGlobals "set" = some none) (z_repr : PySem.W.nsIn K mainGlobals "repr" = some none) (z_range : PySem.W.nsIn K mainGlobals "range" = some none) (z_min : PySem.W.nsIn K mainGlobals "min" = some none) (z_abs : PySem.W.nsIn K mainGlobals "abs" = some none) (z_int : PySem.W.nsIn K mainGlobals "int" = some none) (z_list : PySem.W.nsIn K mainGlobals "list" = some none) :
    ∃ fd : FuncData, (∀ (s : Shared) (v : Value), BindsTo s fd ⟨[v], []⟩ [("_law_script", v)]) ∧ ∀ base : Heap, K.In base → base.Ns mainGlobals mg → FnOk l.prog w K mg base CX0 14 fa fd ["_law_script"] (spLaw K) := by
  have e := hfa.symm.trans (PySem.W.mg_of X G a23)
  cases e
  have B : Bl mg := ⟨PySem.W.mg_none_of X G z_len, PySem.W.mg_none_of X G z_dict, PySem.W.mg_none_of X G z_tuple, PySem.W.mg_none_of X G z_all, PySem.W.mg_none_of X G z_any, PySem.W.mg_none_of X G z_sorted, PySem.W.mg_none_of X G z_set, PySem.W.mg_none_of X G z_repr, PySem.W.mg_none_of X G z_range, PySem.W.mg_none_of X G z_min, PySem.W.mg_none_of X G z_abs, PySem.W.mg_none_of X G z_int, PySem.W.mg_none_of X G z_list⟩
  have F1 := fun_mk (st := sShared) l1 c1 k1
  have N1 : Known K mg "shared_cells" sShared ["logs"] := known_mk X G F1 a1 (F1.binds (ps := ["logs"]) fun _ _ _ _ _ _ us hl => match us, hl with | [_], _ => rfl)
  have F2 := fun_mk (st := sUnread) l2 c2 k2
  have N2 : Known K mg "unread_shared" sUnread ["logs", "done"] := known_mk X G F2 a2 (F2.binds (ps := ["logs", "done"]) fun _ _ _ _ _ _ us hl => match us, hl with | [_, _], _ => rfl)
  have F3 := fun_mk (st := sParts) l3 c3 k3
  have N3 : Known K mg "parts_by" sParts ["logs", "cell"] := known_mk X G F3 a3 (F3.binds (ps := ["logs", "cell"]) fun _ _ _ _ _ _ us hl => match us, hl with | [_, _], _ => rfl)
  have F4 := fun_mk (st := sSplit) l4 c4 k4
  have N4 : Known K mg "splitting_cells" sSplit ["logs"] := known_mk X G F4 a4 (F4.binds (ps := ["logs"]) fun _ _ _ _ _ _ us hl => match us, hl with | [_], _ => rfl)
  have F5 := fun_mk (st := sBlocks) l5 c5 k5
  have N5 : Known K mg "blocks" sBlocks ["logs"] := known_mk X G F5 a5 (F5.binds (ps := ["logs"]) fun _ _ _ _ _ _ us hl => match us, hl with | [_], _ => rfl)
  have F6 := fun_mk (st := sHas) l6 c6 k6
  have N6 : Known K mg "has_reader" sHas ["logs"] := known_mk X G F6 a6 (F6.binds (ps := ["logs"]) fun _ _ _ _ _ _ us hl => match us, hl with | [_], _ => rfl)
  have F7 := fun_mk (st := sStuckB) l7 c7 k7
  have N7 : Known K mg "stuck_block" sStuckB ["logs"] := known_mk X G F7 a7 (F7.binds (ps := ["logs"]) fun _ _ _ _ _ _ us hl => match us, hl with | [_], _ => rfl)
  have F8 := fun_mk (st := sWithout) l8 c8 k8
  have N8 : Known K mg "without" sWithout ["logs", "at"] := known_mk X G F8 a8 (F8.binds (ps := ["logs", "at"]) fun _ _ _ _ _ _ us hl => match us, hl with | [_, _], _ => rfl)
  have F9 := fun_mk (st := sSingle) l9 c9 k9
  have N9 : Known K mg "single_group" sSingle ["logs"] := known_mk X G F9 a9 (F9.binds (ps := ["logs"]) fun _ _ _ _ _ _ us hl => match us, hl with | [_], _ => rfl)
  have F10 := fun_mk (st := sStuckG) l10 c10 k10
  have N10 : Known K mg "stuck_group" sStuckG ["logs"] := known_mk X G F10 a10 (F10.binds (ps := ["logs"]) fun _ _ _ _ _ _ us hl => match us, hl with | [_], _ => rfl)
  have F11 := fun_mk (st := sCheckR) l11 c11 k11
  have N11 : Known K mg "check_reader" sCheckR ["logs"] := known_mk X G F11 a11 (F11.binds (ps := ["logs"]) fun _ _ _ _ _ _ us hl => match us, hl with | [_], _ => rfl)
  have F12 := fun_mk (st := sCheckL) l12 c12 k12
  have N12 : Known K mg "check_logs" sCheckL ["logs"] := known_mk X G F12 a12 (F12.binds (ps := ["logs"]) fun _ _ _ _ _ _ us hl => match us, hl with | [_], _ => rfl)
  have F13 := fun_mk (st := sPref) l13 c13 k13
  have N13 : Known K mg "preferred" sPref ["cells", "prefer"] := known_mk X G F13 a13 (F13.binds (ps := ["cells", "prefer"]) fun _ _ _ _ _ _ us hl => match us, hl with | [_, _], _ => rfl)
  have F14 := fun_mk (st := sBuilt) l14 c14 k14
  have N14 : Known K mg "built" sBuilt ["logs", "done", "prefer"] := known_mk X G F14 a14 (F14.binds (ps := ["logs", "done", "prefer"]) fun _ _ _ _ _ _ us hl => match us, hl with | [_, _, _], _ => rfl)
  have F15 := fun_mk (st := sBox) l15 c15 k15
  have N15 : Known K mg "_law_box" sBox ["_law_script", "_law_k"] := known_mk X G F15 a15 (F15.binds (ps := ["_law_script", "_law_k"]) fun _ _ _ _ _ _ us hl => match us, hl with | [_, _], _ => rfl)
  have F16 := fun_mk (st := sTake) l16 c16 k16
  have N16 : Known K mg "_law_take" sTake ["_law_box_here", "_law_upon"] := known_mk X G F16 a16 (F16.binds (ps := ["_law_box_here", "_law_upon"]) fun _ _ _ _ _ _ us hl => match us, hl with | [_, _], _ => rfl)
  have F17 := fun_mk (st := sLeaves) l17 c17 k17
  have N17 : Known K mg "_law_leaves" sLeaves ["_law_tree"] := known_mk X G F17 a17 (F17.binds (ps := ["_law_tree"]) fun _ _ _ _ _ _ us hl => match us, hl with | [_], _ => rfl)
  have F18 := fun_mk (st := sNames) l18 c18 k18
  have N18 : Known K mg "_law_names" sNames ["_law_count"] := known_mk X G F18 a18 (F18.binds (ps := ["_law_count"]) fun _ _ _ _ _ _ us hl => match us, hl with | [_], _ => rfl)
  have F19 := fun_mk (st := sWide) l19 c19 k19
  have N19 : Known K mg "_law_wide" sWide ["_law_box_here", "_law_names_here", "_law_budget"] := known_mk X G F19 a19 (F19.binds (ps := ["_law_box_here", "_law_names_here", "_law_budget"]) fun _ _ _ _ _ _ us hl => match us, hl with | [_, _, _], _ => rfl)
  have F20 := fun_mk (st := sParted) l20 c20 k20
  have N20 : Known K mg "_law_parted" sParted ["_law_family"] := known_mk X G F20 a20 (F20.binds (ps := ["_law_family"]) fun _ _ _ _ _ _ us hl => match us, hl with | [_], _ => rfl)
  have F21 := fun_mk (st := sChanged) l21 c21 k21
  have N21 : Known K mg "_law_changed" sChanged ["_law_box_here", "_law_some"] := known_mk X G F21 a21 (F21.binds (ps := ["_law_box_here", "_law_some"]) fun _ _ _ _ _ _ us hl => match us, hl with | [_, _], _ => rfl)
  have F22 := fun_mk (st := sIsGroup) l22 c22 k22
  have N22 : Known K mg "_law_is_group" sIsGroup ["_law_some", "_law_group"] := known_mk X G F22 a22 (F22.binds (ps := ["_law_some", "_law_group"]) fun _ _ _ _ _ _ us hl => match us, hl with | [_, _], _ => rfl)
  have F23 := fun_mk (st := sLaw) l23 c23 k23
  have NR : KnownR K mg T := ⟨⟨fR, _, ⟨⟨ocR, odR, .none, .ref DR, dcR, pmR, anR, cdR, ctR, slR, rfl, lR, cR, .inl ⟨rfl, rfl⟩, .inr ⟨DR, rfl, fun q hq => by
    have e : q = (("prefer" : Str), V.ref T) := List.mem_singleton.mp hq
    subst e
    exact ⟨_, dR, rfl⟩⟩⟩, kR⟩, PySem.W.mg_of X G aR⟩, _, _, tR, rfl, rfl⟩
  refine ⟨PySem.W.fnOf "law" "law" (defArgs sLaw) (defBody sLaw) (defScope sLaw) .none kV23 dc23 pm23 an23 cd23 ct23, fun s v => .of_eq rfl, fun base _ _ => ?_⟩
  have c_shared := cal_shared (P := l.prog) (w := w) (base := base) N1 B
  have c_unread := cal_unread N2 c_shared
  have c_parts := cal_parts (P := l.prog) (w := w) (base := base) N3 B
  have c_split := cal_split N4 B c_shared
  have c_blocks := cal_blocks N5 B c_split c_parts
  have c_stuckB := cal_stuckB N7 B c_blocks
  have c_has := cal_has N6 B c_stuckB
  have c_without := cal_without (P := l.prog) (w := w) (base := base) N8
  have c_single := cal_single N9 B c_stuckB c_without
  have c_stuckG := cal_stuckG N10 c_single
  have c_checkR := cal_checkR N11 c_single
  have c_checkL := cal_checkL N12 B c_checkR
  have c_pref := cal_pref (P := l.prog) (w := w) (base := base) N13
  have c_built := cal_built N14 B c_unread c_pref c_parts 9
  have c_reader := cal_reader NR c_checkL c_built
  have c_box := cal_box (P := l.prog) (w := w) (base := base) N15 B
  have c_take := cal_take (P := l.prog) (w := w) (base := base) N16 B
  have c_leaves := cal_leaves (P := l.prog) (w := w) (base := base) N17 B
  have c_names := cal_names (P := l.prog) (w := w) (base := base) N18 B
  have c_wide := cal_wide N19 B c_take
  have c_parted := cal_parted (P := l.prog) (w := w) (base := base) N20 B
  have c_changed := cal_changed N21 B c_take
  have c_isGroup := cal_isGroup (P := l.prog) (w := w) (base := base) N22 B
  exact ok_law F23 B c_box c_take c_names c_wide c_leaves c_has c_reader c_stuckG c_changed c_parted c_isGroup
theorem walk {l : PySem.W.OpenLaw} {q : Program} {loose : List Str} {XP : (Str → Option Value) → Heap → Prop} {YP : World → Heap → Prop} {d : DefRec} {K : Params → PySem.W.Frag} (hn : l.most = some 63) (hdf : d.params.defaults = [])
    (hY : ∀ (w : World) (h : Heap), YP w h → (K w.params).In h)
    (F : ∀ (w : World) (mg : Str → Option Value) (fa : Addr) (h : Heap), (K w.params).In h → h.Ns mainGlobals mg → mg d.name = some (.ref fa) →
      ∃ fd : FuncData, (∀ (s : Shared) (u : Value), BindsTo s fd ⟨[u], []⟩ [("_law_script", u)]) ∧ ∀ base : Heap, (K w.params).In base → base.Ns mainGlobals mg → FnOk l.prog w (K w.params) mg base CX0 14 fa fd ["_law_script"] (spLaw (K w.params))) :
    PySem.W.WalkO q loose XP YP l.row.toRowW d [] (fun f vs => PySem.call f vs) :=
  L2.walk_of (n := 63) (k := 14) (x := "_law_script") (CX := fun _ => CX0) (sp := fun w => spLaw (K w.params)) hn (by decide) hdf ⟨rfl, by decide, by decide⟩ hY F (fun _ _ a ns hl _ hS => ⟨a, ns, rfl, hS, fun _ => rfl⟩) fun _ _ _ _ _ z => z
end Rd

open PySem PySem.W PyProof.Rows in
set_option maxRecDepth 100000 in
set_option maxHeartbeats 0 in
theorem PySem.Challenge.cw_readorder_k72_whole_large_families_holds : PySem.Challenge.rw_readorder_k72_whole_large_families.Holds := by
  w_on; o_law; k_head; (case hw => w_witness2)
  k_fill
  refine Rd.walk (l := PySem.Challenge.rw_readorder_k72_whole_large_families) rfl rfl (fun w h Y => PySem.W.kIn_of Y) ?F
  case F =>
    intro w mg fa h KX G hmg
    refine' Rd.all_mk KX G hmg ?a1 ?l1 ?c1 ?k1 ?a2 ?l2 ?c2 ?k2 ?a3 ?l3 ?c3 ?k3 ?a4 ?l4 ?c4 ?k4 ?a5 ?l5 ?c5 ?k5 ?a6 ?l6 ?c6 ?k6 ?a7 ?l7 ?c7 ?k7 ?a8 ?l8 ?c8 ?k8 ?a9 ?l9 ?c9 ?k9 ?a10 ?l10 ?c10 ?k10 ?a11 ?l11 ?c11 ?k11 ?a12 ?l12 ?c12 ?k12 ?a13 ?l13 ?c13 ?k13 ?a14 ?l14 ?c14 ?k14 ?a15 ?l15 ?c15 ?k15 ?a16 ?l16 ?c16 ?k16 ?a17 ?l17 ?c17 ?k17 ?a18 ?l18 ?c18 ?k18 ?a19 ?l19 ?c19 ?k19 ?a20 ?l20 ?c20 ?k20 ?a21 ?l21 ?c21 ?k21 ?a22 ?l22 ?c22 ?k22 ?a23 ?l23 ?c23 ?k23 ?aR ?lR ?cR ?kR ?dR ?tR ?z_len ?z_dict ?z_tuple ?z_all ?z_any ?z_sorted ?z_set ?z_repr ?z_range ?z_min ?z_abs ?z_int ?z_list
    (case a1 => k_is)
    (case l1 => k_is)
    (case c1 => k_is)
    (case k1 => k_is)
    (case a2 => k_is)
    (case l2 => k_is)
    (case c2 => k_is)
    (case k2 => k_is)
    (case a3 => k_is)
    (case l3 => k_is)
    (case c3 => k_is)
    (case k3 => k_is)
    (case a4 => k_is)
    (case l4 => k_is)
    (case c4 => k_is)
    (case k4 => k_is)
    (case a5 => k_is)
    (case l5 => k_is)
    (case c5 => k_is)
    (case k5 => k_is)
    (case a6 => k_is)
    (case l6 => k_is)
    (case c6 => k_is)
    (case k6 => k_is)
    (case a7 => k_is)
    (case l7 => k_is)
    (case c7 => k_is)
    (case k7 => k_is)
    (case a8 => k_is)
    (case l8 => k_is)
    (case c8 => k_is)
    (case k8 => k_is)
    (case a9 => k_is)
    (case l9 => k_is)
    (case c9 => k_is)
    (case k9 => k_is)
    (case a10 => k_is)
    (case l10 => k_is)
    (case c10 => k_is)
    (case k10 => k_is)
    (case a11 => k_is)
    (case l11 => k_is)
    (case c11 => k_is)
    (case k11 => k_is)
    (case a12 => k_is)
    (case l12 => k_is)
    (case c12 => k_is)
    (case k12 => k_is)
    (case a13 => k_is)
    (case l13 => k_is)
    (case c13 => k_is)
    (case k13 => k_is)
    (case a14 => k_is)
    (case l14 => k_is)
    (case c14 => k_is)
    (case k14 => k_is)
    (case a15 => k_is)
    (case l15 => k_is)
    (case c15 => k_is)
    (case k15 => k_is)
    (case a16 => k_is)
    (case l16 => k_is)
    (case c16 => k_is)
    (case k16 => k_is)
    (case a17 => k_is)
    (case l17 => k_is)
    (case c17 => k_is)
    (case k17 => k_is)
    (case a18 => k_is)
    (case l18 => k_is)
    (case c18 => k_is)
    (case k18 => k_is)
    (case a19 => k_is)
    (case l19 => k_is)
    (case c19 => k_is)
    (case k19 => k_is)
    (case a20 => k_is)
    (case l20 => k_is)
    (case c20 => k_is)
    (case k20 => k_is)
    (case a21 => k_is)
    (case l21 => k_is)
    (case c21 => k_is)
    (case k21 => k_is)
    (case a22 => k_is)
    (case l22 => k_is)
    (case c22 => k_is)
    (case k22 => k_is)
    (case a23 => k_is)
    (case l23 => k_is)
    (case c23 => k_is)
    (case k23 => k_is)
    (case aR => k_is)
    (case lR => k_is)
    (case cR => k_is)
    (case kR => k_is)
    (case dR => k_is)
    (case tR => k_is)
    (case z_len => k_is)
    (case z_dict => k_is)
    (case z_tuple => k_is)
    (case z_all => k_is)
    (case z_any => k_is)
    (case z_sorted => k_is)
    (case z_set => k_is)
    (case z_repr => k_is)
    (case z_range => k_is)
    (case z_min => k_is)
    (case z_abs => k_is)
    (case z_int => k_is)
    (case z_list => k_is)

