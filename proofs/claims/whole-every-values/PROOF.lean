import PyProof.Rows.All
import Wide.All
import OpenK.AllK
import Wide.FinOn
import HandS.ForMost
import HandS.Evl
import HandS.Zip
import HandS.Walk
import HandS.Conv
import HandS.DictComp
import HandS.Defaults
import HandS.Style
import HandS.Flow
import HandS.IsInst
import HandS.SetFor
import HandS.Wide
import HandS.EndBits
import KE.KUnpackStar
import KE.DataMinMax
import PySem.Challenge.RW_countfold_k39_whole_every_values
import KE.GoesMore
set_option Elab.async false
set_option linter.all false
set_option maxRecDepth 100000
namespace K39
open PySem PySem.Spec PyProof.Rows L2
section
variable {X : Cx} {pins : List (Addr × Obj)} {σ : L2.St} {H : Hp} {s : Shared}

/-- two maps of one namespace are one map -/
theorem ns_one {h : Heap} {a : Addr} {m m' : Str → Option Value} (x : h.Ns a m) (y : h.Ns a m') : m = m' := by
  obtain ⟨o, es, ep, ho, hd, _, hf⟩ := x
  obtain ⟨o', es', ep', ho', hd', _, hf'⟩ := y
  rw [ho] at ho'
  obtain rfl := Option.some.inj ho'
  rw [hd] at hd'
  injection hd' with e1 _
  subst e1
  funext z
  rw [← hf z, ← hf' z]

/-- what is tracked is there -/
theorem obj_there {P : Program} {w : World} {H : Hp} {h : Heap} {a : Addr} {o : HO} (x : ObjOk P w H h a o) : ∃ u, h.get? a = some u := by
  cases o with
  | lst _ => exact let ⟨_, _, _, _, e⟩ := x; ⟨_, e⟩
  | tup _ => exact let ⟨_, _, _, ob, e, _⟩ := x; ⟨ob, e⟩
  | dK _ => exact let ⟨_, _, _, _, ob, _, _, e, _⟩ := x; ⟨ob, e⟩
  | dT _ => exact let ⟨_, _, _, _, ob, _, _, e, _⟩ := x; ⟨ob, e⟩
  | set _ _ => exact let ⟨ob, _, _, _, e, _⟩ := x; ⟨ob, e⟩
  | ins _ _ _ => exact let ⟨_, _, _, e, _⟩ := x; ⟨_, e⟩
  | own _ => exact x
  | xd _ => exact let ⟨_, ⟨ob, _, _, e, _⟩, _⟩ := x; ⟨ob, e⟩
  | rng _ _ => exact let ⟨_, _, _, e⟩ := x; ⟨_, e⟩
  | frz ob _ => exact ⟨ob, x.1⟩
  | tbl _ => exact ⟨_, x⟩
  | met _ _ => exact ⟨_, x⟩
  | ext _ => exact x.2.1
/-- a rule over the ledger has laid one new list; all else stands -/
theorem Inv.newsL {m : Str → Option Value} {D : Addr} {h' : Heap} {tk : Nat} {mids : List Value} {xs : List V} (I : Inv X pins σ H s) (F : Fr X.base X.env.locals s.heap m) (F' : Fr X.base X.env.locals h' m)
    (N' : News X.base X.env.locals h' ((D, PySem.W.listOf mids.toArray 0) :: allNews X.base s.heap X.env.locals)) (hlt : ∀ p ∈ allNews X.base s.heap X.env.locals, p.1 < D)
    (hv : Vals xs mids) (hz : xs.length ≤ sizeLine) : H D = none ∧ Inv X pins σ (upd H D (.lst xs)) { s with heap := h', toks := tk } := by
  obtain ⟨hD, hDL, hDb⟩ := N' _ List.mem_cons_self
  have hDn : s.heap.get? D = none := by
    cases q : s.heap.get? D with
    | none => rfl
    | some o => exact absurd (hlt _ (mem_allNews hDL hDb q)) (Nat.lt_irrefl _)
  have hHD : H D = none := by
    cases q : H D with
    | none => rfl
    | some u =>
      obtain ⟨o, ho⟩ := obj_there (I.hok D u q)
      rw [hDn] at ho
      cases ho
  have k : ∀ b o, b ≠ X.env.locals → s.heap.get? b = some o → h'.get? b = some o := fun b o hb e => by
    cases q : X.base.get? b with
    | some u =>
      have e2 := F.keep b u q
      rw [e] at e2
      obtain rfl := Option.some.inj e2
      exact F'.keep b _ q
    | none => exact (N' (b, o) (List.mem_cons_of_mem _ (mem_allNews hb q e))).1
  have nL : ∀ b u, H b = some u → b ≠ X.env.locals := fun b u e z => by
    rw [z, I.free] at e
    cases e
  refine ⟨hHD, I.step (g' := s.gens) (d' := s.drawn) (ch := []) (fun _ z => nomatch z) (fun b o hL _ _ e _ => k b o hL e) (fun b o hL _ _ e _ => ⟨o.slots, k b o hL e⟩) (fun b o _ e n => ?_) (fun b o _ e => ?_)
    (fun b ys e => by rw [upd_ne (ne_of_none e hHD)]; exact e) (fun b o u e => by rw [upd_ne (ne_of_none e hHD)]; exact e) (fun b ps e => ⟨#[], by rw [upd_ne (ne_of_none e hHD), e]; simp⟩) (fun m' hm => ?_) (fun b u e => ?_) I.bare⟩
  · have hb : b ≠ D := fun z => by
      rw [z, hDn] at e
      cases e
    rw [upd_ne hb]
    exact n
  · by_cases hb : b = X.env.locals
    · obtain ⟨o', _, _, ho', _⟩ := F'.ns
      exact ⟨o', by rw [hb]; exact ho'⟩
    · exact ⟨o, k b o hb e⟩
  · rw [ns_one hm F.ns]
    exact F'.ns
  · by_cases hb : b = D
    · subst hb
      rw [upd_same] at e
      cases e
      exact ⟨hz, mids, 0, hv, hD⟩
    · rw [upd_ne hb] at e
      refine (I.hok b u e).stay (fun c v hc q => k c v ?_ q) (fun c q => by rw [upd_ne (ne_of_none q hHD)]; exact q) fun c ys q => by rw [upd_ne (ne_of_none q hHD)]; exact q
      rcases hc with z | z
      · rw [z]; exact nL b u e
      · exact nL c _ z

/-- a, *b = a tuple or a list of one item or more -/
def gStar (K : PySem.W.Frag) (t1 t2 : TG) : TG := fun v σ H Q => ∃ a x xs, v = .ref a ∧ (SqT K H a (x :: xs) ∨ SqL K H a (x :: xs)) ∧ xs.length ≤ 16000 ∧
  ∀ p, H p = none → t1 x σ (upd H p (.lst xs)) fun σ1 H1 => t2 (.ref p) σ1 H1 Q
theorem pg_star {e1 e2 : Expr} {sp pos : Pos} {k : Nat} {t1 t2 : TG} (hc : X.calm = true) (h1 : PG X e1 t1) (h2 : PG X e2 t2)
    (hn : (assignEach [e1, .Starred e2 sp] X.env).map (·.2) = [assign e1 X.env, assign e2 X.env] := by rfl) (hst : (assignEach [e1, .Starred e2 sp] X.env).findIdx? (·.1) = some 1 := by rfl) :
    PG X (.Tuple [e1, .Starred e2 sp] k pos) (gStar X.K t1 t2) := by
  refine ⟨fun pins s σ H v u Q I r hw => ?_⟩
  obtain ⟨a, x, xs, e, hq, hz, hw⟩ := hw
  subst e
  cases r
  have hlen : (assignEach [e1, .Starred e2 sp] X.env).length = 2 := by
    have := congrArg List.length hn
    simpa using this
  have hszL : xs.length ≤ sizeLine := Nat.le_trans hz (by decide)
  obtain ⟨m, F⟩ := I.fr
  have fin : ∀ (its : List Value), Vals (x :: xs) its → ∀ (D : Addr) (h' : Heap) (tk : Nat), Fr X.base X.env.locals h' m → News X.base X.env.locals h' ((D, PySem.W.listOf ((its.drop 1).take (its.toArray.size + 1 - 2)).toArray 0) :: allNews X.base s.heap X.env.locals) →
      (∀ p ∈ allNews X.base s.heap X.env.locals, p.1 < D) → wpAny (model X.prog X.w) X.A (assignInOrder ((assignEach [e1, .Starred e2 sp] X.env).map (·.2)) (its.take 1 ++ [.ref D] ++ (its.drop 1).drop (its.toArray.size + 1 - 2))) (fun _ s' => ∃ σ' H', Inv X pins σ' H' s' ∧ Q σ' H') X.xe { s with heap := h', toks := tk } := by
    intro its rv D h' tk F' N' hlt
    cases rv with
    | @cons _ u _ us rx rxs =>
      have e0 : ((u :: us).drop 1).take ((u :: us).toArray.size + 1 - 2) = us := by
        rw [List.size_toArray, List.length_cons]
        show us.take (us.length + 1 + 1 - 2) = us
        exact List.take_of_length_le (by omega)
      have e4 : ((u :: us).drop 1).drop ((u :: us).toArray.size + 1 - 2) = [] := by
        rw [List.size_toArray, List.length_cons]
        show us.drop (us.length + 1 + 1 - 2) = []
        exact List.drop_eq_nil_of_le (by omega)
      rw [e0] at N'
      rw [e4, hn]
      obtain ⟨hD, I'⟩ := Inv.newsL (tk := tk) I F F' N' hlt rxs hszL
      show wpAny _ _ (assignInOrder [assign e1 X.env, assign e2 X.env] [u, .ref D]) _ _ _
      refine assignInOrder_cons (thn (h1.run pins _ σ _ x u _ I' rx (hw D hD)) fun _ s1 ⟨σ1, H1, I1, q1⟩ => ?_)
      refine assignInOrder_cons (thn (h2.run pins s1 σ1 H1 (.ref D) (.ref D) _ I1 rfl q1) fun _ s2 q2 => ?_)
      exact assignInOrder_nil q2
  rcases hq with hq | hq
  · obtain ⟨its, rv, ht, _⟩ := I.tuple hq
    have hl := rv.length
    exact PySem.W.kun_assignT (n := 2) (i := 1) F news_all ht (I.ok.hd hc) hlen hst (by decide) (by rw [List.size_toArray, ← hl, List.length_cons]; omega) (by rw [List.size_toArray, ← hl, List.length_cons]; omega) rfl rfl rfl (fin its rv)
  · obtain ⟨its, rv, ht, _⟩ := I.list hq
    have hl := rv.length
    exact PySem.W.kun_assignL (n := 2) (i := 1) F news_all ht.isList (I.ok.hd hc) hlen hst (by decide) (by rw [List.size_toArray, ← hl, List.length_cons]; omega) (by rw [List.size_toArray, ← hl, List.length_cons]; omega) rfl rfl rfl (fin its rv)
end
end K39
namespace K39
open PySem PySem.Spec PyProof.Rows L2
/-! ### a slice with a step, of a list of ints: some list of ints -/
theorem ints_pick {vs : List Value} {ns : List Int} (h : IntsAre vs ns) : ∀ l : List Nat, ∃ ms : List Int, Vals (ms.map V.int) (l.filterMap (vs.toArray[·]?))
  | [] => ⟨[], .nil⟩
  | k :: l => by
    obtain ⟨ms, hm⟩ := ints_pick h l
    rw [List.filterMap_cons]
    cases e : vs.toArray[k]? with
    | none => exact ⟨ms, hm⟩
    | some u =>
      have hv := vals_ints h
      have e2 : vs[k]? = some u := by simpa using e
      have hk : k < ns.length := by
        have := hv.length
        rw [List.length_map] at this
        have := (List.getElem?_eq_some_iff.mp e2).1
        omega
      obtain ⟨u', e3, r⟩ := hv.get (i := k) (x := .int ns[k]) (by rw [List.getElem?_map, List.getElem?_eq_getElem hk]; rfl)
      rw [e2] at e3
      obtain rfl := Option.some.inj e3
      exact ⟨ns[k] :: ms, .cons r hm⟩
def tSl3 (K : PySem.W.Frag) (te : TE) (tl th tk : TO) : TE := fun σ H Q => te σ H fun x H1 => tl σ H1 fun l H2 => th σ H2 fun u H3 => tk σ H3 fun k H4 =>
  ∃ (a : Addr) (ns : List Int), x = V.ref a ∧ k ≠ some 0 ∧ SqL K H4 a (ns.map V.int) ∧ ∀ (p : Addr) (ms : List Int), H4 p = none → Q (.ref p) (upd H4 p (.lst (ms.map V.int)))
section
variable {X : Cx}
theorem pe_slice3 {e : Expr} {lo hi : Option Expr} {st : Expr} {p2 pos : Pos} {te : TE} {tl th tk : TO} (he : PE X e te) (hl : PO X lo tl) (hu : PO X hi th) (hk : PO X (some st) tk) :
    PE X (.Subscript e (.Slice lo hi (some st) p2) pos) (tSl3 X.K te tl th tk) := by
  refine ⟨fun pins s σ H Q I h => ?_⟩
  refine Subscript_ (thn (he.run pins s σ H _ I h) fun v s1 ⟨x, H1, I1, r1, q1⟩ => ?_)
  refine wpAny_Slice (thn (hl.run pins s1 σ H1 _ I1 q1) fun vl s2 ⟨l, H2, I2, pl, q2⟩ => thn (hu.run pins s2 σ H2 _ I2 q2) fun vu s3 ⟨u, H3, I3, pu, q3⟩ => thn (hk.run pins s3 σ H3 _ I3 q3) fun vk s4 ⟨k, H4, I4, pk, q4⟩ => ?_)
  have I5 : Inv X pins σ H4 { s4 with heap := s4.heap.push { cls := .type "slice", data := .fields #[vl, vu, vk] } } := I4.kept (t' := s4.toks) fun b ob q => Heap.get?_push_of_some _ q
  obtain ⟨a, ns, rfl, h0, hx, q⟩ := q4
  cases r1
  obtain ⟨its, r, ht, hz⟩ := I5.list hx
  have hlen := r.length
  obtain ⟨ms, hm⟩ := ints_pick r.ints (sliceRange (sliceBounds l u k its.toArray.size).1 (sliceBounds l u k its.toArray.size).2.1 (sliceBounds l u k its.toArray.size).2.2)
  have hsz := slicePick_size_le its.toArray l u k
  have hml : (ms.map V.int).length ≤ sizeLine := by
    rw [hm.length]
    have e : (slicePick its.toArray l u k).size ≤ its.toArray.size := hsz
    unfold slicePick at e
    rw [List.size_toArray] at e
    rw [List.size_toArray] at e
    rw [List.size_toArray]
    omega
  refine tail_any (ops := [.ref a, .ref s4.heap.objs.size]) ht.isList.typeIs slot_list_getitem.lookup ?_ (by with_unfolding_all rfl)
  refine wpAny_getItem_list_slice ht.isList (Heap.IsSliceOf.new ..) pl pu pk h0 ?_ (by rw [List.size_toArray] <;> omega)
  refine ⟨.ref _, _, I5.laid (t' := s4.toks) (o := .lst (ms.map V.int)) (fun b ob q => Heap.get?_push_of_some _ q) (Nat.le_refl _) ?_, rfl, q _ ms (I5.hok.fresh (Nat.le_refl _))⟩
  exact ⟨hml, _, 0, hm, Heap.get?_push_size _ rfl⟩
end
/-! ### the least of some pairs of ints -/
def pLt (p q : Int × Int) : Bool := HT.lexLt [p.1, p.2] [q.1, q.2]
theorem pLt_iff {p q : Int × Int} : pLt p q = true ↔ p.1 < q.1 ∨ (p.1 = q.1 ∧ p.2 < q.2) := by
  unfold pLt
  rw [HT.lexLt_cons, HT.lexLt_cons, HT.lexLt_nil_nil]
  by_cases h1 : p.1 = q.1
  · rw [if_pos h1]
    by_cases h2 : p.2 = q.2
    · rw [if_pos h2]
      constructor
      · intro z
        cases z
      · rintro (z | ⟨_, z⟩) <;> omega
    · rw [if_neg h2]
      constructor
      · intro z
        exact .inr ⟨h1, of_decide_eq_true z⟩
      · rintro (z | ⟨_, z⟩)
        · omega
        · exact decide_eq_true z
  · rw [if_neg h1]
    constructor
    · intro z
      exact .inl (of_decide_eq_true z)
    · rintro (z | ⟨z, _⟩)
      · exact decide_eq_true z
      · exact absurd z h1
theorem argBest_pair (f : Nat → Int × Int) : ∀ n, argBest (fun i j => pLt (f i) (f j)) n ≤ n ∧ ∀ j, j ≤ n → pLt (f j) (f (argBest (fun i j => pLt (f i) (f j)) n)) = false
  | 0 => ⟨Nat.le_refl _, fun j hj => by
      obtain rfl : j = 0 := by omega
      rw [Bool.eq_false_iff]
      intro z
      rcases pLt_iff.mp z with z | z <;> simp [argBest] at z⟩
  | n + 1 => by
    obtain ⟨h1, h2⟩ := argBest_pair f n
    simp only [argBest]
    by_cases e : pLt (f (n + 1)) (f (argBest (fun i j => pLt (f i) (f j)) n)) = true
    · rw [if_pos e]
      refine ⟨Nat.le_refl _, fun j hj => ?_⟩
      rw [Bool.eq_false_iff]
      intro z
      have e1 := pLt_iff.mp e
      have z1 := pLt_iff.mp z
      by_cases hjn : j = n + 1
      · subst hjn
        rcases z1 with z1 | z1 <;> omega
      · have h3 := h2 j (by omega)
        rw [Bool.eq_false_iff] at h3
        refine h3 (pLt_iff.mpr ?_)
        omega
    · rw [if_neg e]
      refine ⟨by omega, fun j hj => ?_⟩
      by_cases hjn : j = n + 1
      · rw [hjn]
        exact Bool.eq_false_iff.mpr e
      · exact h2 j (by omega)
section
variable {prog : Program} {w : World} {A : Around} {E : Value → Shared → Prop} {s : Shared} {l : Addr} {its : Array Value}
theorem iter_anyL {Q : Value → Shared → Prop} (hl : s.heap.IsList l its)
    (h : ∀ s₂ : Shared, s₂ = { s with heap := s.heap.push { cls := .type "list_iterator", data := .fields #[.ref l, .int 0 0] } } →
      (s₂.heap.IsListIter s.heap.objs.size l 0 ∧ s₂.heap.IsList l its) → (∀ b ∈ [s.heap.objs.size, l], b < s₂.heap.objs.size) → l ≠ s.heap.objs.size → Q (.ref s.heap.objs.size) s₂) :
    wpAny (model prog w) A (pyIter (.ref l)) Q E s := by
  have old : l < s.heap.objs.size := let ⟨_, e, _⟩ := hl; Heap.lt_size e
  refine wpAny_pyIter_list hl ?_
  refine h _ rfl ⟨⟨_, Heap.get?_push_size _ rfl, rfl, rfl⟩, hl.push _⟩ ?_ (Nat.ne_of_lt old)
  intro b hb
  have e : (s.heap.push { cls := .type "list_iterator", data := .fields #[.ref l, .int 0 0] }).objs.size = s.heap.objs.size + 1 := Heap.size_push ..
  show b < (s.heap.push _).objs.size
  rw [e]
  simp only [List.mem_cons, List.not_mem_nil, or_false] at hb
  rcases hb with e | e
  · rw [e]
    exact Nat.lt_succ_self _
  · rw [e]
    exact Nat.lt_succ_of_lt old
end
def rMinP (K : PySem.W.Frag) : List V → Hp → VK → Prop := fun vs H Q => ∃ (a : Addr) (as : List Addr) (ps : List (Int × Int)), vs = [.ref a] ∧ SqL K H a (as.map V.ref) ∧ as.length = ps.length ∧ 0 < ps.length ∧
  (∀ (i : Nat) (t : Addr) (p : Int × Int), as[i]? = some t → ps[i]? = some p → SqT K H t [.int p.1, .int p.2]) ∧
  ∀ (i : Nat) (t : Addr) (p : Int × Int), as[i]? = some t → ps[i]? = some p → (∀ q ∈ ps, pLt q p = false) → Q (.ref t) H
section
variable {X : Cx}
theorem cr_minP (hc : X.calm = true) (hu : X.A.units + 1 < cLine) : CallR X (.builtin "min") (rMinP X.K) := by
  intro pins s σ H vs us Q I r h
  obtain ⟨a, as, ps, rfl, hs, hl, hn, ht, q⟩ := h
  obtain ⟨its, rv, hli, hz⟩ := I.list hs
  rw [Vals.ref1 r]
  have hil : its.length = ps.length := by
    have := rv.length
    rw [List.length_map] at this
    omega
  have hlt : a < s.heap.objs.size := by
    obtain ⟨_, e, _⟩ := hli.isList
    exact Heap.lt_size e
  have hcmp : PySem.CmpIn X.prog X.w X.A.in1 .Lt s.heap (fun i v => its.toArray[i]? = some v) (fun i j => pLt (ps.getD i (0, 0)) (ps.getD j (0, 0))) := by
    intro i j vi vj s' Q' E' hk hi hj hq
    have hi : its[i]? = some vi := by simpa using hi
    have hj : its[j]? = some vj := by simpa using hj
    have bi : i < as.length := by
      have := (List.getElem?_eq_some_iff.mp hi).1
      omega
    have bj : j < as.length := by
      have := (List.getElem?_eq_some_iff.mp hj).1
      omega
    have key : ∀ (k : Nat) (v : Value), its[k]? = some v → ∀ bk : k < as.length, v = .ref as[k] := fun k v hv bk => by
      obtain ⟨u, e, ru⟩ := rv.get (i := k) (x := .ref as[k]) (by rw [List.getElem?_map, List.getElem?_eq_getElem bk]; rfl)
      rw [hv] at e
      obtain rfl := Option.some.inj e
      exact ru
    rw [key i vi hi bi, key j vj hj bj]
    have gi : ps[i]? = some (ps.getD i (0, 0)) := by rw [List.getD_eq_getElem?_getD, List.getElem?_eq_getElem (by omega)]; rfl
    have gj : ps[j]? = some (ps.getD j (0, 0)) := by rw [List.getD_eq_getElem?_getD, List.getElem?_eq_getElem (by omega)]; rfl
    obtain ⟨i1, r1, p1, _⟩ := I.tuple (ht i _ _ (List.getElem?_eq_getElem bi) gi)
    obtain ⟨i2, r2, p2, _⟩ := I.tuple (ht j _ _ (List.getElem?_eq_getElem bj) gj)
    have up : ∀ {t : Addr} {x : Array Value}, IsTup s.heap t x → IsTup s'.heap t x := fun {t x} ⟨o, e, c⟩ => ⟨o, hk _ _ e, c⟩
    exact HT.lt_tupInts (ns := [_, _]) (ms := [_, _]) (up p1) (up p2) (intsAre_of (ns := [_, _]) r1) (intsAre_of (ns := [_, _]) r2) hu hq
  refine PySem.call_min_walkH (iter_anyL hli.isList fun s₂ e st hfp hlI => ?_)
  subst e
  refine ⟨s.heap.objs.size, _, [s.heap.objs.size], _, its.toArray.size, _, _, s.heap, _, rfl, (Walks.list (A := X.A.in1) (I.ok.hd hc) _ a hlI its.toArray).toS, st, hfp, by rw [List.size_toArray, hil]; exact hn, fun b o e z => ?_, fun b o e => Heap.get?_push_of_some _ e, hcmp, fun v s' hP hm => ?_⟩
  · rw [List.mem_singleton.mp z] at e
    exact absurd (Heap.lt_size e) (Nat.lt_irrefl _)
  · obtain ⟨h1, h2⟩ := argBest_pair (fun i => ps.getD i (0, 0)) (its.toArray.size - 1)
    rw [List.size_toArray, hil] at hP h1 h2
    generalize argBest (fun i j => pLt (ps.getD i (0, 0)) (ps.getD j (0, 0))) (ps.length - 1) = k at hP h1 h2
    have bk : k < as.length := by omega
    have hv : its[k]? = some v := by simpa using hP
    obtain ⟨u, e, ru⟩ := rv.get (i := k) (x := .ref as[k]) (by rw [List.getElem?_map, List.getElem?_eq_getElem bk]; rfl)
    rw [hv] at e
    obtain rfl := Option.some.inj e
    obtain ⟨h', g', d', t', o'⟩ := s'
    have e1 : g' = s.gens := hm.gens
    have e2 : d' = s.drawn := hm.drawn
    have e3 : o' = s.os := hm.os
    subst e1 e2 e3
    refine ⟨.ref as[k], H, I.kept (t' := t') fun b o e => ?_, ru, q k as[k] (ps.getD k (0, 0)) (List.getElem?_eq_getElem bk) (by rw [List.getD_eq_getElem?_getD, List.getElem?_eq_getElem (by omega)]; rfl) fun p hp => ?_⟩
    · refine hm.heap b o (fun z => ?_) (Heap.get?_push_of_some _ e)
      rw [List.mem_singleton.mp z] at e
      exact absurd (Heap.lt_size e) (Nat.lt_irrefl _)
    · obtain ⟨j, hj, rfl⟩ := List.mem_iff_getElem.mp hp
      have := h2 j (by omega)
      rw [List.getD_eq_getElem?_getD, List.getElem?_eq_getElem hj] at this
      exact this
/-! ### // by any divisor that CPython divides by itself -/
theorem op_fdivX : OpR X (binaryOp .FloorDiv) (rI (fun i j => j ≠ 0 ∧ Builtin.divisionGoesByPylong i j = false) fun i j => .int (i.fdiv j)) :=
  opI fun _ _ _ _ _ _ _ hc q => floordiv_int hc.1 q (.inl hc.2)
theorem op_mulX : OpR X (binaryOp .Mult) (rI IntMulOk fun i j => .int (i * j)) := opI fun _ _ _ _ _ _ _ hc q => mul_int q hc
end
end K39
namespace K39
open PySem PySem.Spec PyProof.Rows L2
/-! ### zip of two lists or tuples in any mix -/
/-- at a stands a tuple (k) or a list of xs -/
def SqK (K : PySem.W.Frag) (k : Bool) (H : Hp) (a : Addr) (xs : List V) : Prop := if k = true then SqT K H a xs else SqL K H a xs
def RawK (k : Bool) (h : Heap) (a : Addr) (its : Array Value) : Prop := if k = true then h.IsTuple a its else h.IsList a its
def IterK (k : Bool) (h : Heap) (it a : Addr) (i : Nat) : Prop := if k = true then h.IsTupleIter it a i else h.IsListIter it a i
def objK (k : Bool) (a : Addr) : Obj := { cls := .type (if k = true then "tuple_iterator" else "list_iterator"), data := .fields #[.ref a, .int 0 0] }
section
variable {prog : Program} {w : World} {A : Around} {X : Cx} {pins : List (Addr × Obj)} {σ : L2.St} {H : Hp} {s : Shared} {h h' : Heap}
theorem drawsK (hh : A.handled = none) (k : Bool) (it a : Addr) (hne : a ≠ it) (its : Array Value) :
    Draws prog w A it [it, a] its.size (fun i v => its[i]? = some v) (fun i h => IterK k h it a i ∧ RawK k h a its) := by
  cases k with
  | true => exact Draws.tuple hh it a hne its
  | false => exact Draws.list hh it a hne its
theorem beginsK (k : Bool) (a : Addr) (its : Array Value) : Begins (.ref a) (objK k a) fun h => RawK k h a its := by
  cases k with
  | true => exact begins_tuple a its
  | false => exact begins_list a its
theorem SqK.raw {k : Bool} {a : Addr} {xs : List V} (I : Inv X pins σ H s) (q : SqK X.K k H a xs) : ∃ its : List Value, Vals xs its ∧ RawK k s.heap a its.toArray := by
  cases k with
  | true =>
    obtain ⟨its, r, p, _⟩ := I.tuple (show SqT X.K H a xs from q)
    exact ⟨its, r, p⟩
  | false =>
    obtain ⟨its, r, p, _⟩ := I.list (show SqL X.K H a xs from q)
    exact ⟨its, r, p.isList⟩
theorem RawK.lt {k : Bool} {a : Addr} {its : Array Value} (q : RawK k h a its) : a < h.objs.size := by
  cases k with
  | true => exact let ⟨_, e, _⟩ := (show h.IsTuple a its from q); Heap.lt_size e
  | false => exact let ⟨_, e, _⟩ := (show h.IsList a its from q); Heap.lt_size e
theorem IterK.obj {k : Bool} {it a : Addr} {i : Nat} (q : IterK k h it a i) : ∃ o, h.get? it = some o ∧ ∀ v, o.data ≠ .cell v := by
  cases k with
  | true =>
    obtain ⟨o, e, _, d⟩ := (show h.IsTupleIter it a i from q)
    exact ⟨o, e, fun v z => by rw [d] at z; cases z⟩
  | false =>
    obtain ⟨o, e, _, d⟩ := (show h.IsListIter it a i from q)
    exact ⟨o, e, fun v z => by rw [d] at z; cases z⟩
theorem IterK.at {k : Bool} {it a : Addr} {i : Nat} (q : IterK k h it a i) (f : ∀ o, h.get? it = some o → h'.get? it = some o) : IterK k h' it a i := by
  cases k with
  | true => exact (show h.IsTupleIter it a i from q).at f
  | false => exact (show h.IsListIter it a i from q).at f
theorem iterK_new {k : Bool} {it a : Addr} (e : h.get? it = some (objK k a)) : IterK k h it a 0 := by
  cases k with
  | true => exact ⟨_, e, rfl, rfl⟩
  | false => exact ⟨_, e, rfl, rfl⟩
end
def ItzG (K : PySem.W.Frag) (ka kb : Bool) (a b : Addr) (xs ys : List V) : It :=
  ⟨fun i H => SqK K ka H a xs ∧ SqK K kb H b ys ∧ i < xs.length ∧ i < ys.length,
   fun i H v H' => ∃ T x y, v = .ref T ∧ H T = none ∧ H' = upd H T (.tup [x, y]) ∧ xs[i]? = some x ∧ ys[i]? = some y,
   fun i H => SqK K ka H a xs ∧ SqK K kb H b ys ∧ i = min xs.length ys.length⟩
theorem turn_zipG {P : Program} {w : World} {K : PySem.W.Frag} {elts : List Expr} {kk : Nat} {tpos : Pos} {ka kb : Bool} {a b z TI TO i1 i2 : Addr} {xs ys : List V} (D : ZipSep2 z TI TO i1 i2 [i1, a] [i2, b]) (hi : i1 ≠ i2) (ha : a ≠ i1) (hb : b ≠ i2) :
    Turn P w K (.Tuple elts kk tpos) (ItzG K ka kb a b xs ys) [z, TI, TO, i1, i2] z (fun i h => IsZip h z TI TO .none ∧ IsTupOf2 h TI (.ref i1) (.ref i2) ∧ (∃ x y, IsTupOf2 h TO x y) ∧ IterK ka h i1 a i ∧ IterK kb h i2 b i) where
  mem := by simp
  obj := fun i h st c hc => by
    obtain ⟨hz, hTI, ⟨x, y, hTO⟩, h1, h2⟩ := st
    simp only [List.mem_cons, List.not_mem_nil, or_false] at hc
    rcases hc with rfl | rfl | rfl | rfl | rfl
    · exact ⟨_, hz, fun v q => nomatch q⟩
    · exact ⟨_, hTI, fun v q => nomatch q⟩
    · exact ⟨_, hTO, fun v q => nomatch q⟩
    · exact h1.obj
    · exact h2.obj
  keep := fun i h h' st k => by
    obtain ⟨hz, hTI, ⟨x, y, hTO⟩, h1, h2⟩ := st
    exact ⟨k z (by simp) _ hz, k TI (by simp) _ hTI, ⟨x, y, k TO (by simp) _ hTO⟩, h1.at fun o q => k i1 (by simp) o q, h2.at fun o q => k i2 (by simp) o q⟩
  item := by
    intro X hP hw hK hc i pins s σ H E I hf st hg
    subst hP hw hK
    obtain ⟨hz, hTI, ⟨x0, y0, hTO⟩, h1, h2⟩ := st
    obtain ⟨hqx, hqy, lx, ly⟩ := hg
    obtain ⟨its, rv, p⟩ := SqK.raw I hqx
    obtain ⟨its2, rv2, p2⟩ := SqK.raw I hqy
    have hzl : z < s.heap.objs.size := Heap.lt_size hz
    have hD1 := drawsK (prog := X.prog) (w := X.w) (A := X.A.in1) (I.ok.hd hc) ka i1 a ha its.toArray
    have hD2 := drawsK (prog := X.prog) (w := X.w) (A := X.A.in1) (I.ok.hd hc) kb i2 b hb its2.toArray
    refine wpAny_pyNext_zipD2_item D hD1 hD2 hz hTI hTO ⟨h1, p⟩ ⟨h2, p2⟩ (by rw [List.size_toArray, ← rv.length]; exact lx) (by rw [List.size_toArray, ← rv2.length]; exact ly)
      fun u u2 h' tk e1 e2 z' TO' h1' h2' hT hsz hk => ?_
    obtain ⟨u', hu, ru⟩ := rv.get (i := i) (x := xs[i]) (by simp [lx])
    obtain ⟨u2', hu2, ru2⟩ := rv2.get (i := i) (x := ys[i]) (by simp [ly])
    have e1 : its[i]? = some u := by simpa using e1
    have e2 : its2[i]? = some u2 := by simpa using e2
    rw [hu] at e1
    rw [hu2] at e2
    obtain rfl := Option.some.inj e1
    obtain rfl := Option.some.inj e2
    refine ⟨_, rfl, wpAny_letOwnedTupleGo_zip (s := { s with heap := h', toks := tk }) z' fun h'' z'' sb => ?_⟩
    have hT2 : h''.get? s.heap.objs.size = some { cls := .type "tuple", data := .seq #[u', u2'] } := (sb.2 _ (Nat.ne_of_gt hzl)).trans hT
    have new : ObjOk X.prog X.w (upd H s.heap.objs.size (.tup [xs[i], ys[i]])) h'' s.heap.objs.size (.tup [xs[i], ys[i]]) :=
      ⟨by show 2 ≤ sizeLine; decide, [u', u2'], .cons ru (.cons ru2 .nil), ⟨_, hT2, rfl, _, rfl⟩⟩
    have hold : ∀ c o, c ∉ [z, TI, TO, i1, i2] → s.heap.get? c = some o → h''.get? c = some o := fun c o hb q => by
      simp only [List.mem_cons, List.not_mem_nil, or_false, not_or] at hb
      obtain ⟨b1, b2, b3, b4, b5⟩ := hb
      exact (sb.2 c b1).trans (hk c o b1 b3 b4 b5 q)
    have I1 := Inv.turnedNew (t' := tk) I hold hf (Nat.le_refl _) new
    refine ⟨.ref s.heap.objs.size, _, I1, rfl, ⟨_, xs[i], ys[i], rfl, I.hok.fresh (Nat.le_refl _), rfl, by simp [lx], by simp [ly]⟩, ⟨z'', ?_, ⟨u', u2', ?_⟩, ?_, ?_⟩, fun c hcm => ?_⟩
    · exact (sb.2 _ D.TIz).trans (hk _ _ D.TIz D.TITO D.TIi1 D.TIi2 hTI)
    · exact (sb.2 _ D.TOz).trans TO'
    · exact h1'.1.at fun o q => (sb.2 _ (Ne.symm D.zi1)).trans q
    · exact h2'.1.at fun o q => (sb.2 _ (Ne.symm D.zi2)).trans q
    · have hlt : c < s.heap.objs.size := by
        simp only [List.mem_cons, List.not_mem_nil, or_false] at hcm
        rcases hcm with rfl | rfl | rfl | rfl | rfl
        · exact hzl
        · exact Heap.lt_size hTI
        · exact Heap.lt_size hTO
        · exact let ⟨_, e, _⟩ := h1.obj; Heap.lt_size e
        · exact let ⟨_, e, _⟩ := h2.obj; Heap.lt_size e
      rw [upd_ne (Nat.ne_of_lt hlt)]
      exact (hf c hcm).1
  done := by
    intro X hP hw hK hc i pins s σ H E I hf st hg
    subst hP hw hK
    obtain ⟨hz, hTI, ⟨x0, y0, hTO⟩, h1, h2⟩ := st
    obtain ⟨hqx, hqy, hend⟩ := hg
    obtain ⟨its, rv, p⟩ := SqK.raw I hqx
    obtain ⟨its2, rv2, p2⟩ := SqK.raw I hqy
    have hD1 := drawsK (prog := X.prog) (w := X.w) (A := X.A.in1) (I.ok.hd hc) ka i1 a ha its.toArray
    have hD2 := drawsK (prog := X.prog) (w := X.w) (A := X.A.in1) (I.ok.hd hc) kb i2 b hb its2.toArray
    have l1 := rv.length
    have l2 := rv2.length
    refine wpAny_pyNext_zipD2_end D hD1 hD2 hz hTI hTO ⟨h1, p⟩ ⟨h2, p2⟩ (by rw [List.size_toArray]; omega) (by rw [List.size_toArray]; omega) (by rw [List.size_toArray, List.size_toArray]; omega) fun h' tk hk => ⟨rfl, ?_⟩
    refine Inv.turnedL (t' := tk) (ch := [z, TI, TO, i1, i2]) I (fun c o hb q => ?_) hf
    simp only [List.mem_cons, List.not_mem_nil, or_false, not_or] at hb
    obtain ⟨b1, b2, b3, b4, b5⟩ := hb
    exact hk c o b1 b3 b4 b5 q
  self := fun A i s Q E st h => wpAny_pyIter_zip st.1 h
theorem ne_nat {x y : Nat} (h : x < y ∨ y < x) : x ≠ y := by omega
theorem zip_sep (n a b : Nat) (la : a < n) (lb : b < n) : ZipSep2 (n + 4) (n + 2) (n + 3) n (n + 1) [n, a] [n + 1, b] := by
  have nm : ∀ (x y z : Nat), x ≠ y → x ≠ z → x ∉ [y, z] := fun x y z h1 h2 h => by
    simp only [List.mem_cons, List.not_mem_nil, or_false] at h
    rcases h with h | h
    · exact h1 h
    · exact h2 h
  exact ⟨ne_nat (by omega), ne_nat (by omega), ne_nat (by omega), ne_nat (by omega), List.mem_cons_self, nm _ _ _ (by omega) (by omega), nm _ _ _ (by omega) (by omega), ne_nat (by omega), List.mem_cons_self,
    nm _ _ _ (by omega) (by omega), nm _ _ _ (by omega) (by omega), nm _ _ _ (by omega) (by omega), nm _ _ _ (by omega) (by omega)⟩
theorem five_le (n c : Nat) (h : c ∈ [n + 4, n + 2, n + 3, n, n + 1]) : n ≤ c := by
  simp only [List.mem_cons, List.not_mem_nil, or_false] at h
  omega
def iZipG (K : PySem.W.Frag) (ta : TA) : TI := fun σ H R => ta σ H fun vs H1 => ∃ a b xs ys ka kb, vs = [.ref a, .ref b] ∧ SqK K ka H1 a xs ∧ SqK K kb H1 b ys ∧ R (ItzG K ka kb a b xs ys) H1
theorem pi_zipG {X : Cx} {e e2 : Expr} {ta : TA} {p pos tpos : Pos} {elts : List Expr} {kk : Nat} (hg : Gl X "zip") (hm : X.mg "zip" = none) (ha : PA X [e, e2] ta)
    (hs : starEach [e, e2] X.env = (false, eval e X.env) :: starEach [e2] X.env := by rfl) (hpl : (backTo pos (starEach [e2] X.env)).any (·.1) = false := by rfl) :
    PI X (.Tuple elts kk tpos) (.Call (.Name "zip" p) [e, e2] [] pos) (iZipG X.K ta) := by
  refine ⟨fun pins s σ H R I h => ?_⟩
  refine Call_ (ld_blt I hg hm PyProof.Rows.boot_zip (PyProof.Rows.callWith_type1 (thn (ha.run pos pins s σ H _ I h) fun us s1 ⟨vs, H1, I1, r1, q1⟩ => ?_) hs hpl))
  obtain ⟨a, b, xs, ys, ka, kb, ex, hqx, hqy, q⟩ := q1
  subst ex
  cases r1 with
  | cons r rr =>
    cases rr with
    | cons r' rr =>
      cases rr
      cases r
      cases r'
      obtain ⟨its, rv, p1⟩ := SqK.raw I1 hqx
      obtain ⟨its2, rv2, p2⟩ := SqK.raw I1 hqy
      have la := p1.lt
      have lb := p2.lt
      refine zip_begins2 (beginsK ka a its.toArray) (beginsK kb b its2.toArray) p1 p2 fun h' hz hTI hTO h1 h2 hsz hk => wpAny_pyIter_zip hz ?_
      have I2 : Inv X pins σ H1 { s1 with heap := h' } := I1.kept (t' := s1.toks) hk
      refine ⟨s1.heap.objs.size + 4, [s1.heap.objs.size + 4, s1.heap.objs.size + 2, s1.heap.objs.size + 3, s1.heap.objs.size, s1.heap.objs.size + 1], _, _, H1, rfl, I2,
        turn_zipG (zip_sep _ a b la lb) (Nat.ne_of_lt (Nat.lt_succ_self _)) (Nat.ne_of_lt la) (Nat.ne_of_lt (Nat.lt_succ_of_lt lb)), ⟨hz, hTI, ⟨_, _, hTO⟩, iterK_new h1, iterK_new h2⟩, fun c hcm => ?_, q⟩
      have hle := five_le _ c hcm
      exact I1.fpOk hle (I1.hok.fresh hle)
section
variable {K : PySem.W.Frag} {ka kb : Bool} {a b : Addr} {xs ys : List V}
theorem walk_zipG : Walk (ItzG K ka kb a b xs ys) (min xs.length ys.length) (fun H => SqK K ka H a xs ∧ SqK K kb H b ys) (YPair (fun i => xs[i]?) (fun i => ys[i]?)) :=
  ⟨fun i _ hi q => ⟨q.1, q.2, by omega, by omega⟩, fun _ q => ⟨q.1, q.2, rfl⟩, fun _ _ _ _ _ _ y => y⟩
end
end K39
namespace K39
open PySem PySem.Spec PyProof.Rows L2 Evl
/-! ### name = {k: v for ..} on one line, the name a local -/
section
variable {X : Cx}
theorem ps_setDc {i : Nat} {y : Str} {py : Pos} {kx vx tg iter : Expr} {ifs : List Expr} {scope : Scope} {own : List (Str × Nat)} {pos spos : Pos} {wi : TI} {g : TG} {tt : TT} {tk tv : TE} (hc : X.calm = true) (hN : X.N.Nodup) (hy : X.N[i]? = some y) (hyl : X.env.scope.names.lookup y = some .local)
    (hsw : swapsWith (.DictComp kx vx [⟨tg, iter, ifs, 0⟩] scope pos) (some (.Name y py)) spos.line X.env = pure true) (hi : PI X tg iter wi) (ok : BlkOk X.N X.env.scope scope own)
    (hg : ∀ (s : Shared) (H : Hp) (C : Addr) (cl : List (Str × Addr)) (fp : List Addr), PG (X.blk s H scope (compEnvC scope cl C X.env) fp) tg g) (ht : ∀ (s : Shared) (H : Hp) (C : Addr) (cl : List (Str × Addr)) (fp : List Addr), PTs (X.blk s H scope (compEnvC scope cl C X.env) fp) ifs tt)
    (hk : ∀ (s : Shared) (H : Hp) (C : Addr) (cl : List (Str × Addr)) (fp : List Addr), PE (X.blk s H scope (compEnvC scope cl C X.env) fp) kx tk)
    (he : ∀ (s : Shared) (H : Hp) (C : Addr) (cl : List (Str × Addr)) (fp : List Addr), PE (X.blk s H scope (compEnvC scope cl C X.env) fp) vx tv) (hs : ∀ x, foldedSetIterable iter X.env x = pure x := by intro _; rfl) :
    PS X (.Assign [.Name y py] (.DictComp kx vx [⟨tg, iter, ifs, 0⟩] scope pos) spos) (tAsg (tDc wi g tt tk tv (own.map (·.2))) (gName i)) := by
  refine ⟨fun pins s σ H D I h => ?_⟩
  rw [exec_Assign_Name_used _ _ _ _ hsw]
  refine wpAny_bind (wpAny_standAt (wpAny_bind ?_))
  show wpAny _ X.A (do let _ ← comprehension (.DictComp kx vx [⟨tg, iter, ifs, 0⟩] scope pos) scope X.env (firstIterPos [⟨tg, iter, ifs, 0⟩] pos) newDict false (eval iter X.env) (some (assign (.Name y py) X.env))) _ _ s
  have h : tDc wi g tt tk tv (own.map (·.2)) σ H (fun x H1 => gName i x σ H1 D.nx) := h
  refine wpAny_bind (thn (dc_core (Qf := fun _ s' => SP X pins D .next s') hc hN I hi ok hg ht hk he hs h fun L C s' m H' I' q hn f => ?_) fun _ s' hq => wpAny_pure (wpAny_pure hq))
  show wpAny _ _ (assign (.Name y py) X.env (.ref L)) _ _ _
  refine wpAny_assign_Name (store_ok2 (v := V.ref L) I' hN hy (.inl hyl) rfl (fun s2 I2 ⟨a, sb, ha⟩ => ?_) (.inr hyl))
  obtain ⟨f0, f1, f2, f3, f4, f5⟩ := f
  have hca : C ≠ a := by
    rcases ha with z | z
    · rw [z]; exact f1
    · exact fun e => f4 _ _ z e.symm
  refine ⟨m, hn.sameBut sb hca, fun h3 sb3 => ?_⟩
  exact ⟨_, H', I2.turned (t' := s2.toks) (fun b o hb e => (sb3.2 b hb).trans e) f0 f1 f3 f4 f5, q⟩
theorem sw_trueD {kx vx : Expr} {gs : List Comprehension} {scope : Scope} {pos py : Pos} {y : Str} {l : Nat} {env : Env} (hk : env.scope.kind = .function) (hy : env.scope.names.lookup y = some .local) (hl : (py.line == pos.line) = true)
    (ha : (scope.names.any fun (n, k) => n == y && (k == .local || k == .cell)) = false) : swapsWith (.DictComp kx vx gs scope pos) (some (.Name y py)) l env = pure true := by
  have ky : env.kindOf y = some .local := hy
  have hb : env.blockKind = .function := by unfold Env.blockKind; rw [hk]; rfl
  unfold swapsWith
  simp only [hb, ky, ha, Expr.pos, hl]
  rfl
end
/-! ### what evaluates to a new object that is o -/
def EvN (te : TE) (σ : L2.St) (H : Hp) (o : HO) : Prop := ∀ H1, Ex H H1 → ∀ Q : VK, (∀ p H2, H1 p = none → Ex H1 H2 → H2 p = some o → Q (.ref p) H2) → te σ H1 Q
theorem evN_L {te : TE} {σ : L2.St} {H : Hp} {xs : List V} (h : EvL te σ H xs) : EvN te σ H (.lst xs) := h
theorem evN_U {te : TE} {σ : L2.St} {H : Hp} {xs : List V} (h : EvU te σ H xs) : EvN te σ H (.tup xs) := h
theorem EvN.mono {te : TE} {σ : L2.St} {H H' : Hp} {o : HO} (e : Ex H H') (h : EvN te σ H o) : EvN te σ H' o := fun H1 a Q q => h H1 (e.trans a) Q q
/-- the objects at as, one behind the other, are os -/
def Objs (H0 H : Hp) (as : List Addr) (os : List HO) : Prop := as.length = os.length ∧ ∀ (j : Nat) (a : Addr) (o : HO), as[j]? = some a → os[j]? = some o → H0 a = none ∧ H a = some o
theorem Objs.ex {H0 H H' : Hp} {as : List Addr} {os : List HO} (h : Objs H0 H as os) (e : Ex H H') : Objs H0 H' as os :=
  ⟨h.1, fun j a o x y => ⟨(h.2 j a o x y).1, e _ _ (h.2 j a o x y).2⟩⟩
theorem Objs.back {H0 H0' H : Hp} {as : List Addr} {os : List HO} (h : Objs H0' H as os) (e : Ex H0 H0') : Objs H0 H as os :=
  ⟨h.1, fun j a o x y => ⟨fresh_back e (h.2 j a o x y).1, (h.2 j a o x y).2⟩⟩
/-- a new list of new objects -/
def EvLN (te : TE) (σ : L2.St) (H : Hp) (os : List HO) : Prop := ∀ H1, Ex H H1 → ∀ Q : VK, (∀ p as H2, H1 p = none → Ex H1 H2 → H2 p = some (.lst (as.map V.ref)) → Objs H1 H2 as os → Q (.ref p) H2) → te σ H1 Q
def made (n : Nat) (f : Nat → Bool) (o : Nat → HO) : List HO := ((List.range n).filter f).map o
theorem made_yes {n : Nat} {f : Nat → Bool} {o : Nat → HO} (h : f n = true) : made (n + 1) f o = made n f o ++ [o n] := by
  unfold made
  rw [List.range_succ, List.filter_append, List.map_append, List.filter_cons, if_pos h] <;> rfl
theorem made_no {n : Nat} {f : Nat → Bool} {o : Nat → HO} (h : f n = false) : made (n + 1) f o = made n f o := by
  unfold made
  rw [List.range_succ, List.filter_append, List.map_append, List.filter_cons, if_neg (by rw [h]; decide)]
  show _ ++ [] = _
  rw [List.append_nil]
theorem made_len (n : Nat) (f : Nat → Bool) (o : Nat → HO) : (made n f o).length ≤ n := by
  unfold made
  rw [List.length_map]
  have h := List.length_filter_le f (List.range n)
  rw [List.length_range] at h
  exact h
section
variable {σ : L2.St} {J : It} {n : Nat} {G : Hp → Prop} {Y : Nat → Hp → V → Hp → Prop} {g : TG} {tt : TT} {te tk tv : TE} {vs : List Nat}
/-- a turn's start: the target stored, the test's answer, the element's value known -/
def TurnV (g : TG) (tt : TT) (vs : List Nat) (σ : L2.St) (H H' : Hp) (x : V) (b : Bool) (P : L2.St → Hp → Prop) : Prop :=
  ∀ Q : L2.St → Hp → Prop, (∀ σ2 H2, wipe σ2 vs = wipe σ vs → Ex H H2 → EvT tt σ2 H2 b → (b = true → P σ2 H2) → Q σ2 H2) → g x (wipe σ vs) H' Q
theorem TurnV.go {H H' : Hp} {x : V} {b : Bool} {P : L2.St → Hp → Prop} (h : TurnV g tt vs σ H H' x b P) {R : L2.St → Hp → Prop} {N : Hp → Prop} (h1 : ∀ σ2 H2, b = true → Ex H H2 → P σ2 H2 → R σ2 H2) (h2 : ∀ H2, b = false → Ex H H2 → N H2)
    (mono : ∀ σ2 H2 H3, P σ2 H2 → Ex H2 H3 → P σ2 H3) : g x (wipe σ vs) H' fun σ2 H2 => wipe σ2 vs = wipe σ vs ∧ tt σ2 H2 fun b H3 => if b = true then R σ2 H3 else N H3 := by
  refine h _ fun σ2 H2 hw e ht hp => ⟨hw, ht H2 (Ex.refl H2) _ fun H3 e3 => ?_⟩
  cases b with
  | true => exact iteT (h1 σ2 H3 rfl (e.trans e3) (mono _ _ _ (hp rfl) e3))
  | false => exact iteF (h2 H3 rfl (e.trans e3))
/-- [e for ..]: values -/
theorem lcV (w : Walk J n G Y) {H0 : Hp} {D : Addr} (hG : ∀ H', Ex H0 H' → G H') (hn : n ≤ 40000) (f : Nat → Bool) (v : Nat → V) (hD : H0 D = none) {Qd : Hp → Prop}
    (ht : ∀ i x H H', i < n → Ex H0 H → Y i H x H' → TurnV g tt vs σ H H' x (f i) (fun σ2 H2 => Ev te σ2 H2 (v i)))
    (hd : ∀ H', Ex H0 H' → H' D = some (.lst (given n f v)) → Qd H') :
    ∃ W : Nat → Nat → Hp → Prop, (∃ m, W 0 m (upd H0 D (.lst []))) ∧ ∀ i m H, W i m H →
      (J.stop i H ∧ Qd H) ∨ (J.go i H ∧ ∃ Nx : Hp → Prop, (∀ H', Nx H' → ∃ m', m' < m ∧ W (i + 1) m' H') ∧ ∀ x H', J.yld i H x H' → g x (wipe σ vs) H' fun σ2 H2 => wipe σ2 vs = wipe σ vs ∧ tt σ2 H2 fun b H3 =>
        if b = true then te σ2 H3 fun y H4 => ∃ acc, H4 D = some (.lst acc) ∧ acc.length < sizeLine ∧ Nx (upd H4 D (.lst (acc ++ [y]))) else Nx H3) :=
  lc_it w (fun i H' => Ex H0 H' ∧ H' D = some (.lst (given i f v))) ⟨Ex.new hD, upd_same⟩ (fun i H' _ p => hG H' p.1)
    (fun i x H H' hi p y => (ht i x H H' hi p.1 y).go (fun σ2 H2 hb e hp => hp H2 (Ex.refl H2) _ fun H3 e3 =>
        ⟨given i f v, e3 _ _ (e _ _ p.2), sz_lt (by have := given_len i f v; omega), Ex.mut ((p.1.trans e).trans e3) hD, by rw [given_yes hb]; exact upd_same⟩)
      (fun H2 hb e => ⟨p.1.trans e, by rw [given_no hb]; exact e _ _ p.2⟩) fun σ2 H2 H3 hp e => hp.mono e)
    fun H' p => hd H' p.1 p.2
/-- [e for ..]: new objects -/
theorem lcN (w : Walk J n G Y) {H0 : Hp} {D : Addr} (hG : ∀ H', Ex H0 H' → G H') (hn : n ≤ 40000) (f : Nat → Bool) (o : Nat → HO) (hD : H0 D = none) {Qd : Hp → Prop}
    (ht : ∀ i x H H', i < n → Ex H0 H → Y i H x H' → TurnV g tt vs σ H H' x (f i) (fun σ2 H2 => EvN te σ2 H2 (o i)))
    (hd : ∀ H' as, Ex H0 H' → H' D = some (.lst (as.map V.ref)) → Objs H0 H' as (made n f o) → Qd H') :
    ∃ W : Nat → Nat → Hp → Prop, (∃ m, W 0 m (upd H0 D (.lst []))) ∧ ∀ i m H, W i m H →
      (J.stop i H ∧ Qd H) ∨ (J.go i H ∧ ∃ Nx : Hp → Prop, (∀ H', Nx H' → ∃ m', m' < m ∧ W (i + 1) m' H') ∧ ∀ x H', J.yld i H x H' → g x (wipe σ vs) H' fun σ2 H2 => wipe σ2 vs = wipe σ vs ∧ tt σ2 H2 fun b H3 =>
        if b = true then te σ2 H3 fun y H4 => ∃ acc, H4 D = some (.lst acc) ∧ acc.length < sizeLine ∧ Nx (upd H4 D (.lst (acc ++ [y]))) else Nx H3) :=
  lc_it w (fun i H' => ∃ as, Ex H0 H' ∧ H' D = some (.lst (as.map V.ref)) ∧ Objs H0 H' as (made i f o) ∧ D ∉ as) ⟨[], Ex.new hD, upd_same, ⟨rfl, fun j a o h => by simp at h⟩, by simp⟩ (fun i H' _ p => let ⟨_, q, _⟩ := p; hG H' q)
    (fun i x H H' hi p y => by
      obtain ⟨as, p1, p2, p3, p4⟩ := p
      refine (ht i x H H' hi p1 y).go (fun σ2 H2 hb e hp => hp H2 (Ex.refl H2) _ fun q H3 hq e3 h3 => ?_) (fun H2 hb e => ⟨as, p1.trans e, e _ _ p2, by rw [made_no hb]; exact p3.ex e, p4⟩) fun σ2 H2 H3 hp e => hp.mono e
      have hDq : q ≠ D := fun z => by
        rw [z, e _ _ p2] at hq
        cases hq
      have hz : (as.map V.ref).length < sizeLine := by
        rw [List.length_map, p3.1]
        exact sz_lt (by have := made_len i f o; omega)
      refine ⟨_, e3 _ _ (e _ _ p2), hz, as ++ [q], Ex.mut ((p1.trans e).trans e3) hD, ?_, ?_, ?_⟩
      · rw [upd_same, List.map_append]
        rfl
      · rw [made_yes hb]
        refine ⟨by rw [List.length_append, List.length_append, p3.1]; rfl, fun j a u h1 h2 => ?_⟩
        by_cases hj : j < as.length
        · rw [List.getElem?_append_left hj] at h1
          rw [List.getElem?_append_left (by rw [← p3.1]; exact hj)] at h2
          obtain ⟨c1, c2⟩ := p3.2 j a u h1 h2
          have ha : a ≠ D := fun z => p4 (by rw [← z]; exact List.mem_of_getElem? h1)
          exact ⟨c1, by rw [upd_ne ha]; exact e3 _ _ (e _ _ c2)⟩
        · rw [List.getElem?_append_right (by omega)] at h1
          rw [List.getElem?_append_right (by rw [← p3.1]; omega), ← p3.1] at h2
          cases hk : j - as.length with
          | zero =>
            rw [hk] at h1 h2
            obtain rfl : q = a := Option.some.inj h1
            obtain rfl : o i = u := Option.some.inj h2
            exact ⟨fresh_back (p1.trans e) hq, by rw [upd_ne hDq]; exact h3⟩
          | succ m =>
            rw [hk] at h1
            cases h1
      · intro z
        rcases List.mem_append.mp z with z | z
        · exact p4 z
        · exact hDq (List.mem_singleton.mp z).symm)
    fun H' p => let ⟨as, p1, p2, p3, _⟩ := p; hd H' as p1 p2 p3
/-- what a dict comprehension has put: the key is new each time -/
theorem putK_new {v : V} {kvs : List (Key × V)} {k : Key} (h : ∀ p ∈ kvs, p.1 ≠ k) : putK kvs k v = kvs ++ [(k, v)] := by
  unfold putK
  have e : (kvs.any fun kv => decide (kv.1 = k)) = false := by
    rw [Bool.eq_false_iff]
    intro z
    obtain ⟨p, hp, e⟩ := List.any_eq_true.mp z
    exact h p hp (of_decide_eq_true e)
  rw [e, if_neg (by decide)]
def pairs (n : Nat) (k : Nat → Key) (v : Nat → V) : List (Key × V) := (List.range n).map fun i => (k i, v i)
theorem pairs_succ {n : Nat} {k : Nat → Key} {v : Nat → V} : pairs (n + 1) k v = pairs n k v ++ [(k n, v n)] := by
  unfold pairs
  rw [List.range_succ, List.map_append]
  rfl
/-- {k: v for ..}: values under keys that are all different -/
theorem dcV (w : Walk J n G Y) {H0 : Hp} {D : Addr} (hG : ∀ H', Ex H0 H' → G H') (hn : n ≤ 40000) (k : Nat → Key) (v : Nat → V) (hk : ∀ i j, i < n → j < n → k i = k j → i = j) (hD : H0 D = none) {Qd : Hp → Prop}
    (ht : ∀ i x H H', i < n → Ex H0 H → Y i H x H' → TurnV g tYes vs σ H H' x true (fun σ2 H2 => Ev tk σ2 H2 (kV (k i)) ∧ Ev tv σ2 H2 (v i)))
    (hd : ∀ H', Ex H0 H' → H' D = some (.dK (pairs n k v)) → Qd H') :
    ∃ W : Nat → Nat → Hp → Prop, (∃ m, W 0 m (upd H0 D (.dK []))) ∧ ∀ i m H, W i m H →
      (J.stop i H ∧ Qd H) ∨ (J.go i H ∧ ∃ Nx : Hp → Prop, (∀ H', Nx H' → ∃ m', m' < m ∧ W (i + 1) m' H') ∧ ∀ x H', J.yld i H x H' → g x (wipe σ vs) H' fun σ2 H2 => wipe σ2 vs = wipe σ vs ∧ tYes σ2 H2 fun b H3 =>
        if b = true then tk σ2 H3 fun y H4 => tv σ2 H4 fun z H5 => ∃ kvs k, y = kV k ∧ H5 D = some (.dK kvs) ∧ kvs.length < sizeLine ∧ Nx (upd H5 D (.dK (putK kvs k z))) else Nx H3) := by
  refine ⟨fun i m H => m = n - i ∧ i ≤ n ∧ Ex H0 H ∧ H D = some (.dK (pairs i k v)), ⟨n, by simp, Nat.zero_le _, Ex.new hD, upd_same⟩, ?_⟩
  rintro i m H ⟨rfl, hi, p1, p2⟩
  by_cases hlt : i < n
  · refine .inr ⟨w.goes i H hlt (hG H p1), fun H' => Ex H0 H' ∧ H' D = some (.dK (pairs (i + 1) k v)), fun H' p => ⟨n - (i + 1), by omega, rfl, hlt, p.1, p.2⟩, fun x H' y => ?_⟩
    refine (ht i x H H' hlt p1 (w.yields i H x H' hlt (hG H p1) y)).go (fun σ2 H2 _ e hp => ?_) (fun _ z => by cases z) (fun σ2 H2 H3 hp e => ⟨hp.1.mono e, hp.2.mono e⟩)
    refine hp.1 H2 (Ex.refl H2) _ fun H3 e3 => hp.2 H3 e3 _ fun H4 e4 => ⟨pairs i k v, k i, rfl, e4 _ _ (e3 _ _ (e _ _ p2)), ?_, Ex.mut (((p1.trans e).trans e3).trans e4) hD, ?_⟩
    · unfold pairs
      rw [List.length_map, List.length_range]
      exact sz_lt (by omega)
    · rw [upd_same, putK_new (fun q hq => ?_), ← pairs_succ]
      unfold pairs at hq
      obtain ⟨j, hj, rfl⟩ := List.mem_map.mp hq
      have hj := List.mem_range.mp hj
      exact fun z => absurd (hk j i (by omega) hlt z) (by omega)
  · have e : i = n := by omega
    subst e
    exact .inl ⟨w.stops H (hG H p1), hd H p1 p2⟩
end
end K39
namespace K39
open PySem PySem.Spec PyProof.Rows L2 Evl
/-! ### the text -/
def topS (i : Nat) : Stmt := PySem.Challenge.pw_countfold_k39_whole_every_values.main.body.getD i (.Pass ⟨0, 0, 0, 0⟩)
abbrev sProduct : Stmt := topS 8
theorem scProduct : FnScope ["one", "other", "a", "b"] ["one", "other"] (defScope sProduct) := ⟨rfl, rfl, rfl, by decide +kernel, rfl, by decide +kernel, by decide +kernel⟩
/-! ### in a comprehension's block K is written out -/
theorem ixL {X : Cx} {K : PySem.W.Frag} (h : X.K = K := by rfl) : IxR X (rIxL K) := by
  subst h
  exact ix_list
theorem ixT {X : Cx} {K : PySem.W.Frag} (h : X.K = K := by rfl) : IxR X (rIxT K) := by
  subst h
  exact ix_tup
/-! ### the mathematics of product -/
def dot (u v : List Int) : Int := (List.zipWith (fun a b => a * b) u v).sum
/-! ### turns by a name, by a pair -/
section
variable {K : PySem.W.Frag} {σ : L2.St} {tt : TT} {te : TE} {vs : List Nat}
theorem turn_name {j : Nat} {x : V} {H : Hp} {b : Bool} {P : L2.St → Hp → Prop} (hw : wipe ((wipe σ vs).set j (some x)) vs = wipe σ vs) (ht : EvT tt ((wipe σ vs).set j (some x)) H b) (hp : b = true → P ((wipe σ vs).set j (some x)) H) :
    TurnV (gName j) tt vs σ H H x b P := fun Q q => q _ H hw (Ex.refl H) ht hp
theorem turn_pair {i j : Nat} {x1 x2 : V} {T : Addr} {H : Hp} {b : Bool} {P : L2.St → Hp → Prop} (hT : H T = none) (hw : wipe (((wipe σ vs).set i (some x1)).set j (some x2)) vs = wipe σ vs)
    (ht : ∀ H2, Ex H H2 → EvT tt (((wipe σ vs).set i (some x1)).set j (some x2)) H2 b) (hp : ∀ H2, Ex H H2 → b = true → P (((wipe σ vs).set i (some x1)).set j (some x2)) H2) :
    TurnV (gTup K 2 (gCons (gName i) (gCons (gName j) gNil))) tt vs σ H (upd H T (.tup [x1, x2])) (.ref T) b P := fun Q q =>
  ⟨T, [x1, x2], rfl, st_of upd_same, rfl, x1, [x2], rfl, x2, [], rfl, rfl, q _ _ hw (Ex.new hT) (ht _ (Ex.new hT)) (hp _ (Ex.new hT))⟩
theorem et_yes {H : Hp} : EvT tYes σ H true := fun H1 _ _ q => q H1 (Ex.refl H1)
end
theorem given_all {n : Nat} {v : Nat → V} : given n (fun _ => true) v = (List.range n).map v := by
  unfold given
  rw [List.filter_eq_self.mpr (fun _ _ => rfl)]
theorem ex_k {K : PySem.W.Frag} {k : Bool} {H H' : Hp} {a : Addr} {xs : List V} (e : Ex H H') (h : SqK K k H a xs) : SqK K k H' a xs := by
  cases k with
  | true => exact ex_t e (show SqT K H a xs from h)
  | false => exact ex_l e (show SqL K H a xs from h)
/-- [e for a, b in zip(x, y)]: a list of ints, each told by the two -/
theorem el_zip {K : PySem.W.Frag} {σ : L2.St} {H : Hp} {ta tb te : TE} {i j : Nat} {vs : List Nat} {ka kb : Bool} {x y : Addr} {ns ms : List Int} (op : Int → Int → Int) (ha : Ev ta σ H (.ref x)) (hb : Ev tb σ H (.ref y)) (hx : SqK K ka H x (ns.map V.int)) (hy : SqK K kb H y (ms.map V.int))
    (hl : ns.length ≤ 40000) (hw : ∀ p q : V, wipe (((wipe σ vs).set i (some p)).set j (some q)) vs = wipe σ vs)
    (he : ∀ (k : Nat) (p q : Int) H1, Ex H H1 → ns[k]? = some p → ms[k]? = some q → Ev te (((wipe σ vs).set i (some (.int p))).set j (some (.int q))) H1 (.int (op p q))) :
    EvL (tLc (iZipG K (tCons ta (tCons tb tNil))) (gTup K 2 (gCons (gName i) (gCons (gName j) gNil))) tYes te vs) σ H ((List.zipWith op ns ms).map V.int) := fun H0 e0 Q q =>
  ha H0 e0 _ fun H1 e1 => hb H1 (e0.trans e1) _ fun H2 e2 => ⟨x, y, ns.map V.int, ms.map V.int, ka, kb, rfl, ex_k ((e0.trans e1).trans e2) hx, ex_k ((e0.trans e1).trans e2) hy, fun D hD => by
    have len : min (ns.map V.int).length (ms.map V.int).length = min ns.length ms.length := by rw [List.length_map, List.length_map]
    refine lcV (walk_zipG (K := K)) (fun H' e' => ⟨ex_k (((e0.trans e1).trans e2).trans e') hx, ex_k (((e0.trans e1).trans e2).trans e') hy⟩) (by omega) (fun _ => true) (fun k => .int (op (ns.getD k 0) (ms.getD k 0))) hD
      (fun k v H' H'' hk e' yy => ?_) fun H' e' h' => q D H' (fresh_back (e1.trans e2) hD) ((e1.trans e2).trans e') ?_
    · obtain ⟨T, x1, x2, rfl, hT, rfl, g1, g2⟩ := yy
      rw [len] at hk
      have k1 : k < ns.length := by omega
      have k2 : k < ms.length := by omega
      have g1 : (ns.map V.int)[k]? = some x1 := g1
      have g2 : (ms.map V.int)[k]? = some x2 := g2
      rw [List.getElem?_map, List.getElem?_eq_getElem k1] at g1
      rw [List.getElem?_map, List.getElem?_eq_getElem k2] at g2
      obtain rfl := Option.some.inj g1
      obtain rfl := Option.some.inj g2
      have d1 : ns.getD k 0 = ns[k] := by rw [List.getD_eq_getElem?_getD, List.getElem?_eq_getElem k1]; rfl
      have d2 : ms.getD k 0 = ms[k] := by rw [List.getD_eq_getElem?_getD, List.getElem?_eq_getElem k2]; rfl
      refine turn_pair hT (hw _ _) (fun H2 _ => et_yes) fun H2 e3 _ => ?_
      rw [d1, d2]
      exact he k ns[k] ms[k] H2 ((((e0.trans e1).trans e2).trans e').trans e3) (List.getElem?_eq_getElem k1) (List.getElem?_eq_getElem k2)
    · rw [h', given_all, len]
      congr 2
      apply List.ext_getElem?
      intro k
      rw [List.getElem?_map, List.getElem?_map]
      by_cases hk : k < min ns.length ms.length
      · have k1 : k < ns.length := by omega
        have k2 : k < ms.length := by omega
        have d1 : ns.getD k 0 = ns[k] := by rw [List.getD_eq_getElem?_getD, List.getElem?_eq_getElem k1]; rfl
        have d2 : ms.getD k 0 = ms[k] := by rw [List.getD_eq_getElem?_getD, List.getElem?_eq_getElem k2]; rfl
        rw [List.getElem?_range hk, List.getElem?_zipWith, List.getElem?_eq_getElem k1, List.getElem?_eq_getElem k2]
        show some (V.int (op (ns.getD k 0) (ms.getD k 0))) = some (V.int (op ns[k] ms[k]))
        rw [d1, d2]
      · rw [List.getElem?_eq_none (by rw [List.length_range]; omega), List.getElem?_eq_none (by rw [List.length_zipWith]; omega)]
        rfl⟩
/-! ### product -/
section
variable {P : Program} {w : World} {K : PySem.W.Frag} {mg : Str → Option Value} {base : Heap}
def spDot (K : PySem.W.Frag) : Sp := fun vs H Q _ => ∃ a b ka kb ns ms, vs = [.ref a, .ref b] ∧ SqK K ka H a (ns.map V.int) ∧ SqK K kb H b (ms.map V.int) ∧ ns.length ≤ 40000 ∧ (∀ (k : Nat) (p q : Int), ns[k]? = some p → ms[k]? = some q → IntMulOk p q) ∧ RetV (.int (dot ns ms)) H Q
theorem ev_sum {σ : L2.St} {H : Hp} {te : TE} {ns : List Int} (h : EvL te σ H (ns.map V.int)) : Ev (tCB (rSum K) (tCons te tNil)) σ H (.int ns.sum) := fun H1 e Q q =>
  h H1 e _ fun p H2 _ e2 h2 => ⟨p, ns, rfl, sq_of h2, q H2 e2⟩
theorem ok_product {f : Addr} {fd : FuncData} {k : Nat} (F : Fun K "product" "product" sProduct f fd) (mz : mg "zip" = none) (ms : mg "sum" = none) : FnOk P w K mg base CX0 (k + 1) f fd ["one", "other"] (spDot K) := by
  refine F.ok scProduct (fun vs H Q E h => ?_) (fun cdv A outer s H vs Q E hr h => ?_)
  · obtain ⟨_, _, _, _, _, _, rfl, _⟩ := h
    rfl
  · obtain ⟨a, b, ka, kb, xs, ys, rfl, hx, hy, hl, hm, q⟩ := h
    refine ⟨_, pss_one (ps_ret (pe_callB (cr_sum rfl) (by rfl) ms (by decide +kernel) (pa_cons
      (pe_lc (own := [("a", 2), ("b", 3)]) (g := gTup K 2 (gCons (gName 2) (gCons (gName 3) gNil))) rfl scProduct.nd (pi_zipG (by rfl) mz (pa_cons (pv 0) (pa_cons (pv 1) pa_nil))) (blkOk_by (own := [("a", 2), ("b", 3)]) (N := ["one", "other", "a", "b"]) (sc := defScope sProduct) (by decide +kernel))
        (fun _ _ _ _ _ => pg_tup rfl (pgs_cons (pg_name (i := 2) scProduct.nd rfl (.inl rfl) (.inr rfl)) (pgs_cons (pg_name (i := 3) scProduct.nd rfl (.inl rfl) (.inr rfl)) pgs_nil)))
        (fun _ _ _ _ _ => pts_nil) (fun _ _ _ _ _ => pe_op op_mulX (pv 2) (pv 3))) pa_nil))), ?_⟩
    refine s_ret (ev_sum (el_zip (fun p q => p * q) (ev_var rfl) (ev_var rfl) hx hy hl (fun p q => rfl) fun k p q H1 _ hp hq => ?_)) q
    exact ev_op (ev_var rfl) (ev_var rfl) (rv_I (hm k p q hp hq))
end
end K39
namespace K39
open PySem PySem.Spec PyProof.Rows L2 Evl
theorem norm_st {t : TS} {D : Ends} {σ σ' : L2.St} {H : Hp} (e : σ = σ') (h : t D σ' H) : t D σ H := e ▸ h
/-! ### a block's own slots -/
theorem wipe_get (σ : L2.St) (k : Nat) : ∀ vs : List Nat, (wipe σ vs)[k]? = if k ∈ vs then (if k < σ.length then some none else none) else σ[k]?
  | [] => by rw [if_neg (by simp)]; rfl
  | v :: vs => by
    have ih := wipe_get σ k vs
    show ((wipe σ vs).set v none)[k]? = _
    by_cases h : v = k
    · subst h
      rw [if_pos List.mem_cons_self]
      by_cases hl : v < σ.length
      · rw [if_pos hl, List.getElem?_set_self (by rw [wipe_length]; exact hl)]
      · rw [if_neg hl, List.getElem?_eq_none (by rw [List.length_set, wipe_length]; omega)]
    · rw [List.getElem?_set_ne h, ih]
      by_cases hm : k ∈ vs
      · rw [if_pos hm, if_pos (List.mem_cons_of_mem _ hm)]
      · rw [if_neg hm, if_neg (fun z => (List.mem_cons.mp z).elim (fun e => h e.symm) hm)]
theorem wipe_in {τ : L2.St} {vs : List Nat} {i : Nat} {x : Option V} (h : i ∈ vs) : wipe (τ.set i x) vs = wipe τ vs := by
  apply List.ext_getElem?
  intro k
  rw [wipe_get, wipe_get, List.length_set]
  by_cases hk : k ∈ vs
  · rw [if_pos hk, if_pos hk]
  · rw [if_neg hk, if_neg hk, List.getElem?_set_ne (fun e => hk (by rw [← e]; exact h))]
theorem wipe_idem {σ : L2.St} {vs : List Nat} : wipe (wipe σ vs) vs = wipe σ vs := by
  apply List.ext_getElem?
  intro k
  rw [wipe_get, wipe_get, wipe_length]
  by_cases hk : k ∈ vs
  · rw [if_pos hk, if_pos hk]
  · rw [if_neg hk, if_neg hk]
theorem wipe1 {σ : L2.St} {vs : List Nat} {i : Nat} (h : i ∈ vs) (x : V) : wipe ((wipe σ vs).set i (some x)) vs = wipe σ vs := by rw [wipe_in h, wipe_idem]
theorem wipe2 {σ : L2.St} {vs : List Nat} {i j : Nat} (h : i ∈ vs) (h2 : j ∈ vs) (x y : V) : wipe (((wipe σ vs).set i (some x)).set j (some y)) vs = wipe σ vs := by rw [wipe_in h2, wipe_in h, wipe_idem]
theorem wipe5 {σ : L2.St} {vs : List Nat} {i1 i2 i3 i4 i5 : Nat} (h1 : i1 ∈ vs) (h2 : i2 ∈ vs) (h3 : i3 ∈ vs) (h4 : i4 ∈ vs) (h5 : i5 ∈ vs) (x1 x2 x3 x4 x5 : V) :
    wipe ((((((wipe σ vs).set i1 (some x1)).set i2 (some x2)).set i3 (some x3)).set i4 (some x4)).set i5 (some x5)) vs = wipe σ vs := by rw [wipe_in h5, wipe_in h4, wipe_in h3, wipe_in h2, wipe_in h1, wipe_idem]
section
variable {K : PySem.W.Frag} {σ : L2.St} {H H' : Hp} {ta tb te tk tv tl td : TE} {vs : List Nat} {D : Ends} {tz : TS} {g : TG}
theorem sqk_l {a : Addr} {xs : List V} (h : SqL K H a xs) : SqK K false H a xs := h
theorem sqk_t {a : Addr} {xs : List V} (h : SqT K H a xs) : SqK K true H a xs := h
theorem ev_dot {a b : Addr} {ka kb : Bool} {ns ms : List Int} (ha : Ev ta σ H (.ref a)) (hb : Ev tb σ H (.ref b)) (hx : SqK K ka H a (ns.map V.int)) (hy : SqK K kb H b (ms.map V.int)) (hl : ns.length ≤ 40000)
    (hm : ∀ (k : Nat) (p q : Int), ns[k]? = some p → ms[k]? = some q → IntMulOk p q) {E : XK} : Ev (tCall (spDot K) [] E (tCons ta (tCons tb tNil))) σ H (.int (dot ns ms)) := fun H1 e Q q =>
  ha H1 e _ fun H2 e2 => hb H2 (e.trans e2) _ fun H3 e3 => ⟨a, b, ka, kb, ns, ms, rfl, ex_k ((e.trans e2).trans e3) hx, ex_k ((e.trans e2).trans e3) hy, hl, hm, fun H4 e4 => q H4 ((e2.trans e3).trans e4)⟩
theorem q_asgN {i : Nat} {o : HO} (h : EvN te σ H o) (k : ∀ p H1, H p = none → Ex H H1 → H1 p = some o → tz D (σ.set i (some (.ref p))) H1) : tSeq (tAsg te (gName i)) tz D σ H := h H (Ex.refl H) _ k
theorem q_asgLN {i : Nat} {os : List HO} (h : EvLN te σ H os) (k : ∀ p as H1, H p = none → Ex H H1 → H1 p = some (.lst (as.map V.ref)) → Objs H H1 as os → tz D (σ.set i (some (.ref p))) H1) : tSeq (tAsg te (gName i)) tz D σ H := h H (Ex.refl H) _ k
/-- {k: v for x in xs}, xs a list -/
theorem en_dcL {a : Addr} {xs : List V} {j : Nat} (h : Ev tl σ H (.ref a)) (hx : SqL K H a xs) (hz : xs.length ≤ 40000) (k : Nat → Key) (v : Nat → V) (hk : ∀ i j, i < xs.length → j < xs.length → k i = k j → i = j) (hw : ∀ x, wipe ((wipe σ vs).set j (some x)) vs = wipe σ vs)
    (he : ∀ (i : Nat) (x : V) H1, Ex H H1 → xs[i]? = some x → Ev tk ((wipe σ vs).set j (some x)) H1 (kV (k i)) ∧ Ev tv ((wipe σ vs).set j (some x)) H1 (v i)) :
    EvN (tDc (iList K tl) (gName j) tYes tk tv vs) σ H (.dK (pairs xs.length k v)) := fun H0 e0 Q q =>
  h H0 e0 _ fun H1 e1 => ⟨a, rfl, ⟨xs, ex_l (e0.trans e1) hx⟩, fun Dl hD =>
    dcV (walk_list (K := K) (xs := xs)) (fun H' e' => ex_l ((e0.trans e1).trans e') hx) hz k v hk hD (fun i x H' H'' hi e' y => by
      obtain ⟨rfl, hxi⟩ := y
      exact turn_name (hw x) et_yes fun _ => he i x _ ((e0.trans e1).trans e') hxi) fun H' e' h' => q Dl H' (fresh_back e1 hD) (e1.trans e') h'⟩
theorem pairs_len {n : Nat} {k : Nat → Key} {v : Nat → V} : (pairs n k v).length = n := by
  unfold pairs
  rw [List.length_map, List.length_range]
theorem pairs_get {n : Nat} {k : Nat → Key} {v : Nat → V} {i : Nat} (hi : i < n) : (pairs n k v)[i]? = some (k i, v i) := by
  unfold pairs
  rw [List.getElem?_map, List.getElem?_range hi]
  rfl
theorem pairs_val {n : Nat} {k : Nat → Key} {v : Nat → V} {i : Nat} (hi : i < n) (hk : ∀ i j, i < n → j < n → k i = k j → i = j) : valV (pairs n k v) (k i) = some (v i) := by
  induction n with
  | zero => omega
  | succ n ih =>
    rw [pairs_succ]
    have nk : ∀ j, j < n → k j ≠ k n := fun j hj z => absurd (hk j n (by omega) (by omega) z) (by omega)
    have nn : valV (pairs n k v) (k n) = none := by
      unfold valV
      rw [Option.map_eq_none_iff, List.find?_eq_none]
      intro p hp
      unfold pairs at hp
      obtain ⟨j, hj, rfl⟩ := List.mem_map.mp hp
      exact fun z => nk j (List.mem_range.mp hj) (of_decide_eq_true z)
    rw [valV_snoc _ _ _ _ nn]
    by_cases hin : i = n
    · subst hin
      rw [if_pos rfl]
    · rw [if_neg (nk i (by omega))]
      exact ih (by omega) fun a b ha hb => hk a b (by omega) (by omega)
theorem ev_dget {a : Addr} {kvs : List (Key × V)} {k : Key} {v : V} (h : Ev td σ H (.ref a)) (hk : Ev tk σ H (kV k)) (hd : H a = some (.dK kvs)) (hv : valV kvs k = some v) : Ev (tDGet td tk) σ H v := fun H0 e0 Q q =>
  h H0 e0 _ fun H1 e1 => hk H1 (e0.trans e1) _ fun H2 e2 => ⟨a, v, rfl, by rw [← hv]; exact DGet.k (e2 _ _ (e1 _ _ (e0 _ _ hd))), q H2 (e1.trans e2)⟩
theorem ev_ixL {a : Addr} {xs : List V} {i : Int} {v : V} (h : Ev ta σ H (.ref a)) (hi : Ev tb σ H (.int i)) (hx : SqL K H a xs) (hv : atI xs i = some v) : Ev (tOp (rIxL K) ta tb) σ H v := ev_op h hi (rv_ixL hx hv)
theorem ev_ixT {a : Addr} {xs : List V} {i : Int} {v : V} (h : Ev ta σ H (.ref a)) (hi : Ev tb σ H (.int i)) (hx : SqT K H a xs) (hv : atI xs i = some v) : Ev (tOp (rIxT K) ta tb) σ H v := ev_op h hi (rv_ixT hx hv)
/-- name = [e for k, v in d.items() if ..], d a dict that stands -/
theorem q_items {d : Addr} {kvs : List (Key × V)} {i j m : Nat} {tt : TT} (hd : H d = some (.dK kvs)) (htd : ∀ H1, Ev td σ H1 (.ref d)) (hz : kvs.length ≤ 40000) (f : Nat → Bool) (o : Nat → HO)
    (hw : ∀ x y, wipe (((wipe σ vs).set i (some x)).set j (some y)) vs = wipe σ vs)
    (ht : ∀ (n : Nat) (k : Key) (v : V) H1, kvs[n]? = some (k, v) → EvT tt (((wipe σ vs).set i (some (kV k))).set j (some v)) H1 (f n))
    (he : ∀ (n : Nat) (k : Key) (v : V) H1, kvs[n]? = some (k, v) → f n = true → EvN te (((wipe σ vs).set i (some (kV k))).set j (some v)) H1 (o n))
    (k : ∀ p as H1, H p = none → Ex H H1 → H1 p = some (.lst (as.map V.ref)) → Objs H H1 as (made kvs.length f o) → tz D (σ.set m (some (.ref p))) H1) :
    tSeq (tLock (tAsg (tLc (iItems td) (gTup K 2 (gCons (gName i) (gCons (gName j) gNil))) tt te vs) (gName m))) tz D σ H := by
  refine ⟨d, .dK kvs, hd, trivial, fun od => ?_⟩
  have hl : (upd H d (.frz od (.dK kvs))) d = some (.frz od (.dK kvs)) := upd_same
  refine htd _ _ (Ex.refl _) _ fun H1 e1 => ⟨d, od, kvs, rfl, e1 _ _ hl, fun Dl hD => ?_⟩
  have hDd : Dl ≠ d := fun z => by
    rw [z, e1 _ _ hl] at hD
    cases hD
  have hDl : (upd H d (.frz od (.dK kvs))) Dl = none := fresh_back e1 hD
  have hDH : H Dl = none := by
    rw [upd_ne hDd] at hDl
    exact hDl
  refine lcN (walk_items (o := od) (d := d) (kvs := kvs)) (fun H' e' => e' _ _ (e1 _ _ hl)) hz f o hD (fun n x H' H'' hn e' y => ?_) fun H' as e' h' ob => ?_
  · obtain ⟨T, x1, x2, rfl, hT, rfl, g1, g2⟩ := y
    obtain ⟨⟨k1, v1⟩, hkv⟩ : ∃ p, kvs[n]? = some p := ⟨_, List.getElem?_eq_getElem hn⟩
    have g1 : (kvs[n]?.map fun kv => kV kv.1) = some x1 := g1
    have g2 : kvs[n]?.map Prod.snd = some x2 := g2
    rw [hkv] at g1 g2
    obtain rfl := Option.some.inj g1
    obtain rfl := Option.some.inj g2
    exact turn_pair hT (hw _ _) (fun H2 _ => ht n k1 v1 H2 hkv) fun H2 _ hb => he n k1 v1 H2 hkv hb
  · have hd' : H' d = some (.frz od (.dK kvs)) := e' _ _ (e1 _ _ hl)
    refine ⟨hd', k Dl as (upd H' d (.dK kvs)) hDH (fun a u ha => ?_) (by rw [upd_ne hDd]; exact h') ⟨ob.1, fun n a u x y => ?_⟩⟩
    · by_cases had : a = d
      · subst had
        rw [hd] at ha
        rw [upd_same, ha]
      · rw [upd_ne had]
        refine e' _ _ (e1 _ _ ?_)
        rw [upd_ne had]
        exact ha
    · obtain ⟨c1, c2⟩ := ob.2 n a u x y
      have had : a ≠ d := fun z => by
        rw [z, e1 _ _ hl] at c1
        cases c1
      have c3 := fresh_back e1 c1
      rw [upd_ne had] at c3
      exact ⟨c3, by rw [upd_ne had]; exact c2⟩
/-- a, b = a pair that stands -/
theorem q_asg2 {i j : Nat} {a : Addr} {x y : V} (h : Ev te σ H (.ref a)) (ha : SqT K H a [x, y]) (k : ∀ H1, Ex H H1 → tz D ((σ.set i (some x)).set j (some y)) H1) :
    tSeq (tAsg te (gTup K 2 (gCons (gName i) (gCons (gName j) gNil)))) tz D σ H := h H (Ex.refl H) _ fun H1 e1 => ⟨a, [x, y], rfl, ex_t e1 ha, rfl, x, [y], rfl, y, [], rfl, rfl, k H1 e1⟩
end
end K39
namespace K39
open PySem PySem.Spec PyProof.Rows L2
/-! ### the mirror: turned -/
abbrev Mat := List (List Int)
abbrev Two := Mat × Mat
def rowAt (C : Mat) (i : Nat) : List Int := C.getD i []
def fnd (co : List Int) (C : Mat) (i : Nat) : Int := dot co (rowAt C i)
def lefts (f : Nat → Int) (free : List Nat) : List Nat := free.filter fun i => decide (f i ≠ 0)
def absI (x : Int) : Int := if x < 0 then -x else x
def key (f : Nat → Int) (i : Nat) : Int × Int := (absI (f i), (i : Int))
def isPiv (f : Nat → Int) (l : List Nat) (p : Nat) : Prop := p ∈ l ∧ ∀ q ∈ l, pLt (key f q) (key f p) = false
def pivOf (f : Nat → Int) (l : List Nat) : Nat := (l.find? fun p => l.all fun q => !pLt (key f q) (key f p)).getD 0
def subRow (q : Int) (u v : List Int) : List Int := List.zipWith (fun a b => a - q * b) u v
def addRow (q : Int) (u v : List Int) : List Int := List.zipWith (fun a b => a + q * b) u v
def stepS (f : Nat → Int) (p : Nat) (s : Two) (i : Nat) : Two :=
  if i = p then s else (s.1.set i (subRow ((f i).fdiv (f p)) (rowAt s.1 i) (rowAt s.1 p)), s.2.set p (addRow ((f i).fdiv (f p)) (rowAt s.2 p) (rowAt s.2 i)))
def roundS (co : List Int) (free : List Nat) (s : Two) : Two :=
  (lefts (fnd co s.1) free).foldl (stepS (fnd co s.1) (pivOf (fnd co s.1) (lefts (fnd co s.1) free))) s
/-- ints whose products are made without a word -/
def Sm (x : Int) : Prop := x.natAbs.log2 < 60000000
theorem Sm.mul {x y : Int} (hx : Sm x) (hy : Sm y) : IntMulOk x y := by
  have b : ∀ z : Int, Builtin.Int.intBits z ≤ z.natAbs.log2 + 1 := fun z => by
    unfold Builtin.Int.intBits
    split <;> omega
  have h1 := b x
  have h2 := b y
  unfold Sm at hx hy
  have e : bitsLine = 134217728 := by decide
  unfold IntMulOk
  intro z
  rw [Bool.and_eq_true] at z
  have z2 := z.2
  unfold Builtin.Int.intTooBig at z2
  have z3 := of_decide_eq_true z2
  rw [e] at z3
  omega
def SmL (l : List Int) : Prop := ∀ x ∈ l, Sm x
def Shape (w : Nat) (C : Mat) : Prop := C.length = w ∧ ∀ m ∈ C, m.length = w
/-- what a round asks of its state -/
def Good (w : Nat) (co : List Int) (free : List Nat) (s : Two) : Prop :=
  Shape w s.1 ∧ Shape w s.2 ∧ (∀ i ∈ free, SmL (rowAt s.1 i) ∧ SmL (rowAt s.2 i)) ∧
  ∀ i ∈ free, ∀ p ∈ free, fnd co s.1 p ≠ 0 → Sm ((fnd co s.1 i).fdiv (fnd co s.1 p)) ∧ Builtin.divisionGoesByPylong (fnd co s.1 i) (fnd co s.1 p) = false
def RunN (w : Nat) (co : List Int) (free : List Nat) : Nat → Two → Two → Prop
  | 0, s, s' => Good w co free s ∧ (lefts (fnd co s.1) free).length < 2 ∧ s' = s
  | n + 1, s, s' => Good w co free s ∧ ¬ (lefts (fnd co s.1) free).length < 2 ∧ RunN w co free n (roundS co free s) s'
theorem RunN.good {w : Nat} {co : List Int} {free : List Nat} : ∀ {n : Nat} {s s' : Two}, RunN w co free n s s' → Good w co free s
  | 0, _, _, h => h.1
  | _ + 1, _, _, h => h.1
/-- the one column left, if one is -/
def lastOf (f : Nat → Int) (free : List Nat) : Option Nat := (lefts f free).head?
theorem pivOf_eq {f : Nat → Int} {l : List Nat} {p : Nat} (h : isPiv f l p) : pivOf f l = p := by
  have hp : (l.all fun q => !pLt (key f q) (key f p)) = true := List.all_eq_true.mpr fun q hq => by rw [h.2 q hq]; rfl
  unfold pivOf
  cases e : l.find? (fun p => l.all fun q => !pLt (key f q) (key f p)) with
  | none =>
    have := List.find?_eq_none.mp e p h.1
    exact absurd hp this
  | some p' =>
    have h1 := List.find?_some e
    have h2 := List.mem_of_find?_eq_some e
    have a1 : pLt (key f p) (key f p') = false := by
      have := List.all_eq_true.mp h1 p h.1
      simpa using this
    have a2 := h.2 p' h2
    show p' = p
    rw [Bool.eq_false_iff] at a1 a2
    have b1 : ¬ (absI (f p) < absI (f p') ∨ (absI (f p) = absI (f p') ∧ (p : Int) < (p' : Int))) := fun z => a1 (pLt_iff.mpr z)
    have b2 : ¬ (absI (f p') < absI (f p) ∨ (absI (f p') = absI (f p) ∧ (p' : Int) < (p : Int))) := fun z => a2 (pLt_iff.mpr z)
    omega
theorem shape_set {w : Nat} {C : Mat} {i : Nat} {m : List Int} (h : Shape w C) (hm : m.length = w) : Shape w (C.set i m) :=
  ⟨by rw [List.length_set]; exact h.1, fun x hx => by
    rcases List.mem_or_eq_of_mem_set hx with hx | hx
    · exact h.2 x hx
    · rw [hx]; exact hm⟩
theorem shape_row {w : Nat} {C : Mat} {i : Nat} (h : Shape w C) (hi : i < w) : (rowAt C i).length = w := by
  have hi : i < C.length := by rw [h.1]; exact hi
  unfold rowAt
  rw [List.getD_eq_getElem?_getD, List.getElem?_eq_getElem hi]
  exact h.2 _ (List.getElem_mem hi)
theorem rowAt_get {C : Mat} {i : Nat} (hi : i < C.length) : C[i]? = some (rowAt C i) := by
  unfold rowAt
  rw [List.getD_eq_getElem?_getD, List.getElem?_eq_getElem hi]
  rfl
theorem rowAt_set_ne {C : Mat} {i j : Nat} {m : List Int} (h : i ≠ j) : rowAt (C.set i m) j = rowAt C j := by
  unfold rowAt
  rw [List.getD_eq_getElem?_getD, List.getD_eq_getElem?_getD, List.getElem?_set_ne h]
theorem rowAt_set_eq {C : Mat} {i : Nat} {m : List Int} (h : i < C.length) : rowAt (C.set i m) i = m := by
  unfold rowAt
  rw [List.getD_eq_getElem?_getD, List.getElem?_set_self h]
  rfl
theorem step_shape {w : Nat} {f : Nat → Int} {p i : Nat} {s : Two} (hp : p < w) (hi : i < w) (h : Shape w s.1 ∧ Shape w s.2) : Shape w (stepS f p s i).1 ∧ Shape w (stepS f p s i).2 := by
  unfold stepS
  split
  · exact h
  · refine ⟨shape_set h.1 ?_, shape_set h.2 ?_⟩
    · unfold subRow
      rw [List.length_zipWith, shape_row h.1 hi, shape_row h.1 hp, Nat.min_self]
    · unfold addRow
      rw [List.length_zipWith, shape_row h.2 hi, shape_row h.2 hp, Nat.min_self]
/-- what the steps of a round leave as it was -/
theorem step_keep {w : Nat} {f : Nat → Int} {p i : Nat} {s : Two} (j : Nat) : (j ≠ i → rowAt (stepS f p s i).1 j = rowAt s.1 j) ∧ (i = p → rowAt (stepS f p s i).1 j = rowAt s.1 j) ∧ (j ≠ p → rowAt (stepS f p s i).2 j = rowAt s.2 j) := by
  unfold stepS
  refine ⟨fun h => ?_, fun h => ?_, fun h => ?_⟩
  · split
    · rfl
    · exact rowAt_set_ne (Ne.symm h)
  · rw [if_pos h]
  · split
    · rfl
    · exact rowAt_set_ne (Ne.symm h)
theorem run_shape1 {w : Nat} {co : List Int} {free : List Nat} : ∀ {n : Nat} {s s' : Two}, RunN w co free n s s' → s'.1.length = w
  | 0, _, _, h => by
    rw [h.2.2]
    exact h.1.1.1
  | _ + 1, _, _, h => run_shape1 h.2.2
theorem run_shape2 {w : Nat} {co : List Int} {free : List Nat} : ∀ {n : Nat} {s s' : Two}, RunN w co free n s s' → s'.2.length = w
  | 0, _, _, h => by
    rw [h.2.2]
    exact h.1.2.1.1
  | _ + 1, _, _, h => run_shape2 h.2.2
end K39
namespace K39
open PySem PySem.Spec PyProof.Rows L2 Evl
section
variable {K : PySem.W.Frag} {σ : L2.St} {H H' : Hp} {ta tb te : TE} {D : Ends} {tz : TS}
/-- xs[i] = a new object -/
theorem q_setN {l : Addr} {xs : List V} {j : Nat} {o : HO} (hl : H l = some (.lst xs)) (h : EvN te σ H o) (ho : ∀ H1, Ex H H1 → Ev ta σ H1 (.ref l)) (hi : ∀ H1, Ex H H1 → Ev tb σ H1 (.int (j : Int))) (hj : j < xs.length)
    (k : ∀ p H1, H p = none → Ex H H1 → H1 p = some o → tz D σ (upd H1 l (.lst (xs.set j (.ref p))))) : tSeq (tAsg te (gSub ta tb rSetL)) tz D σ H :=
  h H (Ex.refl H) _ fun p H1 hp e1 h1 => ho H1 e1 H1 (Ex.refl H1) _ fun H2 e2 => hi H2 (e1.trans e2) H2 (Ex.refl H2) _ fun H3 e3 =>
    ⟨l, xs, (j : Int), j, rfl, rfl, e3 _ _ (e2 _ _ (e1 _ _ hl)), ixN_nat hj, k p H3 hp ((e1.trans e2).trans e3) (e3 _ _ (e2 _ _ h1))⟩
theorem s_setN {l : Addr} {xs : List V} {j : Nat} {o : HO} (hl : H l = some (.lst xs)) (h : EvN te σ H o) (ho : ∀ H1, Ex H H1 → Ev ta σ H1 (.ref l)) (hi : ∀ H1, Ex H H1 → Ev tb σ H1 (.int (j : Int))) (hj : j < xs.length)
    (k : ∀ p H1, H p = none → Ex H H1 → H1 p = some o → D.nx σ (upd H1 l (.lst (xs.set j (.ref p))))) : tAsg te (gSub ta tb rSetL) D σ H :=
  h H (Ex.refl H) _ fun p H1 hp e1 h1 => ho H1 e1 H1 (Ex.refl H1) _ fun H2 e2 => hi H2 (e1.trans e2) H2 (Ex.refl H2) _ fun H3 e3 =>
    ⟨l, xs, (j : Int), j, rfl, rfl, e3 _ _ (e2 _ _ (e1 _ _ hl)), ixN_nat hj, k p H3 hp ((e1.trans e2).trans e3) (e3 _ _ (e2 _ _ h1))⟩
end
/-! ### two lists of lists of ints that are written, all else standing -/
def natsV (l : List Nat) : List V := l.map fun (n : Nat) => V.int (n : Int)
theorem natsV_get {l : List Nat} {i : Nat} (hi : i < l.length) : (natsV l)[i]? = some (.int (l.getD i 0 : Nat)) := by
  unfold natsV
  rw [List.getElem?_map, List.getElem?_eq_getElem hi, List.getD_eq_getElem?_getD, List.getElem?_eq_getElem hi]
  rfl
theorem natsV_len {l : List Nat} : (natsV l).length = l.length := by
  unfold natsV
  rw [List.length_map]
def Rows (K : PySem.W.Frag) (G : Hp) (as : List Addr) (M : Mat) : Prop := as.length = M.length ∧ ∀ (i : Nat) (a : Addr), as[i]? = some a → SqL K G a ((rowAt M i).map V.int)
theorem Rows.ex {K : PySem.W.Frag} {G G' : Hp} {as : List Addr} {M : Mat} (h : Rows K G as M) (e : Ex G G') : Rows K G' as M := ⟨h.1, fun i a x => ex_l e (h.2 i a x)⟩
structure TwoAt (K : PySem.W.Frag) (G H : Hp) (c v : Addr) (cs is : List Addr) (s : Two) : Prop where
  ex : Ex G H
  gc : G c = none
  gv : G v = none
  ne : c ≠ v
  hc : H c = some (.lst (cs.map V.ref))
  hv : H v = some (.lst (is.map V.ref))
  rc : Rows K G cs s.1
  rv : Rows K G is s.2
theorem TwoAt.on {K : PySem.W.Frag} {G H H1 : Hp} {c v : Addr} {cs is : List Addr} {s : Two} (T : TwoAt K G H c v cs is s) (e : Ex H H1) : TwoAt K G H1 c v cs is s :=
  ⟨T.ex.trans e, T.gc, T.gv, T.ne, e _ _ T.hc, e _ _ T.hv, T.rc, T.rv⟩
/-- all that stood at H stands at H' but what is at c, v -/
def Fram (c v : Addr) (H H' : Hp) : Prop := ∀ b o, b ≠ c → b ≠ v → H b = some o → H' b = some o
/-- what is new in G' was not there at H -/
def Sep (H G G' : Hp) : Prop := ∀ b, H b ≠ none → G b = none → G' b = none
theorem Fram.refl {c v : Addr} {H : Hp} : Fram c v H H := fun _ _ _ _ h => h
theorem Fram.ex {c v : Addr} {H H1 H2 : Hp} (f : Fram c v H H1) (e : Ex H1 H2) : Fram c v H H2 := fun b o h1 h2 h => e _ _ (f b o h1 h2 h)
theorem Fram.of {c v : Addr} {H H1 : Hp} (e : Ex H H1) : Fram c v H H1 := fun b o _ _ h => e _ _ h
theorem Fram.trans {c v : Addr} {H H1 H2 : Hp} (f : Fram c v H H1) (g : Fram c v H1 H2) : Fram c v H H2 := fun b o h1 h2 h => g b o h1 h2 (f b o h1 h2 h)
theorem Sep.refl {H G : Hp} : Sep H G G := fun _ _ h => h
theorem Sep.trans {c v : Addr} {H H1 G G1 G2 : Hp} (s : Sep H G G1) (f : Fram c v H H1) (s2 : Sep H1 G1 G2) (gc : G2 c = none) (gv : G2 v = none) : Sep H G G2 := fun b hb hg => by
  by_cases h1 : b = c
  · rw [h1]; exact gc
  · by_cases h2 : b = v
    · rw [h2]; exact gv
    · refine s2 b (fun z => ?_) (s b hb hg)
      cases e : H b with
      | none => exact hb e
      | some o =>
        rw [f b o h1 h2 e] at z
        cases z
theorem fram_l {K : PySem.W.Frag} {c v a : Addr} {H H' : Hp} {xs : List V} (f : Fram c v H H') (h1 : a ≠ c) (h2 : a ≠ v) (h : SqL K H a xs) : SqL K H' a xs := by
  rcases h with (h | ⟨o, h⟩) | h
  · exact .inl (.inl (f _ _ h1 h2 h))
  · exact .inl (.inr ⟨o, f _ _ h1 h2 h⟩)
  · exact .inr h
theorem set_map {as : List Addr} {i : Nat} {p : Addr} : (as.map V.ref).set i (.ref p) = (as.set i p).map V.ref := List.map_set.symm
theorem rows_set {K : PySem.W.Frag} {G : Hp} {as : List Addr} {M : Mat} {i : Nat} {p : Addr} {row : List Int} (h : Rows K G as M) (hp : SqL K G p (row.map V.int)) : Rows K G (as.set i p) (M.set i row) := by
  refine ⟨by rw [List.length_set, List.length_set]; exact h.1, fun j a hj => ?_⟩
  by_cases hij : i = j
  · subst hij
    have hl : i < as.length := by
      have := (List.getElem?_eq_some_iff.mp hj).1
      rw [List.length_set] at this
      exact this
    rw [List.getElem?_set_self hl] at hj
    obtain rfl := Option.some.inj hj
    rw [rowAt_set_eq (by rw [← h.1]; exact hl)]
    exact hp
  · rw [List.getElem?_set_ne hij] at hj
    rw [rowAt_set_ne hij]
    exact h.2 j a hj
theorem TwoAt.set1 {K : PySem.W.Frag} {G H H1 : Hp} {c v p : Addr} {cs is : List Addr} {s : Two} {i : Nat} {row : List Int} (T : TwoAt K G H c v cs is s) (e : Ex H H1) (hp : H p = none) (h1 : H1 p = some (.lst (row.map V.int))) :
    ∃ G', Ex G G' ∧ TwoAt K G' (upd H1 c (.lst ((cs.map V.ref).set i (.ref p)))) c v (cs.set i p) is (s.1.set i row, s.2) ∧ Fram c v H (upd H1 c (.lst ((cs.map V.ref).set i (.ref p)))) ∧ Sep H G G' := by
  have gp : G p = none := fresh_back T.ex hp
  have pc : p ≠ c := fun z => by rw [z, T.hc] at hp; cases hp
  have pv' : p ≠ v := fun z => by rw [z, T.hv] at hp; cases hp
  have eg : Ex G (upd G p (.lst (row.map V.int))) := Ex.new gp
  refine ⟨_, eg, ⟨fun a o ha => ?_, by rw [upd_ne (Ne.symm pc)]; exact T.gc, by rw [upd_ne (Ne.symm pv')]; exact T.gv, T.ne, by rw [upd_same, set_map], by rw [upd_ne (Ne.symm T.ne)]; exact e _ _ T.hv, rows_set (T.rc.ex eg) (sq_of upd_same), T.rv.ex eg⟩, fun b o h1 _ hb => by rw [upd_ne h1]; exact e _ _ hb, fun b hb hg => by rw [upd_ne (fun z => hb (by rw [z]; exact hp))]; exact hg⟩
  by_cases hap : a = p
  · subst hap
    rw [upd_same] at ha
    rw [upd_ne pc, h1]
    exact ha
  · rw [upd_ne hap] at ha
    have hac : a ≠ c := fun z => by rw [z, T.gc] at ha; cases ha
    rw [upd_ne hac]
    exact e _ _ (T.ex _ _ ha)
theorem TwoAt.set2 {K : PySem.W.Frag} {G H H1 : Hp} {c v p : Addr} {cs is : List Addr} {s : Two} {i : Nat} {row : List Int} (T : TwoAt K G H c v cs is s) (e : Ex H H1) (hp : H p = none) (h1 : H1 p = some (.lst (row.map V.int))) :
    ∃ G', Ex G G' ∧ TwoAt K G' (upd H1 v (.lst ((is.map V.ref).set i (.ref p)))) c v cs (is.set i p) (s.1, s.2.set i row) ∧ Fram c v H (upd H1 v (.lst ((is.map V.ref).set i (.ref p)))) ∧ Sep H G G' := by
  have gp : G p = none := fresh_back T.ex hp
  have pc : p ≠ c := fun z => by rw [z, T.hc] at hp; cases hp
  have pv' : p ≠ v := fun z => by rw [z, T.hv] at hp; cases hp
  have eg : Ex G (upd G p (.lst (row.map V.int))) := Ex.new gp
  refine ⟨_, eg, ⟨fun a o ha => ?_, by rw [upd_ne (Ne.symm pc)]; exact T.gc, by rw [upd_ne (Ne.symm pv')]; exact T.gv, T.ne, by rw [upd_ne T.ne]; exact e _ _ T.hc, by rw [upd_same, set_map], T.rc.ex eg, rows_set (T.rv.ex eg) (sq_of upd_same)⟩, fun b o _ h2 hb => by rw [upd_ne h2]; exact e _ _ hb, fun b hb hg => by rw [upd_ne (fun z => hb (by rw [z]; exact hp))]; exact hg⟩
  by_cases hap : a = p
  · subst hap
    rw [upd_same] at ha
    rw [upd_ne pv', h1]
    exact ha
  · rw [upd_ne hap] at ha
    have hac : a ≠ v := fun z => by rw [z, T.gv] at ha; cases ha
    rw [upd_ne hac]
    exact e _ _ (T.ex _ _ ha)
/-- all that stands but at two places -/
def less (H : Hp) (c v : Addr) : Hp := fun b => if b = c ∨ b = v then none else H b
theorem less_ex {H : Hp} {c v : Addr} : Ex (less H c v) H := fun a o h => by
  unfold less at h
  split at h
  · cases h
  · exact h
theorem less_at {H : Hp} {c v a : Addr} {o : HO} (h : H a = some o) (h1 : a ≠ c) (h2 : a ≠ v) : less H c v a = some o := by
  unfold less
  rw [if_neg (fun z => z.elim h1 h2)]
  exact h
theorem TwoAt.less {K : PySem.W.Frag} {G H : Hp} {c v : Addr} {cs is : List Addr} {s : Two} (T : TwoAt K G H c v cs is s) : Ex G (less H c v) ∧ TwoAt K (less H c v) H c v cs is s := by
  have e : Ex G (K39.less H c v) := fun a o h => less_at (T.ex _ _ h) (fun z => by rw [z, T.gc] at h; cases h) fun z => by rw [z, T.gv] at h; cases h
  exact ⟨e, ⟨less_ex, if_pos (.inl rfl), if_pos (.inr rfl), T.ne, T.hc, T.hv, T.rc.ex e, T.rv.ex e⟩⟩
theorem made_filter {l : List Nat} {p : Nat → Bool} {g : Nat → HO} : made l.length (fun i => p (l.getD i 0)) (fun i => g (l.getD i 0)) = (l.filter p).map g := by
  have e : (List.range l.length).map (fun i => l.getD i 0) = l := by
    apply List.ext_getElem?
    intro k
    rw [List.getElem?_map]
    by_cases hk : k < l.length
    · rw [List.getElem?_range hk, List.getElem?_eq_getElem hk]
      show some (l.getD k 0) = _
      rw [List.getD_eq_getElem?_getD, List.getElem?_eq_getElem hk]
      rfl
    · rw [List.getElem?_eq_none (by rw [List.length_range]; omega), List.getElem?_eq_none (by omega)]
      rfl
  have e2 : l.filter p = ((List.range l.length).filter (fun i => p (l.getD i 0))).map (fun i => l.getD i 0) := by
    conv => lhs; rw [← e]
    rw [List.filter_map]
    rfl
  rw [e2, List.map_map]
  rfl
end K39
namespace K39
open PySem PySem.Spec PyProof.Rows L2 Evl
/-! ### rules with K written out (a comprehension's block) -/
def rLists (K : PySem.W.Frag) : List V → Hp → VK → Prop := fun xs H Q => ∃ p ys, xs = [.ref p] ∧ (SqL K H p ys ∨ SqT K H p ys) ∧ ∀ l, H l = none → Q (.ref l) (upd H l (.lst ys))
def rTups (K : PySem.W.Frag) : List V → Hp → VK → Prop := fun xs H Q => ∃ p ys, xs = [.ref p] ∧ ((SqL K H p ys ∧ ∀ l, H l = none → Q (.ref l) (upd H l (.tup ys))) ∨ (SqT K H p ys ∧ Q (.ref p) H))
def rInt1 : List V → Hp → VK → Prop := fun xs H Q => (∃ i, xs = [.int i] ∧ Q (.int i) H) ∨ ∃ k, xs = [.bl k] ∧ Q (.int (if k then 1 else 0)) H
theorem cr_list {X : Cx} {K : PySem.W.Frag} (h : X.K = K := by rfl) : CallR X (.type "list") (rLists K) := by
  subst h
  exact call_list_of
theorem cr_tuple {X : Cx} {K : PySem.W.Frag} (h : X.K = K := by rfl) : CallR X (.type "tuple") (rTups K) := by
  subst h
  exact call_tuple_of
theorem cr_int {X : Cx} : CallR X (.type "int") rInt1 := call_int1
theorem pg_starK {X : Cx} {K : PySem.W.Frag} {e1 e2 : Expr} {sp pos : Pos} {k : Nat} {t1 t2 : TG} (hc : X.calm = true) (h1 : PG X e1 t1) (h2 : PG X e2 t2) (h : X.K = K := by rfl)
    (hn : (assignEach [e1, .Starred e2 sp] X.env).map (·.2) = [assign e1 X.env, assign e2 X.env] := by rfl) (hst : (assignEach [e1, .Starred e2 sp] X.env).findIdx? (·.1) = some 1 := by rfl) :
    PG X (.Tuple [e1, .Starred e2 sp] k pos) (gStar K t1 t2) := by
  subst h
  exact pg_star hc h1 h2 hn hst
section
variable {K : PySem.W.Frag} {σ : L2.St} {H H' : Hp} {ta tb te tk tv tl td : TE} {vs : List Nat} {D : Ends} {tz : TS} {g : TG}
/-! ### comprehensions of new objects -/
theorem eln_range {tr : TA} {j : Nat} {n : Int} (h : EvA tr σ H [.int n]) (hn : 0 ≤ n ∧ n ≤ 40000) (o : Nat → HO) (hw : ∀ x, wipe ((wipe σ vs).set j (some x)) vs = wipe σ vs)
    (he : ∀ (i : Nat) H1, Ex H H1 → (i : Int) < n → EvN te ((wipe σ vs).set j (some (.int (i : Int)))) H1 (o i)) : EvLN (tLc (iRng1 tr) (gName j) tYes te vs) σ H (made n.toNat (fun _ => true) o) := fun H0 e0 Q q =>
  h H0 e0 _ fun H1 e1 => ⟨n, rfl, by omega, by omega, fun Dl hD =>
    lcN (walk_range (lo := 0) (n := n.toNat)) (fun _ _ => trivial) (by omega) (fun _ => true) o hD (fun i x H' H'' hi e' y => by
      obtain ⟨rfl, rfl⟩ := y
      have e0' : (0 : Int) + (i : Int) = (i : Int) := Int.zero_add _
      refine turn_name (hw _) et_yes fun _ => ?_
      show EvN te ((wipe σ vs).set j (some (.int ((0 : Int) + (i : Int))))) _ (o i)
      rw [e0']
      exact he i _ ((e0.trans e1).trans e') (by omega)) fun H' as e' h' ob => q Dl as H' (fresh_back e1 hD) (e1.trans e') h' (ob.back e1)⟩
theorem eln_list {a : Addr} {xs : List V} {j : Nat} (h : Ev tl σ H (.ref a)) (hx : SqL K H a xs) (hz : xs.length ≤ 40000) (o : Nat → HO) (hw : ∀ x, wipe ((wipe σ vs).set j (some x)) vs = wipe σ vs)
    (he : ∀ (i : Nat) (x : V) H1, Ex H H1 → xs[i]? = some x → EvN te ((wipe σ vs).set j (some x)) H1 (o i)) : EvLN (tLc (iList K tl) (gName j) tYes te vs) σ H (made xs.length (fun _ => true) o) := fun H0 e0 Q q =>
  h H0 e0 _ fun H1 e1 => ⟨a, rfl, ⟨xs, ex_l (e0.trans e1) hx⟩, fun Dl hD =>
    lcN (walk_list (K := K) (xs := xs)) (fun H' e' => ex_l ((e0.trans e1).trans e') hx) hz (fun _ => true) o hD (fun i x H' H'' hi e' y => by
      obtain ⟨rfl, hxi⟩ := y
      exact turn_name (hw x) et_yes fun _ => he i x _ ((e0.trans e1).trans e') hxi) fun H' as e' h' ob => q Dl as H' (fresh_back e1 hD) (e1.trans e') h' (ob.back e1)⟩
theorem made_all {n : Nat} {o : Nat → HO} : made n (fun _ => true) o = (List.range n).map o := by
  unfold made
  rw [List.filter_eq_self.mpr (fun _ _ => rfl)]
/-- list(x), tuple(x) of a list or tuple that stands -/
theorem en_list {a : Addr} {k : Bool} {xs : List V} (h : Ev te σ H (.ref a)) (hx : SqK K k H a xs) : EvN (tCB (rLists K) (tCons te tNil)) σ H (.lst xs) := fun H0 e0 Q q =>
  h H0 e0 _ fun H1 e1 => ⟨a, xs, rfl, by
    cases k with
    | true => exact .inr (ex_t (e0.trans e1) hx)
    | false => exact .inl (ex_l (e0.trans e1) hx), fun l hl => q l _ (fresh_back e1 hl) (e1.trans (Ex.new hl)) upd_same⟩
theorem en_tuple {a : Addr} {xs : List V} (h : Ev te σ H (.ref a)) (hx : SqL K H a xs) : EvN (tCB (rTups K) (tCons te tNil)) σ H (.tup xs) := fun H0 e0 Q q =>
  h H0 e0 _ fun H1 e1 => ⟨a, xs, rfl, .inl ⟨ex_l (e0.trans e1) hx, fun l hl => q l _ (fresh_back e1 hl) (e1.trans (Ex.new hl)) upd_same⟩⟩
/-- tuple of a list made on the way -/
theorem en_tupleN {xs : List V} (h : EvL te σ H xs) : EvN (tCB (rTups K) (tCons te tNil)) σ H (.tup xs) := fun H0 e0 Q q =>
  h H0 e0 _ fun p H1 hp e1 h1 => ⟨p, xs, rfl, .inl ⟨sq_of h1, fun l hl => q l _ (fresh_back e1 hl) (e1.trans (Ex.new hl)) upd_same⟩⟩
/-- a new tuple of new objects -/
def EvTN (te : TE) (σ : L2.St) (H : Hp) (os : List HO) : Prop := ∀ H1, Ex H H1 → ∀ Q : VK, (∀ p as H2, H1 p = none → Ex H1 H2 → H2 p = some (.tup (as.map V.ref)) → Objs H1 H2 as os → Q (.ref p) H2) → te σ H1 Q
theorem etn_tuple {os : List HO} (h : EvLN te σ H os) : EvTN (tCB (rTups K) (tCons te tNil)) σ H os := fun H0 e0 Q q =>
  h H0 e0 _ fun p as H1 hp e1 h1 ob => ⟨p, as.map V.ref, rfl, .inl ⟨sq_of h1, fun l hl => q l as _ (fresh_back e1 hl) (e1.trans (Ex.new hl)) upd_same (ob.ex (Ex.new hl))⟩⟩
theorem q_asgTN {i : Nat} {os : List HO} (h : EvTN te σ H os) (k : ∀ p as H1, H p = none → Ex H H1 → H1 p = some (.tup (as.map V.ref)) → Objs H H1 as os → tz D (σ.set i (some (.ref p))) H1) : tSeq (tAsg te (gName i)) tz D σ H := h H (Ex.refl H) _ k
/-- a, *b = a row that stands -/
theorem q_star {i j : Nat} {a : Addr} {k : Bool} {x : V} {xs : List V} (h : Ev te σ H (.ref a)) (hx : SqK K k H a (x :: xs)) (hz : xs.length ≤ 16000) (kk : ∀ p H1, H p = none → Ex H H1 → H1 p = some (.lst xs) → tz D ((σ.set i (some x)).set j (some (.ref p))) H1) :
    tSeq (tAsg te (gStar K (gName i) (gName j))) tz D σ H := h H (Ex.refl H) _ fun H1 e1 => ⟨a, x, xs, rfl, by
    cases k with
    | true => exact .inl (ex_t e1 hx)
    | false => exact .inr (ex_l e1 hx), hz, fun p hp => kk p _ (fresh_back e1 hp) (e1.trans (Ex.new hp)) upd_same⟩
theorem ev_int {b : Bool} (h : Ev te σ H (.bl b)) : Ev (tCB rInt1 (tCons te tNil)) σ H (.int (if b then 1 else 0)) := fun H0 e0 Q q => h H0 e0 _ fun H1 e1 => .inr ⟨b, rfl, q H1 e1⟩
end
end K39
namespace K39
open PySem PySem.Spec PyProof.Rows L2 Evl
/-! ### the mirror: settled -/
structure Stt where
  s : Two
  free : List Nat
  pins : List (Nat × Int)
def leftF (c : Int) (co : List Int) (C : Mat) (pins : List (Nat × Int)) : Int := c + (pins.map fun p => fnd co C p.1 * p.2).sum
def idM (w : Nat) : Mat := (List.range w).map fun p => (List.range w).map fun a => if a = p then 1 else 0
def initS (w : Nat) : Stt := ⟨(idM w, idM w), List.range w, []⟩
/-- what a row does, told by which column is left -/
def RowDone (c : Int) (co : List Int) (s' : Two) (a a' : Stt) : Prop := match lastOf (fnd co s'.1) a.free with
  | none => leftF c co s'.1 a.pins = 0 ∧ a' = ⟨s', a.free, a.pins⟩
  | some i => SmL (rowAt s'.1 i) ∧ (leftF c co s'.1 a.pins).fmod (fnd co s'.1 i) = 0 ∧ Builtin.divisionGoesByPylong (-(leftF c co s'.1 a.pins)) (fnd co s'.1 i) = false ∧
    a' = ⟨s', a.free.erase i, a.pins ++ [(i, (-(leftF c co s'.1 a.pins)).fdiv (fnd co s'.1 i))]⟩
def RowsRun (wd : Nat) : List (List Int) → Stt → Stt → Prop
  | [], a, b => b = a
  | row :: rest, a, b => ∃ c co n s' a', row = c :: co ∧ SmL co ∧ co.length ≤ 1000 ∧ RunN wd co a.free n a.s s' ∧ (∀ p ∈ a.pins, SmL (rowAt s'.1 p.1) ∧ Sm (fnd co s'.1 p.1) ∧ Sm p.2) ∧ RowDone c co s' a a' ∧ RowsRun wd rest a' b
structure Bas where
  point : List Int
  moves : Mat
  reads : Mat
def pointOf (w : Nat) (C : Mat) (pins : List (Nat × Int)) : List Int := pins.foldl (fun acc p => addRow p.2 acc (rowAt C p.1)) (List.replicate w 0)
def baseOf (w : Nat) (t : Stt) : Bas := ⟨pointOf w t.s.1 t.pins, t.free.map (rowAt t.s.1), t.free.map (rowAt t.s.2)⟩
def SettledRun (wd : Nat) (rows : List (List Int)) (B : Bas) : Prop := ∃ t, RowsRun wd rows (initS wd) t ∧ (∀ p ∈ t.pins, Sm p.2 ∧ SmL (rowAt t.s.1 p.1)) ∧ B = baseOf wd t
/-! ### a base as it stands -/
def TupsAt (H : Hp) (as : List Addr) (M : Mat) : Prop := as.length = M.length ∧ ∀ (i : Nat) (a : Addr), as[i]? = some a → H a = some (.tup ((rowAt M i).map V.int))
def BaseAt (H : Hp) (p : Addr) (B : Bas) : Prop := ∃ q m r ms rs, H p = some (.tup [.str "base", .ref q, .ref m, .ref r]) ∧ H q = some (.tup (B.point.map V.int)) ∧ H m = some (.tup (ms.map V.ref)) ∧ H r = some (.tup (rs.map V.ref)) ∧ TupsAt H ms B.moves ∧ TupsAt H rs B.reads
theorem TupsAt.ex {H H' : Hp} {as : List Addr} {M : Mat} (h : TupsAt H as M) (e : Ex H H') : TupsAt H' as M := ⟨h.1, fun i a x => e _ _ (h.2 i a x)⟩
theorem BaseAt.ex {H H' : Hp} {p : Addr} {B : Bas} (h : BaseAt H p B) (e : Ex H H') : BaseAt H' p B := by
  obtain ⟨q, m, r, ms, rs, h1, h2, h3, h4, h5, h6⟩ := h
  exact ⟨q, m, r, ms, rs, e _ _ h1, e _ _ h2, e _ _ h3, e _ _ h4, h5.ex e, h6.ex e⟩
theorem tups_of {H0 H : Hp} {as : List Addr} {l : List Nat} {C : Mat} (h : Objs H0 H as (l.map fun i => .tup ((rowAt C i).map V.int))) : TupsAt H as (l.map (rowAt C)) := by
  refine ⟨by rw [h.1, List.length_map, List.length_map], fun i a x => ?_⟩
  have hi : i < l.length := by
    have := (List.getElem?_eq_some_iff.mp x).1
    rw [h.1, List.length_map] at this
    exact this
  have e : rowAt (l.map (rowAt C)) i = rowAt C l[i] := by
    show (l.map (rowAt C)).getD i [] = _
    rw [List.getD_eq_getElem?_getD, List.getElem?_map, List.getElem?_eq_getElem hi]
    rfl
  rw [e]
  exact (h.2 i a _ x (by rw [List.getElem?_map, List.getElem?_eq_getElem hi]; rfl)).2
/-! ### the four lists that settled writes -/
def PinsAt (K : PySem.W.Frag) (G : Hp) (ts : List Addr) (pins : List (Nat × Int)) : Prop := ts.length = pins.length ∧ ∀ (i : Nat) (t : Addr) (p : Nat × Int), ts[i]? = some t → pins[i]? = some p → ∃ x y z, SqT K G t [.int (p.1 : Int), x, y, z, .int p.2]
theorem PinsAt.ex {K : PySem.W.Frag} {G G' : Hp} {ts : List Addr} {pins : List (Nat × Int)} (h : PinsAt K G ts pins) (e : Ex G G') : PinsAt K G' ts pins :=
  ⟨h.1, fun i t p a b => let ⟨x, y, z, q⟩ := h.2 i t p a b; ⟨x, y, z, ex_t e q⟩⟩
structure SetAt (K : PySem.W.Frag) (wd : Nat) (G H : Hp) (c v fr pl : Addr) (cs is ts : List Addr) (t : Stt) : Prop where
  two : TwoAt K G H c v cs is t.s
  gf : G fr = none
  gp : G pl = none
  hf : H fr = some (.lst (natsV t.free))
  hp : H pl = some (.lst (ts.map V.ref))
  d1 : fr ≠ c
  d2 : fr ≠ v
  d3 : pl ≠ c
  d4 : pl ≠ v
  d5 : fr ≠ pl
  pins : PinsAt K G ts t.pins
  nd : (t.pins.map (·.1) ++ t.free).Nodup
  lt : ∀ i ∈ t.pins.map (·.1) ++ t.free, i < wd
  len : (t.pins.map (·.1) ++ t.free).length ≤ 1000
section
variable {K : PySem.W.Frag} {wd : Nat} {G H : Hp} {c v fr pl : Addr} {cs is ts : List Addr} {t : Stt}
theorem SetAt.on {H1 : Hp} (S : SetAt K wd G H c v fr pl cs is ts t) (e : Ex H H1) : SetAt K wd G H1 c v fr pl cs is ts t :=
  ⟨S.two.on e, S.gf, S.gp, e _ _ S.hf, e _ _ S.hp, S.d1, S.d2, S.d3, S.d4, S.d5, S.pins, S.nd, S.lt, S.len⟩
theorem SetAt.turned {G' H' : Hp} {cs' is' : List Addr} {s' : Two} (S : SetAt K wd G H c v fr pl cs is ts t) (eG : Ex G G') (T : TwoAt K G' H' c v cs' is' s') (f : Fram c v H H') (sp : Sep H G G') : SetAt K wd G' H' c v fr pl cs' is' ts ⟨s', t.free, t.pins⟩ :=
  ⟨T, sp _ (by rw [S.hf]; exact fun z => nomatch z) S.gf, sp _ (by rw [S.hp]; exact fun z => nomatch z) S.gp, f _ _ S.d1 S.d2 S.hf, f _ _ S.d3 S.d4 S.hp, S.d1, S.d2, S.d3, S.d4, S.d5, S.pins.ex eG, S.nd, S.lt, S.len⟩
theorem erase_ix : ∀ {l : List Nat} {a : Nat}, a ∈ l → ∃ j, l[j]? = some a ∧ (∀ m, m < j → l[m]? ≠ some a) ∧ l.eraseIdx j = l.erase a
  | x :: r, a, h => by
    by_cases hx : x = a
    · subst hx
      exact ⟨0, rfl, fun m hm => by omega, by rw [List.erase_cons_head]; rfl⟩
    · have ha : a ∈ r := by
        rcases List.mem_cons.mp h with e | e
        · exact absurd e.symm hx
        · exact e
      obtain ⟨j, h1, h2, h3⟩ := erase_ix ha
      refine ⟨j + 1, h1, fun m hm => ?_, ?_⟩
      · cases m with
        | zero => exact fun z => hx (Option.some.inj z)
        | succ m => exact h2 m (by omega)
      · rw [List.erase_cons_tail (by simpa using hx), ← h3]
        rfl
theorem eraseIdx_mapp {α β : Type} (f : α → β) : ∀ (l : List α) (j : Nat), (l.map f).eraseIdx j = (l.eraseIdx j).map f
  | [], _ => rfl
  | _ :: _, 0 => rfl
  | a :: r, j + 1 => by
    show f a :: (r.map f).eraseIdx j = f a :: (r.eraseIdx j).map f
    rw [eraseIdx_mapp f r j]
/-- the column i is taken: out of free, its pin behind the pins -/
theorem SetAt.pin {H1 : Hp} {q : Addr} {i : Nat} {x y z : V} {val : Int} (S : SetAt K wd G H c v fr pl cs is ts t) (hi : i ∈ t.free) (hq : H q = none) (e : Ex (upd H fr (.lst (natsV (t.free.erase i)))) H1) (h1 : H1 q = some (.tup [.int (i : Int), x, y, z, .int val])) :
    ∃ G', Ex G G' ∧ SetAt K wd G' (upd H1 pl (.lst (ts.map V.ref ++ [.ref q]))) c v fr pl cs is (ts ++ [q]) ⟨t.s, t.free.erase i, t.pins ++ [(i, val)]⟩ := by
  have gq : G q = none := fresh_back S.two.ex hq
  have qc : q ≠ c := fun z => by rw [z, S.two.hc] at hq; cases hq
  have qv : q ≠ v := fun z => by rw [z, S.two.hv] at hq; cases hq
  have qf : q ≠ fr := fun z => by rw [z, S.hf] at hq; cases hq
  have qp : q ≠ pl := fun z => by rw [z, S.hp] at hq; cases hq
  have eg : Ex G (upd G q (.tup [.int (i : Int), x, y, z, .int val])) := Ex.new gq
  have keep : ∀ b o, b ≠ fr → b ≠ pl → H b = some o → (upd H1 pl (.lst (ts.map V.ref ++ [.ref q]))) b = some o := fun b o b1 b2 hb => by
    rw [upd_ne b2]
    refine e _ _ ?_
    rw [upd_ne b1]
    exact hb
  refine ⟨_, eg, ⟨⟨fun b o hb => ?_, ?_, ?_, S.two.ne, keep _ _ (Ne.symm S.d1) (Ne.symm S.d3) S.two.hc, keep _ _ (Ne.symm S.d2) (Ne.symm S.d4) S.two.hv, S.two.rc.ex eg, S.two.rv.ex eg⟩, ?_, ?_, ?_, ?_, S.d1, S.d2, S.d3, S.d4, S.d5, ?_, ?_, ?_, ?_⟩⟩
  · by_cases hbq : b = q
    · subst hbq
      rw [upd_same] at hb
      rw [upd_ne qp, h1]
      exact hb
    · rw [upd_ne hbq] at hb
      exact keep b o (fun z => by rw [z, S.gf] at hb; cases hb) (fun z => by rw [z, S.gp] at hb; cases hb) (S.two.ex _ _ hb)
  · rw [upd_ne (Ne.symm qc)]; exact S.two.gc
  · rw [upd_ne (Ne.symm qv)]; exact S.two.gv
  · rw [upd_ne (Ne.symm qf)]; exact S.gf
  · rw [upd_ne (Ne.symm qp)]; exact S.gp
  · rw [upd_ne S.d5]
    exact e _ _ upd_same
  · rw [upd_same, List.map_append]
    rfl
  · refine ⟨by rw [List.length_append, List.length_append, S.pins.1]; rfl, fun j a p ha hp => ?_⟩
    by_cases hj : j < ts.length
    · rw [List.getElem?_append_left hj] at ha
      rw [List.getElem?_append_left (by rw [← S.pins.1]; exact hj)] at hp
      obtain ⟨x, y, z, s⟩ := S.pins.2 j a p ha hp
      exact ⟨x, y, z, ex_t eg s⟩
    · rw [List.getElem?_append_right (by omega)] at ha
      rw [List.getElem?_append_right (by rw [← S.pins.1]; omega), ← S.pins.1] at hp
      cases hk : j - ts.length with
      | zero =>
        rw [hk] at ha hp
        obtain rfl : q = a := Option.some.inj ha
        obtain rfl : (i, val) = p := Option.some.inj hp
        exact ⟨x, y, z, st_of upd_same⟩
      | succ m =>
        rw [hk] at ha
        cases ha
  all_goals
    have pm : ((t.pins ++ [(i, val)]).map (·.1) ++ t.free.erase i).Perm (t.pins.map (·.1) ++ t.free) := by
      rw [List.map_append, List.append_assoc]
      exact List.Perm.append_left _ (List.perm_cons_erase hi).symm
  · exact pm.nodup_iff.mpr S.nd
  · exact fun k hk => S.lt k (pm.mem_iff.mp hk)
  · rw [pm.length_eq]; exact S.len
end
theorem rg_nats {w : Nat} : rgV 0 (w : Int) = natsV (List.range w) := by
  unfold rgV natsV
  have e : ((w : Int) - 0).toNat = w := by omega
  rw [e]
  apply List.map_congr_left
  intro i _
  show V.int (0 + (i : Int)) = V.int (i : Int)
  rw [Int.zero_add]
/-- for i, x in enumerate(xs) -/
theorem s_forE {K : PySem.W.Frag} {σ : L2.St} {H : Hp} {tl : TE} {tu : TS} {D : Ends} {a : Addr} {xs : List V} {j1 j2 : Nat} (h : Ev tl σ H (.ref a)) (hx : SqL K H a xs) (Pv : Nat → L2.St → Hp → Prop) (h0 : ∀ H1, Ex H H1 → Pv 0 σ H1) (hl : ∀ i σ' H', Pv i σ' H' → SqL K H' a xs)
    (hs : ∀ (i : Nat) (x : V) (T : Addr) σ' H', xs[i]? = some x → Pv i σ' H' → H' T = none → tu { D with nx := Pv (i + 1), ct := Pv (i + 1), bk := D.nx } ((σ'.set j1 (some (.int (i : Int)))).set j2 (some x)) (upd H' T (.tup [.int (i : Int), x]))) (hd : ∀ σ' H', Pv xs.length σ' H' → D.nx σ' H') :
    tFor (iEnum K (tCons tl tNil)) (gTup K 2 (gCons (gName j1) (gCons (gName j2) gNil))) tu D σ H :=
  h H (Ex.refl H) _ fun H1 e1 => ⟨a, xs, rfl, ex_l e1 hx, for_it (walk_enum (K := K) (a := a) (xs := xs)) Pv (h0 H1 e1) (fun i σ' H' _ p => hl i σ' H' p) (fun i x σ' H' H'' hi p y => by
    obtain ⟨T, x1, x2, rfl, hT, rfl, g1, g2⟩ := y
    obtain rfl : V.int (i : Int) = x1 := Option.some.inj g1
    exact ⟨T, _, rfl, st_of upd_same, rfl, _, _, rfl, _, _, rfl, rfl, hs i x2 T σ' H' g2 p hT⟩) hd⟩
theorem el_is {te : TE} {σ : L2.St} {H : Hp} {xs ys : List V} (h : EvL te σ H xs) (e : xs = ys) : EvL te σ H ys := e ▸ h
/-! ### turns by a starred pair, by five names -/
section
variable {K : PySem.W.Frag} {σ : L2.St} {tt : TT} {te : TE} {vs : List Nat}
theorem turn_star {i j : Nat} {a : Addr} {x : V} {xs : List V} {H : Hp} {P : L2.St → Hp → Prop} (ha : SqT K H a (x :: xs)) (hl : xs.length ≤ 16000) (hw : ∀ p, wipe (((wipe σ vs).set i (some x)).set j (some p)) vs = wipe σ vs)
    (hp : ∀ p H2, Ex H H2 → P (((wipe σ vs).set i (some x)).set j (some p)) H2) : TurnV (gStar K (gName i) (gName j)) tYes vs σ H H (.ref a) true P := fun Q q =>
  ⟨a, x, xs, rfl, .inl ha, hl, fun p hn => q _ _ (hw (.ref p)) (Ex.new hn) et_yes fun _ => hp (.ref p) _ (Ex.new hn)⟩
theorem turn_five {i1 i2 i3 i4 i5 : Nat} {a : Addr} {x1 x2 x3 x4 x5 : V} {H : Hp} {P : L2.St → Hp → Prop} (ha : SqT K H a [x1, x2, x3, x4, x5])
    (hw : wipe ((((((wipe σ vs).set i1 (some x1)).set i2 (some x2)).set i3 (some x3)).set i4 (some x4)).set i5 (some x5)) vs = wipe σ vs)
    (hp : P ((((((wipe σ vs).set i1 (some x1)).set i2 (some x2)).set i3 (some x3)).set i4 (some x4)).set i5 (some x5)) H) : TurnV (gTup K 5 (gCons (gName i1) (gCons (gName i2) (gCons (gName i3) (gCons (gName i4) (gCons (gName i5) gNil)))))) tYes vs σ H H (.ref a) true P := fun Q q =>
  ⟨a, _, rfl, ha, rfl, _, _, rfl, _, _, rfl, _, _, rfl, _, _, rfl, _, _, rfl, rfl, q _ _ hw (Ex.refl H) et_yes fun _ => hp⟩
/-! ### comprehensions over the pins -/
theorem pins_get {pins : List (Nat × Int)} {i : Nat} (hi : i < pins.length) : pins[i]? = some (pins.getD i (0, 0)) ∧ pins.getD i (0, 0) ∈ pins := by
  have e : pins.getD i (0, 0) = pins[i] := by rw [List.getD_eq_getElem?_getD, List.getElem?_eq_getElem hi]; rfl
  rw [e]
  exact ⟨List.getElem?_eq_getElem hi, List.getElem_mem hi⟩
def pinK (pins : List (Nat × Int)) (i : Nat) : Key := .inl (((pins.getD i (0, 0)).1 : Nat) : Int)
theorem pinK_inj {pins : List (Nat × Int)} (nd : (pins.map (·.1)).Nodup) (i j : Nat) (hi : i < pins.length) (hj : j < pins.length) (e : pinK pins i = pinK pins j) : i = j := by
  have e : (((pins.getD i (0, 0)).1 : Nat) : Int) = (((pins.getD j (0, 0)).1 : Nat) : Int) := Sum.inl.inj e
  have e2 : (pins.getD i (0, 0)).1 = (pins.getD j (0, 0)).1 := Int.ofNat.inj e
  have q1 : (pins.map (·.1))[i]? = (pins.map (·.1))[j]? := by
    rw [List.getElem?_map, List.getElem?_map, (pins_get hi).1, (pins_get hj).1]
    exact congrArg some e2
  rw [List.getElem?_eq_getElem (by rw [List.length_map]; exact hi), List.getElem?_eq_getElem (by rw [List.length_map]; exact hj)] at q1
  exact (List.getElem_inj nd).mp (Option.some.inj q1)
theorem pins_at {ts : List Addr} {pins : List (Nat × Int)} {H : Hp} {i : Nat} {x : V} (P : PinsAt K H ts pins) (hx : (ts.map V.ref)[i]? = some x) : ∃ tt x1 x2 x3, x = .ref tt ∧ i < pins.length ∧ SqT K H tt [.int (((pins.getD i (0, 0)).1 : Nat) : Int), x1, x2, x3, .int (pins.getD i (0, 0)).2] := by
  rw [List.getElem?_map] at hx
  obtain ⟨tt, htt, rfl⟩ := Option.map_eq_some_iff.mp hx
  have hi : i < pins.length := by
    have := (List.getElem?_eq_some_iff.mp htt).1
    rw [P.1] at this
    exact this
  obtain ⟨x1, x2, x3, hs⟩ := P.2 i tt _ htt (pins_get hi).1
  exact ⟨tt, x1, x2, x3, rfl, hi, hs⟩
theorem en_dcPins {tl tk tv : TE} {H : Hp} {pl : Addr} {ts : List Addr} {pins : List (Nat × Int)} {i j : Nat} (h : Ev tl σ H (.ref pl)) (hp : H pl = some (.lst (ts.map V.ref))) (P : PinsAt K H ts pins) (nd : (pins.map (·.1)).Nodup) (hl : pins.length ≤ 1000) (f : Nat → Int)
    (hw : ∀ x p, wipe (((wipe σ vs).set i (some x)).set j (some p)) vs = wipe σ vs)
    (he : ∀ p ∈ pins, ∀ z H1, Ex H H1 → Ev tk (((wipe σ vs).set i (some (.int (p.1 : Int)))).set j (some z)) H1 (.int (p.1 : Int)) ∧ Ev tv (((wipe σ vs).set i (some (.int (p.1 : Int)))).set j (some z)) H1 (.int (f p.1))) :
    EvN (tDc (iList K tl) (gStar K (gName i) (gName j)) tYes tk tv vs) σ H (.dK (pairs pins.length (pinK pins) (fun k => .int (f (pins.getD k (0, 0)).1)))) := fun H0 e0 Q q =>
  h H0 e0 _ fun H1 e1 => ⟨pl, rfl, ⟨_, sq_of (e1 _ _ (e0 _ _ hp))⟩, fun Dl hD => by
    have htl : (ts.map V.ref).length = pins.length := by rw [List.length_map]; exact P.1
    have w := walk_list (K := K) (a := pl) (xs := ts.map V.ref)
    rw [htl] at w
    refine dcV w (fun H9 e9 => sq_of (e9 _ _ (e1 _ _ (e0 _ _ hp)))) (by omega) _ _ (pinK_inj nd) hD (fun k x H9 H10 hi e9 y => ?_) fun H9 e9 h9 => q Dl H9 (fresh_back e1 hD) (e1.trans e9) h9
    obtain ⟨rfl, hxi⟩ := y
    obtain ⟨tt, x1, x2, x3, rfl, hi', hs⟩ := pins_at (P.ex ((e0.trans e1).trans e9)) hxi
    refine turn_star (K := K) hs (by show 4 ≤ 16000; decide) (fun p => hw _ p) fun p H11 e11 => ?_
    exact he _ (pins_get hi').2 p H11 (((e0.trans e1).trans e9).trans e11)⟩
theorem el_pins {tl te : TE} {H : Hp} {pl : Addr} {ts : List Addr} {pins : List (Nat × Int)} {i1 i2 i3 i4 i5 : Nat} (h : Ev tl σ H (.ref pl)) (hp : H pl = some (.lst (ts.map V.ref))) (P : PinsAt K H ts pins) (hl : pins.length ≤ 1000) (f : Nat × Int → Int)
    (hw : ∀ x1 x2 x3 x4 x5, wipe ((((((wipe σ vs).set i1 (some x1)).set i2 (some x2)).set i3 (some x3)).set i4 (some x4)).set i5 (some x5)) vs = wipe σ vs)
    (he : ∀ (k : Nat) p, k < pins.length → pins.getD k (0, 0) = p → ∀ x2 x3 x4 H1, Ex H H1 → Ev te ((((((wipe σ vs).set i1 (some (.int (p.1 : Int)))).set i2 (some x2)).set i3 (some x3)).set i4 (some x4)).set i5 (some (.int p.2))) H1 (.int (f p))) :
    EvL (tLc (iList K tl) (gTup K 5 (gCons (gName i1) (gCons (gName i2) (gCons (gName i3) (gCons (gName i4) (gCons (gName i5) gNil)))))) tYes te vs) σ H ((pins.map f).map V.int) := fun H0 e0 Q q =>
  h H0 e0 _ fun H1 e1 => ⟨pl, rfl, ⟨_, sq_of (e1 _ _ (e0 _ _ hp))⟩, fun Dl hD => by
    have htl : (ts.map V.ref).length = pins.length := by rw [List.length_map]; exact P.1
    have w := walk_list (K := K) (a := pl) (xs := ts.map V.ref)
    rw [htl] at w
    refine lcV w (fun H9 e9 => sq_of (e9 _ _ (e1 _ _ (e0 _ _ hp)))) (by omega) (fun _ => true) (fun k => .int (f (pins.getD k (0, 0)))) hD (fun k x H9 H10 hi e9 y => ?_) fun H9 e9 h9 => q Dl H9 (fresh_back e1 hD) (e1.trans e9) ?_
    · obtain ⟨rfl, hxi⟩ := y
      obtain ⟨tt, x1, x2, x3, rfl, hi', hs⟩ := pins_at (P.ex ((e0.trans e1).trans e9)) hxi
      exact turn_five (K := K) hs (hw _ _ _ _ _) (he k _ hi' rfl _ _ _ _ ((e0.trans e1).trans e9))
    · rw [h9, given_all, List.map_map]
      congr 2
      apply List.ext_getElem?
      intro k
      rw [List.getElem?_map, List.getElem?_map]
      by_cases hk : k < pins.length
      · rw [List.getElem?_range hk, (pins_get hk).1]
        rfl
      · rw [List.getElem?_eq_none (by rw [List.length_range]; omega), List.getElem?_eq_none (by omega)]
        rfl⟩
end
end K39
namespace K39
open PySem PySem.Spec PyProof.Rows L2 Evl
abbrev sTurned : Stmt := topS 10
abbrev nTurned : List Str := ["columns", "inverse", "free", "coefs", "at", "found", "left", "size", "pivot", "often", "whole", "a", "b"]
theorem scTurned : FnScope nTurned ["columns", "inverse", "free", "coefs"] (defScope sTurned) := ⟨rfl, rfl, rfl, by decide +kernel, rfl, by decide +kernel, by decide +kernel⟩
section
variable {P : Program} {w : World} {K : PySem.W.Frag} {mg : Str → Option Value} {base : Heap}
def optV : Option Nat → V
  | none => .non
  | some n => .int (n : Int)
def spTurned (K : PySem.W.Frag) (wd : Nat) : Sp := fun vs H Q _ => ∃ c v fr co cs is G free coefs s s' n, vs = [.ref c, .ref v, .ref fr, .ref co] ∧ TwoAt K G H c v cs is s ∧ SqL K H fr (natsV free) ∧ SqL K H co (coefs.map V.int) ∧ fr ≠ c ∧ fr ≠ v ∧ co ≠ c ∧ co ≠ v ∧ free.Nodup ∧ (∀ i ∈ free, i < wd) ∧ wd ≤ 1000 ∧ free.length ≤ 1000 ∧
  SmL coefs ∧ coefs.length ≤ 1000 ∧ RunN wd coefs free n s s' ∧ ∀ G' H' cs' is', Ex G G' → TwoAt K G' H' c v cs' is' s' → Fram c v H H' → Sep H G G' → Q (optV (lastOf (fnd coefs s'.1) free)) H'
theorem ok_turned {wd : Nat} {f fP : Addr} {fd fdP : FuncData} {k : Nat} (F : Fun K "turned" "turned" sTurned f fd) (GP : FnOk P w K mg base CX0 1 fP fdP ["one", "other"] (spDot K)) (gP : mg "product" = some (.ref fP)) (kP : PySem.W.keepIn K (.ref fP) = true) (bP : Binds K fdP ["one", "other"] [])
    (mz : mg "zip" = none) (ma : mg "abs" = none) (ml : mg "len" = none) (mm : mg "min" = none) : FnOk P w K mg base CX0 2 f fd ["columns", "inverse", "free", "coefs"] (spTurned K wd) := by
  refine F.ok scTurned (fun vs H Q E h => ?_) (fun cdv A outer s H vs Q E hr h => ?_)
  · obtain ⟨_, _, _, _, _, _, _, _, _, _, _, _, rfl, _⟩ := h
    rfl
  · obtain ⟨c, v, fr, co, cs, is, G, free, coefs, s0, s', n, rfl, T0, hfr, hco, hfc, hfv, hcc, hcv, fnd', hfw, hwd, hfl, hsm, hcl, R0, q⟩ := h
    have hu := hu_of hr
    have nd := scTurned.nd
    refine ⟨_, pss_one (ps_while PassesOwn.never (pt_val pe_bl)
      (pss_cons (ps_setDc (i := 5) (own := [("at", 4)]) (g := gName 4) rfl nd rfl rfl (sw_trueD rfl rfl rfl (by decide +kernel)) (pi_list (pv 2)) (blkOk_by (own := [("at", 4)]) (N := nTurned) (sc := defScope sTurned) (by decide +kernel))
          (fun _ _ _ _ _ => pg_name (i := 4) nd rfl (.inl rfl) (.inr rfl)) (fun _ _ _ _ _ => pts_nil) (fun _ _ _ _ _ => pv 4)
          (fun _ _ _ _ _ => pe_call GP hr (by rfl) gP kP bP .nil pass0 (pa_cons (pv 3) (pa_cons (pe_ix (ixL (K := K)) (pv 0) (pv 4) (fun _ _ => rfl)) pa_nil))))
      (pss_cons (ps_lock (ps_setLc (i := 6) (own := [("at", 4), ("whole", 10)]) (g := gTup K 2 (gCons (gName 4) (gCons (gName 10) gNil))) rfl nd rfl rfl (sw_true rfl rfl rfl (by decide +kernel)) (pi_items (pv 5)) (blkOk_by (own := [("at", 4), ("whole", 10)]) (N := nTurned) (sc := defScope sTurned) (by decide +kernel))
          (fun _ _ _ _ _ => pg_tup rfl (pgs_cons (pg_name (i := 4) nd rfl (.inl rfl) (.inr rfl)) (pgs_cons (pg_name (i := 10) nd rfl (.inl rfl) (.inr rfl)) pgs_nil)))
          (fun _ _ _ _ _ => pts_one (pt_cmpR op_ne (pv 10) pe_int (nomark _))) (fun _ _ _ _ _ => pe_tup (pa_cons (pe_callB call_abs (by rfl) ma (by decide +kernel) (pa_cons (pv 10) pa_nil)) (pa_cons (pv 4) pa_nil)))))
      (pss_cons (ps_if (pt_cmpR op_lt (pe_callB call_len_seq (by rfl) ml PySem.boot_len (pa_cons (pv 6) pa_nil)) pe_int (nomark _))
          (pss_one (ps_ret (pe_ifExp (pt_truth (pv 6) (by intro _; rfl)) (pe_ix ix_tup (pe_ix ix_list (pv 6) pe_int (fun _ _ => rfl)) pe_int (fun _ _ => rfl)) pe_non))) pss_nil)
      (pss_cons (ps_asg (pe_callB (cr_minP rfl hu) (by rfl) mm (by decide +kernel) (pa_cons (pv 6) pa_nil)) (pg_tup rfl (pgs_cons (pg_name (i := 7) nd rfl (.inl rfl)) (pgs_cons (pg_name (i := 8) nd rfl (.inl rfl)) pgs_nil))))
      (pss_one (ps_for PassesOwn.never rfl (pi_list (pv 6)) (pg_tup rfl (pgs_cons (pg_name (i := 7) nd rfl (.inl rfl)) (pgs_cons (pg_name (i := 4) nd rfl (.inl rfl)) pgs_nil)))
        (pss_one (ps_if (pt_cmpR op_ne (pv 4) (pv 8) (nomark _))
          (pss_cons (ps_set (i := 9) nd rfl (.inr rfl) (pe_op op_fdivX (pe_dget hu (pv 5) (pv 4) (fun _ _ => rfl)) (pe_dget hu (pv 5) (pv 8) (fun _ _ => rfl))))
          (pss_cons (ps_asg (pe_lc (own := [("a", 11), ("b", 12)]) (g := gTup K 2 (gCons (gName 11) (gCons (gName 12) gNil))) rfl nd (pi_zipG (by rfl) mz (pa_cons (pe_ix ix_list (pv 0) (pv 4) (fun _ _ => rfl)) (pa_cons (pe_ix ix_list (pv 0) (pv 8) (fun _ _ => rfl)) pa_nil))) (blkOk_by (own := [("a", 11), ("b", 12)]) (N := nTurned) (sc := defScope sTurned) (by decide +kernel))
              (fun _ _ _ _ _ => pg_tup rfl (pgs_cons (pg_name (i := 11) nd rfl (.inl rfl) (.inr rfl)) (pgs_cons (pg_name (i := 12) nd rfl (.inl rfl) (.inr rfl)) pgs_nil))) (fun _ _ _ _ _ => pts_nil) (fun _ _ _ _ _ => pe_op op_sub (pv 11) (pe_op op_mulX (pv 9) (pv 12))))
            (pg_sub (pv 0) (pv 4) set_list))
          (pss_one (ps_asg (pe_lc (own := [("a", 11), ("b", 12)]) (g := gTup K 2 (gCons (gName 11) (gCons (gName 12) gNil))) rfl nd (pi_zipG (by rfl) mz (pa_cons (pe_ix ix_list (pv 1) (pv 8) (fun _ _ => rfl)) (pa_cons (pe_ix ix_list (pv 1) (pv 4) (fun _ _ => rfl)) pa_nil))) (blkOk_by (own := [("a", 11), ("b", 12)]) (N := nTurned) (sc := defScope sTurned) (by decide +kernel))
              (fun _ _ _ _ _ => pg_tup rfl (pgs_cons (pg_name (i := 11) nd rfl (.inl rfl) (.inr rfl)) (pgs_cons (pg_name (i := 12) nd rfl (.inl rfl) (.inr rfl)) pgs_nil))) (fun _ _ _ _ _ => pts_nil) (fun _ _ _ _ _ => pe_op op_add (pv 11) (pe_op op_mulX (pv 9) (pv 12))))
            (pg_sub (pv 1) (pv 8) set_list))))) pss_nil))))))))), ?_⟩
    refine s_while (fun m σ' H' => ∃ G' cs' is' sm y4 y5 y6 y7 y8 y9 y10 y11 y12, σ' = [some (.ref c), some (.ref v), some (.ref fr), some (.ref co), y4, y5, y6, y7, y8, y9, y10, y11, y12] ∧ Ex G G' ∧ TwoAt K G' H' c v cs' is' sm ∧ RunN wd coefs free m sm s' ∧ Fram c v H H' ∧ Sep H G G') n
      ⟨G, cs, is, s0, none, none, none, none, none, none, none, none, none, rfl, Ex.refl G, T0, R0, Fram.refl, Sep.refl⟩ fun m σ' H' hW => ⟨true, et_B ev_c, fun _ H1 e1 => ?_, fun z => by cases z⟩
    obtain ⟨G', cs', is', sm, y4, y5, y6, y7, y8, y9, y10, y11, y12, rfl, eG, T', R, fm, sp⟩ := hW
    have T1 := T'.on e1
    have g := R.good
    generalize hfdef : fnd coefs sm.1 = fn at *
    refine ⟨_, fun σ2 H2 h => h, ?_⟩
    -- found
    refine q_asgN (en_dcL (K := K) (xs := natsV free) (ev_var rfl) (fram_l (fm.ex e1) hfc hfv hfr) (by rw [natsV_len]; omega) (fun i => .inl ((free.getD i 0 : Nat) : Int)) (fun i => .int (fn (free.getD i 0))) (fun i j hi hj e => ?_) (fun x => rfl) (fun i x H2 e2 hx => ?_)) fun d H2 hd e2 h2 => ?_
    · have e : ((free.getD i 0 : Nat) : Int) = ((free.getD j 0 : Nat) : Int) := Sum.inl.inj e
      rw [natsV_len] at hi hj
      rw [List.getD_eq_getElem?_getD, List.getD_eq_getElem?_getD, List.getElem?_eq_getElem hi, List.getElem?_eq_getElem hj] at e
      have e2 : free[i] = free[j] := Int.ofNat.inj e
      exact (List.getElem_inj fnd').mp e2
    · have hi : i < free.length := by
        have := (List.getElem?_eq_some_iff.mp hx).1
        rw [natsV_len] at this
        exact this
      rw [natsV_get hi] at hx
      obtain rfl := Option.some.inj hx
      have hmem : free.getD i 0 ∈ free := by
        rw [List.getD_eq_getElem?_getD, List.getElem?_eq_getElem hi]
        exact List.getElem_mem hi
      generalize free.getD i 0 = at' at hmem ⊢
      have hat : at' < cs'.length := by rw [T1.rc.1, g.1.1]; exact hfw _ hmem
      refine ⟨ev_var rfl, ?_⟩
      have hS := ex_l (T1.ex.trans e2) (T1.rc.2 at' _ (List.getElem?_eq_getElem hat))
      have ev := ev_dot (K := K) (E := E0) (ta := tVar 3) (tb := tOp (rIxL K) (tVar 0) (tVar 4)) (σ := [some (.ref c), some (.ref v), some (.ref fr), some (.ref co), some (.int (at' : Int)), y5, y6, y7, y8, y9, y10, y11, y12]) (H := H2) (ev_var rfl)
        (ev_ixL (ev_var rfl) (ev_var rfl) (sq_of (e2 _ _ T1.hc)) (atI_nat (by rw [List.getElem?_map, List.getElem?_eq_getElem hat]; rfl)))
        (sqk_l (fram_l ((fm.ex e1).ex e2) hcc hcv hco)) (sqk_l hS) (by omega) (fun k p q hp hq => (hsm _ (List.mem_of_getElem? hp)).mul ((g.2.2.1 _ hmem).1 _ (List.mem_of_getElem? hq)))
      rw [show fn at' = dot coefs (rowAt sm.1 at') by rw [← hfdef]; rfl]
      exact ev
    have T2 := T1.on e2
    have hg0 : ∀ i, i < free.length → free.getD i 0 ∈ free := fun i hi => by
      rw [List.getD_eq_getElem?_getD, List.getElem?_eq_getElem hi]
      exact List.getElem_mem hi
    have hkk : ∀ i j, i < free.length → j < free.length → (Sum.inl ((free.getD i 0 : Nat) : Int) : Key) = Sum.inl ((free.getD j 0 : Nat) : Int) → i = j := fun i j hi hj e => by
      have e : ((free.getD i 0 : Nat) : Int) = ((free.getD j 0 : Nat) : Int) := Sum.inl.inj e
      rw [List.getD_eq_getElem?_getD, List.getD_eq_getElem?_getD, List.getElem?_eq_getElem hi, List.getElem?_eq_getElem hj] at e
      exact (List.getElem_inj fnd').mp (Int.ofNat.inj e)
    rw [natsV_len] at h2
    -- left
    refine q_items (K := K) (kvs := pairs free.length (fun i => .inl ((free.getD i 0 : Nat) : Int)) (fun i => .int (fn (free.getD i 0)))) h2 (fun _ => ev_var rfl) (by rw [pairs_len]; omega)
      (fun i => decide (fn (free.getD i 0) ≠ 0)) (fun i => .tup [.int (absI (fn (free.getD i 0))), .int ((free.getD i 0 : Nat) : Int)]) (fun _ _ => rfl) (fun n k1 v1 H3 hkv => ?_) (fun n k1 v1 H3 hkv hb => ?_) fun la as H3 hla e3 h3 ob => ?_
    · have hn : n < free.length := by
        have := (List.getElem?_eq_some_iff.mp hkv).1
        rw [pairs_len] at this
        exact this
      rw [pairs_get hn] at hkv
      obtain ⟨rfl, rfl⟩ := Prod.mk.inj (Option.some.inj hkv)
      refine et_test (ev_is (ev_op (ev_var rfl) ev_c (rv_ne rfl)) ?_)
      congr 1
      rw [Bool.eq_iff_iff]
      simp
    · have hn : n < free.length := by
        have := (List.getElem?_eq_some_iff.mp hkv).1
        rw [pairs_len] at this
        exact this
      rw [pairs_get hn] at hkv
      obtain ⟨rfl, rfl⟩ := Prod.mk.inj (Option.some.inj hkv)
      exact evN_U (eu_tup (ea_cons (ev_cb (ea_cons (ev_var rfl) ea_nil) (fun H1 e Q q => ⟨_, rfl, q H1 (Ex.refl H1)⟩)) (ea_cons (ev_var rfl) ea_nil)) (by show 2 ≤ 100000; decide))
    rw [pairs_len, made_filter (l := free) (p := fun i => decide (fn i ≠ 0)) (g := fun i => .tup [.int (absI (fn i)), .int (i : Int)])] at ob
    have hls : free.filter (fun i => decide (fn i ≠ 0)) = lefts fn free := rfl
    rw [hls] at ob
    have hlen : as.length = (lefts fn free).length := by rw [ob.1, List.length_map]
    have hat : ∀ (j : Nat) (a : Addr) (i : Nat), as[j]? = some a → (lefts fn free)[j]? = some i → H3 a = some (.tup [.int (absI (fn i)), .int (i : Int)]) := fun j a i x y => (ob.2 j a _ x (by rw [List.getElem?_map, y]; rfl)).2
    have T3 := T2.on e3
    have hlx : (as.map V.ref).length = (lefts fn free).length := by rw [List.length_map, hlen]
    -- if len(left) < 2
    refine q_when (b := decide (((lefts fn free).length : Int) < 2)) (et_test (ev_is (ev_op (ev_len (K := K) (ev_var rfl) (sq_of h3)) ev_c rv_I0) (by rw [hlx]))) (fun hb H4 e4 => ?_) (fun hb H4 e4 => ?_)
    · have hb : ((lefts fn free).length : Int) < 2 := of_decide_eq_true hb
      have hs' : s' = sm := by
        cases m with
        | zero => exact R.2.2
        | succ m =>
          have := R.2.1
          rw [hfdef] at this
          omega
      subst hs'
      have fin : ∀ H5, Ex H4 H5 → Q (optV (lastOf fn free)) H5 := fun H5 e5 => by
        have := q G' H5 cs' is' eG (T3.on (e4.trans e5)) (fm.ex ((((e1.trans e2).trans e3).trans e4).trans e5)) sp
        rw [hfdef] at this
        exact this
      unfold lastOf at fin
      have h4 := e4 _ _ h3
      cases as with
      | nil =>
        have e0 : lefts fn free = [] := List.eq_nil_of_length_eq_zero hlen.symm
        rw [e0] at fin
        refine s_ret (ev_if (b := false) (fun H1 e Q q => ⟨_, rfl, false, .inl ⟨_, ex_l e (sq_of h4), rfl⟩, q H1 (Ex.refl H1)⟩) (fun z => by cases z) (fun _ => ev_c)) fin
      | cons a rest =>
        obtain ⟨i, r2, e0⟩ : ∃ i r2, lefts fn free = i :: r2 := by
          cases hc : lefts fn free with
          | nil =>
            rw [hc] at hlen
            cases hlen
          | cons i r2 => exact ⟨i, r2, rfl⟩
        have ha := hat 0 a i rfl (by rw [e0]; rfl)
        rw [e0] at fin
        refine s_ret (ev_if (b := true) (fun H1 e Q q => ⟨_, rfl, true, .inl ⟨_, ex_l e (sq_of h4), rfl⟩, q H1 (Ex.refl H1)⟩) (fun _ => ?_) (fun z => by cases z)) fin
        exact ev_ixT (ev_ixL (ev_var rfl) ev_c (sq_of h4) (atI_nat (j := 0) rfl)) ev_c (st_of (e4 _ _ ha)) (atI_nat (j := 1) rfl)
    have hb : ¬ ((lefts fn free).length : Int) < 2 := of_decide_eq_false hb
    obtain ⟨m', rfl⟩ : ∃ m', m = m' + 1 := by
      cases m with
      | zero =>
        have := R.2.1
        rw [hfdef] at this
        omega
      | succ m' => exact ⟨m', rfl⟩
    have R' := R.2.2
    have T4 := T3.on e4
    have h4 := e4 _ _ h3
    have hat4 : ∀ (j : Nat) (a : Addr) (i : Nat), as[j]? = some a → (lefts fn free)[j]? = some i → H4 a = some (.tup [.int (absI (fn i)), .int (i : Int)]) := fun j a i x y => e4 _ _ (hat j a i x y)
    have hd4 := e4 _ _ (e3 _ _ h2)
    -- size, pivot = min(left)
    refine ⟨_, rfl, la, as, (lefts fn free).map (key fn), rfl, sq_of h4, by rw [hlen, List.length_map], by rw [List.length_map]; omega, fun j a p x y => ?_, fun j a p x y least => ?_⟩
    · rw [List.getElem?_map] at y
      obtain ⟨i, hi, rfl⟩ := Option.map_eq_some_iff.mp y
      exact st_of (hat4 j a i x hi)
    rw [List.getElem?_map] at y
    obtain ⟨pv, hpi, rfl⟩ := Option.map_eq_some_iff.mp y
    have hpmem : pv ∈ lefts fn free := List.mem_of_getElem? hpi
    have hpv : pivOf fn (lefts fn free) = pv := pivOf_eq ⟨hpmem, fun z hz => least _ (List.mem_map.mpr ⟨z, hz, rfl⟩)⟩
    refine ⟨a, _, rfl, st_of (hat4 j a pv x hpi), rfl, _, _, rfl, _, _, rfl, rfl, ?_⟩
    -- the loop over left
    have lc : ∀ o, H4 c = some o → ∃ xs, o = .lst xs := fun o e => ⟨_, Option.some.inj (e.symm.trans T4.hc)⟩
    have lv : ∀ o, H4 v = some o → ∃ xs, o = .lst xs := fun o e => ⟨_, Option.some.inj (e.symm.trans T4.hv)⟩
    have dc : d ≠ c := fun z => by
      obtain ⟨xs, e⟩ := lc _ (by rw [← z]; exact hd4)
      cases e
    have dv : d ≠ v := fun z => by
      obtain ⟨xs, e⟩ := lv _ (by rw [← z]; exact hd4)
      cases e
    have lac : la ≠ c := fun z => by
      rw [z, T2.hc] at hla
      cases hla
    have lav : la ≠ v := fun z => by
      rw [z, T2.hv] at hla
      cases hla
    have ac : ∀ (j : Nat) (a : Addr) (i : Nat), as[j]? = some a → (lefts fn free)[j]? = some i → a ≠ c ∧ a ≠ v := fun j a i x y => by
      have h := hat4 j a i x y
      refine ⟨fun z => ?_, fun z => ?_⟩
      · obtain ⟨xs, e⟩ := lc _ (by rw [← z]; exact h)
        cases e
      · obtain ⟨xs, e⟩ := lv _ (by rw [← z]; exact h)
        cases e
    have hwl : ∀ i ∈ lefts fn free, i ∈ free := fun i hi => (List.mem_filter.mp hi).1
    have hpf := hwl pv hpmem
    have hpw := hfw pv hpf
    have hp0 : fn pv ≠ 0 := of_decide_eq_true (List.mem_filter.mp hpmem).2
    have hval : ∀ i ∈ free, valV (pairs free.length (fun i => .inl ((free.getD i 0 : Nat) : Int)) (fun i => .int (fn (free.getD i 0)))) (Sum.inl (i : Int) : Key) = some (.int (fn i)) := fun i hi => by
      obtain ⟨k, hk, e⟩ := List.mem_iff_getElem.mp hi
      have e2 : free.getD k 0 = i := by
        rw [List.getD_eq_getElem?_getD, List.getElem?_eq_getElem hk]
        exact e
      have := pairs_val (v := fun i => V.int (fn (free.getD i 0))) hk hkk
      rw [e2] at this
      exact this
    refine s_forL (K := K) (xs := as.map V.ref) (ev_var rfl) (sq_of h4) (fun j σ' H' => ∃ G2 cs2 is2 y4 y7 y9 y10 y11 y12, σ' = [some (.ref c), some (.ref v), some (.ref fr), some (.ref co), y4, some (.ref d), some (.ref la), y7, some (.int (pv : Int)), y9, y10, y11, y12] ∧ Ex G' G2 ∧
        TwoAt K G2 H' c v cs2 is2 (((lefts fn free).take j).foldl (stepS fn pv) sm) ∧ Fram c v H4 H' ∧ Sep H4 G' G2) (fun H5 e5 => ⟨_, cs', is', y4, _, y9, y10, y11, y12, rfl, Ex.refl _, T4.on e5, Fram.of e5, Sep.refl⟩) (fun j σ' H' _ p => ?_) (fun j z σ' H' hz p => ?_) (fun σ' H' p => ?_)
    · obtain ⟨G2, _, _, _, _, _, _, _, _, _, eg, tw, fg, sg⟩ := p
      exact sq_of (fg _ _ lac lav h4)
    · obtain ⟨G2, cs2, is2, z4, z7, z9, z10, z11, z12, rfl, eg, tw, fg, sg⟩ := p
      rw [List.getElem?_map] at hz
      obtain ⟨aj, haj, rfl⟩ := Option.map_eq_some_iff.mp hz
      have hjl : j < (lefts fn free).length := by
        have := (List.getElem?_eq_some_iff.mp haj).1
        omega
      obtain ⟨i, hi⟩ : ∃ i, (lefts fn free)[j]? = some i := ⟨_, List.getElem?_eq_getElem hjl⟩
      have gaj := fg _ _ (ac j aj i haj hi).1 (ac j aj i haj hi).2 (hat4 j aj i haj hi)
      have gd := fg _ _ dc dv hd4
      have himem := List.mem_of_getElem? hi
      have hif := hwl i himem
      have hiw := hfw i hif
      have estep : ((lefts fn free).take (j + 1)).foldl (stepS fn pv) sm = stepS fn pv (((lefts fn free).take j).foldl (stepS fn pv) sm) i := by
        rw [List.take_add_one, hi]
        show (((lefts fn free).take j) ++ [i]).foldl (stepS fn pv) sm = _
        rw [List.foldl_append]
        rfl
      have hshape : ∀ l : List Nat, (∀ k ∈ l, k ∈ free) → Shape wd (l.foldl (stepS fn pv) sm).1 ∧ Shape wd (l.foldl (stepS fn pv) sm).2 := fun l hl => by
        have : ∀ (l : List Nat) (s : Two), (∀ k ∈ l, k ∈ free) → Shape wd s.1 ∧ Shape wd s.2 → Shape wd (l.foldl (stepS fn pv) s).1 ∧ Shape wd (l.foldl (stepS fn pv) s).2 := fun l => by
          induction l with
          | nil => exact fun s _ h => h
          | cons k l ih => exact fun s hl h => ih _ (fun k' hk' => hl k' (List.mem_cons_of_mem _ hk')) (step_shape hpw (hfw k (hl k List.mem_cons_self)) h)
        exact this l sm hl ⟨g.1, g.2.1⟩
      have hkeep : ∀ l : List Nat, (rowAt (l.foldl (stepS fn pv) sm).1 pv = rowAt sm.1 pv) ∧ ∀ k, k ∉ l → rowAt (l.foldl (stepS fn pv) sm).1 k = rowAt sm.1 k := fun l => by
        have : ∀ (l : List Nat) (s : Two), (rowAt (l.foldl (stepS fn pv) s).1 pv = rowAt s.1 pv) ∧ ∀ k, k ∉ l → rowAt (l.foldl (stepS fn pv) s).1 k = rowAt s.1 k := fun l => by
          induction l with
          | nil => exact fun s => ⟨rfl, fun _ _ => rfl⟩
          | cons k l ih =>
            intro s
            obtain ⟨i1, i2⟩ := ih (stepS fn pv s k)
            refine ⟨i1.trans ?_, fun m hm => (i2 m fun z => hm (List.mem_cons_of_mem _ z)).trans ?_⟩
            · by_cases hk : k = pv
              · exact (step_keep (w := wd) pv).2.1 hk
              · exact (step_keep (w := wd) pv).1 (Ne.symm hk)
            · exact (step_keep (w := wd) m).1 fun z => hm (by rw [z]; exact List.mem_cons_self)
        exact this l sm
      have hkeep2 : ∀ l : List Nat, ∀ k, k ≠ pv → rowAt (l.foldl (stepS fn pv) sm).2 k = rowAt sm.2 k := fun l => by
        have : ∀ (l : List Nat) (s : Two), ∀ k, k ≠ pv → rowAt (l.foldl (stepS fn pv) s).2 k = rowAt s.2 k := fun l => by
          induction l with
          | nil => exact fun s _ _ => rfl
          | cons k l ih => exact fun s m hm => (ih (stepS fn pv s k) m hm).trans ((step_keep (w := wd) m).2.2 hm)
        exact this l sm
      generalize hSj : ((lefts fn free).take j).foldl (stepS fn pv) sm = sj at tw estep
      have hndl : (lefts fn free).Nodup := fnd'.filter _
      have hnot : i ∉ (lefts fn free).take j := fun z => by
        obtain ⟨m, hm, e⟩ := List.mem_iff_getElem.mp z
        rw [List.length_take] at hm
        rw [List.getElem_take] at e
        have e2 := (List.getElem?_eq_some_iff.mp hi).2
        have := (List.getElem_inj hndl).mp (e.trans e2.symm)
        omega
      have hsub : ∀ k ∈ (lefts fn free).take j, k ∈ free := fun k hk => hwl k (List.mem_of_mem_take hk)
      have hsh := hshape _ hsub
      have hkp := (hkeep ((lefts fn free).take j)).1
      have hki := (hkeep ((lefts fn free).take j)).2 i hnot
      have hk2 := hkeep2 ((lefts fn free).take j)
      rw [hSj] at hsh hkp hki hk2
      refine ⟨aj, _, rfl, st_of gaj, rfl, _, _, rfl, _, _, rfl, rfl, ?_⟩
      refine s_when (b := decide (i ≠ pv)) (et_test (ev_is (ev_op (ev_var rfl) (ev_var rfl) (rv_ne rfl)) ?_)) (fun hb H5 e5 => ?_) (fun hb H5 e5 => ?_)
      · congr 1
        rw [Bool.eq_iff_iff]
        simp
        omega
      · have hb : i ≠ pv := of_decide_eq_true hb
        have tw5 := tw.on e5
        obtain ⟨good1, good2⟩ := (by have := g.2.2.2 i hif pv hpf; rw [hfdef] at this; exact this hp0)
        -- often = found[at] // found[pivot]
        refine q_asg (ev_op (ev_dget (ev_var rfl) (ev_var rfl) (e5 _ _ gd) (hval i hif)) (ev_dget (ev_var rfl) (ev_var rfl) (e5 _ _ gd) (hval pv hpf)) (rv_I ⟨hp0, good2⟩)) fun H6 e6 => ?_
        have tw6 := tw5.on e6
        have ci : i < cs2.length := by rw [tw6.rc.1, hsh.1.1]; exact hiw
        have cp : pv < cs2.length := by rw [tw6.rc.1, hsh.1.1]; exact hpw
        have vi : i < is2.length := by rw [tw6.rv.1, hsh.2.1]; exact hiw
        have vp : pv < is2.length := by rw [tw6.rv.1, hsh.2.1]; exact hpw
        have lri : (rowAt sj.1 i).length = wd := shape_row hsh.1 hiw
        have lrp : (rowAt sj.2 pv).length = wd := shape_row hsh.2 hpw
        -- columns[at] = ..
        refine q_setN (xs := cs2.map V.ref) tw6.hc (evN_L (el_zip (fun a b => a - (fn i).fdiv (fn pv) * b) (ev_ixL (ev_var rfl) (ev_var rfl) (sq_of tw6.hc) (atI_nat (by rw [List.getElem?_map, List.getElem?_eq_getElem ci]; rfl))) (ev_ixL (ev_var rfl) (ev_var rfl) (sq_of tw6.hc) (atI_nat (by rw [List.getElem?_map, List.getElem?_eq_getElem cp]; rfl)))
            (sqk_l (ex_l tw6.ex (tw6.rc.2 i _ (List.getElem?_eq_getElem ci)))) (sqk_l (ex_l tw6.ex (tw6.rc.2 pv _ (List.getElem?_eq_getElem cp)))) (by omega) (fun p q => rfl) (fun k p q H7 _ hp hq => ev_op (ev_var rfl) (ev_op (ev_var rfl) (ev_var rfl) (rv_I (good1.mul ?_))) rv_I0)))
          (fun _ _ => ev_var rfl) (fun _ _ => ev_var rfl) (by rw [List.length_map]; exact ci) fun p1 H7 hp1 e7 h7 => ?_
        · rw [hkp] at hq
          exact (g.2.2.1 pv hpf).1 _ (List.mem_of_getElem? hq)
        obtain ⟨G3, eg3, tw7, fg3, sg3⟩ := tw6.set1 (i := i) e7 hp1 h7
        -- inverse[pivot] = ..
        refine s_setN (xs := is2.map V.ref) tw7.hv (evN_L (el_zip (fun a b => a + (fn i).fdiv (fn pv) * b) (ev_ixL (ev_var rfl) (ev_var rfl) (sq_of tw7.hv) (atI_nat (by rw [List.getElem?_map, List.getElem?_eq_getElem vp]; rfl))) (ev_ixL (ev_var rfl) (ev_var rfl) (sq_of tw7.hv) (atI_nat (by rw [List.getElem?_map, List.getElem?_eq_getElem vi]; rfl)))
            (sqk_l (ex_l tw7.ex (tw7.rv.2 pv _ (List.getElem?_eq_getElem vp)))) (sqk_l (ex_l tw7.ex (tw7.rv.2 i _ (List.getElem?_eq_getElem vi)))) (by show (rowAt sj.2 pv).length ≤ 40000; omega) (fun p q => rfl) (fun k p q H8 _ hp hq => ev_op (ev_var rfl) (ev_op (ev_var rfl) (ev_var rfl) (rv_I (good1.mul ?_))) rv_I0)))
          (fun _ _ => ev_var rfl) (fun _ _ => ev_var rfl) (by rw [List.length_map]; exact vp) fun p2 H8 hp2 e8 h8 => ?_
        · have hq : (rowAt sj.2 i)[k]? = some q := hq
          rw [hk2 i hb] at hq
          exact (g.2.2.1 i hif).2 _ (List.mem_of_getElem? hq)
        obtain ⟨G4, eg4, tw8, fg4, sg4⟩ := tw7.set2 (i := pv) e8 hp2 h8
        refine ⟨G4, cs2.set i p1, is2.set pv p2, some (.int (i : Int)), some (.int (absI (fn i))), some (.int ((fn i).fdiv (fn pv))), z10, z11, z12, rfl, (eg.trans eg3).trans eg4, ?_, (((fg.ex (e5.trans e6)).trans fg3).trans fg4), ?_⟩
        · rw [estep]
          unfold stepS
          rw [if_neg hb]
          exact tw8
        · exact (sg.trans (fg.ex (e5.trans e6)) sg3 tw7.gc tw7.gv).trans ((fg.ex (e5.trans e6)).trans fg3) sg4 tw8.gc tw8.gv
      · have hb : i = pv := by
          have := of_decide_eq_false hb
          omega
        refine ⟨G2, cs2, is2, some (.int (i : Int)), some (.int (absI (fn i))), z9, z10, z11, z12, rfl, eg, ?_, fg.ex e5, sg⟩
        rw [estep]
        unfold stepS
        rw [if_pos hb]
        exact tw.on e5
    · obtain ⟨G2, cs2, is2, z4, z7, z9, z10, z11, z12, rfl, eg, tw, fg, sg⟩ := p
      rw [List.take_of_length_le (by omega)] at tw
      have fH4 := fm.ex (((e1.trans e2).trans e3).trans e4)
      refine ⟨m', by omega, G2, cs2, is2, _, z4, _, _, z7, _, z9, z10, z11, z12, rfl, eG.trans eg, tw, ?_, fH4.trans fg, sp.trans fH4 sg tw.gc tw.gv⟩
      unfold roundS at R'
      rw [hfdef, hpv] at R'
      exact R'
end
end K39
namespace K39
open PySem PySem.Spec PyProof.Rows L2 Evl
abbrev sSettled : Stmt := topS 13
abbrev nSettled : List Str := ["rows", "width", "place", "at", "columns", "inverse", "free", "pins", "number", "row", "constant", "coefs", "pin", "products", "whole", "others", "value", "left", "weights", "often", "point", "moves", "column", "more", "a", "b"]
theorem scSettled : FnScope nSettled ["rows", "width"] (defScope sSettled) := ⟨rfl, rfl, rfl, by decide +kernel, rfl, by decide +kernel, by decide +kernel⟩
def asgVal : Stmt → Expr
  | .Assign _ v _ => v
  | _ => .Constant .none 0 ⟨0, 0, 0, 0⟩
def lcScope : Expr → Scope
  | .ListComp _ _ s _ => s
  | _ => { kind := .function, names := [], isGenerator := false, isCoroutine := false }
def scId : Scope := lcScope (asgVal ((defBody sSettled).getD 0 (.Pass ⟨0, 0, 0, 0⟩)))
section
variable {P : Program} {w : World} {K : PySem.W.Frag} {mg : Str → Option Value} {base : Heap}
def spSettled (K : PySem.W.Frag) (wd : Nat) : Sp := fun vs H Q _ => ∃ (a : Addr) (ras : List Addr) (rows : List (List Int)) (B : Bas), vs = [.ref a, .int (wd : Int)] ∧ SqL K H a (ras.map V.ref) ∧ ras.length = rows.length ∧ rows.length ≤ 1000 ∧ (∀ (i : Nat) (r : Addr), ras[i]? = some r → ∃ k, SqK K k H r ((rowAt rows i).map V.int)) ∧ wd ≤ 1000 ∧
  SettledRun wd rows B ∧ ∀ H' p, Ex H H' → BaseAt H' p B → Q (.ref p) H'
theorem q_turned {wd : Nat} {σ : L2.St} {H G : Hp} {D : Ends} {tz : TS} {i i1 i2 i3 i4 n : Nat} {c v fr co : Addr} {cs is : List Addr} {free : List Nat} {coefs : List Int} {s s' : Two} (g1 : σ[i1]? = some (some (.ref c))) (g2 : σ[i2]? = some (some (.ref v))) (g3 : σ[i3]? = some (some (.ref fr))) (g4 : σ[i4]? = some (some (.ref co)))
    (T : TwoAt K G H c v cs is s) (hfr : SqL K H fr (natsV free)) (hco : SqL K H co (coefs.map V.int)) (h1 : fr ≠ c) (h2 : fr ≠ v) (h3 : co ≠ c) (h4 : co ≠ v) (nd : free.Nodup) (lt : ∀ i ∈ free, i < wd) (hw : wd ≤ 1000) (hl : free.length ≤ 1000) (hs : SmL coefs) (hcl : coefs.length ≤ 1000) (R : RunN wd coefs free n s s')
    (k : ∀ G' H' cs' is', Ex G G' → TwoAt K G' H' c v cs' is' s' → Fram c v H H' → Sep H G G' → tz D (σ.set i (some (optV (lastOf (fnd coefs s'.1) free)))) H') :
    tSeq (tAsg (tCall (spTurned K wd) [] E0 (tCons (tVar i1) (tCons (tVar i2) (tCons (tVar i3) (tCons (tVar i4) tNil))))) (gName i)) tz D σ H :=
  ⟨_, g1, _, g2, _, g3, _, g4, c, v, fr, co, cs, is, G, free, coefs, s, s', n, rfl, T, hfr, hco, h1, h2, h3, h4, nd, lt, hw, hl, hs, hcl, R, k⟩
theorem q_remove {σ : L2.St} {H : Hp} {D : Ends} {tz : TS} {a b i : Nat} {fr : Addr} {free : List Nat} (hf : H fr = some (.lst (natsV free))) (hi : i ∈ free) (g1 : σ[a]? = some (some (.ref fr))) (g2 : σ[b]? = some (some (.int (i : Int)))) (k : tz D σ (upd H fr (.lst (natsV (free.erase i))))) :
    tSeq (tDrop (tBM K "list" rRemI (tVar a) (tCons (tVar b) tNil))) tz D σ H := by
  obtain ⟨j, h1, h2, h3⟩ := erase_ix hi
  have en : ∀ l : List Nat, natsV l = (l.map fun (n : Nat) => (n : Int)).map V.int := fun l => by
    unfold natsV
    rw [List.map_map]
    rfl
  rw [en] at hf
  refine ⟨_, g1, Or.inl ⟨rfl, _, Or.inl (Or.inl hf)⟩, _, g2, fr, _, (i : Int), j, rfl, rfl, hf, by rw [List.getElem?_map, h1]; rfl, fun m hm z => ?_, ?_⟩
  · rw [List.getElem?_map] at z
    obtain ⟨y, hy, e⟩ := Option.map_eq_some_iff.mp z
    have e : y = i := Int.ofNat.inj e
    exact h2 m hm (by rw [hy, e])
  · rw [eraseIdx_mapp, h3, ← en]
    exact k
theorem upd_none {H : Hp} {a q : Addr} {o : HO} (h : upd H a o q = none) : H q = none := by
  unfold upd at h
  split at h
  · cases h
  · exact h
theorem dec_int_eq (i j : Nat) : decide (V.int (i : Int) = V.int (j : Int)) = decide (i = j) := by
  rw [Bool.eq_iff_iff]
  simp
  omega
set_option maxHeartbeats 1000000 in
theorem ok_settled {wd : Nat} {f fP fT : Addr} {fd fdP fdT : FuncData} (F : Fun K "settled" "settled" sSettled f fd) (GP : FnOk P w K mg base CX0 1 fP fdP ["one", "other"] (spDot K)) (gP : mg "product" = some (.ref fP)) (kP : PySem.W.keepIn K (.ref fP) = true) (bP : Binds K fdP ["one", "other"] [])
    (GT : FnOk P w K mg base CX0 2 fT fdT ["columns", "inverse", "free", "coefs"] (spTurned K wd)) (gT : mg "turned" = some (.ref fT)) (kT : PySem.W.keepIn K (.ref fT) = true) (bT : Binds K fdT ["columns", "inverse", "free", "coefs"] [])
    (mz : mg "zip" = none) (mr : mg "range" = none) (mi : mg "int" = none) (ml : mg "list" = none) (me : mg "enumerate" = none) (ms : mg "sum" = none) (mt : mg "tuple" = none) : FnOk P w K mg base CX0 3 f fd ["rows", "width"] (spSettled K wd) := by
  refine F.ok scSettled (fun vs H Q E h => ?_) (fun cdv A outer s H vs Q E hr h => ?_)
  · obtain ⟨_, _, _, _, rfl, _⟩ := h
    rfl
  · obtain ⟨a, ras, rows, B, rfl, ha, hra, hrl, hrow, hwd, ⟨tf, RR, hfin, rfl⟩, q⟩ := h
    have hu := hu_of hr
    have nd := scSettled.nd
    have hr1 := hr.mono (j := 1) (by decide)
    refine ⟨_,
      pss_cons (ps_set (i := 4) nd rfl (.inr rfl) (pe_lc (own := [("place", 2)]) (g := gName 2) rfl nd (pi_range1 (by rfl) mr (pa_cons (pv 1) pa_nil)) (blkOk_by (own := [("place", 2)]) (N := nSettled) (sc := defScope sSettled) (by decide +kernel))
          (fun _ _ _ _ _ => pg_name (i := 2) nd rfl (.inr rfl) (.inl rfl)) (fun _ _ _ _ _ => pts_nil)
          (fun _ _ _ _ _ => pe_lc (own := [("at", 3)]) (g := gName 3) rfl nd (pi_range1 (by rfl) mr (pa_cons (pv 1) pa_nil)) (blkOk_by (own := [("at", 3)]) (N := nSettled) (sc := relS scId (defScope sSettled)) (by decide +kernel))
            (fun _ _ _ _ _ => pg_name (i := 3) nd rfl (.inl rfl) (.inr rfl)) (fun _ _ _ _ _ => pts_nil)
            (fun _ _ _ _ _ => pe_callTy cr_int (by rfl) mi (by decide +kernel) (pa_cons (pe_cmpR op_eq (pv 3) (pv 2) (nomark _)) pa_nil)))))
      (pss_cons (ps_set (i := 5) nd rfl (.inr rfl) (pe_lc (own := [("column", 22)]) (g := gName 22) rfl nd (pi_list (pv 4)) (blkOk_by (own := [("column", 22)]) (N := nSettled) (sc := defScope sSettled) (by decide +kernel))
          (fun _ _ _ _ _ => pg_name (i := 22) nd rfl (.inl rfl) (.inr rfl)) (fun _ _ _ _ _ => pts_nil) (fun _ _ _ _ _ => pe_callTy (cr_list (K := K)) (by rfl) ml (by decide +kernel) (pa_cons (pv 22) pa_nil))))
      (pss_cons (ps_set (i := 6) nd rfl (.inl rfl) (pe_listRg rfl (by rfl) ml (prg_1 (by rfl) mr (pv 1))))
      (pss_cons (ps_set (i := 7) nd rfl (.inl rfl) (pe_lst pa_nil))
      (pss_cons (ps_for PassesOwn.never rfl (pi_enum (by rfl) me (pa_cons (pv 0) pa_nil)) (pg_tup rfl (pgs_cons (pg_name (i := 8) nd rfl (.inl rfl)) (pgs_cons (pg_name (i := 9) nd rfl (.inl rfl)) pgs_nil)))
        (pss_cons (ps_asg (pv 9) (pg_star rfl (pg_name (i := 10) nd rfl (.inl rfl)) (pg_name (i := 11) nd rfl (.inr rfl))))
        (pss_cons (ps_set (i := 3) nd rfl (.inl rfl) (pe_call GT hr (by rfl) gT kT bT .nil pass0 (pa_cons (pv 4) (pa_cons (pv 5) (pa_cons (pv 6) (pa_cons (pv 11) pa_nil))))))
        (pss_cons (ps_set (i := 13) nd rfl (.inr rfl) (pe_dc (own := [("pin", 12), ("more", 23)]) (g := gStar K (gName 12) (gName 23)) rfl nd (pi_list (pv 7)) (blkOk_by (own := [("pin", 12), ("more", 23)]) (N := nSettled) (sc := defScope sSettled) (by decide +kernel))
            (fun _ _ _ _ _ => pg_starK rfl (pg_name (i := 12) nd rfl (.inl rfl) (.inr rfl)) (pg_name (i := 23) nd rfl (.inl rfl) (.inr rfl))) (fun _ _ _ _ _ => pts_nil) (fun _ _ _ _ _ => pv 12)
            (fun _ _ _ _ _ => pe_call GP hr1 (by rfl) gP kP bP .nil pass0 (pa_cons (pv 11) (pa_cons (pe_ix (ixL (K := K)) (pv 4) (pv 12) (fun _ _ => rfl)) pa_nil)))))
        (pss_cons (ps_set (i := 17) nd rfl (.inl rfl) (pe_op op_add (pv 10) (pe_callB (cr_sum rfl) (by rfl) ms (by decide +kernel) (pa_cons
            (pe_lc (own := [("pin", 12), ("place", 2), ("whole", 14), ("others", 15), ("value", 16)]) (g := gTup K 5 (gCons (gName 12) (gCons (gName 2) (gCons (gName 14) (gCons (gName 15) (gCons (gName 16) gNil)))))) rfl nd (pi_list (pv 7)) (blkOk_by (own := [("pin", 12), ("place", 2), ("whole", 14), ("others", 15), ("value", 16)]) (N := nSettled) (sc := defScope sSettled) (by decide +kernel))
              (fun _ _ _ _ _ => pg_tup rfl (pgs_cons (pg_name (i := 12) nd rfl (.inl rfl) (.inr rfl)) (pgs_cons (pg_name (i := 2) nd rfl (.inl rfl) (.inr rfl)) (pgs_cons (pg_name (i := 14) nd rfl (.inl rfl) (.inr rfl)) (pgs_cons (pg_name (i := 15) nd rfl (.inl rfl) (.inr rfl)) (pgs_cons (pg_name (i := 16) nd rfl (.inl rfl) (.inr rfl)) pgs_nil))))))
              (fun _ _ _ _ _ => pts_nil) (fun _ _ _ _ _ => pe_op op_mulX (pe_dget hu (pv 13) (pv 12) (fun _ _ => rfl)) (pv 16))) pa_nil))))
        (pss_cons (ps_if (PW.pt (pw_and (pt_cmpR op_isN (pv 3) pe_non (nomark _)) (pw_and1 (pt_cmpR op_ne (pv 17) pe_int (nomark _))))) pss_never pss_nil)
        (pss_one (ps_if (pt_cmpR op_notN (pv 3) pe_non (nomark _))
          (pss_cons (ps_set (i := 14) nd rfl (.inl rfl) (pe_call GP hr1 (by rfl) gP kP bP .nil pass0 (pa_cons (pv 11) (pa_cons (pe_ix ix_list (pv 4) (pv 3) (fun _ _ => rfl)) pa_nil))))
          (pss_cons (ps_if (pt_cmpR op_ne (pe_op op_modN (pv 17) (pv 14)) pe_int (nomark _)) pss_never pss_nil)
          (pss_cons (ps_expr (pe_bm PySem.F.plainAttrs_list PySem.F.slot_list_remove PySem.F.type_list_remove mt_remove (pv 6) (pa_cons (pv 3) pa_nil)))
          (pss_one (ps_expr (pe_bm PySem.F.plainAttrs_list PySem.F.slot_list_append PySem.F.type_list_append mt_append (pv 7) (pa_cons (pe_tup (pa_cons (pv 3) (pa_cons (pv 8) (pa_cons (pv 14) (pa_cons (pv 13) (pa_cons (pe_op op_fdivX (pe_un un_neg (pv 17)) (pv 14)) pa_nil)))))) pa_nil)))))))
          pss_nil))))))))
      (pss_cons (ps_setLc (i := 20) (own := [("at", 3)]) (g := gName 3) rfl nd rfl rfl (sw_true rfl rfl rfl (by decide +kernel)) (pi_range1 (by rfl) mr (pa_cons (pv 1) pa_nil)) (blkOk_by (own := [("at", 3)]) (N := nSettled) (sc := defScope sSettled) (by decide +kernel))
          (fun _ _ _ _ _ => pg_name (i := 3) nd rfl (.inl rfl) (.inr rfl)) (fun _ _ _ _ _ => pts_nil) (fun _ _ _ _ _ => pe_int))
      (pss_cons (ps_for PassesOwn.never rfl (pi_list (pv 7)) (pg_tup rfl (pgs_cons (pg_name (i := 12) nd rfl (.inl rfl)) (pgs_cons (pg_name (i := 2) nd rfl (.inl rfl)) (pgs_cons (pg_name (i := 14) nd rfl (.inl rfl)) (pgs_cons (pg_name (i := 15) nd rfl (.inl rfl)) (pgs_cons (pg_name (i := 16) nd rfl (.inr rfl)) pgs_nil))))))
        (pss_one (ps_setLc (i := 20) (own := [("a", 24), ("b", 25)]) (g := gTup K 2 (gCons (gName 24) (gCons (gName 25) gNil))) rfl nd rfl rfl (sw_true rfl rfl rfl (by decide +kernel)) (pi_zipG (by rfl) mz (pa_cons (pv 20) (pa_cons (pe_ix ix_list (pv 4) (pv 12) (fun _ _ => rfl)) pa_nil))) (blkOk_by (own := [("a", 24), ("b", 25)]) (N := nSettled) (sc := defScope sSettled) (by decide +kernel))
              (fun _ _ _ _ _ => pg_tup rfl (pgs_cons (pg_name (i := 24) nd rfl (.inl rfl) (.inr rfl)) (pgs_cons (pg_name (i := 25) nd rfl (.inl rfl) (.inr rfl)) pgs_nil))) (fun _ _ _ _ _ => pts_nil) (fun _ _ _ _ _ => pe_op op_add (pv 24) (pe_op op_mulX (pv 16) (pv 25))))))
      (pss_cons (ps_set (i := 21) nd rfl (.inl rfl) (pe_callTy (cr_tuple (K := K)) (by rfl) mt (by decide +kernel) (pa_cons
          (pe_lc (own := [("at", 3)]) (g := gName 3) rfl nd (pi_list (pv 6)) (blkOk_by (own := [("at", 3)]) (N := nSettled) (sc := defScope sSettled) (by decide +kernel))
            (fun _ _ _ _ _ => pg_name (i := 3) nd rfl (.inl rfl) (.inr rfl)) (fun _ _ _ _ _ => pts_nil) (fun _ _ _ _ _ => pe_callTy (cr_tuple (K := K)) (by rfl) mt (by decide +kernel) (pa_cons (pe_ix (ixL (K := K)) (pv 4) (pv 3) (fun _ _ => rfl)) pa_nil))) pa_nil)))
      (pss_one (ps_ret (pe_tup (pa_cons pe_str (pa_cons (pe_callTy (cr_tuple (K := K)) (by rfl) mt (by decide +kernel) (pa_cons (pv 20) pa_nil)) (pa_cons (pv 21) (pa_cons (pe_callTy (cr_tuple (K := K)) (by rfl) mt (by decide +kernel) (pa_cons
          (pe_lc (own := [("at", 3)]) (g := gName 3) rfl nd (pi_list (pv 6)) (blkOk_by (own := [("at", 3)]) (N := nSettled) (sc := defScope sSettled) (by decide +kernel))
            (fun _ _ _ _ _ => pg_name (i := 3) nd rfl (.inl rfl) (.inr rfl)) (fun _ _ _ _ _ => pts_nil) (fun _ _ _ _ _ => pe_callTy (cr_tuple (K := K)) (by rfl) mt (by decide +kernel) (pa_cons (pe_ix (ixL (K := K)) (pv 5) (pv 3) (fun _ _ => rfl)) pa_nil))) pa_nil)) pa_nil)))))))))))))), ?_⟩
    have hid : ∀ p : Nat, rowAt (idM wd) p = if p < wd then (List.range wd).map fun a => if a = p then 1 else 0 else [] := fun p => by
      unfold rowAt idM
      rw [List.getD_eq_getElem?_getD, List.getElem?_map]
      by_cases hp : p < wd
      · rw [List.getElem?_range hp, if_pos hp]
        rfl
      · rw [List.getElem?_eq_none (by rw [List.length_range]; omega), if_neg hp]
        rfl
    -- columns
    refine q_asgLN (eln_range (n := (wd : Int)) (ea_cons (ev_var rfl) ea_nil) (by omega) (fun p => .lst ((rowAt (idM wd) p).map V.int)) (fun x => rfl) (fun p H1 e1 hp => ?_)) fun c cs H1 hc e1 h1 ob1 => ?_
    · have hp : p < wd := by omega
      rw [hid p, if_pos hp]
      refine evN_L (el_is (el_lcR1 (n := (wd : Int)) (fun _ => true) (fun a => .int (if a = p then 1 else 0)) (ea_cons (ev_var rfl) ea_nil) (by omega) (fun x => rfl) (fun i H2 _ _ => et_yes) (fun i H2 _ _ _ => ?_)) ?_)
      · have e2 : (V.int (if i = p then 1 else 0)) = V.int (if decide (i = p) = true then 1 else 0) := by
          by_cases h : i = p <;> simp [h]
        rw [e2]
        exact ev_int (ev_is (ev_op (ev_var rfl) (ev_var rfl) (rv_eq rfl)) (by rw [dec_int_eq]))
      · rw [given_all, Int.toNat_natCast, List.map_map]
        rfl
    rw [made_all, Int.toNat_natCast] at ob1
    have hcl : cs.length = wd := by rw [ob1.1, List.length_map, List.length_range]
    have hidl : (idM wd).length = wd := by unfold idM; rw [List.length_map, List.length_range]
    have hcs : ∀ (i : Nat) (x : Addr), cs[i]? = some x → H1 x = some (.lst ((rowAt (idM wd) i).map V.int)) := fun i x hx => by
      have hi : i < wd := by
        have := (List.getElem?_eq_some_iff.mp hx).1
        omega
      exact (ob1.2 i x _ hx (by rw [List.getElem?_map, List.getElem?_range hi]; rfl)).2
    -- inverse
    refine q_asgLN (eln_list (K := K) (xs := cs.map V.ref) (ev_var rfl) (sq_of h1) (by rw [List.length_map]; omega) (fun p => .lst ((rowAt (idM wd) p).map V.int)) (fun x => rfl) (fun i x H2 e2 hx => ?_)) fun v is H2 hv e2 h2 ob2 => ?_
    · rw [List.getElem?_map] at hx
      obtain ⟨ai, hai, rfl⟩ := Option.map_eq_some_iff.mp hx
      exact en_list (K := K) (ev_var rfl) (sqk_l (sq_of (e2 _ _ (hcs i ai hai))))
    rw [made_all, List.length_map, hcl] at ob2
    have hil : is.length = wd := by rw [ob2.1, List.length_map, List.length_range]
    have his : ∀ (i : Nat) (x : Addr), is[i]? = some x → H2 x = some (.lst ((rowAt (idM wd) i).map V.int)) := fun i x hx => by
      have hi : i < wd := by
        have := (List.getElem?_eq_some_iff.mp hx).1
        omega
      exact (ob2.2 i x _ hx (by rw [List.getElem?_map, List.getElem?_range hi]; rfl)).2
    -- free, pins
    refine q_asgN (o := .lst (natsV (List.range wd))) (fun H0 e0 Q' q' => ⟨_, rfl, (wd : Int), rfl, RgOk.of_le (by omega) (by omega) (by omega) (by omega), fun l hl => q' l _ hl (Ex.new hl) (by rw [upd_same, rg_nats])⟩) fun fr H3 hfr e3 h3 => ?_
    refine q_asgN (evN_L (el_lst ea_nil (Nat.zero_le _))) fun pl H4 hpl e4 h4 => ?_
    have eH4 : Ex H H4 := ((e1.trans e2).trans e3).trans e4
    have hcs1 : ∀ (i : Nat) (x : Addr), cs[i]? = some x → x ≠ c := fun i x hx z => by
      have a1 := hcs i x hx
      rw [z, h1] at a1
      have hi : i < wd := by
        have := (List.getElem?_eq_some_iff.mp hx).1
        omega
      have a2 := congrArg List.head? (HO.lst.inj (Option.some.inj a1))
      rw [hid i, if_pos hi] at a2
      cases cs with
      | nil => cases hx
      | cons x0 r =>
        cases hw : List.range wd with
        | nil =>
          have := congrArg List.length hw
          rw [List.length_range] at this
          have : wd = 0 := this
          omega
        | cons z0 r2 =>
          rw [hw] at a2
          cases a2
    have his1 : ∀ (i : Nat) (x : Addr), is[i]? = some x → x ≠ v := fun i x hx z => by
      have a1 := his i x hx
      rw [z, h2] at a1
      have hi : i < wd := by
        have := (List.getElem?_eq_some_iff.mp hx).1
        omega
      have a2 := congrArg List.head? (HO.lst.inj (Option.some.inj a1))
      rw [hid i, if_pos hi] at a2
      cases is with
      | nil => cases hx
      | cons x0 r =>
        cases hw : List.range wd with
        | nil =>
          have := congrArg List.length hw
          rw [List.length_range] at this
          have : wd = 0 := this
          omega
        | cons z0 r2 =>
          rw [hw] at a2
          cases a2
    have c1 : H1 c = some (.lst (cs.map V.ref)) := h1
    have cv : c ≠ v := ne_of_none c1 hv
    have cf : c ≠ fr := ne_of_none (e2 _ _ c1) hfr
    have cp : c ≠ pl := ne_of_none (e3 _ _ (e2 _ _ c1)) hpl
    have vf : v ≠ fr := ne_of_none h2 hfr
    have vp : v ≠ pl := ne_of_none (e3 _ _ h2) hpl
    have fp : fr ≠ pl := ne_of_none h3 hpl
    have lessE : ∀ b o, b ≠ c → b ≠ v → b ≠ fr → b ≠ pl → H4 b = some o → less (less H4 c v) fr pl b = some o := fun b o b1 b2 b3 b4 hb => less_at (less_at hb b1 b2) b3 b4
    have S0 : SetAt K wd (less (less H4 c v) fr pl) H4 c v fr pl cs is [] (initS wd) := by
      refine ⟨⟨less_ex.trans less_ex, ?_, ?_, cv, e4 _ _ (e3 _ _ (e2 _ _ c1)), e4 _ _ (e3 _ _ h2), ⟨by rw [hcl]; exact hidl.symm, fun i x hx => ?_⟩, ⟨by rw [hil]; exact hidl.symm, fun i x hx => ?_⟩⟩, if_pos (.inl rfl), if_pos (.inr rfl), e4 _ _ h3, h4, cf.symm, vf.symm, cp.symm, vp.symm, fp, ⟨rfl, fun i x p hx => by cases hx⟩, ?_, fun i hi => ?_, ?_⟩
      · unfold less
        rw [if_neg (fun z => z.elim cf cp), if_pos (.inl rfl)]
      · unfold less
        rw [if_neg (fun z => z.elim vf vp), if_pos (.inr rfl)]
      · have hx1 := hcs i x hx
        exact sq_of (lessE x _ (hcs1 i x hx) (ne_of_none hx1 hv) (ne_of_none (e2 _ _ hx1) hfr) (ne_of_none (e3 _ _ (e2 _ _ hx1)) hpl) (e4 _ _ (e3 _ _ (e2 _ _ hx1))))
      · have hx1 := his i x hx
        have hi : i < wd := by
          have := (List.getElem?_eq_some_iff.mp hx).1
          omega
        have hxn := (ob2.2 i x _ hx (by rw [List.getElem?_map, List.getElem?_range hi]; rfl)).1
        exact sq_of (lessE x _ (Ne.symm (ne_of_none c1 hxn)) (his1 i x hx) (ne_of_none hx1 hfr) (ne_of_none (e3 _ _ hx1) hpl) (e4 _ _ (e3 _ _ hx1)))
      · exact List.nodup_range
      · exact List.mem_range.mp hi
      · show (List.range wd).length ≤ 1000
        rw [List.length_range]
        exact hwd
    have eG0 : Ex H (less (less H4 c v) fr pl) := fun b o hb =>
      lessE b o (ne_of_none hb hc) (ne_of_none (e1 _ _ hb) hv) (ne_of_none (e2 _ _ (e1 _ _ hb)) hfr) (ne_of_none (e3 _ _ (e2 _ _ (e1 _ _ hb))) hpl) (eH4 _ _ hb)
    generalize less (less H4 c v) fr pl = G0 at S0 eG0
    -- the rows
    refine s_forE (K := K) (D := { ({ nx := fun x H' => Q V.non H', rt := Q } : Ends) with nx := _ }) (xs := ras.map V.ref) (ev_var rfl) (ex_l eH4 ha) (fun j σ' H' => ∃ G cs is ts t y2 y3 y8 y9 y10 y11 y12 y13 y14 y15 y16 y17 y18 y19 y20 y21 y22 y23 y24 y25, σ' = [some (.ref a), some (.int (wd : Int)), y2, y3, some (.ref c), some (.ref v), some (.ref fr), some (.ref pl), y8, y9, y10, y11, y12, y13, y14, y15, y16, y17, y18, y19, y20, y21, y22, y23, y24, y25] ∧
        RowsRun wd (rows.drop j) t tf ∧ SetAt K wd G H' c v fr pl cs is ts t ∧ Ex H G ∧ t.s.1.length = wd ∧ t.s.2.length = wd) (fun H5 e5 => ⟨G0, cs, is, [], initS wd, none, none, none, none, none, none, none, none, none, none, none, none, none, none, none, none, none, none, none, none, rfl, RR, S0.on e5, eG0, hidl, hidl⟩) (fun j σ' H' p => ?_) (fun j x T σ' H' hx p hT => ?_) (fun σ' H' p => ?_)
    · obtain ⟨G, cs, is, ts, t, y2, y3, y8, y9, y10, y11, y12, y13, y14, y15, y16, y17, y18, y19, y20, y21, y22, y23, y24, y25, rfl, _, S, eg, _⟩ := p
      exact ex_l (eg.trans S.two.ex) ha
    · obtain ⟨G, cs, is, ts, t, y2, y3, y8, y9, y10, y11, y12, y13, y14, y15, y16, y17, y18, y19, y20, y21, y22, y23, y24, y25, rfl, R, S, eg, _⟩ := p
      rw [List.getElem?_map] at hx
      obtain ⟨r, hr', rfl⟩ := Option.map_eq_some_iff.mp hx
      have hj : j < rows.length := by
        have := (List.getElem?_eq_some_iff.mp hr').1
        omega
      obtain ⟨kr, hrs⟩ := hrow j r hr'
      rw [List.drop_eq_getElem_cons hj] at R
      obtain ⟨c0, co, n, s', t', erow, hsm, hcol, run, hmul, done, R'⟩ := R
      have erow2 : rowAt rows j = c0 :: co := by
        rw [← erow]
        unfold rowAt
        rw [List.getD_eq_getElem?_getD, List.getElem?_eq_getElem hj]
        rfl
      rw [erow2] at hrs
      have eT : Ex H' (upd H' T (.tup [.int (j : Int), .ref r])) := Ex.new hT
      have S5 := S.on eT
      have hrs5 := ex_k ((eg.trans S.two.ex).trans eT) hrs
      generalize upd H' T (.tup [.int (j : Int), .ref r]) = H5 at S5 hrs5
      -- constant, *coefs = row
      refine q_star (K := K) (x := .int c0) (xs := co.map V.int) (ev_var rfl) hrs5 (by rw [List.length_map]; omega) fun pco H6 hpco e6 h6 => ?_
      have S6 := S5.on e6
      have hndp := List.nodup_append.mp S6.nd
      have hfl : t.free.length ≤ 1000 := by
        have := S6.len
        rw [List.length_append] at this
        omega
      have hpl6 : t.pins.length ≤ 1000 := by
        have := S6.len
        rw [List.length_append, List.length_map] at this
        omega
      refine norm_st (σ' := ?sx1) ?ns1 ?_; (case ns1 => simp only [List.set_cons_zero, List.set_cons_succ]; rfl)
      -- at = turned(columns, inverse, free, coefs)
      refine q_turned (K := K) (wd := wd) (c := c) (v := v) (fr := fr) (co := pco) rfl rfl rfl rfl S6.two (sq_of S6.hf) (sq_of h6) S6.d1 S6.d2 (Ne.symm (ne_of_none S5.two.hc hpco)) (Ne.symm (ne_of_none S5.two.hv hpco)) hndp.2.1 (fun i hi => S6.lt i (List.mem_append_right _ hi)) hwd hfl hsm hcol run fun G' H7 cs' is' eG T7 fm sp => ?_
      have S7 := S6.turned eG T7 fm sp
      have hpc7 : H7 pco = some (.lst (co.map V.int)) := fm _ _ (Ne.symm (ne_of_none S5.two.hc hpco)) (Ne.symm (ne_of_none S5.two.hv hpco)) h6
      have eg7 : Ex H G' := eg.trans eG
      have hpinlt : ∀ p ∈ t.pins, p.1 < wd := fun p hp => S7.lt p.1 (List.mem_append_left _ (List.mem_map.mpr ⟨p, hp, rfl⟩))
      have hcs' : ∀ i, i < wd → ∃ x, cs'[i]? = some x := fun i hi => by
        have : i < cs'.length := by
          rw [S7.two.rc.1, run_shape1 run]
          exact hi
        exact ⟨_, List.getElem?_eq_getElem this⟩
      have hdot : ∀ (σ : L2.St) (H8 : Hp) (i : Nat) (te : TE), Ex H7 H8 → i < wd → SmL (rowAt s'.1 i) → σ[11]? = some (some (.ref pco)) → σ[4]? = some (some (.ref c)) → Ev te σ H8 (.int (i : Int)) → Ev (tCall (spDot K) [] E0 (tCons (tVar 11) (tCons (tOp (rIxL K) (tVar 4) te) tNil))) σ H8 (.int (fnd co s'.1 i)) := fun σ H8 i te e8 hi hs1 g1 g2 hte => by
        obtain ⟨x, hx⟩ := hcs' i hi
        exact ev_dot (K := K) (ev_var g1) (ev_ixL (ev_var g2) hte (sq_of (e8 _ _ S7.two.hc)) (atI_nat (by rw [List.getElem?_map, hx]; rfl))) (sqk_l (sq_of (e8 _ _ hpc7))) (sqk_l (ex_l (S7.two.ex.trans e8) (S7.two.rc.2 i x hx))) (by omega)
          (fun k p q hp hq => (hsm _ (List.mem_of_getElem? hp)).mul (hs1 _ (List.mem_of_getElem? hq)))
      generalize hrr : lastOf (fnd co s'.1) t.free = rr at *
      refine norm_st (σ' := ?sx2) ?ns2 ?_; (case ns2 => simp only [List.set_cons_zero, List.set_cons_succ]; rfl)
      -- products
      have hP7 : PinsAt K H7 ts t.pins := S7.pins.ex S7.two.ex
      refine q_asgN (en_dcPins (K := K) (ev_var rfl) S7.hp hP7 hndp.1 hpl6 (fnd co s'.1) (wipe2 (by decide) (by decide)) (fun p hp z H8 e8 => ⟨ev_var rfl, hdot _ H8 p.1 (tVar 12) e8 (hpinlt p hp) (hmul p hp).1 rfl rfl (ev_var rfl)⟩)) fun pd H8 hpd e8 h8 => ?_
      have S8 := S7.on e8
      refine norm_st (σ' := ?sx3) ?ns3 ?_; (case ns3 => simp only [List.set_cons_zero, List.set_cons_succ]; rfl)
      -- left
      refine q_asg (v := .int (leftF c0 co s'.1 t.pins)) (ev_op (ev_var rfl) (ev_sum (K := K) (el_pins (K := K) (ev_var rfl) S8.hp (hP7.ex e8) hpl6 (fun p => fnd co s'.1 p.1 * p.2) (wipe5 (by decide) (by decide) (by decide) (by decide) (by decide)) (fun k p hk hkp x2 x3 x4 H9 e9 => ?_))) rv_I0) fun H9 e9 => ?_
      · have hm := (pins_get hk).2
        rw [hkp] at hm
        have hv := pairs_val (v := fun k => V.int (fnd co s'.1 (t.pins.getD k (0, 0)).1)) hk (pinK_inj hndp.1)
        unfold pinK at hv
        rw [hkp] at hv
        exact ev_op (ev_dget (ev_var (by simp only [wipe, List.map_cons, List.map_nil, List.set_cons_zero, List.set_cons_succ, List.getElem?_cons_succ, List.getElem?_cons_zero] <;> rfl)) (ev_var (by simp only [wipe, List.map_cons, List.map_nil, List.set_cons_zero, List.set_cons_succ, List.getElem?_cons_succ, List.getElem?_cons_zero] <;> rfl)) (e9 _ _ h8) hv) (ev_var (by simp only [wipe, List.map_cons, List.map_nil, List.set_cons_zero, List.set_cons_succ, List.getElem?_cons_succ, List.getElem?_cons_zero] <;> rfl)) (rv_I ((hmul _ hm).2.1.mul (hmul _ hm).2.2))
      have S9 := S8.on e9
      refine norm_st (σ' := ?sx4) ?ns4 ?_; (case ns4 => simp only [List.set_cons_zero, List.set_cons_succ]; rfl)
      unfold RowDone at done
      rw [hrr] at done
      generalize hLL : leftF c0 co s'.1 t.pins = LL at done ⊢
      cases rr with
      | none =>
        obtain ⟨hL0, rfl⟩ := done
        subst hL0
        refine q_when (b := false) (et_and (a := true) (et_test (ev_op (ev_var rfl) ev_c (rv_val fun H1 e Q q => ⟨rfl, q⟩))) fun _ => et_test (ev_op (ev_var rfl) ev_c (rv_ne rfl))) (fun z => by cases z) fun _ H10 e10 => ?_
        refine s_when (b := false) (et_test (ev_op (ev_var rfl) ev_c (rv_val fun H1 e Q q => ⟨rfl, q⟩))) (fun z => by cases z) fun _ H11 e11 => ?_
        exact ⟨G', cs', is', ts, ⟨s', t.free, t.pins⟩, y2, _, _, _, _, _, y12, _, y14, y15, y16, _, y18, y19, y20, y21, y22, y23, y24, y25, rfl, R', S9.on (e10.trans e11), eg7, run_shape1 run, run_shape2 run⟩
      | some at' =>
        obtain ⟨hsat, hmod, hpyl, rfl⟩ := done
        have hatl : at' ∈ lefts (fnd co s'.1) t.free := by
          unfold lastOf at hrr
          exact List.mem_of_mem_head? hrr
        have hatf : at' ∈ t.free := (List.mem_filter.mp hatl).1
        have hatw : at' < wd := S9.lt at' (List.mem_append_right _ hatf)
        have hat0 : fnd co s'.1 at' ≠ 0 := of_decide_eq_true (List.mem_filter.mp hatl).2
        refine q_when (b := false) (et_and (a := false) (b := false) (et_test (ev_op (ev_var rfl) ev_c (rv_val fun H1 e Q q => ⟨rfl, q⟩))) fun z => by cases z) (fun z => by cases z) fun _ H10 e10 => ?_
        refine s_when (b := true) (et_test (ev_op (ev_var rfl) ev_c (rv_val fun H1 e Q q => ⟨rfl, q⟩))) (fun _ H11 e11 => ?_) (fun z => by cases z)
        -- whole
        refine q_asg (hdot _ H11 at' (tVar 3) (((e8.trans e9).trans e10).trans e11) hatw hsat rfl rfl (ev_var rfl)) fun H12 e12 => ?_
        refine q_when (b := false) (et_test (ev_is (ev_op (ev_op (ev_var rfl) (ev_var rfl) (rv_I hat0)) ev_c (rv_ne rfl)) (by rw [hmod]; rfl))) (fun z => by cases z) fun _ H13 e13 => ?_
        refine norm_st (σ' := ?sx5) ?ns5 ?_; (case ns5 => simp only [List.set_cons_zero, List.set_cons_succ]; rfl)
        have S13 := S9.on (((e10.trans e11).trans e12).trans e13)
        refine q_remove (K := K) S13.hf hatf rfl rfl ?_
        refine s_appU (K := K) (xs := ts.map V.ref) (by rw [upd_ne S13.d5.symm]; exact S13.hp) (ev_var rfl) (eu_tup (ea_cons (ev_var rfl) (ea_cons (ev_var rfl) (ea_cons (ev_var rfl) (ea_cons (ev_var rfl) (ea_cons (ev_op (ev_un (ev_var rfl) ru_neg) (ev_var rfl) (rv_I ⟨hat0, hpyl⟩)) ea_nil))))) (by show 5 ≤ 100000; decide)) (by rw [List.length_map, S13.pins.1]; show t.pins.length < 100000; omega) fun tt H14 htt e14 h14 => ?_
        obtain ⟨G14, eg14, S14⟩ := S13.pin hatf (upd_none htt) e14 h14
        exact ⟨G14, cs', is', ts ++ [tt], _, y2, _, _, _, _, _, y12, _, _, y15, y16, _, y18, y19, y20, y21, y22, y23, y24, y25, rfl, R', S14, eg7.trans eg14, run_shape1 run, run_shape2 run⟩
    · obtain ⟨G, cs, is, ts, t, y2, y3, y8, y9, y10, y11, y12, y13, y14, y15, y16, y17, y18, y19, y20, y21, y22, y23, y24, y25, rfl, R, S, eg, hshape, hshape2⟩ := p
      rw [List.drop_eq_nil_of_le (by rw [List.length_map]; omega)] at R
      obtain rfl : tf = t := R
      have hpl9 : tf.pins.length ≤ 1000 := by
        have := S.len
        rw [List.length_append, List.length_map] at this
        omega
      have hfl9 : tf.free.length ≤ 1000 := by
        have := S.len
        rw [List.length_append] at this
        omega
      -- point = [0 ..]
      refine q_asgN (evN_L (el_is (el_lcR1 (n := (wd : Int)) (fun _ => true) (fun _ => .int 0) (ea_cons (ev_var rfl) ea_nil) (by omega) (wipe1 (by decide)) (fun i H2 _ _ => et_yes) (fun i H2 _ _ _ => ev_c)) (ys := (List.replicate wd (0 : Int)).map V.int) ?_)) fun pt0 H5 hp5 e5 h5 => ?_
      · rw [given_all, Int.toNat_natCast, List.map_replicate]
        apply List.ext_getElem?
        intro k
        rw [List.getElem?_map, List.getElem?_replicate]
        by_cases hk : k < wd
        · rw [List.getElem?_range hk, if_pos hk]
          rfl
        · rw [List.getElem?_eq_none (by rw [List.length_range]; omega), if_neg hk]
          rfl
      have S5 := S.on e5
      refine norm_st (σ' := ?sz1) ?nz1 ?_; (case nz1 => simp only [List.set_cons_zero, List.set_cons_succ]; rfl)
      refine q_forL (K := K) (xs := ts.map V.ref) (ev_var rfl) (sq_of S5.hp) (fun j σ' H' => ∃ pt z2 z12 z14 z15 z16, σ' = [some (.ref a), some (.int (wd : Int)), z2, y3, some (.ref c), some (.ref v), some (.ref fr), some (.ref pl), y8, y9, y10, y11, z12, y13, z14, z15, z16, y17, y18, y19, some (.ref pt), y21, y22, y23, y24, y25] ∧ Ex H5 H' ∧ H' pt = some (.lst ((pointOf wd tf.s.1 (tf.pins.take j)).map V.int)))
        (fun H6 e6 => ⟨pt0, y2, y12, y14, y15, y16, rfl, e6, e6 _ _ h5⟩) (fun j σ' H' _ p => ?_) (fun j x σ' H' hx p => ?_) (fun σ' H' p => ?_)
      · obtain ⟨_, _, _, _, _, _, _, e6, _⟩ := p
        exact sq_of (e6 _ _ S5.hp)
      · obtain ⟨pt, z2, z12, z14, z15, z16, rfl, e6, hpt⟩ := p
        have S6 := S5.on e6
        obtain ⟨tt, x1, x2, x3, rfl, hj, hs⟩ := pins_at (S6.pins.ex S6.two.ex) hx
        obtain ⟨hget, hmem⟩ := pins_get hj
        have etake : pointOf wd tf.s.1 (tf.pins.take (j + 1)) = addRow (tf.pins.getD j (0, 0)).2 (pointOf wd tf.s.1 (tf.pins.take j)) (rowAt tf.s.1 (tf.pins.getD j (0, 0)).1) := by
          unfold pointOf
          rw [List.take_add_one, hget]
          show ((tf.pins.take j) ++ [tf.pins.getD j (0, 0)]).foldl _ _ = _
          rw [List.foldl_append]
          rfl
        generalize tf.pins.getD j (0, 0) = pj at hs hmem etake
        obtain ⟨hsp, hsr⟩ := hfin pj hmem
        have hplt : pj.1 < wd := S6.lt _ (List.mem_append_left _ (List.mem_map.mpr ⟨pj, hmem, rfl⟩))
        have hlp : ∀ (l : List (Nat × Int)) (acc : List Int), acc.length ≤ wd → (l.foldl (fun acc p => addRow p.2 acc (rowAt tf.s.1 p.1)) acc).length ≤ wd := fun l => by
          induction l with
          | nil => exact fun acc h => h
          | cons p l ih => exact fun acc h => ih _ (by unfold addRow; rw [List.length_zipWith]; omega)
        have hpl : (pointOf wd tf.s.1 (tf.pins.take j)).length ≤ 40000 := by
          have := hlp (tf.pins.take j) (List.replicate wd 0) (by rw [List.length_replicate]; exact Nat.le_refl _)
          unfold pointOf
          omega
        refine ⟨tt, _, rfl, hs, rfl, _, _, rfl, _, _, rfl, _, _, rfl, _, _, rfl, _, _, rfl, rfl, ?_⟩
        refine norm_st (σ' := ?sz2) ?nz2 ?_; (case nz2 => simp only [List.set_cons_zero, List.set_cons_succ]; rfl)
        obtain ⟨cx, hcx⟩ : ∃ x, cs[pj.1]? = some x := ⟨_, List.getElem?_eq_getElem (show pj.1 < cs.length by rw [S6.two.rc.1, hshape]; exact hplt)⟩
        · refine s_asgL (el_zip (K := K) (fun p q => p + pj.2 * q) (ev_var rfl) (ev_ixL (ev_var rfl) (ev_var rfl) (sq_of S6.two.hc) (atI_nat (by rw [List.getElem?_map, hcx]; rfl))) (sqk_l (sq_of hpt)) (sqk_l (ex_l S6.two.ex (S6.two.rc.2 _ cx hcx))) hpl (wipe2 (by decide) (by decide))
            (fun k p q H7 _ hp hq => ev_op (ev_var rfl) (ev_op (ev_var rfl) (ev_var rfl) (rv_I (hsp.mul (hsr _ (List.mem_of_getElem? hq))))) rv_I0)) fun p1 H7 hp1 e7 h7 => ?_
          refine ⟨p1, _, _, _, _, _, rfl, e6.trans e7, ?_⟩
          rw [etake]
          exact h7
      · obtain ⟨pt, z2, z12, z14, z15, z16, rfl, e6, hpt⟩ := p
        rw [List.take_of_length_le (by rw [List.length_map, S5.pins.1]; exact Nat.le_refl _)] at hpt
        have S6 := S5.on e6
        have hfree : ∀ (i : Nat) (x : V) (H8 : Hp), (natsV tf.free)[i]? = some x → ∃ k, tf.free[i]? = some k ∧ x = .int (k : Int) ∧ k < wd := fun i x H8 hx => by
          unfold natsV at hx
          rw [List.getElem?_map] at hx
          obtain ⟨k, hk, rfl⟩ := Option.map_eq_some_iff.mp hx
          exact ⟨k, hk, rfl, S6.lt k (List.mem_append_right _ (List.mem_of_getElem? hk))⟩
        have hmk : ∀ M : Mat, (List.range (natsV tf.free).length).map (fun i => HO.tup ((rowAt M (tf.free.getD i 0)).map V.int)) = tf.free.map fun i => .tup ((rowAt M i).map V.int) := fun M => by
          rw [natsV_len]
          apply List.ext_getElem?
          intro k
          rw [List.getElem?_map, List.getElem?_map]
          by_cases hk : k < tf.free.length
          · rw [List.getElem?_range hk, List.getElem?_eq_getElem hk]
            show some (HO.tup ((rowAt M (tf.free.getD k 0)).map V.int)) = _
            rw [List.getD_eq_getElem?_getD, List.getElem?_eq_getElem hk]
            rfl
          · rw [List.getElem?_eq_none (by rw [List.length_range]; omega), List.getElem?_eq_none (by omega)]
            rfl
        -- moves
        refine q_asgTN (etn_tuple (K := K) (eln_list (K := K) (xs := natsV tf.free) (ev_var rfl) (sq_of S6.hf) (by rw [natsV_len]; omega) (fun i => .tup ((rowAt tf.s.1 (tf.free.getD i 0)).map V.int)) (wipe1 (by decide)) (fun i x H8 e8 hx => ?_))) fun pm ms H7 hpm e7 h7 ob7 => ?_
        · obtain ⟨k, hk, rfl, hkw⟩ := hfree i x H8 hx
          obtain ⟨cx, hcx⟩ : ∃ x, cs[k]? = some x := ⟨_, List.getElem?_eq_getElem (show k < cs.length by rw [S6.two.rc.1, hshape]; exact hkw)⟩
          have ek : tf.free.getD i 0 = k := by rw [List.getD_eq_getElem?_getD, hk]; rfl
          rw [ek]
          exact en_tuple (K := K) (ev_ixL (ev_var rfl) (ev_var rfl) (sq_of (e8 _ _ S6.two.hc)) (atI_nat (by rw [List.getElem?_map, hcx]; rfl))) (ex_l (S6.two.ex.trans e8) (S6.two.rc.2 k cx hcx))
        rw [made_all, hmk] at ob7
        have S7 := S6.on e7
        refine norm_st (σ' := ?sz3) ?nz3 ?_; (case nz3 => simp only [List.set_cons_zero, List.set_cons_succ]; rfl)
        -- the base
        refine en_tuple (K := K) (ev_var rfl) (sq_of (e7 _ _ hpt)) H7 (Ex.refl _) _ fun p1 H8 hp1 e8 h8 => ⟨_, rfl, ?_⟩
        have S8 := S7.on e8
        refine etn_tuple (K := K) (eln_list (K := K) (xs := natsV tf.free) (ev_var rfl) (sq_of S8.hf) (by rw [natsV_len]; omega) (fun i => .tup ((rowAt tf.s.2 (tf.free.getD i 0)).map V.int)) (wipe1 (by decide)) (fun i x H8 e8 hx => ?_)) H8 (Ex.refl _) _ fun pr rs H9 hpr e9 h9 ob9 => ⟨by show 4 ≤ sizeLine; decide, fun p hp => ?_⟩
        · obtain ⟨k, hk, rfl, hkw⟩ := hfree i x H8 hx
          obtain ⟨cx, hcx⟩ : ∃ x, is[k]? = some x := ⟨_, List.getElem?_eq_getElem (show k < is.length by rw [S8.two.rv.1, hshape2]; exact hkw)⟩
          have ek : tf.free.getD i 0 = k := by rw [List.getD_eq_getElem?_getD, hk]; rfl
          rw [ek]
          exact en_tuple (K := K) (ev_ixL (ev_var rfl) (ev_var rfl) (sq_of (e8 _ _ S8.two.hv)) (atI_nat (by rw [List.getElem?_map, hcx]; rfl))) (ex_l (S8.two.ex.trans e8) (S8.two.rv.2 k cx hcx))
        rw [made_all, hmk] at ob9
        have e10 : Ex H9 (upd H9 p (.tup [.str "base", .ref p1, .ref pm, .ref pr])) := Ex.new hp
        refine q _ p ((((eg.trans S8.two.ex)).trans e9).trans e10) ⟨p1, pm, pr, ms, rs, upd_same, e10 _ _ (e9 _ _ h8), e10 _ _ (e9 _ _ (e8 _ _ h7)), e10 _ _ h9, ?_, ?_⟩
        · exact (tups_of ob7).ex ((e8.trans e9).trans e10)
        · exact (tups_of ob9).ex e10
end
end K39
namespace K39
open PySem PySem.Spec PyProof.Rows L2 Evl
/-! ### further evaluations -/
theorem cr_isi {X : Cx} {K : PySem.W.Frag} (h : X.K = K := by rfl) : CallR X (.builtin "isinstance") (rIsi K) := by
  subst h
  exact call_isi
section
variable {K : PySem.W.Frag} {σ : L2.St} {H H' : Hp} {ta tb te tx tc tl : TE} {vs : List Nat} {D : Ends} {tu tz : TS} {g : TG}
theorem ev_isi {x : V} {A T : String} {b : Bool} (hx : Ev tx σ H x) (hc : Ev tc σ H (.ty T)) (ty : ∀ H1, Ex H H1 → TyX K H1 x (.type A)) (hk : kitB A T = some b) : Ev (tCB (rIsi K) (tCons tx (tCons tc tNil))) σ H (.bl b) := fun H0 e0 Q q =>
  hx H0 e0 _ fun H1 e1 => hc H1 (e0.trans e1) _ fun H2 e2 => ⟨x, .ty T, .type A, .type T, b, rfl, .ty T, ty H2 ((e0.trans e1).trans e2), kit_ty hk, q H2 (e1.trans e2)⟩
theorem ty_tup {a : Addr} {xs : List V} (h : H a = some (.tup xs)) : ∀ H1, Ex H H1 → TyX K H1 (.ref a) (.type "tuple") := fun H1 e => .base (.tup (e _ _ h))
theorem ty_lst {a : Addr} {xs : List V} (h : H a = some (.lst xs)) : ∀ H1, Ex H H1 → TyX K H1 (.ref a) (.type "list") := fun H1 e => .base (.lst (e _ _ h))
theorem ty_int {i : Int} : ∀ H1, Ex H H1 → TyX K H1 (.int i) (.type "int") := fun H1 _ => .base (.int i)
/-- for u, v in zip(x, y) -/
theorem s_forZ {ka kb : Bool} {x y : Addr} {xs ys : List V} {j1 j2 : Nat} (ha : Ev ta σ H (.ref x)) (hb : Ev tb σ H (.ref y)) (hx : SqK K ka H x xs) (hy : SqK K kb H y ys) (Pv : Nat → L2.St → Hp → Prop) (h0 : ∀ H1, Ex H H1 → Pv 0 σ H1) (hq : ∀ i σ' H', Pv i σ' H' → SqK K ka H' x xs ∧ SqK K kb H' y ys)
    (hs : ∀ (i : Nat) (u v : V) (T : Addr) σ' H', xs[i]? = some u → ys[i]? = some v → Pv i σ' H' → H' T = none → tu { D with nx := Pv (i + 1), ct := Pv (i + 1), bk := D.nx } ((σ'.set j1 (some u)).set j2 (some v)) (upd H' T (.tup [u, v]))) (hd : ∀ σ' H', Pv (min xs.length ys.length) σ' H' → D.nx σ' H') :
    tFor (iZipG K (tCons ta (tCons tb tNil))) (gTup K 2 (gCons (gName j1) (gCons (gName j2) gNil))) tu D σ H :=
  ha H (Ex.refl H) _ fun H1 e1 => hb H1 e1 _ fun H2 e2 => ⟨x, y, xs, ys, ka, kb, rfl, ex_k (e1.trans e2) hx, ex_k (e1.trans e2) hy,
    for_it (walk_zipG (K := K) (ka := ka) (kb := kb) (a := x) (b := y) (xs := xs) (ys := ys)) Pv (h0 H2 (e1.trans e2)) (fun i σ' H' _ p => hq i σ' H' p) (fun i z σ' H' H'' hi p yy => by
      obtain ⟨T, x1, x2, rfl, hT, rfl, g1, g2⟩ := yy
      exact ⟨T, _, rfl, st_of upd_same, rfl, _, _, rfl, _, _, rfl, rfl, hs i x1 x2 T σ' H' g1 g2 p hT⟩) hd⟩
/-- [e for x in t], t a tuple: values -/
theorem el_lcT {a : Addr} {xs : List V} {j : Nat} (v : Nat → V) (h : Ev tl σ H (.ref a)) (hx : SqT K H a xs) (hz : xs.length ≤ 40000) (hw : ∀ x, wipe ((wipe σ vs).set j (some x)) vs = wipe σ vs)
    (he : ∀ (i : Nat) (x : V) H1, Ex H H1 → xs[i]? = some x → Ev te ((wipe σ vs).set j (some x)) H1 (v i)) : EvL (tLc (iTup K tl) (gName j) tYes te vs) σ H ((List.range xs.length).map v) := fun H0 e0 Q q =>
  h H0 e0 _ fun H1 e1 => ⟨a, rfl, ⟨xs, ex_t (e0.trans e1) hx⟩, fun Dl hD =>
    lcV (walk_tup (K := K) (xs := xs)) (fun H' e' => ex_t ((e0.trans e1).trans e') hx) hz (fun _ => true) v hD (fun i x H' H'' hi e' y => by
      obtain ⟨rfl, hxi⟩ := y
      exact turn_name (hw x) et_yes fun _ => he i x _ ((e0.trans e1).trans e') hxi) fun H' e' h' => q Dl H' (fresh_back e1 hD) (e1.trans e') (by rw [h', given_all])⟩
/-- a, b, c, d = a tuple of four -/
theorem q_asg4 {i1 i2 i3 i4 : Nat} {a : Addr} {x1 x2 x3 x4 : V} (h : Ev te σ H (.ref a)) (ha : SqT K H a [x1, x2, x3, x4]) (k : ∀ H1, Ex H H1 → tz D ((((σ.set i1 (some x1)).set i2 (some x2)).set i3 (some x3)).set i4 (some x4)) H1) :
    tSeq (tAsg te (gTup K 4 (gCons (gName i1) (gCons (gName i2) (gCons (gName i3) (gCons (gName i4) gNil)))))) tz D σ H := h H (Ex.refl H) _ fun H1 e1 => ⟨a, _, rfl, ex_t e1 ha, rfl, _, _, rfl, _, _, rfl, _, _, rfl, _, _, rfl, rfl, k H1 e1⟩
theorem s_retN {o : HO} (h : EvN te σ H o) (k : ∀ p H1, H p = none → Ex H H1 → H1 p = some o → D.rt (.ref p) H1) : tRet te D σ H := h H (Ex.refl H) _ k
end
/-! ### what spread and times_of tell -/
def spreadF (B : Bas) (ts : List Int) : List Int := (B.moves.zip ts).foldl (fun acc p => addRow p.2 acc p.1) B.point
def timesF (B : Bas) (vals : List Int) : List Int := B.reads.map fun r => dot r (List.zipWith (fun a b => a - b) vals B.point)
theorem tups_get {H : Hp} {as : List Addr} {M : Mat} {i : Nat} {x : V} (h : TupsAt H as M) (hx : (as.map V.ref)[i]? = some x) : ∃ a, x = .ref a ∧ H a = some (.tup ((rowAt M i).map V.int)) ∧ M[i]? = some (rowAt M i) := by
  rw [List.getElem?_map] at hx
  obtain ⟨a, ha, rfl⟩ := Option.map_eq_some_iff.mp hx
  have hi : i < M.length := by
    have := (List.getElem?_eq_some_iff.mp ha).1
    rw [h.1] at this
    exact this
  exact ⟨a, rfl, h.2 i a ha, rowAt_get hi⟩
abbrev sShows : Stmt := topS 14
abbrev nShows : List Str := ["rows", "thing", "width", "word", "weights", "d", "constant", "coefs"]
theorem scShows : FnScope nShows ["rows", "thing", "width"] (defScope sShows) := ⟨rfl, rfl, rfl, by decide +kernel, rfl, by decide +kernel, by decide +kernel⟩
abbrev sSpread : Stmt := topS 15
abbrev nSpread : List Str := ["paper", "times", "word", "point", "moves", "reads", "values", "move", "often", "a", "b"]
theorem scSpread : FnScope nSpread ["paper", "times"] (defScope sSpread) := ⟨rfl, rfl, rfl, by decide +kernel, rfl, by decide +kernel, by decide +kernel⟩
abbrev sTimes : Stmt := topS 16
abbrev nTimes : List Str := ["paper", "values", "word", "point", "moves", "reads", "away", "a", "b", "read"]
theorem scTimes : FnScope nTimes ["paper", "values"] (defScope sTimes) := ⟨rfl, rfl, rfl, by decide +kernel, rfl, by decide +kernel, by decide +kernel⟩
section
variable {P : Program} {w : World} {K : PySem.W.Frag} {mg : Str → Option Value} {base : Heap}
def spShows : Sp := fun vs H Q _ => ∃ (a p : Addr) (n : Int) (xs : List V), vs = [.ref a, .ref p, .int n] ∧ H p = some (.tup xs) ∧ xs.length ≠ 3 ∧ RetV (.bl false) H Q
theorem ok_shows {f : Addr} {fd : FuncData} {k : Nat} (F : Fun K "shows_rest" "shows_rest" sShows f fd) (mi : mg "isinstance" = none) (mt : mg "tuple" = none) (ml : mg "len" = none) : FnOk P w K mg base CX0 (k + 1) f fd ["rows", "thing", "width"] spShows := by
  refine F.ok scShows (fun vs H Q E h => ?_) (fun cdv A outer s H vs Q E hr h => ?_)
  · obtain ⟨_, _, _, _, rfl, _⟩ := h
    rfl
  · obtain ⟨a, p, n, xs, rfl, hp, hl, q⟩ := h
    refine ⟨_, pss_cons (ps_if (PW.pt (pw_or (pt_not (pt_val (pe_callB (cr_isi (K := K)) (by rfl) mi (by decide +kernel) (pa_cons (pv 1) (pa_cons (pe_bltn (v := .ty "tuple") (u := .type "tuple") (by rfl) mt (by decide +kernel) rfl) pa_nil)))))
        (pw_or (pt_cmpR op_ne (pe_callB call_len_seq (by rfl) ml PySem.boot_len (pa_cons (pv 1) pa_nil)) pe_int (nomark _)) (pw_or1 (pt_cmpR op_ne (pe_ix ix_tup (pv 1) pe_int (fun _ _ => rfl)) pe_str (nomark _)))))) (pss_one (ps_ret pe_bl)) pss_nil) pss_never, ?_⟩
    refine q_when (b := true) (et_or (a := false) (b := true) (et_not (a := true) (et_B (ev_isi (K := K) (ev_var rfl) ev_c (ty_tup hp) (by decide +kernel)))) fun _ => et_or (a := true) (b := true) (et_test (ev_is (ev_op (fun H0 e0 Q' q' => ⟨_, rfl, p, xs, rfl, .inr (ex_t e0 (st_of hp)), q' H0 (Ex.refl H0)⟩) ev_c (rv_ne rfl)) ?_)) fun z => by cases z) (fun _ H1 e1 => s_ret ev_c fun H2 e2 => q H2 (e1.trans e2)) (fun z => by cases z)
    congr 1
    rw [Bool.not_eq_true', decide_eq_false_iff_not]
    intro z
    have z2 : (xs.length : Int) = 3 := V.int.inj z
    omega
def spSpread (K : PySem.W.Frag) : Sp := fun vs H Q _ => ∃ (p t : Addr) (B : Bas) (ts : List Int), vs = [.ref p, .ref t] ∧ BaseAt H p B ∧ SqL K H t (ts.map V.int) ∧ B.point.length ≤ 1000 ∧ (∀ i : Nat, i < min B.moves.length ts.length → Sm (ts.getD i 0) ∧ SmL (rowAt B.moves i)) ∧
  ∀ r H2, H r = none → Ex H H2 → H2 r = some (.tup ((spreadF B ts).map V.int)) → Q (.ref r) H2
theorem ok_spread {f : Addr} {fd : FuncData} {k : Nat} (F : Fun K "spread" "spread" sSpread f fd) (mz : mg "zip" = none) (ml : mg "list" = none) (mt : mg "tuple" = none) : FnOk P w K mg base CX0 (k + 1) f fd ["paper", "times"] (spSpread K) := by
  refine F.ok scSpread (fun vs H Q E h => ?_) (fun cdv A outer s H vs Q E hr h => ?_)
  · obtain ⟨_, _, _, _, rfl, _⟩ := h
    rfl
  · obtain ⟨p, t, B, ts, rfl, hB, ht, hpl, hsm, q⟩ := h
    have nd := scSpread.nd
    refine ⟨_, pss_cons (ps_if (pt_cmpR op_ne (pe_ix ix_tup (pv 0) pe_int (fun _ _ => rfl)) pe_str (nomark _)) pss_never pss_nil)
      (pss_cons (ps_asg (pv 0) (pg_tup rfl (pgs_cons (pg_name (i := 2) nd rfl (.inl rfl)) (pgs_cons (pg_name (i := 3) nd rfl (.inl rfl)) (pgs_cons (pg_name (i := 4) nd rfl (.inl rfl)) (pgs_cons (pg_name (i := 5) nd rfl (.inl rfl)) pgs_nil))))))
      (pss_cons (ps_set (i := 6) nd rfl (.inl rfl) (pe_callTy (cr_list (K := K)) (by rfl) ml (by decide +kernel) (pa_cons (pv 3) pa_nil)))
      (pss_cons (ps_for PassesOwn.never rfl (pi_zipG (by rfl) mz (pa_cons (pv 4) (pa_cons (pv 1) pa_nil))) (pg_tup rfl (pgs_cons (pg_name (i := 7) nd rfl (.inl rfl)) (pgs_cons (pg_name (i := 8) nd rfl (.inr rfl)) pgs_nil)))
        (pss_one (ps_setLc (i := 6) (own := [("a", 9), ("b", 10)]) (g := gTup K 2 (gCons (gName 9) (gCons (gName 10) gNil))) rfl nd rfl rfl (sw_true rfl rfl rfl (by decide +kernel)) (pi_zipG (by rfl) mz (pa_cons (pv 6) (pa_cons (pv 7) pa_nil))) (blkOk_by (own := [("a", 9), ("b", 10)]) (N := nSpread) (sc := defScope sSpread) (by decide +kernel))
              (fun _ _ _ _ _ => pg_tup rfl (pgs_cons (pg_name (i := 9) nd rfl (.inl rfl) (.inr rfl)) (pgs_cons (pg_name (i := 10) nd rfl (.inl rfl) (.inr rfl)) pgs_nil))) (fun _ _ _ _ _ => pts_nil) (fun _ _ _ _ _ => pe_op op_add (pv 9) (pe_op op_mulX (pv 8) (pv 10))))))
      (pss_one (ps_ret (pe_callTy (cr_tuple (K := K)) (by rfl) mt (by decide +kernel) (pa_cons (pv 6) pa_nil))))))), ?_⟩
    obtain ⟨qa, m, r, ms, rs, hp, hq, hm, hr', hms, hrs⟩ := hB
    refine q_when (b := false) (et_test (ev_is (ev_op (ev_ixT (K := K) (ev_var rfl) ev_c (st_of hp) (atI_nat (j := 0) rfl)) ev_c (rv_ne rfl)) (by rfl))) (fun z => by cases z) fun _ H1 e1 => ?_
    refine q_asg4 (K := K) (ev_var rfl) (st_of (e1 _ _ hp)) fun H2 e2 => ?_
    have e12 := e1.trans e2
    refine q_asgN (en_list (K := K) (ev_var rfl) (sqk_t (st_of (e12 _ _ hq)))) fun v0 H3 hv0 e3 h3 => ?_
    have e13 := e12.trans e3
    have hlp : ∀ (l : List (List Int × Int)) (acc : List Int), (l.foldl (fun acc p => addRow p.2 acc p.1) acc).length ≤ acc.length := fun l => by
      induction l with
      | nil => exact fun acc => Nat.le_refl _
      | cons x l ih => exact fun acc => Nat.le_trans (ih _) (by unfold addRow; rw [List.length_zipWith]; omega)
    refine s_forZ (K := K) (xs := ms.map V.ref) (ys := ts.map V.int) (D := { ({ nx := fun x H' => Q V.non H', rt := Q } : Ends) with nx := _ }) (ev_var rfl) (ev_var rfl) (sqk_t (st_of (e13 _ _ hm))) (sqk_l (ex_l e13 ht)) (fun j σ' H' => ∃ v y7 y8, σ' = [some (.ref p), some (.ref t), some (.str "base"), some (.ref qa), some (.ref m), some (.ref r), some (.ref v), y7, y8, none, none] ∧ Ex H H' ∧
        H' v = some (.lst ((((B.moves.zip ts).take j).foldl (fun acc p => addRow p.2 acc p.1) B.point).map V.int))) (fun H4 e4 => ⟨v0, none, none, rfl, e13.trans e4, e4 _ _ h3⟩) (fun j σ' H' pz => ?_) (fun j u v T σ' H' hu hv pz hT => ?_) (fun σ' H' pz => ?_)
    · obtain ⟨_, _, _, _, e, _⟩ := pz
      exact ⟨sqk_t (st_of (e _ _ hm)), sqk_l (ex_l e ht)⟩
    · obtain ⟨va, y7, y8, rfl, e, hva⟩ := pz
      obtain ⟨ma, rfl, hma, hmi⟩ := tups_get hms hu
      rw [List.getElem?_map] at hv
      obtain ⟨ti, hti, rfl⟩ := Option.map_eq_some_iff.mp hv
      have eT : Ex H' (upd H' T (.tup [.ref ma, .int ti])) := Ex.new hT
      have hj : j < min B.moves.length ts.length := by
        have h1 := (List.getElem?_eq_some_iff.mp hmi).1
        have h2 := (List.getElem?_eq_some_iff.mp hti).1
        omega
      obtain ⟨s1, s2⟩ := hsm j hj
      have eti : ts.getD j 0 = ti := by rw [List.getD_eq_getElem?_getD, hti]; rfl
      rw [eti] at s1
      have estep : ((B.moves.zip ts).take (j + 1)).foldl (fun acc p => addRow p.2 acc p.1) B.point = addRow ti (((B.moves.zip ts).take j).foldl (fun acc p => addRow p.2 acc p.1) B.point) (rowAt B.moves j) := by
        have hz : (B.moves.zip ts)[j]? = some (rowAt B.moves j, ti) := by
          rw [List.getElem?_zip_eq_some]
          exact ⟨hmi, hti⟩
        rw [List.take_add_one, hz]
        show ((B.moves.zip ts).take j ++ [(rowAt B.moves j, ti)]).foldl _ _ = _
        rw [List.foldl_append]
        rfl
      refine s_asgL (el_zip (K := K) (fun a b => a + ti * b) (ev_var rfl) (ev_var rfl) (sqk_l (sq_of (eT _ _ hva))) (sqk_t (st_of (eT _ _ (e _ _ hma)))) ?_ (wipe2 (by decide) (by decide)) (fun k a b H5 _ ha hb => ev_op (ev_var rfl) (ev_op (ev_var rfl) (ev_var rfl) (rv_I (s1.mul (s2 _ (List.mem_of_getElem? hb))))) rv_I0)) fun p1 H5 hp1 e5 h5 => ?_
      · have := hlp ((B.moves.zip ts).take j) B.point
        omega
      · refine ⟨p1, _, _, rfl, (e.trans eT).trans e5, ?_⟩
        rw [estep]
        exact h5
    · obtain ⟨va, y7, y8, rfl, e, hva⟩ := pz
      rw [List.take_of_length_le (by rw [List.length_zip, List.length_map, List.length_map, hms.1]; exact Nat.le_refl _)] at hva
      exact s_retN (en_tuple (K := K) (ev_var rfl) (sq_of hva)) fun r H5 hr5 e5 h5 => q r H5 (fresh_back e hr5) (e.trans e5) h5
def spTimes (K : PySem.W.Frag) : Sp := fun vs H Q _ => ∃ (p t : Addr) (k : Bool) (B : Bas) (vals : List Int), vs = [.ref p, .ref t] ∧ BaseAt H p B ∧ SqK K k H t (vals.map V.int) ∧ vals.length ≤ 1000 ∧ B.reads.length ≤ 1000 ∧ (∀ r ∈ B.reads, SmL r ∧ r.length ≤ 1000) ∧ SmL (List.zipWith (fun a b => a - b) vals B.point) ∧
  ∀ r H2, H r = none → Ex H H2 → H2 r = some (.lst ((timesF B vals).map V.int)) → Q (.ref r) H2
theorem ok_times {f fP : Addr} {fd fdP : FuncData} (F : Fun K "times_of" "times_of" sTimes f fd) (GP : FnOk P w K mg base CX0 1 fP fdP ["one", "other"] (spDot K)) (gP : mg "product" = some (.ref fP)) (kP : PySem.W.keepIn K (.ref fP) = true) (bP : Binds K fdP ["one", "other"] [])
    (mz : mg "zip" = none) : FnOk P w K mg base CX0 2 f fd ["paper", "values"] (spTimes K) := by
  refine F.ok scTimes (fun vs H Q E h => ?_) (fun cdv A outer s H vs Q E hr h => ?_)
  · obtain ⟨_, _, _, _, _, rfl, _⟩ := h
    rfl
  · obtain ⟨p, t, k, B, vals, rfl, hB, ht, hvl, hrl, hsm, haw, q⟩ := h
    have nd := scTimes.nd
    refine ⟨_, pss_cons (ps_if (pt_cmpR op_ne (pe_ix ix_tup (pv 0) pe_int (fun _ _ => rfl)) pe_str (nomark _)) pss_never pss_nil)
      (pss_cons (ps_asg (pv 0) (pg_tup rfl (pgs_cons (pg_name (i := 2) nd rfl (.inl rfl)) (pgs_cons (pg_name (i := 3) nd rfl (.inl rfl)) (pgs_cons (pg_name (i := 4) nd rfl (.inl rfl)) (pgs_cons (pg_name (i := 5) nd rfl (.inl rfl)) pgs_nil))))))
      (pss_cons (ps_set (i := 6) nd rfl (.inr rfl) (pe_lc (own := [("a", 7), ("b", 8)]) (g := gTup K 2 (gCons (gName 7) (gCons (gName 8) gNil))) rfl nd (pi_zipG (by rfl) mz (pa_cons (pv 1) (pa_cons (pv 3) pa_nil))) (blkOk_by (own := [("a", 7), ("b", 8)]) (N := nTimes) (sc := defScope sTimes) (by decide +kernel))
              (fun _ _ _ _ _ => pg_tup rfl (pgs_cons (pg_name (i := 7) nd rfl (.inl rfl) (.inr rfl)) (pgs_cons (pg_name (i := 8) nd rfl (.inl rfl) (.inr rfl)) pgs_nil))) (fun _ _ _ _ _ => pts_nil) (fun _ _ _ _ _ => pe_op op_sub (pv 7) (pv 8))))
      (pss_one (ps_ret (pe_lc (own := [("read", 9)]) (g := gName 9) rfl nd (pi_tup (pv 5)) (blkOk_by (own := [("read", 9)]) (N := nTimes) (sc := defScope sTimes) (by decide +kernel))
          (fun _ _ _ _ _ => pg_name (i := 9) nd rfl (.inl rfl) (.inr rfl)) (fun _ _ _ _ _ => pts_nil) (fun _ _ _ _ _ => pe_call GP hr (by rfl) gP kP bP .nil pass0 (pa_cons (pv 9) (pa_cons (pv 6) pa_nil)))))))), ?_⟩
    obtain ⟨qa, m, r, ms, rs, hp, hq, hm, hr', hms, hrs⟩ := hB
    refine q_when (b := false) (et_test (ev_is (ev_op (ev_ixT (K := K) (ev_var rfl) ev_c (st_of hp) (atI_nat (j := 0) rfl)) ev_c (rv_ne rfl)) (by rfl))) (fun z => by cases z) fun _ H1 e1 => ?_
    refine q_asg4 (K := K) (ev_var rfl) (st_of (e1 _ _ hp)) fun H2 e2 => ?_
    have e12 := e1.trans e2
    refine q_asgL (el_zip (K := K) (fun a b => a - b) (ev_var rfl) (ev_var rfl) (ex_k e12 ht) (sqk_t (st_of (e12 _ _ hq))) (by omega) (wipe2 (by decide) (by decide)) (fun k a b H5 _ ha hb => ev_op (ev_var rfl) (ev_var rfl) rv_I0)) fun aw H3 haw3 e3 h3 => ?_
    have e13 := e12.trans e3
    have hrl2 : rs.length = B.reads.length := hrs.1
    refine s_retL (el_lcT (K := K) (xs := rs.map V.ref) (fun i => .int (dot (rowAt B.reads i) (List.zipWith (fun a b => a - b) vals B.point))) (ev_var rfl) (st_of (e13 _ _ hr')) (by rw [List.length_map]; omega) (wipe1 (by decide)) (fun i x H4 e4 hx => ?_)) fun r H5 hr5 e5 h5 => q r H5 (fresh_back e13 hr5) (e13.trans e5) ?_
    · obtain ⟨ra, rfl, hra, hri⟩ := tups_get hrs hx
      have hmem := List.mem_of_getElem? hri
      exact ev_dot (K := K) (ev_var rfl) (ev_var rfl) (sqk_t (st_of (e4 _ _ (e13 _ _ hra)))) (sqk_l (sq_of (e4 _ _ h3))) (by have := (hsm _ hmem).2; omega) (fun k p q hp hq => ((hsm _ hmem).1 _ (List.mem_of_getElem? hp)).mul (haw _ (List.mem_of_getElem? hq)))
    · rw [h5]
      congr 2
      unfold timesF
      rw [List.map_map, List.length_map, hrl2]
      apply List.ext_getElem?
      intro k
      rw [List.getElem?_map, List.getElem?_map]
      by_cases hk : k < B.reads.length
      · rw [List.getElem?_range hk, rowAt_get hk]
        rfl
      · rw [List.getElem?_eq_none (by rw [List.length_range]; omega), List.getElem?_eq_none (by omega)]
        rfl
end
end K39
namespace K39
open PySem PySem.Spec PyProof.Rows L2 Evl
/-! ### a pool of numbers: a list of three ints that is written -/
def PoolAt (n : Nat) (H : Hp) (p : Addr) : Prop := ∃ a b c : Int, H p = some (.lst [.int a, .int b, .int c]) ∧ 0 ≤ a ∧ 0 ≤ b ∧ b < 1000000007 ∧ 0 ≤ c ∧ c + (n : Int) ≤ 10000000
/-- all that stands, but what is at p -/
def ExB (p : Addr) (H H' : Hp) : Prop := ∀ a o, a ≠ p → H a = some o → H' a = some o
theorem ExB.refl {p : Addr} {H : Hp} : ExB p H H := fun _ _ _ h => h
theorem ExB.trans {p : Addr} {H H1 H2 : Hp} (a : ExB p H H1) (b : ExB p H1 H2) : ExB p H H2 := fun x o hx h => b x o hx (a x o hx h)
theorem ExB.of {p : Addr} {H H' : Hp} (e : Ex H H') : ExB p H H' := fun a o _ h => e a o h
theorem ExB.upd {p : Addr} {H H' : Hp} {o : HO} (e : ExB p H H') : ExB p H (upd H' p o) := fun a u ha h => by
  rw [upd_ne ha]
  exact e a u ha h
theorem PoolAt.ex {n : Nat} {p : Addr} {H H' : Hp} (h : PoolAt n H p) (e : Ex H H') : PoolAt n H' p := by
  obtain ⟨a, b, c, h1, h2⟩ := h
  exact ⟨a, b, c, e _ _ h1, h2⟩
theorem PoolAt.le {n m : Nat} {p : Addr} {H : Hp} (h : PoolAt n H p) (e : m ≤ n) : PoolAt m H p := by
  obtain ⟨a, b, c, h1, h2, h3, h4, h5, h6⟩ := h
  exact ⟨a, b, c, h1, h2, h3, h4, h5, by omega⟩
theorem PoolAt.some {n : Nat} {p : Addr} {H : Hp} (h : PoolAt n H p) : H p ≠ none := by
  obtain ⟨a, b, c, h1, _⟩ := h
  rw [h1]
  exact fun z => nomatch z
theorem exb_new {p q : Addr} {H H' : Hp} (e : ExB p H H') (h : H' q = none) (hq : q ≠ p) : H q = none := by
  cases e1 : H q with
  | none => rfl
  | some o =>
    rw [e q o hq e1] at h
    cases h
section
variable {K : PySem.W.Frag} {σ : L2.St} {H H' : Hp} {ta tb te : TE}
theorem ev_all {bs : List Bool} (h : EvL te σ H (bs.map V.bl)) : Ev (tCB (rAll K) (tCons te tNil)) σ H (.bl (bs.all id)) := fun H1 e Q q => h H1 e _ fun p H2 _ e2 h2 => ⟨p, bs, rfl, sq_of h2, q H2 e2⟩
theorem ev_any {bs : List Bool} (h : EvL te σ H (bs.map V.bl)) : Ev (tCB (rAny K) (tCons te tNil)) σ H (.bl (bs.any id)) := fun H1 e Q q => h H1 e _ fun p H2 _ e2 h2 => ⟨p, bs, rfl, sq_of h2, q H2 e2⟩
theorem ev_lenQ {k : Bool} {p : Addr} {xs : List V} (ha : Ev ta σ H (.ref p)) (h : SqK K k H p xs) : Ev (tCB (rLenS K) (tCons ta tNil)) σ H (.int (xs.length : Int)) := fun H1 e Q q => ha H1 e _ fun H2 e2 => ⟨p, xs, rfl, by
  cases k with
  | true => exact .inr (ex_t (e.trans e2) h)
  | false => exact .inl (ex_l (e.trans e2) h), q H2 e2⟩
theorem map_rep {α β : Type} {l : List α} {b : β} : l.map (fun _ => b) = List.replicate l.length b := by
  induction l with
  | nil => rfl
  | cons x l ih => rw [List.map_cons, ih]; rfl
end
abbrev sWhole : Stmt := topS 18
theorem scWhole : FnScope ["_law_thing"] ["_law_thing"] (defScope sWhole) := ⟨rfl, rfl, rfl, by decide +kernel, rfl, by decide +kernel, by decide +kernel⟩
abbrev sPool : Stmt := topS 19
abbrev nPool : List Str := ["_law_script", "_law_k", "_law_cell"]
theorem scPool : FnScope nPool ["_law_script", "_law_k"] (defScope sPool) := ⟨rfl, rfl, rfl, by decide +kernel, rfl, by decide +kernel, by decide +kernel⟩
abbrev sTake : Stmt := topS 20
abbrev nTake : List Str := ["_law_pool_here", "_law_many", "_law_digit", "_law_one", "_law_two"]
theorem scTake : FnScope nTake ["_law_pool_here", "_law_many"] (defScope sTake) := ⟨rfl, rfl, rfl, by decide +kernel, rfl, by decide +kernel, by decide +kernel⟩
abbrev sFolded : Stmt := topS 21
abbrev nFolded : List Str := ["_law_script", "_law_most", "_law_k"]
theorem scFolded : FnScope nFolded ["_law_script", "_law_most"] (defScope sFolded) := ⟨rfl, rfl, rfl, by decide +kernel, rfl, by decide +kernel, by decide +kernel⟩
abbrev sNumber : Stmt := topS 22
abbrev nNumber : List Str := ["_law_pool_here", "_law_size", "_law_found", "_law_turn"]
theorem scNumber : FnScope nNumber ["_law_pool_here", "_law_size"] (defScope sNumber) := ⟨rfl, rfl, rfl, by decide +kernel, rfl, by decide +kernel, by decide +kernel⟩
abbrev sDot : Stmt := topS 23
theorem scDot : FnScope ["_law_one", "_law_other", "_law_a", "_law_b"] ["_law_one", "_law_other"] (defScope sDot) := ⟨rfl, rfl, rfl, by decide +kernel, rfl, by decide +kernel, by decide +kernel⟩
abbrev sNumbers : Stmt := topS 24
abbrev nNumbers : List Str := ["_law_thing", "_law_many", "_law_number_here"]
theorem scNumbers : FnScope nNumbers ["_law_thing", "_law_many"] (defScope sNumbers) := ⟨rfl, rfl, rfl, by decide +kernel, rfl, by decide +kernel, by decide +kernel⟩
section
variable {P : Program} {w : World} {K : PySem.W.Frag} {mg : Str → Option Value} {base : Heap}
def spWhole : Sp := fun vs H Q _ => ∃ i : Int, vs = [.int i] ∧ RetV (.bl true) H Q
theorem ok_whole {f : Addr} {fd : FuncData} {k : Nat} (F : Fun K "_law_whole" "_law_whole" sWhole f fd) (mi : mg "isinstance" = none) (mn : mg "int" = none) (mb : mg "bool" = none) : FnOk P w K mg base CX0 (k + 1) f fd ["_law_thing"] spWhole := by
  refine F.ok scWhole (fun vs H Q E h => ?_) (fun cdv A outer s H vs Q E hr h => ?_)
  · obtain ⟨_, rfl, _⟩ := h
    rfl
  · obtain ⟨i, rfl, q⟩ := h
    refine ⟨_, pss_one (ps_ret (pe_and (pe_callB (cr_isi (K := K)) (by rfl) mi (by decide +kernel) (pa_cons (pv 0) (pa_cons (pe_bltn (v := .ty "int") (u := .type "int") (by rfl) mn (by decide +kernel) rfl) pa_nil)))
      (pe_one (pe_not (pe_callB (cr_isi (K := K)) (by rfl) mi (by decide +kernel) (pa_cons (pv 0) (pa_cons (pe_bltn (v := .ty "bool") (u := .type "bool") (by rfl) mb (by decide +kernel) rfl) pa_nil))))))), ?_⟩
    exact s_ret (ev_andV (a := true) (b := true) (ev_isi (K := K) (ev_var rfl) ev_c ty_int (by decide +kernel)) fun _ => ev_notV (a := false) (ev_isi (K := K) (ev_var rfl) ev_c ty_int (by decide +kernel))) fun H1 e => q H1 e
def spNumbers (K : PySem.W.Frag) : Sp := fun vs H Q _ => ∃ (p : Addr) (ns : List Int), vs = [.ref p, .int (ns.length : Int)] ∧ H p = some (.tup (ns.map V.int)) ∧ ns.length ≤ 1000 ∧ RetV (.bl true) H Q
theorem all_true : ∀ {n : Nat}, (List.replicate n true).all id = true
  | 0 => rfl
  | n + 1 => by
    rw [List.replicate_succ, List.all_cons, all_true]
    rfl
theorem ok_numbers {f fW : Addr} {fd fdW : FuncData} (F : Fun K "_law_numbers" "_law_numbers" sNumbers f fd) (GW : FnOk P w K mg base CX0 1 fW fdW ["_law_thing"] spWhole) (gW : mg "_law_whole" = some (.ref fW)) (kW : PySem.W.keepIn K (.ref fW) = true) (bW : Binds K fdW ["_law_thing"] [])
    (mi : mg "isinstance" = none) (mt : mg "tuple" = none) (ml : mg "len" = none) (ma : mg "all" = none) : FnOk P w K mg base CX0 2 f fd ["_law_thing", "_law_many"] (spNumbers K) := by
  refine F.ok scNumbers (fun vs H Q E h => ?_) (fun cdv A outer s H vs Q E hr h => ?_)
  · obtain ⟨_, _, rfl, _⟩ := h
    rfl
  · obtain ⟨p, ns, rfl, hp, hl, q⟩ := h
    have nd := scNumbers.nd
    refine ⟨_, pss_one (ps_ret (pe_and (pe_callB (cr_isi (K := K)) (by rfl) mi (by decide +kernel) (pa_cons (pv 0) (pa_cons (pe_bltn (v := .ty "tuple") (u := .type "tuple") (by rfl) mt (by decide +kernel) rfl) pa_nil)))
      (pe_and (pe_cmpR op_eq (pe_callB call_len_seq (by rfl) ml PySem.boot_len (pa_cons (pv 0) pa_nil)) (pv 1) (nomark _))
      (pe_one (pe_callB (cr_all rfl) (by rfl) ma (by decide +kernel) (pa_cons
        (pe_lc (own := [("_law_number_here", 2)]) (g := gName 2) rfl nd (pi_tup (pv 0)) (blkOk_by (own := [("_law_number_here", 2)]) (N := nNumbers) (sc := defScope sNumbers) (by decide +kernel))
          (fun _ _ _ _ _ => pg_name (i := 2) nd rfl (.inl rfl) (.inr rfl)) (fun _ _ _ _ _ => pts_nil) (fun _ _ _ _ _ => pe_call GW hr (by rfl) gW kW bW .nil pass0 (pa_cons (pv 2) pa_nil))) pa_nil)))))), ?_⟩
    refine s_ret (ev_andV (a := true) (b := true) (ev_isi (K := K) (ev_var rfl) ev_c (ty_tup hp) (by decide +kernel)) fun _ => ev_andV (a := true) (b := true) (ev_is (ev_op (ev_lenQ (K := K) (ev_var rfl) (sqk_t (st_of hp))) (ev_var rfl) (rv_eq rfl)) ?_) fun _ => ?_) fun H1 e => q H1 e
    · rw [List.length_map]
      congr 1
      exact decide_eq_true rfl
    · refine ev_is (ev_all (K := K) (bs := List.replicate ns.length true) (el_is (el_lcT (K := K) (xs := ns.map V.int) (fun _ => .bl true) (ev_var rfl) (st_of hp) (by rw [List.length_map]; omega) (wipe1 (by decide)) (fun i x H1 e1 hx => ?_)) ?_)) (by rw [all_true])
      · rw [List.getElem?_map] at hx
        obtain ⟨z, hz, rfl⟩ := Option.map_eq_some_iff.mp hx
        exact ev_call (ea_cons (ev_var rfl) ea_nil) fun H2 e2 Q2 q2 E2 => ⟨z, rfl, q2⟩
      · rw [map_rep, List.length_range, List.length_map, List.map_replicate]
theorem ok_dot {f : Addr} {fd : FuncData} {k : Nat} (F : Fun K "_law_dot" "_law_dot" sDot f fd) (mz : mg "zip" = none) (ms : mg "sum" = none) : FnOk P w K mg base CX0 (k + 1) f fd ["_law_one", "_law_other"] (spDot K) := by
  refine F.ok scDot (fun vs H Q E h => ?_) (fun cdv A outer s H vs Q E hr h => ?_)
  · obtain ⟨_, _, _, _, _, _, rfl, _⟩ := h
    rfl
  · obtain ⟨a, b, ka, kb, xs, ys, rfl, hx, hy, hl, hm, q⟩ := h
    refine ⟨_, pss_one (ps_ret (pe_callB (cr_sum rfl) (by rfl) ms (by decide +kernel) (pa_cons
      (pe_lc (own := [("_law_a", 2), ("_law_b", 3)]) (g := gTup K 2 (gCons (gName 2) (gCons (gName 3) gNil))) rfl scDot.nd (pi_zipG (by rfl) mz (pa_cons (pv 0) (pa_cons (pv 1) pa_nil))) (blkOk_by (own := [("_law_a", 2), ("_law_b", 3)]) (N := ["_law_one", "_law_other", "_law_a", "_law_b"]) (sc := defScope sDot) (by decide +kernel))
        (fun _ _ _ _ _ => pg_tup rfl (pgs_cons (pg_name (i := 2) scDot.nd rfl (.inl rfl) (.inr rfl)) (pgs_cons (pg_name (i := 3) scDot.nd rfl (.inl rfl) (.inr rfl)) pgs_nil)))
        (fun _ _ _ _ _ => pts_nil) (fun _ _ _ _ _ => pe_op op_mulX (pv 2) (pv 3))) pa_nil))), ?_⟩
    refine s_ret (ev_sum (el_zip (fun p q => p * q) (ev_var rfl) (ev_var rfl) hx hy hl (fun p q => rfl) fun k p q H1 _ hp hq => ?_)) q
    exact ev_op (ev_var rfl) (ev_var rfl) (rv_I (hm k p q hp hq))
/-! ### pools -/
def spPool (K : PySem.W.Frag) : Sp := fun vs H Q _ => ∃ (c : Addr) (ns : List Int) (k : Nat), vs = [.ref c, .int (k : Int)] ∧ SqL K H c (ns.map V.int) ∧ k ≤ 100 ∧ ∀ p H', H p = none → Ex H H' → PoolAt 9000000 H' p → Q (.ref p) H'
theorem ok_pool {f : Addr} {fd : FuncData} {k : Nat} (F : Fun K "_law_pool" "_law_pool" sPool f fd) (ml : mg "len" = none) (mm : mg "max" = none) : FnOk P w K mg base CX0 (k + 1) f fd ["_law_script", "_law_k"] (spPool K) := by
  refine F.ok scPool (fun vs H Q E h => ?_) (fun cdv A outer s H vs Q E hr h => ?_)
  · obtain ⟨_, _, _, rfl, _⟩ := h
    rfl
  · obtain ⟨c, ns, k, rfl, hc, hk, q⟩ := h
    have nd := scPool.nd
    refine ⟨_, pss_cons (ps_set (i := 2) nd rfl (.inl rfl) pe_int)
      (pss_cons (ps_if (pt_cmpR op_lt (pv 1) (pe_callB call_len_seq (by rfl) ml PySem.boot_len (pa_cons (pv 0) pa_nil)) (nomark _)) (pss_one (ps_set (i := 2) nd rfl (.inl rfl) (pe_ix ix_list (pv 0) (pv 1) (fun _ _ => rfl)))) pss_nil)
      (pss_one (ps_ret (pe_lst (pa_cons (pe_callB (call_max2 rfl) (by rfl) mm (by decide +kernel) (pa_cons pe_int (pa_cons (pe_op op_sub (pv 2) (pe_op op_pow pe_int pe_int)) pa_nil))) (pa_cons (pe_op op_modN (pv 2) pe_int) (pa_cons (pe_op op_add (pe_op op_mul pe_int (pv 1)) pe_int) pa_nil))))))), ?_⟩
    have fin : ∀ (z : Int) (H1 : Hp), Ex H H1 → tRet (tLst (tCons (tCB rMax2 (tCons (tC (.int 0)) (tCons (tOp (rI0 fun i j => .int (i - j)) (tVar 2) (tOp (rI CPow fun i j => .int (i ^ j.toNat)) (tC (.int 10)) (tC (.int 18)))) tNil))) (tCons (tOp (rI (fun _ j => j ≠ 0) fun i j => .int (i.fmod j)) (tVar 2) (tC (.int 1000000007))) (tCons (tOp (rI0 fun i j => .int (i + j)) (tOp (rI CMul fun i j => .int (i * j)) (tC (.int 7919)) (tVar 1)) (tC (.int 1))) tNil))))
        ({ nx := fun x H' => Q V.non H', rt := Q } : Ends) [some (.ref c), some (.int (k : Int)), some (.int z)] H1 := fun z H1 e1 => by
      refine s_retL (el_lst (ea_cons (ev_max2 ev_c (ev_op (ev_var rfl) (ev_op ev_c ev_c (rv_I ⟨by decide, by decide, by decide⟩)) rv_I0)) (ea_cons (ev_op (ev_var rfl) ev_c (rv_I (by decide))) (ea_cons (ev_op (ev_op ev_c (ev_var rfl) (rv_I (.inl ⟨by decide, by decide⟩))) ev_c rv_I0) ea_nil))) (by show 3 ≤ 100000; decide)) fun p H2 hp e2 h2 => q p H2 (fresh_back e1 hp) (e1.trans e2) ⟨_, _, _, h2, ?_, Int.fmod_nonneg_of_pos _ (by decide), Int.fmod_lt_of_pos _ (by decide), by omega, by omega⟩
      split <;> omega
    refine q_asg ev_c fun H1 e1 => ?_
    refine q_if (b := decide ((k : Int) < (ns.length : Int))) (et_test (ev_is (ev_op (ev_var rfl) (ev_lenQ (K := K) (ev_var rfl) (sqk_l (ex_l e1 hc))) rv_I0) (by rw [List.length_map]))) (fun hb H2 e2 => ?_) fun hb H2 e2 => fin 0 H2 (e1.trans e2)
    have hb : k < ns.length := by
      have := of_decide_eq_true hb
      omega
    refine s_asg (v := .int ns[k]) (ev_ixL (ev_var rfl) (ev_var rfl) (ex_l (e1.trans e2) hc) (atI_nat (by rw [List.getElem?_map, List.getElem?_eq_getElem hb]; rfl))) fun H3 e3 => fin ns[k] H3 ((e1.trans e2).trans e3)
end
end K39
namespace K39
open PySem PySem.Spec PyProof.Rows L2 Evl
section
variable {P : Program} {w : World} {K : PySem.W.Frag} {mg : Str → Option Value} {base : Heap}
def spTake : Sp := fun vs H Q _ => ∃ (p : Addr) (m : Int) (n : Nat), vs = [.ref p, .int m] ∧ 1 ≤ m ∧ m < 1073741824 ∧ PoolAt (n + 1) H p ∧ ∀ t H', 0 ≤ t → t < m → ExB p H H' → PoolAt n H' p → Q (.int t) H'
theorem take_ev {σ : L2.St} {H : Hp} {ta : TA} {p : Addr} {m : Int} {n : Nat} {Q : VK} (h : EvA ta σ H [.ref p, .int m]) (h1 : 1 ≤ m) (h2 : m < 1073741824) (hp : PoolAt (n + 1) H p) (k : ∀ t H', 0 ≤ t → t < m → ExB p H H' → PoolAt n H' p → Q (.int t) H') : tCall spTake [] E0 ta σ H Q :=
  h H (Ex.refl H) _ fun H1 e1 => ⟨p, m, n, rfl, h1, h2, hp.ex e1, fun t H' a b c d => k t H' a b ((ExB.of e1).trans c) d⟩
theorem nat5 {x : Int} (h0 : 0 ≤ x) (h : x < 18446744073709551616) : x.natAbs < 2 ^ 64 := by
  have : (2 : Nat) ^ 64 = 18446744073709551616 := by decide
  omega
theorem ok_take {f : Addr} {fd : FuncData} {k : Nat} (F : Fun K "_law_take" "_law_take" sTake f fd) : FnOk P w K mg base CX0 (k + 1) f fd ["_law_pool_here", "_law_many"] spTake := by
  refine F.ok scTake (fun vs H Q E h => ?_) (fun cdv A outer s H vs Q E hr h => ?_)
  · obtain ⟨_, _, _, rfl, _⟩ := h
    rfl
  · obtain ⟨p, m, n, rfl, hm1, hm2, ⟨a, b, c, hp, ha, hb0, hb1, hc, hcn⟩, q⟩ := h
    have nd := scTake.nd
    refine ⟨_, pss_cons (ps_if (pt_cmpR op_gt (pe_ix ix_list (pv 0) pe_int (fun _ _ => rfl)) pe_int (nomark _))
        (pss_cons (ps_set (i := 2) nd rfl (.inl rfl) (pe_op op_modN (pe_ix ix_list (pv 0) pe_int (fun _ _ => rfl)) (pv 1)))
        (pss_cons (ps_asg (pe_op op_fdivN (pe_ix ix_list (pv 0) pe_int (fun _ _ => rfl)) (pv 1)) (pg_sub (pv 0) pe_int set_list))
        (pss_one (ps_ret (pv 2))))) pss_nil)
      (pss_cons (ps_asg (pe_op op_add (pe_ix ix_list (pv 0) pe_int (fun _ _ => rfl)) pe_int) (pg_sub (pv 0) pe_int set_list))
      (pss_cons (ps_set (i := 3) nd rfl (.inl rfl) (pe_op op_modN (pe_op op_add (pe_op op_add (pe_op op_mul (pe_ix ix_list (pv 0) pe_int (fun _ _ => rfl)) pe_int) (pe_op op_mul pe_int (pe_ix ix_list (pv 0) pe_int (fun _ _ => rfl)))) pe_int) pe_int))
      (pss_cons (ps_set (i := 3) nd rfl (.inl rfl) (pe_op op_modN (pe_op op_pow (pv 3) pe_int) pe_int))
      (pss_cons (ps_set (i := 4) nd rfl (.inl rfl) (pe_op op_modN (pe_op op_pow (pe_op op_add (pe_op op_add (pv 3) (pe_op op_mul (pe_op op_mul pe_int (pe_ix ix_list (pv 0) pe_int (fun _ _ => rfl))) (pe_ix ix_list (pv 0) pe_int (fun _ _ => rfl)))) (pe_op op_modN (pe_ix ix_list (pv 0) pe_int (fun _ _ => rfl)) pe_int)) pe_int) pe_int))
      (pss_one (ps_ret (pe_op op_modN (pe_op op_fdivN (pe_op op_modN (pe_op op_mul (pv 4) pe_int) pe_int) pe_int) (pv 1)))))))), ?_⟩
    refine q_if (b := decide (0 < a)) (et_test (ev_op (ev_ixL (ev_var rfl) ev_c (sq_of hp) (atI_nat (j := 0) rfl)) ev_c rv_I0)) (fun hb H1 e1 => ?_) fun _ H1 e1 => ?_
    · refine q_asg (ev_op (ev_ixL (ev_var rfl) ev_c (sq_of (e1 _ _ hp)) (atI_nat (j := 0) rfl)) (ev_var rfl) (rv_I (by omega))) fun H2 e2 => ?_
      have hp2 := e2 _ _ (e1 _ _ hp)
      refine q_setL (j := 0) hp2 (ev_op (ev_ixL (ev_var rfl) ev_c (sq_of hp2) (atI_nat (j := 0) rfl)) (ev_var rfl) (rv_I ⟨by omega, by omega⟩)) (ev_var rfl) ev_c (by show 0 < 3; decide) fun H3 e3 => ?_
      refine s_ret (ev_var rfl) fun H4 e4 => q _ H4 (Int.fmod_nonneg_of_pos _ (by omega)) (Int.fmod_lt_of_pos _ (by omega)) ?_ ?_
      · exact (ExB.upd (ExB.of ((e1.trans e2).trans e3))).trans (ExB.of e4)
      · refine ⟨_, b, c, e4 _ _ upd_same, ?_, hb0, hb1, hc, by omega⟩
        rw [Int.fdiv_eq_ediv_of_nonneg _ (by omega)]
        exact Int.ediv_nonneg ha (by omega)
    · have hp1 := e1 _ _ hp
      refine q_setL (j := 2) hp1 (ev_op (ev_ixL (ev_var rfl) ev_c (sq_of hp1) (atI_nat (j := 2) rfl)) ev_c rv_I0) (ev_var rfl) ev_c (by show 2 < 3; decide) fun H2 e2 => ?_
      have hq : (upd H2 p (.lst [.int a, .int b, .int (c + 1)])) p = some (.lst [.int a, .int b, .int (c + 1)]) := upd_same
      have fin : ∀ H', Ex (upd H2 p (.lst [.int a, .int b, .int (c + 1)])) H' → ∀ t, 0 ≤ t → t < m → Q (.int t) H' := fun H' e' t t0 t1 => q t H' t0 t1 ((ExB.upd (ExB.of (e1.trans e2))).trans (ExB.of e')) ⟨a, b, c + 1, e' _ _ upd_same, ha, hb0, hb1, by omega, by omega⟩
      refine q_asg (ev_op (ev_op (ev_op (ev_op (ev_ixL (ev_var rfl) ev_c (sq_of hq) (atI_nat (j := 1) rfl)) ev_c (rv_I (.inr ⟨by decide, by decide⟩))) (ev_op ev_c (ev_ixL (ev_var rfl) ev_c (sq_of hq) (atI_nat (j := 2) rfl)) (rv_I (.inl ⟨by decide, by decide⟩))) rv_I0) ev_c rv_I0) ev_c (rv_I (by decide))) fun H3 e3 => ?_
      have h1 := Int.fmod_nonneg_of_pos (b * 48271 + 104729 * (c + 1) + 101) (b := 2147483629) (by decide)
      have h2 := Int.fmod_lt_of_pos (b * 48271 + 104729 * (c + 1) + 101) (b := 2147483629) (by decide)
      refine q_asg (ev_op (ev_op (ev_var rfl) ev_c (rv_I ⟨by decide, by decide, nat5 h1 (by omega)⟩)) ev_c (rv_I (by decide))) fun H4 e4 => ?_
      generalize (b * 48271 + 104729 * (c + 1) + 101).fmod 2147483629 = x1 at *
      have h3 := Int.fmod_nonneg_of_pos (x1 ^ (5 : Int).toNat) (b := 2147483587) (by decide)
      have h4 := Int.fmod_lt_of_pos (x1 ^ (5 : Int).toNat) (b := 2147483587) (by decide)
      have h5 := Int.fmod_nonneg_of_pos b (b := 65537) (by decide)
      have h6 := Int.fmod_lt_of_pos b (b := 65537) (by decide)
      have h7 : 0 ≤ 69621 * (c + 1) * (c + 1) ∧ 69621 * (c + 1) * (c + 1) ≤ 69621 * 10000000 * 10000000 := by
        have a1 : 0 ≤ 69621 * (c + 1) := by omega
        have a2 : 69621 * (c + 1) ≤ 69621 * 10000000 := by omega
        have a3 : c + 1 ≤ 10000000 := by omega
        exact ⟨Int.mul_nonneg a1 (by omega), Int.mul_le_mul a2 a3 (by omega) (by decide)⟩
      generalize (x1 ^ (5 : Int).toNat).fmod 2147483587 = x2 at *
      have hq4 := e4 _ _ (e3 _ _ hq)
      refine q_asg (ev_op (ev_op (ev_op (ev_op (ev_var rfl) (ev_op (ev_op ev_c (ev_ixL (ev_var rfl) ev_c (sq_of hq4) (atI_nat (j := 2) rfl)) (rv_I (.inl ⟨by decide, by decide⟩))) (ev_ixL (ev_var rfl) ev_c (sq_of hq4) (atI_nat (j := 2) rfl)) (rv_I (.inr ⟨by omega, by omega⟩))) rv_I0) (ev_op (ev_ixL (ev_var rfl) ev_c (sq_of hq4) (atI_nat (j := 1) rfl)) ev_c (rv_I (by decide))) rv_I0) ev_c (rv_I ⟨by decide, by decide, nat5 (by omega) (by omega)⟩)) ev_c (rv_I (by decide))) fun H5 e5 => ?_
      refine s_ret (ev_op (ev_op (ev_op (ev_op (ev_var rfl) ev_c (rv_I (.inr ⟨by decide, by decide⟩))) ev_c (rv_I (by decide))) ev_c (rv_I ⟨by decide, by decide⟩)) (ev_var rfl) (rv_I (by omega))) fun H6 e6 => fin H6 (((e3.trans e4).trans e5).trans e6) _ (Int.fmod_nonneg_of_pos _ (by omega)) (Int.fmod_lt_of_pos _ (by omega))
/-! ### numbers -/
def spNumber : Sp := fun vs H Q _ => ∃ (p : Addr) (sz n : Nat), vs = [.ref p, .int (sz : Int)] ∧ sz ≤ 2 ∧ PoolAt (n + 4) H p ∧ ∀ (v : Int) H', v.natAbs < 10 ^ (1 + 6 * sz) → ExB p H H' → PoolAt n H' p → Q (.int v) H'
theorem ok_number {f fT : Addr} {fd fdT : FuncData} (F : Fun K "_law_number" "_law_number" sNumber f fd) (GT : FnOk P w K mg base CX0 1 fT fdT ["_law_pool_here", "_law_many"] spTake) (gT : mg "_law_take" = some (.ref fT)) (kT : PySem.W.keepIn K (.ref fT) = true) (bT : Binds K fdT ["_law_pool_here", "_law_many"] [])
    (mr : mg "range" = none) : FnOk P w K mg base CX0 2 f fd ["_law_pool_here", "_law_size"] spNumber := by
  refine F.ok scNumber (fun vs H Q E h => ?_) (fun cdv A outer s H vs Q E hr h => ?_)
  · obtain ⟨_, _, _, rfl, _⟩ := h
    rfl
  · obtain ⟨p, sz, n, rfl, hsz, hp, q⟩ := h
    have nd := scNumber.nd
    refine ⟨_, pss_cons (ps_set (i := 2) nd rfl (.inl rfl) (pe_call GT hr (by rfl) gT kT bT .nil pass0 (pa_cons (pv 0) (pa_cons pe_int pa_nil))))
      (pss_cons (ps_for PassesOwn.never rfl (pi_range1 (by rfl) mr (pa_cons (pv 1) pa_nil)) (pg_name (i := 3) nd rfl (.inl rfl))
        (pss_one (ps_set (i := 2) nd rfl (.inl rfl) (pe_op op_add (pe_op op_mul (pv 2) (pe_op op_pow pe_int pe_int)) (pe_call GT hr (by rfl) gT kT bT .nil pass0 (pa_cons (pv 0) (pa_cons (pe_op op_pow pe_int pe_int) pa_nil)))))))
      (pss_one (ps_ret (pe_op op_mul (pv 2) (pe_ix ix_list (pe_lst (pa_cons pe_int (pa_cons (pe_un un_neg pe_int) pa_nil))) (pe_call GT hr (by rfl) gT kT bT .nil pass0 (pa_cons (pv 0) (pa_cons pe_int pa_nil))) (fun _ _ => rfl)))))), ?_⟩
    refine take_ev (n := n + 3) (ea_cons (ev_var rfl) (ea_cons ev_c ea_nil)) (by decide) (by decide) hp fun t0 H1 h0 h1 e1 p1 => ?_
    have e6 : (10 : Int) ^ (6 : Int).toNat = 1000000 := by decide
    refine q_forR1 (n := (sz : Int)) (ea_cons (ev_var rfl) ea_nil) ⟨by omega, by omega⟩ (fun i σ' H' => ∃ v : Int, ∃ y3, σ' = [some (.ref p), some (.int (sz : Int)), some (.int v), y3] ∧ 0 ≤ v ∧ v.natAbs < 10 ^ (1 + 6 * i) ∧ i ≤ sz ∧ ExB p H H' ∧ PoolAt (n + 3 - i) H' p)
      (fun H2 e2 => ⟨t0, none, rfl, h0, by show t0.natAbs < 10; omega, by omega, e1.trans (ExB.of e2), p1.ex e2⟩) (fun i σ' H' hi pz => ?_) (fun σ' H' pz => ?_)
    · obtain ⟨v, y3, rfl, hv0, hv, _, eB, pA⟩ := pz
      have hi : i < sz := by omega
      have step : ∀ t H2, 0 ≤ t → t < 1000000 → ExB p H' H2 → PoolAt (n + 3 - (i + 1)) H2 p → ∃ v' : Int, ∃ y3, ([some (.ref p), some (.int (sz : Int)), some (.int (v * 1000000 + t)), some (.int (i : Int))] : L2.St) = [some (.ref p), some (.int (sz : Int)), some (.int v'), y3] ∧ 0 ≤ v' ∧ v'.natAbs < 10 ^ (1 + 6 * (i + 1)) ∧ i + 1 ≤ sz ∧ ExB p H H2 ∧ PoolAt (n + 3 - (i + 1)) H2 p := fun t H2 t0 t1 e2 p2 =>
        ⟨v * 1000000 + t, _, rfl, by omega, by
          have e : 10 ^ (1 + 6 * (i + 1)) = 10 ^ (1 + 6 * i) * 1000000 := by
            rw [show 1 + 6 * (i + 1) = 1 + 6 * i + 6 by omega, Nat.pow_add]
          rw [e]
          omega, by omega, eB.trans e2, p2⟩
      refine (ev_op (ev_var rfl) (ev_op ev_c ev_c (rv_I ⟨by decide, by decide, by decide⟩)) (rv_I (.inr (by rw [e6]; exact ⟨by decide, by decide⟩)))) H' (Ex.refl _) _ fun H2 e2 => ?_
      refine take_ev (m := 10 ^ (6 : Int).toNat) (n := n + 3 - (i + 1)) (ea_cons (ev_var rfl) (ea_cons (ev_op ev_c ev_c (rv_I ⟨by decide, by decide, by decide⟩)) ea_nil)) (by decide) (by decide) ((pA.ex e2).le (by omega)) fun t H3 t0 t1 e3 p3 => ⟨_, t, rfl, rfl, ?_⟩
      rw [e6] at t1
      rw [e6]
      exact step t H3 t0 t1 ((ExB.of e2).trans e3) p3
    · rw [Int.toNat_natCast] at pz
      obtain ⟨v, y3, rfl, hv0, hv, _, eB, pA⟩ := pz
      unfold tRet tOp
      refine (ev_var (σ := [some (.ref p), some (.int (sz : Int)), some (.int v), y3]) (i := 2) rfl) H' (Ex.refl _) _ fun H2 e2 => ?_
      refine el_lst (vs := [.int 1, .int (-1)]) (ea_cons ev_c (ea_cons (ev_un ev_c ru_neg) ea_nil)) (by decide) H2 (Ex.refl _) _ fun L H3 hL e3 h3 => ?_
      have p3 := (pA.ex e2).ex e3
      have hLp : L ≠ p := fun z => ((pA.ex e2).some) (z ▸ hL)
      refine take_ev (n := n + 3 - (sz + 1)) (ea_cons (ev_var rfl) (ea_cons ev_c ea_nil)) (by decide) (by decide) (p3.le (by omega)) fun t H4 t0 t1 e4 p4 => ?_
      have h4 := e4 _ _ hLp h3
      have fin : ∀ z : Int, z.natAbs = v.natAbs → Q (.int z) H4 := fun z hz => q z H4 (by
        rw [hz]
        exact hv) (((eB.trans (ExB.of e2)).trans (ExB.of e3)).trans e4) (p4.le (by omega))
      have : t = 0 ∨ t = 1 := by omega
      rcases this with rfl | rfl
      · exact ⟨L, _, 0, .int 1, rfl, rfl, sq_of h4, rfl, v, 1, rfl, rfl, .inr ⟨by decide, by decide⟩, fin _ (by omega)⟩
      · exact ⟨L, _, 1, .int (-1), rfl, rfl, sq_of h4, rfl, v, -1, rfl, rfl, .inr ⟨by decide, by decide⟩, fin _ (by omega)⟩
end
end K39
namespace K39
open PySem PySem.Spec PyProof.Rows L2
/-! ### enumerate of a list or a tuple -/
set_option maxHeartbeats 1000000 in
theorem meets_enum1 {v : Value} {o : Obj} {H : Heap → Prop} (B : Begins v o H) :
    Meets (Builtin.«enumerate.__new__» ⟨[.type "enumerate", v], []⟩) (fun _ R s => H s.heap ∧
      R (.ok (.ret (.ref (s.heap.push o).objs.size))) { s with heap := (s.heap.push o).push { cls := .type "enumerate", data := .fields #[.none, .bool false, .ref s.heap.objs.size, rawInt 0, .none, .none] } }) :=
  .of_wp fun prog w A R s h => by
    obtain ⟨hp, g, d, tk, os⟩ := s; obtain ⟨h1, h⟩ := h
    have hsub := sub_enumerate
    have q1 : ∀ {A' : Around} {E : Value → Shared → Prop} {Q : Value → Shared → Prop}, Q (.ref hp.objs.size) ⟨hp.push o, g, d, tk, os⟩ → wpAny (model prog w) A' (pyIter v) Q E ⟨hp, g, d, tk, os⟩ :=
      fun q => B.iter prog w _ _ ⟨hp, g, d, tk, os⟩ _ h1 q
    wp_walk using q1
    refine wpAny_stack_any fun st => wpAny_pure ?_
    split
    · rename_i c _ _ _ _ _
      cases (c == Value.type "enumerate")
      · wp_walk using q1
        exact ⟨_, rfl, h⟩
      · wp_walk using q1
        exact ⟨_, rfl, h⟩
    · wp_walk using q1
      exact ⟨_, rfl, h⟩
section
variable {prog : Program} {w : World} {A : Around} {E : Value → Shared → Prop} {s : Shared}
theorem enum1_begins {v : Value} {o : Obj} {H : Heap → Prop} {Q : Value → Shared → Prop} (B : Begins v o H) (h1 : H s.heap)
    (h : ∀ h', IsEnum h' (s.heap.objs.size + 1) s.heap.objs.size 0 .none → h'.get? s.heap.objs.size = some o → h'.objs.size = s.heap.objs.size + 2 →
      (∀ b o, s.heap.get? b = some o → h'.get? b = some o) → Q (.ref (s.heap.objs.size + 1)) { s with heap := h' }) :
    wpAny (model prog w) A (call (.type "enumerate") [v]) Q E s := by
  refine callType_new F.called_enumerate (by decide) (F.typeCall_enumerate_1 _) (F.newCall_enumerate_1 _) (fun obj => F.args_object_init_2 obj _) F.entry_enumerate_new
    (meets_enum1 B) ⟨h1, ?_⟩
  have hz : (s.heap.push o).objs.size = s.heap.objs.size + 1 := Heap.size_push ..
  show _ ∧ _
  rw [hz]
  have he : IsEnum ((s.heap.push o).push { cls := .type "enumerate", data := .fields #[.none, .bool false, .ref s.heap.objs.size, rawInt 0, .none, .none] }) (s.heap.objs.size + 1) s.heap.objs.size 0 .none := by
    have := Heap.get?_push_size (s.heap.push o) (o := { cls := .type "enumerate", data := .fields #[.none, .bool false, .ref s.heap.objs.size, rawInt 0, .none, .none] }) rfl
    rw [hz] at this; exact this
  exact ⟨⟨_, he, rfl⟩, h _ he (Heap.get?_push_of_some _ (Heap.get?_push_size _ B.free)) (by rw [Heap.size_push, hz]) fun b o x => Heap.get?_push_of_some _ (Heap.get?_push_of_some _ x)⟩
end
def IteG (K : PySem.W.Frag) (k : Bool) (a : Addr) (xs : List V) : It :=
  ⟨fun i H => SqK K k H a xs ∧ i < xs.length, fun i H v H' => ∃ T x y, v = .ref T ∧ H T = none ∧ H' = upd H T (.tup [x, y]) ∧ some (V.int (i : Nat)) = some x ∧ xs[i]? = some y, fun i H => SqK K k H a xs ∧ i = xs.length⟩
theorem turn_enumG {P : Program} {w : World} {K : PySem.W.Frag} {elts : List Expr} {kk : Nat} {tpos : Pos} {k : Bool} {a e it : Addr} {xs : List V} (ha : a ≠ it) (he0 : e ≠ it) (hea : e ≠ a) :
    Turn P w K (.Tuple elts kk tpos) (IteG K k a xs) [e, it] e (fun i h => (∃ old, IsEnum h e it ((i : Nat) : Int) old) ∧ IterK k h it a i) where
  mem := by simp
  obj := fun i h st b hb => by
    obtain ⟨⟨old, he⟩, hi⟩ := st
    have e' : b = e ∨ b = it := by simpa using hb
    rcases e' with z | z
    · rw [z]; exact ⟨_, he, fun v q => nomatch q⟩
    · rw [z]; exact hi.obj
  keep := fun i h h' st kk => let ⟨⟨old, he⟩, hi⟩ := st; ⟨⟨old, kk e (by simp) _ he⟩, hi.at fun o q => kk it (by simp) o q⟩
  item := by
    intro X hP hw hK hc i pins s σ H E I hf st hg
    subst hP hw hK
    obtain ⟨⟨old, he⟩, hit⟩ := st
    obtain ⟨hq, hx⟩ := hg
    obtain ⟨its, rv, p⟩ := SqK.raw I hq
    have hD := drawsK (prog := X.prog) (w := X.w) (A := X.A.in1) (I.ok.hd hc) k it a ha its.toArray
    have hel : e < s.heap.objs.size := Heap.lt_size he
    have hil : it < s.heap.objs.size := by obtain ⟨_, q, _⟩ := hit.obj; exact Heap.lt_size q
    refine wpAny_pyNext_enum_itemD hD he ⟨hit, p⟩ (by rw [List.size_toArray, ← rv.length]; exact hx) he0 (by simp [he0, hea]) fun u h' tk e1 ho hit' hT hsz hk => ?_
    obtain ⟨u', hu, ru⟩ := rv.get (i := i) (x := xs[i]) (by simp [hx])
    have e1 : its[i]? = some u := by simpa using e1
    rw [hu] at e1
    obtain rfl := Option.some.inj e1
    refine ⟨_, rfl, wpAny_letOwnedTupleGo_enum (s := { s with heap := h', toks := tk + 1 }) ho fun h'' he' sb => ?_⟩
    have hT2 : h''.get? s.heap.objs.size = some { cls := .type "tuple", data := .seq #[.int i tk, u'] } := (sb.2 _ (Nat.ne_of_gt hel)).trans hT
    have new : ObjOk X.prog X.w (upd H s.heap.objs.size (.tup [.int (i : Nat), xs[i]])) h'' s.heap.objs.size (.tup [.int (i : Nat), xs[i]]) :=
      ⟨by show 2 ≤ sizeLine; decide, [.int i tk, u'], .cons ⟨_, rfl⟩ (.cons ru .nil), ⟨_, hT2, rfl, _, rfl⟩⟩
    have I1 : Inv X pins σ (upd H s.heap.objs.size (.tup [.int (i : Nat), xs[i]])) { s with heap := h'', toks := tk + 1 } :=
      I.turnedNew (ch := [e, it]) (fun b ob hb q => (sb.2 b (fun z => hb (by simp [z]))).trans (hk b ob (fun z => hb (by simp [z])) (fun z => hb (by simp [z])) q)) hf (Nat.le_refl _) new
    refine ⟨.ref s.heap.objs.size, _, I1, rfl, ⟨s.heap.objs.size, .int (i : Nat), xs[i], rfl, I.hok.fresh (Nat.le_refl _), rfl, rfl, by simp [hx]⟩, ⟨⟨u', ?_⟩, hit'.1.at fun o q => (sb.2 it (Ne.symm he0)).trans q⟩, fun b hb => ?_⟩
    · have e1 : ((i + 1 : Nat) : Int) = (i : Int) + 1 := by omega
      rw [e1]; exact he'
    · have hb' : b < s.heap.objs.size := by
        have e' : b = e ∨ b = it := by simpa using hb
        rcases e' with z | z
        · rw [z]; exact hel
        · rw [z]; exact hil
      rw [upd_ne (Nat.ne_of_lt hb')]
      exact (hf b hb).1
  done := by
    intro X hP hw hK hc i pins s σ H E I hf st hg
    subst hP hw hK
    obtain ⟨⟨old, he⟩, hit⟩ := st
    obtain ⟨hq, hend⟩ := hg
    obtain ⟨its, rv, p⟩ := SqK.raw I hq
    have hD := drawsK (prog := X.prog) (w := X.w) (A := X.A.in1) (I.ok.hd hc) k it a ha its.toArray
    obtain ⟨f0, f1, f2, f3, f4, f5⟩ := hf it (by simp)
    have hl := rv.length
    have hie : i = its.toArray.size := by rw [List.size_toArray, ← hl]; exact hend
    rw [hie] at hit
    exact wpAny_pyNext_enum_endD hD he ⟨hit, p⟩ fun h' eb => ⟨rfl, I.turned (t' := s.toks) (fun b o hb q => eb b o hb q) f0 f1 f3 f4 f5⟩
  self := fun A i s Q E st h => let ⟨⟨_, he⟩, _⟩ := st; wpAny_pyIter_enum he h
def iEnumG (K : PySem.W.Frag) (ta : TA) : TI := fun σ H R => ta σ H fun vs H1 => ∃ a xs k, vs = [.ref a] ∧ SqK K k H1 a xs ∧ R (IteG K k a xs) H1
theorem pi_enumG {X : Cx} {e : Expr} {ta : TA} {p pos tpos : Pos} {elts : List Expr} {kk : Nat} (hg : Gl X "enumerate") (hm : X.mg "enumerate" = none) (ha : PA X [e] ta) (hs : starEach [e] X.env = [(false, eval e X.env)] := by rfl) :
    PI X (.Tuple elts kk tpos) (.Call (.Name "enumerate" p) [e] [] pos) (iEnumG X.K ta) := by
  refine ⟨fun pins s σ H R I h => ?_⟩
  refine Call_ (ld_blt I hg hm boot_enumerate (PyProof.Rows.callWith_type1 (thn (ha.run pos pins s σ H _ I h) fun us s1 ⟨vs, H1, I1, r1, q1⟩ => ?_) hs rfl))
  obtain ⟨a, xs, k, ex, hq, q⟩ := q1
  subst ex
  cases r1 with
  | cons r rr =>
    cases rr
    cases r
    obtain ⟨its, rv, p'⟩ := SqK.raw I1 hq
    have la := p'.lt
    refine enum1_begins (beginsK k a its.toArray) p' fun h' he hit hsz hk => wpAny_pyIter_enum he ?_
    have I2 : Inv X pins σ H1 { s1 with heap := h' } := I1.kept (t' := s1.toks) hk
    refine ⟨s1.heap.objs.size + 1, [s1.heap.objs.size + 1, s1.heap.objs.size], _, _, H1, rfl, I2, turn_enumG (Nat.ne_of_lt la) (Nat.succ_ne_self _) (Nat.ne_of_gt (Nat.lt_succ_of_lt la)), ⟨⟨.none, he⟩, iterK_new hit⟩, fun b hb => ?_, q⟩
    have e' : b = s1.heap.objs.size + 1 ∨ b = s1.heap.objs.size := by simpa using hb
    have hle : s1.heap.objs.size ≤ b := by
      rcases e' with z | z
      · rw [z]; exact Nat.le_add_right _ _
      · rw [z]; exact Nat.le_refl _
    exact I1.fpOk hle (I1.hok.fresh hle)
theorem walk_enumG {K : PySem.W.Frag} {k : Bool} {a : Addr} {xs : List V} : Walk (IteG K k a xs) xs.length (fun H => SqK K k H a xs) (YPair (fun i => some (V.int (i : Nat))) (fun i => xs[i]?)) :=
  ⟨fun i _ hi q => ⟨q, hi⟩, fun _ q => ⟨q, rfl⟩, fun _ _ _ _ _ _ y => y⟩
end K39
namespace K39
open PySem PySem.Spec PyProof.Rows L2 Evl
/-! ### data that is compared -/
def dL (ns : List Int) : PyData := .list (ns.map PyData.int)
def dT (ns : List Int) : PyData := .tuple (ns.map PyData.int)
theorem lay_all {α : Type} (f : α → PyData) (h : ∀ a, (f a).canLay0 = true) : ∀ l : List α, PyData.canLayAll0 (l.map f) = true
  | [] => rfl
  | a :: l => by
    show ((f a).canLay0 && PyData.canLayAll0 (l.map f)) = true
    rw [h a, lay_all f h l]
    rfl
theorem dep_all {α : Type} (f : α → PyData) (n : Nat) (h : ∀ a, (f a).depth ≤ n) : ∀ l : List α, PyData.depthAll (l.map f) ≤ n
  | [] => Nat.zero_le _
  | a :: l => by
    rw [List.map_cons]
    have h1 := h a
    have h2 := dep_all f n h l
    simp only [PyData.depthAll]
    omega
theorem lay_dL (ns : List Int) : (dL ns).canLay0 = true := lay_all PyData.int (fun _ => rfl) ns
theorem lay_dT (ns : List Int) : (dT ns).canLay0 = true := lay_all PyData.int (fun _ => rfl) ns
theorem dep_dL (ns : List Int) : (dL ns).depth ≤ 1 := by
  have := dep_all PyData.int 0 (fun _ => Nat.le_refl 0) ns
  show PyData.depthAll (ns.map PyData.int) + 1 ≤ 1
  omega
theorem dep_dT (ns : List Int) : (dT ns).depth ≤ 1 := by
  have := dep_all PyData.int 0 (fun _ => Nat.le_refl 0) ns
  show PyData.depthAll (ns.map PyData.int) + 1 ≤ 1
  omega
theorem sh_of {d : PyData} (h1 : d.canLay0 = true) (h2 : d.depth ≤ 64) : SeqAt.shaped d = true := by
  unfold SeqAt.shaped
  rw [h1, decide_eq_true h2]
  rfl
theorem dep_lst {α : Type} {f : α → PyData} {n : Nat} (h : ∀ a, (f a).depth ≤ n) (l : List α) : (PyData.list (l.map f)).depth ≤ n + 1 := by
  have := dep_all f n h l
  show PyData.depthAll (l.map f) + 1 ≤ n + 1
  omega
theorem dep_tup {α : Type} {f : α → PyData} {n : Nat} (h : ∀ a, (f a).depth ≤ n) (l : List α) : (PyData.tuple (l.map f)).depth ≤ n + 1 := by
  have := dep_all f n h l
  show PyData.depthAll (l.map f) + 1 ≤ n + 1
  omega
def dBase (B : Bas) : PyData := .tuple [.str "base", dT B.point, .tuple (B.moves.map dT), .tuple (B.reads.map dT)]
theorem lay_base (B : Bas) : (dBase B).canLay0 = true := by
  have h1 : (PyData.tuple (B.moves.map dT)).canLay0 = true := lay_all dT lay_dT B.moves
  have h2 : (PyData.tuple (B.reads.map dT)).canLay0 = true := lay_all dT lay_dT B.reads
  unfold dBase
  simp only [PyData.canLay0, PyData.canLayAll0] at h1 h2 ⊢
  rw [h1, h2]
  have h3 := lay_dT B.point
  rw [h3]
  decide +kernel
theorem dep_base (B : Bas) : (dBase B).depth ≤ 64 := by
  have h1 : (PyData.tuple (B.moves.map dT)).depth ≤ 2 := dep_tup dep_dT B.moves
  have h2 : (PyData.tuple (B.reads.map dT)).depth ≤ 2 := dep_tup dep_dT B.reads
  have h3 := dep_dT B.point
  unfold dBase
  simp only [PyData.depth, PyData.depthAll] at h1 h2 ⊢
  omega
section
variable {K : PySem.W.Frag} {H : Hp}
theorem dp_ints : ∀ ns : List Int, DpAll K H (ns.map V.int) (ns.map PyData.int)
  | [] => .nil
  | n :: ns => .cons (.int n) (dp_ints ns)
theorem dp_L {a : Addr} {ns : List Int} (h : SqL K H a (ns.map V.int)) : Dp K H (.ref a) (dL ns) := .lst h (dp_ints ns)
theorem dp_T {a : Addr} {ns : List Int} (h : SqT K H a (ns.map V.int)) : Dp K H (.ref a) (dT ns) := .tup h (dp_ints ns)
theorem dp_refs {α : Type} (f : α → PyData) : ∀ (as : List Addr) (l : List α), as.length = l.length → (∀ (i : Nat) (a : Addr) (x : α), as[i]? = some a → l[i]? = some x → Dp K H (.ref a) (f x)) → DpAll K H (as.map V.ref) (l.map f)
  | [], [], _, _ => .nil
  | [], _ :: _, h, _ => by cases h
  | _ :: _, [], h, _ => by cases h
  | a :: as, x :: l, h, k => .cons (k 0 a x rfl rfl) (dp_refs f as l (by simpa using h) fun i b y h1 h2 => k (i + 1) b y h1 h2)
theorem dp_tups {as : List Addr} {M : Mat} (h : TupsAt H as M) : DpAll K H (as.map V.ref) (M.map dT) := dp_refs dT as M h.1 fun i a x h1 h2 => by
  have := h.2 i a h1
  have e : rowAt M i = x := by
    unfold rowAt
    rw [List.getD_eq_getElem?_getD, h2]
    rfl
  rw [e] at this
  exact dp_T (st_of this)
theorem dp_base {p : Addr} {B : Bas} (h : BaseAt H p B) : Dp K H (.ref p) (dBase B) := by
  obtain ⟨q, m, r, ms, rs, h1, h2, h3, h4, h5, h6⟩ := h
  exact .tup (st_of h1) (.cons (.str _) (.cons (dp_T (st_of h2)) (.cons (.tup (st_of h3) (dp_tups h5)) (.cons (.tup (st_of h4) (dp_tups h6)) .nil))))
theorem rv_neD {x y : V} {d : PyData} (h1 : ∀ H1, Ex H H1 → Dp K H1 x d) (h2 : ∀ H1, Ex H H1 → Dp K H1 y d) (hl : d.canLay0 = true) (hd : d.depth ≤ 64) : RV (rNeD K) x y H (.bl false) := fun H1 e Q q => by
  refine ⟨d, d, h1 H1 e, h2 H1 e, sh_of hl hd, sh_of hl hd, ?_⟩
  rw [SeqAt.eqv_refl d hl]
  exact q H1 (Ex.refl H1)
end
end K39
namespace K39
open PySem PySem.Spec PyProof.Rows L2 Evl
theorem sl_listK {X : Cx} {K : PySem.W.Frag} (h : X.K = K := by rfl) : SlR X (rSlL K) := by
  subst h
  exact sl_list
theorem cr_sumK {X : Cx} {K : PySem.W.Frag} (hc : X.calm = true) (h : X.K = K := by rfl) : CallR X (.builtin "sum") (rSum K) := by
  subst h
  exact cr_sum hc
theorem pe_slice3K {X : Cx} {K : PySem.W.Frag} {e : Expr} {lo hi : Option Expr} {st : Expr} {p2 pos : Pos} {te : TE} {tl th tk : TO} (he : PE X e te) (hl : PO X lo tl) (hu : PO X hi th) (hk : PO X (some st) tk) (h : X.K = K := by rfl) :
    PE X (.Subscript e (.Slice lo hi (some st) p2) pos) (tSl3 K te tl th tk) := by
  subst h
  exact pe_slice3 he hl hu hk
theorem cut1 (x : V) (xs : List V) : cutV (x :: xs) (some 1) none = xs := by
  have h : HT.sIx (x :: xs).length 0 (some 1) = 1 := by
    have := HT.sIx_nat (x :: xs).length 0 1
    rw [List.length_cons] at this ⊢
    rw [show (some (1 : Int)) = some ((1 : Nat) : Int) from rfl, this]
    omega
  unfold cutV
  rw [h, HT.sIx_none, List.drop_succ_cons, List.drop_zero, List.length_cons, Nat.add_sub_cancel, List.take_length]
section
variable {K : PySem.W.Frag} {σ : L2.St} {H H' : Hp} {ta tb te tl : TE} {vs : List Nat} {D : Ends} {tu tz : TS} {g : TG}
/-- [e for i in range(n)], whatever e does -/
theorem tlc_range {tr : TA} {j : Nat} {n : Int} {Q : VK} (h : EvA tr σ H [.int n]) (hn : 0 ≤ n ∧ n ≤ 40000) (hw : ∀ x, wipe ((wipe σ vs).set j (some x)) vs = wipe σ vs) (Pv : Addr → Nat → Hp → Prop) (h0 : ∀ D H1, H1 D = none → Ex H H1 → Pv D 0 (upd H1 D (.lst [])))
    (hs : ∀ D (i : Nat) H', (i : Int) < n → Pv D i H' → te ((wipe σ vs).set j (some (.int (i : Int)))) H' fun y H4 => ∃ acc, H4 D = some (.lst acc) ∧ acc.length < sizeLine ∧ Pv D (i + 1) (upd H4 D (.lst (acc ++ [y])))) (hd : ∀ D H', Pv D n.toNat H' → Q (.ref D) H') : tLc (iRng1 tr) (gName j) tYes te vs σ H Q :=
  h H (Ex.refl H) _ fun H1 e1 => ⟨n, rfl, by omega, by omega, fun D hD =>
    lc_it (walk_range (lo := 0) (n := n.toNat)) (Pv D) (h0 D H1 hD e1) (fun _ _ _ _ => trivial) (fun i x H' H'' hi p y => by
      obtain ⟨rfl, rfl⟩ := y
      have e0' : (0 : Int) + (i : Int) = (i : Int) := Int.zero_add _
      refine ⟨hw _, ?_⟩
      show (if true = true then te ((wipe σ vs).set j (some (.int ((0 : Int) + (i : Int))))) H'' _ else Pv D (i + 1) H'')
      rw [if_pos rfl, e0']
      exact hs D i _ (by omega) p) fun H' p => hd D H' p⟩
/-- [e for x in xs], whatever e does, as long as the list stands -/
theorem tlc_list {a : Addr} {xs : List V} {j : Nat} {Q : VK} (h : Ev tl σ H (.ref a)) (hx : SqL K H a xs) (hz : xs.length ≤ 40000) (hw : ∀ x, wipe ((wipe σ vs).set j (some x)) vs = wipe σ vs) (Pv : Addr → Nat → Hp → Prop) (h0 : ∀ D H1, H1 D = none → Ex H H1 → Pv D 0 (upd H1 D (.lst [])))
    (hG : ∀ D i H', Pv D i H' → SqL K H' a xs) (hs : ∀ D (i : Nat) x H', xs[i]? = some x → Pv D i H' → te ((wipe σ vs).set j (some x)) H' fun y H4 => ∃ acc, H4 D = some (.lst acc) ∧ acc.length < sizeLine ∧ Pv D (i + 1) (upd H4 D (.lst (acc ++ [y])))) (hd : ∀ D H', Pv D xs.length H' → Q (.ref D) H') : tLc (iList K tl) (gName j) tYes te vs σ H Q :=
  h H (Ex.refl H) _ fun H1 e1 => ⟨a, rfl, ⟨xs, ex_l e1 hx⟩, fun D hD =>
    lc_it (walk_list (K := K) (xs := xs)) (Pv D) (h0 D H1 hD e1) (fun i H' _ p => hG D i H' p) (fun i x H' H'' hi p y => by
      obtain ⟨rfl, hxi⟩ := y
      refine ⟨hw x, ?_⟩
      show (if true = true then te ((wipe σ vs).set j (some x)) H'' _ else Pv D (i + 1) H'')
      rw [if_pos rfl]
      exact hs D i x _ hxi p) fun H' p => hd D H' p⟩
/-- product of a new list and a row that stands -/
theorem ev_dotL {b : Addr} {kb : Bool} {ns ms : List Int} (ha : EvL ta σ H (ns.map V.int)) (hb : Ev tb σ H (.ref b)) (hy : SqK K kb H b (ms.map V.int)) (hl : ns.length ≤ 40000)
    (hm : ∀ (k : Nat) (p q : Int), ns[k]? = some p → ms[k]? = some q → IntMulOk p q) {E : XK} : Ev (tCall (spDot K) [] E (tCons ta (tCons tb tNil))) σ H (.int (dot ns ms)) := fun H1 e Q q =>
  ha H1 e _ fun p H2 hp e2 h2 => hb H2 (e.trans e2) _ fun H3 e3 => ⟨p, b, false, kb, ns, ms, rfl, sqk_l (sq_of (e3 _ _ h2)), ex_k ((e.trans e2).trans e3) hy, hl, hm, fun H4 e4 => q H4 ((e2.trans e3).trans e4)⟩
/-- row[1:] -/
theorem el_tail {a : Addr} {c : Int} {co : List Int} (h : Ev te σ H (.ref a)) (hs : SqL K H a ((c :: co).map V.int)) : EvL (tSl (rSlL K) te (tPart (tC (.int 1))) tNoPart) σ H (co.map V.int) :=
  el_is (el_sl h (eo_some ev_c) eo_none hs) (cut1 _ _)
theorem s_forEG {a : Addr} {k : Bool} {xs : List V} {j1 j2 : Nat} (h : Ev tl σ H (.ref a)) (hx : SqK K k H a xs) (Pv : Nat → L2.St → Hp → Prop) (h0 : ∀ H1, Ex H H1 → Pv 0 σ H1) (hl : ∀ i σ' H', Pv i σ' H' → SqK K k H' a xs)
    (hs : ∀ (i : Nat) (x : V) (T : Addr) σ' H', xs[i]? = some x → Pv i σ' H' → H' T = none → tu { D with nx := Pv (i + 1), ct := Pv (i + 1), bk := D.nx } ((σ'.set j1 (some (.int (i : Int)))).set j2 (some x)) (upd H' T (.tup [.int (i : Int), x]))) (hd : ∀ σ' H', Pv xs.length σ' H' → D.nx σ' H') :
    tFor (iEnumG K (tCons tl tNil)) (gTup K 2 (gCons (gName j1) (gCons (gName j2) gNil))) tu D σ H :=
  h H (Ex.refl H) _ fun H1 e1 => ⟨a, xs, k, rfl, ex_k e1 hx, for_it (walk_enumG (K := K) (k := k) (a := a) (xs := xs)) Pv (h0 H1 e1) (fun i σ' H' _ p => hl i σ' H' p) (fun i x σ' H' H'' hi p y => by
    obtain ⟨T, x1, x2, rfl, hT, rfl, g1, g2⟩ := y
    obtain rfl : V.int (i : Int) = x1 := Option.some.inj g1
    exact ⟨T, _, rfl, st_of upd_same, rfl, _, _, rfl, _, _, rfl, rfl, hs i x2 T σ' H' g2 p hT⟩) hd⟩
/-- over a new tuple -/
theorem s_forNT {xs : List V} (h : EvU tl σ H xs) (Pv : Addr → Nat → L2.St → Hp → Prop) (h0 : ∀ p H1, H p = none → Ex H H1 → H1 p = some (.tup xs) → Pv p 0 σ H1) (hl : ∀ p i σ' H', i ≤ xs.length → Pv p i σ' H' → SqT K H' p xs)
    (hs : ∀ p i x σ' H', xs[i]? = some x → Pv p i σ' H' → g x σ' H' fun σ2 H2 => tu { D with nx := Pv p (i + 1), ct := Pv p (i + 1), bk := D.nx } σ2 H2) (hd : ∀ p σ' H', Pv p xs.length σ' H' → D.nx σ' H') : tFor (iTup K tl) g tu D σ H :=
  h H (Ex.refl H) _ fun p H1 hp e h1 => ⟨p, rfl, ⟨xs, st_of h1⟩, for_tup (Pv p) (h0 p H1 hp e h1) (hl p) (hs p) (hd p)⟩
end
/-! ### a base as the law looks at it -/
structure Sees (wd : Nat) (rows : List (List Int)) (B : Bas) : Prop where
  wl : wd ≤ 1000
  pl : B.point.length = wd
  ml : ∀ m ∈ B.moves, m.length = wd
  rl : ∀ m ∈ B.reads, m.length = wd
  len : B.reads.length = B.moves.length
  lw : B.moves.length ≤ 1000
  row : ∀ r ∈ rows, ∃ c co, r = c :: co ∧ co.length ≤ 1000 ∧ SmL co ∧ c + dot co B.point = 0 ∧ ∀ m ∈ B.moves, dot co m = 0
  dl : ∀ i j, i < B.moves.length → j < B.moves.length → dot (rowAt B.reads i) (rowAt B.moves j) = if j = i then 1 else 0
  sp : SmL B.point
  sm : ∀ m ∈ B.moves, SmL m
  sr : ∀ m ∈ B.reads, SmL m
/-- a list of lists of ints -/
def RowsL (K : PySem.W.Frag) (H : Hp) (r : Addr) (rows : List (List Int)) : Prop := ∃ ras : List Addr, SqL K H r (ras.map V.ref) ∧ ras.length = rows.length ∧ ∀ (i : Nat) (a : Addr), ras[i]? = some a → SqL K H a ((rowAt rows i).map V.int)
abbrev sBase : Stmt := topS 25
abbrev nBase : List Str := ["_law_rows_here", "_law_found", "_law_wide", "_law_group", "_law_row", "_law_at", "_law_read", "_law_move", "_law_k"]
theorem scBase : FnScope nBase ["_law_rows_here", "_law_found", "_law_wide"] (defScope sBase) := ⟨rfl, rfl, rfl, by decide +kernel, rfl, by decide +kernel, by decide +kernel⟩
section
variable {P : Program} {w : World} {K : PySem.W.Frag} {mg : Str → Option Value} {base : Heap}
def spFolded (K : PySem.W.Frag) : Sp := fun vs H Q _ => ∃ (a : Addr) (ns : List Int), vs = [.ref a, .int 11] ∧ SqL K H a (ns.map V.int) ∧ ns.length ≤ 1000 ∧ ∀ p ms H', H p = none → Ex H H' → H' p = some (.lst (List.map V.int ms)) → 1 ≤ ms.length → ms.length ≤ 11 → Q (.ref p) H'
theorem ok_folded {f : Addr} {fd : FuncData} {k : Nat} (F : Fun K "_law_folded" "_law_folded" sFolded f fd) (ms : mg "sum" = none) (mr : mg "range" = none) (mx : mg "max" = none) (mn : mg "min" = none) (ml : mg "len" = none) : FnOk P w K mg base CX0 (k + 1) f fd ["_law_script", "_law_most"] (spFolded K) := by
  refine F.ok scFolded (fun vs H Q E h => ?_) (fun cdv A outer s H vs Q E hr h => ?_)
  · obtain ⟨_, _, rfl, _⟩ := h
    rfl
  · obtain ⟨a, ns, rfl, ha, hl, q⟩ := h
    have nd := scFolded.nd
    refine ⟨_, pss_one (ps_ret (pe_lc (own := [("_law_k", 2)]) (g := gName 2) rfl nd (pi_range1 (by rfl) mr (pa_cons (pe_callB (call_max2 rfl) (by rfl) mx (by decide +kernel) (pa_cons pe_int (pa_cons (pe_callB (call_min2 rfl) (by rfl) mn (by decide +kernel) (pa_cons (pv 1) (pa_cons (pe_callB call_len_seq (by rfl) ml PySem.boot_len (pa_cons (pv 0) pa_nil)) pa_nil))) pa_nil))) pa_nil))
        (blkOk_by (own := [("_law_k", 2)]) (N := nFolded) (sc := defScope sFolded) (by decide +kernel))
        (fun _ _ _ _ _ => pg_name (i := 2) nd rfl (.inl rfl) (.inr rfl)) (fun _ _ _ _ _ => pts_nil)
        (fun _ _ _ _ _ => pe_callB (cr_sumK (K := K) rfl) (by rfl) ms (by decide +kernel) (pa_cons (pe_slice3K (K := K) (pv 0) (po_some (pv 2)) (po_some pe_int) (po_some (pv 1))) pa_nil)))), ?_⟩
    have hlen : Ev (tCB (rLenS K) (tCons (tVar 0) tNil)) (L2.start nFolded [V.ref a, V.int 11]) H (.int (ns.length : Int)) := ev_is (ev_lenQ (K := K) (ev_var rfl) (sqk_l ha)) (by rw [List.length_map])
    unfold tRet
    have hn : Ev (tCB rMax2 (tCons (tC (.int 1)) (tCons (tCB (fun xs H Q => ∃ i j, xs = [V.int i, V.int j] ∧ Q (V.int (if j < i then j else i)) H) (tCons (tVar 1) (tCons (tCB (rLenS K) (tCons (tVar 0) tNil)) tNil))) tNil))) (L2.start nFolded [V.ref a, V.int 11]) H (.int (if (if (ns.length : Int) < 11 then (ns.length : Int) else 11) > 1 then (if (ns.length : Int) < 11 then (ns.length : Int) else 11) else 1)) :=
      ev_max2 ev_c (ev_cb (vs := [.int 11, .int (ns.length : Int)]) (ea_cons (ev_var rfl) (ea_cons hlen ea_nil)) fun H1 e1 Q1 q1 => ⟨11, _, rfl, q1 H1 (Ex.refl H1)⟩)
    generalize hz : (if (if (ns.length : Int) < 11 then (ns.length : Int) else 11) > 1 then (if (ns.length : Int) < 11 then (ns.length : Int) else 11) else 1) = n at hn
    have hn1 : 1 ≤ n ∧ n ≤ 11 := by
      rw [← hz]
      split <;> split <;> omega
    refine tlc_range (ea_cons hn ea_nil) (by omega) (wipe1 (by decide)) (fun D i H' => ∃ (zs : List Int), zs.length = i ∧ H D = none ∧ Ex H H' ∧ H' D = some (.lst (zs.map V.int))) (fun D H1 hD e1 => ⟨[], rfl, fresh_back e1 hD, Ex.mut e1 (fresh_back e1 hD), upd_same⟩) (fun D i H' hi p => ?_) (fun D H' p => ?_)
    · obtain ⟨zs, hzl, hD, e2, h2⟩ := p
      refine ⟨_, rfl, _, rfl, _, rfl, 63, rfl, _, rfl, 11, rfl, a, ns, rfl, by decide, ex_l e2 ha, fun p ms hp => ⟨p, ms, rfl, sq_of upd_same, ?_⟩⟩
      have hpD : D ≠ p := fun z => by
        rw [← z, h2] at hp
        cases hp
      have h3 : (upd H' p (.lst (ms.map V.int))) D = some (.lst (zs.map V.int)) := by
        rw [upd_ne hpD]
        exact h2
      refine ⟨zs.map V.int, h3, sz_lt (by rw [List.length_map]; omega), zs ++ [ms.sum], by rw [List.length_append, hzl]; rfl, hD, Ex.mut (e2.trans (Ex.new hp)) hD, ?_⟩
      rw [upd_same, List.map_append]
      rfl
    · obtain ⟨zs, hzl, hD, e2, h2⟩ := p
      exact q D zs H' hD e2 h2 (by omega) (by omega)
end
end K39
namespace K39
open PySem PySem.Spec PyProof.Rows L2 Evl
theorem mul_ok {u v : List Int} (hu : SmL u) (hv : SmL v) (k : Nat) (p q : Int) (h1 : u[k]? = some p) (h2 : v[k]? = some q) : IntMulOk p q := (hu _ (List.mem_of_getElem? h1)).mul (hv _ (List.mem_of_getElem? h2))
theorem mat_get {M : Mat} {i : Nat} (hi : i < M.length) : rowAt M i ∈ M := List.mem_of_getElem? (rowAt_get hi)
section
variable {K : PySem.W.Frag} {σ : L2.St} {H H' : Hp} {tl : TE} {D : Ends} {tu tz : TS} {g : TG}
theorem q_forEG {a : Addr} {k : Bool} {xs : List V} {j1 j2 : Nat} (h : Ev tl σ H (.ref a)) (hx : SqK K k H a xs) (Pv : Nat → L2.St → Hp → Prop) (h0 : ∀ H1, Ex H H1 → Pv 0 σ H1) (hl : ∀ i σ' H', Pv i σ' H' → SqK K k H' a xs)
    (hs : ∀ (i : Nat) (x : V) (T : Addr) σ' H', xs[i]? = some x → Pv i σ' H' → H' T = none → tu { D with nx := Pv (i + 1), ct := Pv (i + 1), bk := tz D } ((σ'.set j1 (some (.int (i : Int)))).set j2 (some x)) (upd H' T (.tup [.int (i : Int), x]))) (hd : ∀ σ' H', Pv xs.length σ' H' → tz D σ' H') :
    tSeq (tFor (iEnumG K (tCons tl tNil)) (gTup K 2 (gCons (gName j1) (gCons (gName j2) gNil))) tu) tz D σ H := s_forEG (D := { D with nx := tz D }) h hx Pv h0 hl hs hd
theorem q_forNT {xs : List V} (h : EvU tl σ H xs) (Pv : Addr → Nat → L2.St → Hp → Prop) (h0 : ∀ p H1, H p = none → Ex H H1 → H1 p = some (.tup xs) → Pv p 0 σ H1) (hl : ∀ p i σ' H', i ≤ xs.length → Pv p i σ' H' → SqT K H' p xs)
    (hs : ∀ p i x σ' H', xs[i]? = some x → Pv p i σ' H' → g x σ' H' fun σ2 H2 => tu { D with nx := Pv p (i + 1), ct := Pv p (i + 1), bk := tz D } σ2 H2) (hd : ∀ p σ' H', Pv p xs.length σ' H' → tz D σ' H') : tSeq (tFor (iTup K tl) g tu) tz D σ H := s_forNT (D := { D with nx := tz D }) h Pv h0 hl hs hd
end
section
variable {P : Program} {w : World} {K : PySem.W.Frag} {mg : Str → Option Value} {base : Heap}
def spBase (K : PySem.W.Frag) : Sp := fun vs H Q _ => ∃ (r p : Addr) (wd : Nat) (rows : List (List Int)) (B : Bas), vs = [.ref r, .ref p, .int (wd : Int)] ∧ RowsL K H r rows ∧ rows.length ≤ 1000 ∧ BaseAt H p B ∧ Sees wd rows B ∧ RetV (.bl true) H Q
set_option maxHeartbeats 1000000 in
theorem ok_base {f fN fD : Addr} {fd fdN fdD : FuncData} (F : Fun K "_law_base" "_law_base" sBase f fd) (GN : FnOk P w K mg base CX0 2 fN fdN ["_law_thing", "_law_many"] (spNumbers K)) (gN : mg "_law_numbers" = some (.ref fN)) (kN : PySem.W.keepIn K (.ref fN) = true) (bN : Binds K fdN ["_law_thing", "_law_many"] [])
    (GD : FnOk P w K mg base CX0 1 fD fdD ["_law_one", "_law_other"] (spDot K)) (gD : mg "_law_dot" = some (.ref fD)) (kD : PySem.W.keepIn K (.ref fD) = true) (bD : Binds K fdD ["_law_one", "_law_other"] [])
    (mi : mg "isinstance" = none) (mt : mg "tuple" = none) (mls : mg "list" = none) (ml : mg "len" = none) (ma : mg "all" = none) (my : mg "any" = none) (me : mg "enumerate" = none) (mr : mg "range" = none) (mn : mg "int" = none) : FnOk P w K mg base CX0 3 f fd ["_law_rows_here", "_law_found", "_law_wide"] (spBase K) := by
  refine F.ok scBase (fun vs H Q E h => ?_) (fun cdv A outer s H vs Q E hr h => ?_)
  · obtain ⟨_, _, _, _, _, rfl, _⟩ := h
    rfl
  · obtain ⟨r, p, wd, rows, B, rfl, hR, hrl, hB, S, q⟩ := h
    have nd := scBase.nd
    have hr1 := hr.mono (j := 1) (by decide)
    refine ⟨_, pss_cons (ps_if (PW.pt (pw_or (pt_not (pt_val (pe_callB (cr_isi (K := K)) (by rfl) mi (by decide +kernel) (pa_cons (pv 1) (pa_cons (pe_bltn (v := .ty "tuple") (u := .type "tuple") (by rfl) mt (by decide +kernel) rfl) pa_nil)))))
        (pw_or (pt_cmpR op_ne (pe_callB call_len_seq (by rfl) ml PySem.boot_len (pa_cons (pv 1) pa_nil)) pe_int (nomark _)) (pw_or1 (pt_cmpR op_ne (pe_ix (ixT (K := K)) (pv 1) pe_int (fun _ _ => rfl)) pe_str (nomark _)))))) pss_never pss_nil)
      (pss_cons (ps_if (PW.pt (pw_or (PW.pt (pw_and (pt_not (pt_val (pe_callB (cr_isi (K := K)) (by rfl) mi (by decide +kernel) (pa_cons (pe_ix (ixT (K := K)) (pv 1) pe_int (fun _ _ => rfl)) (pa_cons (pe_bltn (v := .ty "tuple") (u := .type "tuple") (by rfl) mt (by decide +kernel) rfl) pa_nil)))))
          (pw_and1 (pt_not (pt_val (pe_callB (cr_isi (K := K)) (by rfl) mi (by decide +kernel) (pa_cons (pe_ix (ixT (K := K)) (pv 1) pe_int (fun _ _ => rfl)) (pa_cons (pe_bltn (v := .ty "list") (u := .type "list") (by rfl) mls (by decide +kernel) rfl) pa_nil))))))))
          (pw_or1 (pt_not (pt_val (pe_call GN hr (by rfl) gN kN bN .nil pass0 (pa_cons (pe_callTy (cr_tuple (K := K)) (by rfl) mt (by decide +kernel) (pa_cons (pe_ix (ixT (K := K)) (pv 1) pe_int (fun _ _ => rfl)) pa_nil)) (pa_cons (pv 2) pa_nil)))))))) pss_never pss_nil)
      (pss_cons (ps_for PassesOwn.never rfl (pi_tup (pe_tup (pa_cons (pe_ix (ixT (K := K)) (pv 1) pe_int (fun _ _ => rfl)) (pa_cons (pe_ix (ixT (K := K)) (pv 1) pe_int (fun _ _ => rfl)) pa_nil)))) (pg_name (i := 3) nd rfl (.inl rfl))
        (pss_one (ps_if (PW.pt (pw_or (pt_not (pt_val (pe_callB (cr_isi (K := K)) (by rfl) mi (by decide +kernel) (pa_cons (pv 3) (pa_cons (pe_bltn (v := .ty "tuple") (u := .type "tuple") (by rfl) mt (by decide +kernel) rfl) pa_nil)))))
          (pw_or1 (pt_not (pt_val (pe_callB (cr_all rfl) (by rfl) ma (by decide +kernel) (pa_cons (pe_lc (own := [("_law_move", 7)]) (g := gName 7) rfl nd (pi_tup (pv 3)) (blkOk_by (own := [("_law_move", 7)]) (N := nBase) (sc := defScope sBase) (by decide +kernel))
            (fun _ _ _ _ _ => pg_name (i := 7) nd rfl (.inl rfl) (.inr rfl)) (fun _ _ _ _ _ => pts_nil) (fun _ _ _ _ _ => pe_call GN hr (by rfl) gN kN bN .nil pass0 (pa_cons (pv 7) (pa_cons (pv 2) pa_nil)))) pa_nil))))))) pss_never pss_nil)))
      (pss_cons (ps_if (pt_cmpR op_ne (pe_callB call_len_seq (by rfl) ml PySem.boot_len (pa_cons (pe_ix (ixT (K := K)) (pv 1) pe_int (fun _ _ => rfl)) pa_nil)) (pe_callB call_len_seq (by rfl) ml PySem.boot_len (pa_cons (pe_ix (ixT (K := K)) (pv 1) pe_int (fun _ _ => rfl)) pa_nil)) (nomark _)) pss_never pss_nil)
      (pss_cons (ps_for PassesOwn.never rfl (pi_list (pv 0)) (pg_name (i := 4) nd rfl (.inr rfl))
        (pss_cons (ps_if (pt_cmpR op_ne (pe_op op_add (pe_ix (ixL (K := K)) (pv 4) pe_int (fun _ _ => rfl)) (pe_call GD hr1 (by rfl) gD kD bD .nil pass0 (pa_cons (pe_slice (sl_listK (K := K)) (pv 4) (po_some pe_int) po_none) (pa_cons (pe_ix (ixT (K := K)) (pv 1) pe_int (fun _ _ => rfl)) pa_nil)))) pe_int (nomark _)) pss_never pss_nil)
        (pss_one (ps_if (pt_val (pe_callB (cr_any rfl) (by rfl) my (by decide +kernel) (pa_cons (pe_lc (own := [("_law_move", 7)]) (g := gName 7) rfl nd (pi_tup (pe_ix (ixT (K := K)) (pv 1) pe_int (fun _ _ => rfl))) (blkOk_by (own := [("_law_move", 7)]) (N := nBase) (sc := defScope sBase) (by decide +kernel))
            (fun _ _ _ _ _ => pg_name (i := 7) nd rfl (.inl rfl) (.inr rfl)) (fun _ _ _ _ _ => pts_nil) (fun _ _ _ _ _ => pe_cmpR op_ne (pe_call GD hr1 (by rfl) gD kD bD .nil pass0 (pa_cons (pe_slice (sl_listK (K := K)) (pv 4) (po_some pe_int) po_none) (pa_cons (pv 7) pa_nil))) pe_int (nomark _))) pa_nil))) pss_never pss_nil))))
      (pss_cons (ps_for PassesOwn.never rfl (pi_enumG (by rfl) me (pa_cons (pe_ix (ixT (K := K)) (pv 1) pe_int (fun _ _ => rfl)) pa_nil)) (pg_tup rfl (pgs_cons (pg_name (i := 5) nd rfl (.inr rfl)) (pgs_cons (pg_name (i := 6) nd rfl (.inr rfl)) pgs_nil)))
        (pss_one (ps_if (pt_cmpR (op_neD hr.units)
            (pe_lc (own := [("_law_move", 7)]) (g := gName 7) rfl nd (pi_tup (pe_ix (ixT (K := K)) (pv 1) pe_int (fun _ _ => rfl))) (blkOk_by (own := [("_law_move", 7)]) (N := nBase) (sc := defScope sBase) (by decide +kernel))
              (fun _ _ _ _ _ => pg_name (i := 7) nd rfl (.inl rfl) (.inr rfl)) (fun _ _ _ _ _ => pts_nil) (fun _ _ _ _ _ => pe_call GD hr1 (by rfl) gD kD bD .nil pass0 (pa_cons (pv 6) (pa_cons (pv 7) pa_nil))))
            (pe_lc (own := [("_law_k", 8)]) (g := gName 8) rfl nd (pi_range1 (by rfl) mr (pa_cons (pe_callB call_len_seq (by rfl) ml PySem.boot_len (pa_cons (pe_ix (ixT (K := K)) (pv 1) pe_int (fun _ _ => rfl)) pa_nil)) pa_nil)) (blkOk_by (own := [("_law_k", 8)]) (N := nBase) (sc := defScope sBase) (by decide +kernel))
              (fun _ _ _ _ _ => pg_name (i := 8) nd rfl (.inl rfl) (.inr rfl)) (fun _ _ _ _ _ => pts_nil) (fun _ _ _ _ _ => pe_callTy cr_int (by rfl) mn (by decide +kernel) (pa_cons (pe_cmpR op_eq (pv 8) (pv 5) (nomark _)) pa_nil))) (nomark _)) pss_never pss_nil)))
      (pss_one (ps_ret pe_bl))))))), ?_⟩
    obtain ⟨qa, m, rd, ms, rs, hp, hq, hm, hrd, hms, hrs⟩ := hB
    obtain ⟨ras, hras, hral, hrow⟩ := hR
    have ix : ∀ (j : Nat) (x : V) (σ : L2.St) (H1 : Hp), Ex H H1 → σ[1]? = some (some (.ref p)) → ([V.str "base", .ref qa, .ref m, .ref rd])[j]? = some x → Ev (tOp (rIxT K) (tVar 1) (tC (.int (j : Int)))) σ H1 x := fun j x σ H1 e g hj => ev_ixT (ev_var g) ev_c (st_of (e _ _ hp)) (atI_nat hj)
    -- a tuple of four, a base
    refine q_when (b := false) (et_or (a := false) (b := false) (et_not (a := true) (et_B (ev_isi (K := K) (ev_var rfl) ev_c (ty_tup hp) (by decide +kernel)))) fun _ => et_or (a := false) (b := false) (et_test (ev_is (ev_op (ev_lenQ (K := K) (ev_var rfl) (sqk_t (st_of hp))) ev_c (rv_ne rfl)) (by rfl))) fun _ => et_test (ev_is (ev_op (ix 0 _ _ _ (Ex.refl H) rfl rfl) ev_c (rv_ne rfl)) (by rfl))) (fun z => by cases z) fun _ H1 e1 => ?_
    -- the point
    refine q_when (b := false) (et_or (a := false) (b := false) (et_and (a := false) (b := false) (et_not (a := true) (et_B (ev_isi (K := K) (ix 1 _ _ _ e1 rfl rfl) ev_c (ty_tup (e1 _ _ hq)) (by decide +kernel)))) fun z => by cases z) fun _ => et_not (a := true) (et_B (ev_call (vs := [.ref qa, .int (wd : Int)]) (ea_cons (fun H0 e0 Q0 q0 => ix 1 (.ref qa) _ _ e1 rfl rfl H0 e0 _ fun H2 e2 => ⟨qa, _, rfl, .inr ⟨ex_t ((e1.trans e0).trans e2) (st_of hq), q0 H2 e2⟩⟩) (ea_cons (ev_var rfl) ea_nil)) fun H2 e2 Q2 q2 E2 => ⟨qa, B.point, by rw [S.pl]; rfl, e2 _ _ (e1 _ _ hq), by rw [S.pl]; exact S.wl, q2⟩))) (fun z => by cases z) fun _ H2 e2 => ?_
    have e12 := e1.trans e2
    -- the moves and the reads
    refine q_forNT (xs := [.ref m, .ref rd]) (eu_tup (ea_cons (ix 2 _ _ _ e12 rfl rfl) (ea_cons (ix 3 _ _ _ e12 rfl rfl) ea_nil)) (by show 2 ≤ 100000; decide)) (fun t i σ' H' => ∃ y3, σ' = [some (.ref r), some (.ref p), some (.int (wd : Int)), y3, none, none, none, none, none] ∧ Ex H H' ∧ H' t = some (.tup [.ref m, .ref rd])) (fun t H3 ht e3 h3 => ⟨none, rfl, e12.trans e3, h3⟩) (fun t i σ' H' _ pz => st_of pz.choose_spec.2.2) (fun t i x σ' H' hx pz => ?_) fun t σ' H' pz => ?_
    · obtain ⟨y3, rfl, e, ht⟩ := pz
      obtain ⟨g, gs, M, rfl, hg, hgs, hM⟩ : ∃ g gs M, x = V.ref g ∧ H g = some (.tup (List.map V.ref gs)) ∧ TupsAt H gs M ∧ (∀ a ∈ M, a.length = wd) ∧ M.length ≤ 1000 := by
        match i, hx with
        | 0, hx =>
          obtain rfl := Option.some.inj hx
          exact ⟨m, ms, B.moves, rfl, hm, hms, S.ml, S.lw⟩
        | 1, hx =>
          obtain rfl := Option.some.inj hx
          exact ⟨rd, rs, B.reads, rfl, hrd, hrs, S.rl, by rw [S.len]; exact S.lw⟩
        | n + 2, hx => cases hx
      refine s_when (b := false) (et_or (a := false) (b := false) (et_not (a := true) (et_B (ev_isi (K := K) (ev_var rfl) ev_c (ty_tup (e _ _ hg)) (by decide +kernel)))) fun _ => et_not (a := true) (et_B (ev_is (ev_all (K := K) (bs := List.replicate gs.length true) (el_is (el_lcT (K := K) (xs := gs.map V.ref) (fun _ => .bl true) (ev_var rfl) (st_of (e _ _ hg)) (by rw [List.length_map, hgs.1]; omega) (wipe1 (by decide)) (fun i x H1 e1 hx => ?_)) ?_)) (by rw [all_true])))) (fun z => by cases z) fun _ H3 e3 => ⟨_, rfl, e.trans e3, e3 _ _ ht⟩
      · obtain ⟨a, rfl, ha, hmi⟩ := tups_get hgs hx
        have hal := hM.1 _ (List.mem_of_getElem? hmi)
        exact ev_call (ea_cons (ev_var rfl) (ea_cons (ev_var rfl) ea_nil)) fun H2 e2 Q2 q2 E2 => ⟨a, rowAt M i, by rw [hal]; rfl, e2 _ _ (e1 _ _ (e _ _ ha)), by rw [hal]; exact S.wl, q2⟩
      · rw [map_rep, List.length_range, List.length_map, List.map_replicate]
    · obtain ⟨y3, rfl, e3, _⟩ := pz
      -- as many of both
      refine q_when (b := false) (et_test (ev_is (ev_op (ev_lenQ (K := K) (ix 2 _ _ _ e3 rfl rfl) (sqk_t (st_of (e3 _ _ hm)))) (ev_lenQ (K := K) (ix 3 _ _ _ e3 rfl rfl) (sqk_t (st_of (e3 _ _ hrd)))) (rv_ne rfl)) (by rw [List.length_map, List.length_map, hms.1, hrs.1, S.len]; simp))) (fun z => by cases z) fun _ H4 e4 => ?_
      have e34 := e3.trans e4
      -- the rows
      refine q_forL (K := K) (xs := ras.map V.ref) (ev_var rfl) (ex_l e34 hras) (fun i σ' H' => ∃ y4, σ' = [some (.ref r), some (.ref p), some (.int (wd : Int)), y3, y4, none, none, none, none] ∧ Ex H H') (fun H5 e5 => ⟨none, rfl, e34.trans e5⟩) (fun i σ' H' _ pz => ex_l pz.choose_spec.2 hras) (fun i x σ' H' hx pz => ?_) fun σ' H' pz => ?_
      · obtain ⟨y4, rfl, e⟩ := pz
        rw [List.getElem?_map] at hx
        obtain ⟨ra, hra, rfl⟩ := Option.map_eq_some_iff.mp hx
        have hi : i < rows.length := by
          have := (List.getElem?_eq_some_iff.mp hra).1
          omega
        have hrw := hrow i ra hra
        obtain ⟨c, co, hcc, hcl, hcs, hc0, hcm⟩ := S.row _ (List.mem_of_getElem? (show rows[i]? = some (rowAt rows i) from rowAt_get hi))
        rw [hcc] at hrw
        refine q_when (b := false) (et_test (ev_is (ev_op (ev_op (ev_ixL (ev_var rfl) ev_c (ex_l e hrw) (atI_nat (j := 0) rfl)) (ev_dotL (K := K) (kb := true) (ms := B.point) (el_tail (ev_var rfl) (ex_l e hrw)) (ix 1 _ _ _ e rfl rfl) (sqk_t (st_of (e _ _ hq))) (by omega) (mul_ok hcs S.sp)) rv_I0) ev_c (rv_ne rfl)) (by rw [hc0]; rfl))) (fun z => by cases z) fun _ H5 e5 => ?_
        have e' := e.trans e5
        refine s_when (b := false) (et_B (ev_is (ev_any (K := K) (bs := List.replicate ms.length false) (el_is (el_lcT (K := K) (xs := ms.map V.ref) (fun _ => .bl false) (ix 2 _ _ _ e' rfl rfl) (st_of (e' _ _ hm)) (by rw [List.length_map, hms.1]; have := S.lw; omega) (wipe1 (by decide)) (fun j x H1 e1 hx => ?_)) ?_)) ?_)) (fun z => by cases z) fun _ H3 e3 => ⟨_, rfl, e'.trans e3⟩
        · obtain ⟨a, rfl, ha, hmi⟩ := tups_get hms hx
          have hmem := List.mem_of_getElem? hmi
          exact ev_is (ev_op (ev_dotL (K := K) (kb := true) (ms := rowAt B.moves j) (el_tail (ev_var rfl) (ex_l (e'.trans e1) hrw)) (ev_var rfl) (sqk_t (st_of (e1 _ _ (e' _ _ ha)))) (by omega) (mul_ok hcs (S.sm _ hmem))) ev_c (rv_ne rfl)) (by rw [hcm _ hmem]; rfl)
        · rw [map_rep, List.length_range, List.length_map, List.map_replicate]
        · congr 1
          rw [List.any_eq_false]
          intro b hb
          rw [List.eq_of_mem_replicate hb]
          decide
      · obtain ⟨y4, rfl, e5⟩ := pz
        -- each read with each move
        refine q_forEG (K := K) (k := true) (xs := rs.map V.ref) (ix 3 _ _ _ e5 rfl rfl) (st_of (e5 _ _ hrd)) (fun i σ' H' => ∃ y5 y6, σ' = [some (.ref r), some (.ref p), some (.int (wd : Int)), y3, y4, y5, y6, none, none] ∧ Ex H H') (fun H6 e6 => ⟨none, none, rfl, e5.trans e6⟩) (fun i σ' H' pz => st_of (pz.choose_spec.choose_spec.2 _ _ hrd)) (fun i x T σ' H' hx pz hT => ?_) fun σ' H' pz => ?_
        · obtain ⟨y5, y6, rfl, e6⟩ := pz
          obtain ⟨ra, rfl, hra, hri⟩ := tups_get hrs hx
          have hrm := List.mem_of_getElem? hri
          have hil : i < B.moves.length := by
            have := (List.getElem?_eq_some_iff.mp hri).1
            rw [S.len] at this
            exact this
          have e7 : Ex H (upd H' T (.tup [.int (i : Int), .ref ra])) := e6.trans (Ex.new hT)
          refine norm_st (σ' := ?sq1) ?nq1 ?_; (case nq1 => simp only [List.set_cons_zero, List.set_cons_succ]; rfl)
          have hlm := S.lw
          refine s_when (b := false) (et_test (ev_opLL (xs := ((List.range ms.length).map fun (j : Nat) => if j = i then (1 : Int) else 0).map V.int) (ys := ((List.range ms.length).map fun (j : Nat) => if j = i then (1 : Int) else 0).map V.int)
            (el_is (el_lcT (K := K) (xs := ms.map V.ref) (fun j => .int (if j = i then 1 else 0)) (ix 2 _ _ _ e7 rfl rfl) (st_of (e7 _ _ hm)) (by rw [List.length_map, hms.1]; omega) (wipe1 (by decide)) (fun j x H1 e1 hx => ?_)) ?_)
            (el_is (el_lcR1 (n := (ms.length : Int)) (fun _ => true) (fun j => .int (if j = i then 1 else 0)) (ea_cons (ev_is (ev_lenQ (K := K) (ix 2 _ _ _ e7 rfl rfl) (sqk_t (st_of (e7 _ _ hm)))) (by rw [List.length_map])) ea_nil) (by rw [hms.1]; omega) (wipe1 (by decide)) (fun j H2 _ _ => et_yes) (fun j H2 _ _ _ => ?_)) ?_)
            (fun a b H1 h1 h2 e => rv_neD (d := dL ((List.range ms.length).map fun (j : Nat) => if j = i then (1 : Int) else 0)) (fun H2 e2 => dp_L (sq_of (e2 _ _ h1))) (fun H2 e2 => dp_L (sq_of (e2 _ _ h2))) (lay_dL _) (by have := dep_dL ((List.range ms.length).map fun (j : Nat) => if j = i then (1 : Int) else 0); omega)))) (fun z => by cases z) fun _ H8 e8 => ⟨_, _, rfl, e7.trans e8⟩
          · obtain ⟨a, rfl, ha, hmi⟩ := tups_get hms hx
            have hmem := List.mem_of_getElem? hmi
            have hjl := (List.getElem?_eq_some_iff.mp hmi).1
            have hwl := S.wl
            exact ev_is (ev_dot (K := K) (ka := true) (kb := true) (ns := rowAt B.reads i) (ms := rowAt B.moves j) (ev_var rfl) (ev_var rfl) (sqk_t (st_of (e1 _ _ (e7 _ _ hra)))) (sqk_t (st_of (e1 _ _ (e7 _ _ ha)))) (by rw [S.rl _ hrm]; omega) (mul_ok (S.sr _ hrm) (S.sm _ hmem))) (by rw [S.dl i j hil hjl])
          · rw [List.length_map, List.map_map]
            rfl
          · have e2 : (V.int (if j = i then 1 else 0)) = V.int (if decide (j = i) = true then 1 else 0) := by
              by_cases h : j = i <;> simp [h]
            rw [e2]
            exact ev_int (ev_is (ev_op (ev_var rfl) (ev_var rfl) (rv_eq rfl)) (by rw [dec_int_eq]))
          · rw [given_all, Int.toNat_natCast, List.map_map]
            rfl
        · obtain ⟨y5, y6, rfl, e6⟩ := pz
          exact s_ret ev_c fun H7 e7 => q H7 (e6.trans e7)
end
end K39
namespace K39
open PySem PySem.Spec PyProof.Rows L2 Evl
section
variable {K : PySem.W.Frag} {σ : L2.St} {H H' : Hp} {ta tb te tl : TE} {vs : List Nat}
theorem number_ev {ta : TA} {p : Addr} {sz n : Nat} {Q : VK} (h : EvA ta σ H [.ref p, .int (sz : Int)]) (hs : sz ≤ 2) (hp : PoolAt (n + 4) H p) (k : ∀ (v : Int) H', v.natAbs < 10 ^ (1 + 6 * sz) → ExB p H H' → PoolAt n H' p → Q (.int v) H') : tCall spNumber [] E0 ta σ H Q :=
  h H (Ex.refl H) _ fun H1 e1 => ⟨p, sz, n, rfl, hs, hp.ex e1, fun v H' a c d => k v H' a ((ExB.of e1).trans c) d⟩
/-- a list of numbers out of a pool -/
theorem tlc_nums {tr : TA} {p : Addr} {n m j B : Nat} {Q : VK} (h : EvA tr σ H [.int (m : Int)]) (hm : m ≤ 1000) (hw : ∀ x, wipe ((wipe σ vs).set j (some x)) vs = wipe σ vs) (hp : PoolAt (n + 4 * m) H p)
    (he : ∀ (i : Nat) H1 N (Q1 : VK), ExB p H H1 → PoolAt (N + 4) H1 p → (∀ (v : Int) H2, v.natAbs ≤ B → ExB p H1 H2 → PoolAt N H2 p → Q1 (.int v) H2) → te ((wipe σ vs).set j (some (.int (i : Int)))) H1 Q1)
    (hd : ∀ D zs H', zs.length = m → (∀ z ∈ zs, z.natAbs ≤ B) → H D = none → D ≠ p → ExB p H H' → PoolAt n H' p → H' D = some (.lst (List.map V.int zs)) → Q (.ref D) H') : tLc (iRng1 tr) (gName j) tYes te vs σ H Q := by
  refine tlc_range h (by omega) hw (fun D i H' => ∃ zs : List Int, zs.length = i ∧ i ≤ m ∧ (∀ z ∈ zs, z.natAbs ≤ B) ∧ H D = none ∧ D ≠ p ∧ ExB p H H' ∧ PoolAt (n + 4 * (m - i)) H' p ∧ H' D = some (.lst (zs.map V.int))) (fun D H1 hD e1 => ?_) (fun D i H' hi pz => ?_) fun D H' pz => ?_
  · have hDp : D ≠ p := fun z => (hp.ex e1).some (z ▸ hD)
    refine ⟨[], rfl, by omega, fun z hz => (by cases hz), fresh_back e1 hD, hDp, (ExB.of e1).trans (ExB.of (Ex.new hD)), (hp.ex e1).ex (Ex.new hD), upd_same⟩
  · obtain ⟨zs, h1, h2, h3, h4, h5, h6, h7, h8⟩ := pz
    have hi : i < m := by omega
    refine he i H' (n + 4 * (m - (i + 1))) _ h6 (h7.le (by omega)) fun v H2 hv e2 p2 => ⟨zs.map V.int, e2 D _ h5 h8, sz_lt (by rw [List.length_map]; omega), zs ++ [v], by rw [List.length_append, h1]; rfl, hi, fun z hz => ?_, h4, h5, fun a u ha hu => ?_, ?_, ?_⟩
    · rcases List.mem_append.mp hz with hz | hz
      · exact h3 z hz
      · rw [List.mem_singleton.mp hz]
        exact hv
    · have haD : a ≠ D := fun z => by
        rw [z, h4] at hu
        cases hu
      rw [upd_ne haD]
      exact e2 a u ha (h6 a u ha hu)
    · obtain ⟨a, b, c, q1, q2⟩ := p2
      exact ⟨a, b, c, by rw [upd_ne (Ne.symm h5)]; exact q1, q2⟩
    · rw [upd_same, List.map_append]
      rfl
  · obtain ⟨zs, h1, h2, h3, h4, h5, h6, h7, h8⟩ := pz
    rw [Int.toNat_natCast] at h1 h7
    exact hd D zs H' h1 h3 h4 h5 h6 (h7.le (by omega)) h8
/-- the same, along a list of ints -/
theorem tlc_numsL {a : Addr} {p : Addr} {ts : List Int} {n j B : Nat} {Q : VK} (h : Ev tl σ H (.ref a)) (ha : H a = some (.lst (ts.map V.int))) (hap : a ≠ p) (hm : ts.length ≤ 1000) (hw : ∀ x, wipe ((wipe σ vs).set j (some x)) vs = wipe σ vs) (hp : PoolAt (n + 4 * ts.length) H p)
    (he : ∀ (t : Int) H1 N (Q1 : VK), t ∈ ts → ExB p H H1 → PoolAt (N + 4) H1 p → (∀ (v : Int) H2, v.natAbs ≤ B → ExB p H1 H2 → PoolAt N H2 p → Q1 (.int v) H2) → te ((wipe σ vs).set j (some (.int t))) H1 Q1)
    (hd : ∀ D zs H', zs.length = ts.length → (∀ z ∈ zs, z.natAbs ≤ B) → H D = none → D ≠ p → ExB p H H' → PoolAt n H' p → H' D = some (.lst (List.map V.int zs)) → Q (.ref D) H') : tLc (iList K tl) (gName j) tYes te vs σ H Q := by
  refine tlc_list (xs := ts.map V.int) h (sq_of ha) (by rw [List.length_map]; omega) hw (fun D i H' => ∃ zs : List Int, zs.length = i ∧ (∀ z ∈ zs, z.natAbs ≤ B) ∧ H D = none ∧ D ≠ p ∧ ExB p H H' ∧ PoolAt (n + 4 * (ts.length - i)) H' p ∧ H' D = some (.lst (zs.map V.int))) (fun D H1 hD e1 => ?_) (fun D i H' pz => ?_) (fun D i x H' hx pz => ?_) fun D H' pz => ?_
  · have hDp : D ≠ p := fun z => (hp.ex e1).some (z ▸ hD)
    refine ⟨[], rfl, fun z hz => (by cases hz), fresh_back e1 hD, hDp, (ExB.of e1).trans (ExB.of (Ex.new hD)), (hp.ex e1).ex (Ex.new hD), upd_same⟩
  · obtain ⟨zs, h1, h3, h4, h5, h6, h7, h8⟩ := pz
    exact sq_of (h6 a _ hap ha)
  · obtain ⟨zs, h1, h3, h4, h5, h6, h7, h8⟩ := pz
    rw [List.getElem?_map] at hx
    obtain ⟨t, ht, rfl⟩ := Option.map_eq_some_iff.mp hx
    have hi : i < ts.length := (List.getElem?_eq_some_iff.mp ht).1
    refine he t H' (n + 4 * (ts.length - (i + 1))) _ (List.mem_of_getElem? ht) h6 (h7.le (by omega)) fun v H2 hv e2 p2 => ⟨zs.map V.int, e2 D _ h5 h8, sz_lt (by rw [List.length_map]; omega), zs ++ [v], by rw [List.length_append, h1]; rfl, fun z hz => ?_, h4, h5, fun b u hb hu => ?_, ?_, ?_⟩
    · rcases List.mem_append.mp hz with hz | hz
      · exact h3 z hz
      · rw [List.mem_singleton.mp hz]
        exact hv
    · have haD : b ≠ D := fun z => by
        rw [z, h4] at hu
        cases hu
      rw [upd_ne haD]
      exact e2 b u hb (h6 b u hb hu)
    · obtain ⟨a, b, c, q1, q2⟩ := p2
      exact ⟨a, b, c, by rw [upd_ne (Ne.symm h5)]; exact q1, q2⟩
    · rw [upd_same, List.map_append]
      rfl
  · obtain ⟨zs, h1, h3, h4, h5, h6, h7, h8⟩ := pz
    rw [List.length_map] at h1 h7
    exact hd D zs H' h1 h3 h4 h5 h6 (h7.le (by omega)) h8
end
abbrev sCoefs : Stmt := topS 26
abbrev nCoefs : List Str := ["_law_pool_here", "_law_rows_here", "_law_wide", "_law_size", "_law_way", "_law_often", "_law_at", "_law_coef"]
theorem scCoefs : FnScope nCoefs ["_law_pool_here", "_law_rows_here", "_law_wide", "_law_size"] (defScope sCoefs) := ⟨rfl, rfl, rfl, by decide +kernel, rfl, by decide +kernel, by decide +kernel⟩
/-- what coefs may be, told by the size and the rows ahead -/
def CoefOk (wd sz : Nat) (rows : List (List Int)) (co : List Int) : Prop := co.length = wd ∧ ((∀ x ∈ co, x.natAbs ≤ 12 * (10 ^ (1 + 6 * sz) - 1)) ∨ ∃ (j : Nat) (t : Int), j < rows.length ∧ t.natAbs ≤ 3 ∧ co = (rowAt rows j).tail.map fun x => t * x)
section
variable {P : Program} {w : World} {K : PySem.W.Frag} {mg : Str → Option Value} {base : Heap}
def spCoefs (K : PySem.W.Frag) : Sp := fun vs H Q _ => ∃ (p r : Addr) (wd sz n : Nat) (G : Hp) (rows : List (List Int)), vs = [.ref p, .ref r, .int (wd : Int), .int (sz : Int)] ∧ wd ≤ 1000 ∧ sz ≤ 2 ∧ PoolAt (n + (4 * wd + 3)) H p ∧ Ex G H ∧ G p = none ∧ RowsL K G r rows ∧ rows.length ≤ 1000 ∧ (∀ x ∈ rows, ∃ c co, x = c :: co ∧ co.length = wd) ∧
  ∀ l co H', H l = none → l ≠ p → ExB p H H' → PoolAt n H' p → H' l = some (.lst (List.map V.int co)) → CoefOk wd sz rows co → Q (.ref l) H'
theorem ok_coefs {f fT fN : Addr} {fd fdT fdN : FuncData} (F : Fun K "_law_coefs" "_law_coefs" sCoefs f fd) (GT : FnOk P w K mg base CX0 1 fT fdT ["_law_pool_here", "_law_many"] spTake) (gT : mg "_law_take" = some (.ref fT)) (kT : PySem.W.keepIn K (.ref fT) = true) (bT : Binds K fdT ["_law_pool_here", "_law_many"] [])
    (GN : FnOk P w K mg base CX0 2 fN fdN ["_law_pool_here", "_law_size"] spNumber) (gN : mg "_law_number" = some (.ref fN)) (kN : PySem.W.keepIn K (.ref fN) = true) (bN : Binds K fdN ["_law_pool_here", "_law_size"] [])
    (mr : mg "range" = none) (ml : mg "len" = none) (mn : mg "min" = none) : FnOk P w K mg base CX0 3 f fd ["_law_pool_here", "_law_rows_here", "_law_wide", "_law_size"] (spCoefs K) := by
  refine F.ok scCoefs (fun vs H Q E h => ?_) (fun cdv A outer s H vs Q E hr h => ?_)
  · obtain ⟨_, _, _, _, _, _, _, rfl, _⟩ := h
    rfl
  · obtain ⟨p, r, wd, sz, n, G, rows, rfl, hwd, hsz, hp, eG, Gp, hR, hrl, hrw, q⟩ := h
    have nd := scCoefs.nd
    have hr1 := hr.mono (j := 1) (by decide)
    have hr2 : Room 2 _ := hr
    refine ⟨_, pss_cons (ps_set (i := 4) nd rfl (.inl rfl) (pe_call GT hr1 (by rfl) gT kT bT .nil pass0 (pa_cons (pv 0) (pa_cons pe_int pa_nil))))
      (pss_cons (ps_if (pt_cmpR op_eq (pv 4) pe_int (nomark _)) (pss_one (ps_ret (pe_lc (own := [("_law_at", 6)]) (g := gName 6) rfl nd (pi_range1 (by rfl) mr (pa_cons (pv 2) pa_nil)) (blkOk_by (own := [("_law_at", 6)]) (N := nCoefs) (sc := defScope sCoefs) (by decide +kernel))
          (fun _ _ _ _ _ => pg_name (i := 6) nd rfl (.inl rfl) (.inr rfl)) (fun _ _ _ _ _ => pts_nil) (fun _ _ _ _ _ => pe_int)))) pss_nil)
      (pss_cons (ps_if (PW.pt (pw_and (pt_cmpR op_eq (pv 4) pe_int (nomark _)) (pw_and1 (pt_cmpR op_gt (pe_callB call_len_seq (by rfl) ml PySem.boot_len (pa_cons (pv 1) pa_nil)) pe_int (nomark _)))))
        (pss_cons (ps_set (i := 5) nd rfl (.inr rfl) (pe_op op_sub (pe_call GT hr1 (by rfl) gT kT bT .nil pass0 (pa_cons (pv 0) (pa_cons pe_int pa_nil))) pe_int))
        (pss_one (ps_ret (pe_lc (own := [("_law_coef", 7)]) (g := gName 7) rfl nd
          (pi_list (pe_slice (sl_listK (K := K)) (pe_ix (ixL (K := K)) (pv 1) (pe_call GT hr1 (by rfl) gT kT bT .nil pass0 (pa_cons (pv 0) (pa_cons (pe_callB (call_min2 rfl) (by rfl) mn (by decide +kernel) (pa_cons pe_int (pa_cons (pe_callB call_len_seq (by rfl) ml PySem.boot_len (pa_cons (pv 1) pa_nil)) pa_nil))) pa_nil))) (fun _ _ => rfl)) (po_some pe_int) po_none))
          (blkOk_by (own := [("_law_coef", 7)]) (N := nCoefs) (sc := defScope sCoefs) (by decide +kernel))
          (fun _ _ _ _ _ => pg_name (i := 7) nd rfl (.inl rfl) (.inr rfl)) (fun _ _ _ _ _ => pts_nil) (fun _ _ _ _ _ => pe_op op_mul (pv 5) (pv 7)))))) pss_nil)
      (pss_cons (ps_set (i := 5) nd rfl (.inr rfl) pe_int)
      (pss_cons (ps_if (pt_cmpR op_lt (pv 4) pe_int (nomark _)) (pss_one (ps_set (i := 5) nd rfl (.inr rfl) (pe_op op_add pe_int (pe_call GT hr1 (by rfl) gT kT bT .nil pass0 (pa_cons (pv 0) (pa_cons pe_int pa_nil)))))) pss_nil)
      (pss_one (ps_ret (pe_lc (own := [("_law_at", 6)]) (g := gName 6) rfl nd (pi_range1 (by rfl) mr (pa_cons (pv 2) pa_nil)) (blkOk_by (own := [("_law_at", 6)]) (N := nCoefs) (sc := defScope sCoefs) (by decide +kernel))
          (fun _ _ _ _ _ => pg_name (i := 6) nd rfl (.inl rfl) (.inr rfl)) (fun _ _ _ _ _ => pts_nil) (fun _ _ _ _ _ => pe_op op_mul (pv 5) (pe_call GN hr (by rfl) gN kN bN .nil pass0 (pa_cons (pv 0) (pa_cons (pv 3) pa_nil))))))))))), ?_⟩
    have hRp : ∀ H', Ex G H' → RowsL K H' r rows := fun H' e => by
      obtain ⟨ras, h1, h2, h3⟩ := hR
      exact ⟨ras, ex_l e h1, h2, fun i a ha => ex_l e (h3 i a ha)⟩
    have exG : ∀ {H1 H2 : Hp}, Ex G H1 → ExB p H1 H2 → Ex G H2 := fun e b a o ha => b a o (fun z => by
      rw [z, Gp] at ha
      cases ha) (e a o ha)
    -- way
    refine take_ev (n := n + (4 * wd + 2)) (ea_cons (ev_var rfl) (ea_cons ev_c ea_nil)) (by decide) (by decide) hp fun way H1 h0 h1 e1 p1 => ?_
    show tSeq _ _ _ [some (.ref p), some (.ref r), some (.int (wd : Int)), some (.int (sz : Int)), some (.int way), none, none, none] H1
    have hsome : ∀ H2, PoolAt n H2 p ∨ PoolAt (n + (4 * wd + 2)) H2 p → H2 p ≠ none := fun H2 h => h.elim PoolAt.some PoolAt.some
    have back : ∀ {H1 H2 : Hp} {l : Addr}, ExB p H1 H2 → H2 l = none → l ≠ p → H1 l = none := fun e h hl => exb_new e h hl
    refine q_if (b := decide (V.int way = V.int 0)) (et_test (ev_op (ev_var rfl) ev_c (rv_eq rfl))) (fun hb H2 e2 => ?_) fun hb0 H2 e2 => ?_
    · refine s_retL (el_is (el_lcR1 (n := (wd : Int)) (fun _ => true) (fun _ => .int 0) (ea_cons (ev_var rfl) ea_nil) (by omega) (wipe1 (by decide)) (fun i H2 _ _ => et_yes) (fun i H2 _ _ _ => ev_c)) (ys := (List.replicate wd (0 : Int)).map V.int) ?_) fun l H3 hl e3 h3 => ?_
      · rw [given_all, Int.toNat_natCast, map_rep, List.length_range, List.map_replicate]
      · have hlp : l ≠ p := fun z => (p1.ex e2).some (z ▸ hl)
        refine q l _ H3 (back (e1.trans (ExB.of e2)) hl hlp) hlp ((e1.trans (ExB.of e2)).trans (ExB.of e3)) (((p1.ex e2).ex e3).le (by omega)) h3 ⟨List.length_replicate, .inl fun x hx => ?_⟩
        rw [List.eq_of_mem_replicate hx]
        exact Nat.zero_le _
    · have p2 := p1.ex e2
      have eG2 : Ex G H2 := exG eG (e1.trans (ExB.of e2))
      obtain ⟨ras, hras, hral, hrow⟩ := hRp H2 eG2
      refine q_if (b := decide (V.int way = V.int 1) && decide ((0 : Int) < (rows.length : Int))) (et_and (et_test (ev_op (ev_var rfl) ev_c (rv_eq rfl))) fun _ => et_test (ev_is (ev_op (ev_lenQ (K := K) (ev_var rfl) (sqk_l hras)) ev_c rv_I0) (by rw [List.length_map, hral]))) (fun hb H3 e3 => ?_) fun hb H3 e3 => ?_
      · rw [Bool.and_eq_true] at hb
        have hpos : 0 < rows.length := by
          have := of_decide_eq_true hb.2
          omega
        have p3 := p2.ex e3
        refine take_ev (n := n + (4 * wd + 1)) (ea_cons (ev_var rfl) (ea_cons ev_c ea_nil)) (by decide) (by decide) p3 fun t H4 t0 t1 e4 p4 => ⟨_, 3, rfl, rfl, ?_⟩
        simp only [gName, List.set_cons_succ, List.set_cons_zero]
        have eG4 : Ex G H4 := exG (eG2.trans e3) e4
        obtain ⟨ras, hras, hral, hrow⟩ := hRp H4 eG4
        have hmin : Ev (tCB (fun xs H Q => ∃ i j, xs = [V.int i, V.int j] ∧ Q (V.int (if j < i then j else i)) H) (tCons (tC (.int 3)) (tCons (tCB (rLenS K) (tCons (tVar 1) tNil)) tNil))) [some (.ref p), some (.ref r), some (.int (wd : Int)), some (.int (sz : Int)), some (.int way), some (.int (t - 3)), none, none] H4 (.int (if (rows.length : Int) < 3 then (rows.length : Int) else 3)) :=
          ev_cb (vs := [.int 3, .int (rows.length : Int)]) (ea_cons ev_c (ea_cons (ev_is (ev_lenQ (K := K) (ev_var rfl) (sqk_l hras)) (by rw [List.length_map, hral])) ea_nil)) fun H1 e1 Q1 q1 => ⟨3, _, rfl, q1 H1 (Ex.refl H1)⟩
        have hm1 : 1 ≤ (if (rows.length : Int) < 3 then (rows.length : Int) else 3) ∧ (if (rows.length : Int) < 3 then (rows.length : Int) else 3) ≤ 3 ∧ (if (rows.length : Int) < 3 then (rows.length : Int) else 3) ≤ (rows.length : Int) := by split <;> omega
        generalize (if (rows.length : Int) < 3 then (rows.length : Int) else 3) = mn3 at hmin hm1
        refine ⟨_, rfl, ?_⟩
        refine take_ev (n := n + 4 * wd) (ea_cons (ev_var rfl) (ea_cons hmin ea_nil)) hm1.1 (by omega) p4 fun jx H5 j0 j1 e5 p5 => ?_
        obtain ⟨ras, hras, hral, hrow⟩ := hRp H5 (exG eG4 e5)
        obtain ⟨jn, rfl⟩ : ∃ jn : Nat, jx = (jn : Int) := ⟨jx.toNat, by omega⟩
        have hjn : jn < rows.length := by omega
        have hjr : jn < ras.length := by omega
        have hra := hrow jn _ (List.getElem?_eq_getElem hjr)
        obtain ⟨c, co, hcc, hcl⟩ := hrw _ (List.mem_of_getElem? (show rows[jn]? = some (rowAt rows jn) from rowAt_get hjn))
        rw [hcc] at hra
        refine ⟨r, _, (jn : Int), .ref ras[jn], rfl, rfl, hras, atI_nat (by rw [List.getElem?_map, List.getElem?_eq_getElem hjr]; rfl), 1, rfl, ras[jn], _, rfl, hra, fun l hl => ?_⟩
        rw [show cutV (List.map V.int (c :: co)) (some 1) none = co.map V.int from cut1 _ _]
        have hlq : (upd H5 l (.lst (co.map V.int))) l = some (.lst (co.map V.int)) := upd_same
        refine ⟨l, rfl, ⟨_, sq_of hlq⟩, fun D hD => ?_⟩
        have e6 : Ex H5 (upd H5 l (.lst (co.map V.int))) := Ex.new hl
        refine lcV (walk_list (K := K) (a := l) (xs := co.map V.int)) (fun H' e' => sq_of (e' _ _ hlq)) (by rw [List.length_map]; omega) (fun _ => true) (fun i => .int ((t - 3) * co.getD i 0)) hD (fun i x H' H'' hi e' y => ?_) fun H' e' h' => ?_
        · obtain ⟨rfl, hxi⟩ := y
          rw [List.getElem?_map] at hxi
          obtain ⟨z, hz, rfl⟩ := Option.map_eq_some_iff.mp hxi
          have ez : co.getD i 0 = z := by rw [List.getD_eq_getElem?_getD, hz]; rfl
          rw [ez]
          exact turn_name (wipe1 (by decide) _) et_yes fun _ => ev_op (ev_var rfl) (ev_var rfl) (rv_I (.inl ⟨by omega, by omega⟩))
        · have p6 := p5.ex e6
          have hDp : D ≠ p := fun z => p6.some (z ▸ hD)
          have eAll : ExB p H H5 := (((e1.trans (ExB.of e2)).trans (ExB.of e3)).trans e4).trans e5
          have hlp : l ≠ p := fun z => p5.some (z ▸ hl)
          refine q D (co.map fun x => (t - 3) * x) H' (back (eAll.trans (ExB.of e6)) hD hDp) hDp ((eAll.trans (ExB.of e6)).trans (ExB.of e')) ((p6.ex e').le (by omega)) ?_ ⟨by rw [List.length_map]; exact hcl, .inr ⟨jn, t - 3, hjn, by omega, by rw [hcc]; rfl⟩⟩
          rw [h', given_all, List.length_map, List.map_map]
          congr 2
          apply List.ext_getElem?
          intro k
          rw [List.getElem?_map, List.getElem?_map]
          by_cases hk : k < co.length
          · rw [List.getElem?_range hk, List.getElem?_eq_getElem hk]
            show some (V.int ((t - 3) * co.getD k 0)) = some (V.int ((t - 3) * co[k]))
            rw [List.getD_eq_getElem?_getD, List.getElem?_eq_getElem hk]
            rfl
          · rw [List.getElem?_eq_none (by rw [List.length_range]; omega), List.getElem?_eq_none (by omega)]
            rfl
      · refine q_asg ev_c fun H4 e4 => ?_
        have p4 := (p2.ex e3).ex e4
        have e0 : ExB p H H4 := ((e1.trans (ExB.of e2)).trans (ExB.of e3)).trans (ExB.of e4)
        refine norm_st (σ' := ?sc3) ?nc3 ?_; (case nc3 => simp only [List.set_cons_zero, List.set_cons_succ]; rfl)
        have fin : ∀ (o : Int) H5, 0 ≤ o → o ≤ 12 → ExB p H H5 → PoolAt (n + 4 * wd) H5 p → tRet (tLc (iRng1 (tCons (tVar 2) tNil)) (gName 6) tYes (tOp (rI CMul fun i j => .int (i * j)) (tVar 5) (tCall spNumber [] E0 (tCons (tVar 0) (tCons (tVar 3) tNil)))) [6]) ({ nx := fun x H' => Q V.non H', rt := Q } : Ends)
            [some (.ref p), some (.ref r), some (.int (wd : Int)), some (.int (sz : Int)), some (.int way), some (.int o), none, none] H5 := fun o H5 o0 o1 e5 p5 => by
          refine tlc_nums (B := 12 * (10 ^ (1 + 6 * sz) - 1)) (n := n) (ea_cons (ev_var rfl) ea_nil) hwd (wipe1 (by decide)) p5 (fun i H6 N Q1 e6 p6 k => ⟨_, rfl, number_ev (ea_cons (ev_var rfl) (ea_cons (ev_var rfl) ea_nil)) hsz p6 fun v H7 hv e7 p7 => ⟨o, v, rfl, rfl, .inl ⟨by omega, by omega⟩, k _ H7 ?_ e7 p7⟩⟩) fun D zs H6 hz1 hz2 hD hDp e6 p6 h6 => ?_
          · rw [Int.natAbs_mul]
            exact Nat.mul_le_mul (by omega) (by omega)
          · exact q D zs H6 (back e5 hD hDp) hDp (e5.trans e6) p6 h6 ⟨hz1, .inl hz2⟩
        refine q_if (b := decide (way < 4)) (et_test (ev_op (ev_var rfl) ev_c rv_I0)) (fun _ H5 e5 => ?_) fun _ H5 e5 => ?_
        · refine take_ev (n := n + (4 * wd + 1)) (ea_cons (ev_var rfl) (ea_cons ev_c ea_nil)) (by decide) (by decide) (p4.ex e5) fun t H6 t0 t1 e6 p6 => ⟨2, t, rfl, rfl, ?_⟩
          exact fin (2 + t) H6 (by omega) (by omega) ((e0.trans (ExB.of e5)).trans e6) (p6.le (by omega))
        · exact fin 1 H5 (by decide) (by decide) (e0.trans (ExB.of e5)) ((p4.ex e5).le (by omega))
end
end K39
namespace K39
open PySem
/-! ### sums and rows as functions -/
def S : Nat → (Nat → Int) → Int
  | 0, _ => 0
  | n + 1, f => S n f + f n
theorem S_congr {f g : Nat → Int} : ∀ {n : Nat}, (∀ i, i < n → f i = g i) → S n f = S n g
  | 0, _ => rfl
  | n + 1, h => by
    show S n f + f n = S n g + g n
    rw [S_congr fun i hi => h i (by omega), h n (by omega)]
theorem S_add {f g : Nat → Int} : ∀ {n : Nat}, S n (fun i => f i + g i) = S n f + S n g
  | 0 => rfl
  | n + 1 => by
    show S n (fun i => f i + g i) + (f n + g n) = S n f + f n + (S n g + g n)
    rw [S_add]
    omega
theorem S_mul {c : Int} {f : Nat → Int} : ∀ {n : Nat}, S n (fun i => c * f i) = c * S n f
  | 0 => (Int.mul_zero c).symm
  | n + 1 => by
    show S n (fun i => c * f i) + c * f n = c * (S n f + f n)
    rw [S_mul, Int.mul_add]
theorem S_zero {f : Nat → Int} : ∀ {n : Nat}, (∀ i, i < n → f i = 0) → S n f = 0
  | 0, _ => rfl
  | n + 1, h => by
    show S n f + f n = 0
    rw [S_zero fun i hi => h i (by omega), h n (by omega)]
    rfl
theorem S_swap {n : Nat} {f : Nat → Nat → Int} : ∀ {m : Nat}, S n (fun i => S m (fun j => f i j)) = S m (fun j => S n (fun i => f i j))
  | 0 => S_zero fun _ _ => rfl
  | m + 1 => by
    show S n (fun i => S m (fun j => f i j) + f i m) = S m (fun j => S n (fun i => f i j)) + S n (fun i => f i m)
    rw [S_add, S_swap]
theorem S_single {k : Nat} {c : Int} : ∀ {n : Nat}, S n (fun i => if i = k then c else 0) = if k < n then c else 0
  | 0 => by simp [S]
  | n + 1 => by
    show S n (fun i => if i = k then c else 0) + (if n = k then c else 0) = _
    rw [S_single]
    by_cases h1 : k < n
    · rw [if_pos h1, if_neg (by omega), if_pos (by omega)]
      omega
    · by_cases h2 : n = k
      · rw [if_neg h1, if_pos h2, if_pos (by omega)]
        omega
      · rw [if_neg h1, if_neg h2, if_neg (by omega)]
        rfl
theorem S_head {f : Nat → Int} : ∀ {n : Nat}, S (n + 1) f = f 0 + S n (fun i => f (i + 1))
  | 0 => by
    show 0 + f 0 = f 0 + 0
    omega
  | n + 1 => by
    show S (n + 1) f + f (n + 1) = f 0 + (S n (fun i => f (i + 1)) + f (n + 1))
    rw [S_head]
    omega
theorem S_bound {f : Nat → Int} {b : Nat} : ∀ {n : Nat}, (∀ i, i < n → (f i).natAbs ≤ b) → (S n f).natAbs ≤ n * b
  | 0, _ => by simp [S]
  | n + 1, h => by
    have h1 := S_bound (f := f) (b := b) (n := n) fun i hi => h i (by omega)
    have h2 := h n (by omega)
    show (S n f + f n).natAbs ≤ (n + 1) * b
    rw [Nat.add_mul, Nat.one_mul]
    omega
theorem S_list {f : Nat → Int} : ∀ {n : Nat}, S n f = ((List.range n).map f).sum
  | 0 => rfl
  | n + 1 => by
    show S n f + f n = _
    rw [S_list, List.range_succ, List.map_append, List.sum_append]
    simp
theorem perm_sum {f : Nat → Int} {l l' : List Nat} (h : l.Perm l') : (l.map f).sum = (l'.map f).sum := by
  induction h with
  | nil => rfl
  | cons x _ ih => rw [List.map_cons, List.map_cons, List.sum_cons, List.sum_cons, ih]
  | swap x y l =>
    rw [List.map_cons, List.map_cons, List.map_cons, List.map_cons, List.sum_cons, List.sum_cons, List.sum_cons, List.sum_cons]
    omega
  | trans _ _ h1 h2 => rw [h1, h2]
abbrev Fv := Nat → Int
def vw (l : List Int) : Fv := fun a => l.getD a 0
def D (w : Nat) (u v : Fv) : Int := S w fun a => u a * v a
theorem dot_D : ∀ {w : Nat} {u v : List Int}, u.length = w → v.length = w → dot u v = D w (vw u) (vw v)
  | 0, [], [], _, _ => rfl
  | n + 1, a :: u, b :: v, hu, hv => by
    unfold D
    rw [S_head]
    show (a * b :: List.zipWith (fun a b => a * b) u v).sum = a * b + D n (vw u) (vw v)
    rw [List.sum_cons, ← dot_D (by simpa using hu) (by simpa using hv)]
    rfl
theorem D_comm {w : Nat} {u v : Fv} : D w u v = D w v u := S_congr fun i _ => Int.mul_comm _ _
theorem D_congr {w : Nat} {u u' v v' : Fv} (h : ∀ a, a < w → u a = u' a) (h2 : ∀ a, a < w → v a = v' a) : D w u v = D w u' v' := S_congr fun i hi => by rw [h i hi, h2 i hi]
theorem D_add {w : Nat} {u v v' : Fv} {c : Int} : D w u (fun a => v a + c * v' a) = D w u v + c * D w u v' := by
  unfold D
  rw [← S_mul, ← S_add]
  exact S_congr fun i _ => by grind
theorem D_add2 {w : Nat} {u u' v : Fv} {c : Int} : D w (fun a => u a + c * u' a) v = D w u v + c * D w u' v := by
  rw [D_comm, D_add, D_comm, D_comm (u := v)]
theorem D_lin {w : Nat} {u v v' : Fv} {b c : Int} : D w u (fun a => b * v a - c * v' a) = b * D w u v - c * D w u v' := by
  unfold D
  have e : b * S w (fun a => u a * v a) - c * S w (fun a => u a * v' a) = b * S w (fun a => u a * v a) + (-c) * S w (fun a => u a * v' a) := by grind
  rw [e, ← S_mul, ← S_mul, ← S_add]
  exact S_congr fun i _ => by grind
theorem D_bound {w : Nat} {u v : Fv} {b c : Nat} (h : ∀ a, a < w → (u a).natAbs ≤ b) (h2 : ∀ a, a < w → (v a).natAbs ≤ c) : (D w u v).natAbs ≤ w * (b * c) := S_bound fun i hi => by
  rw [Int.natAbs_mul]
  exact Nat.mul_le_mul (h i hi) (h2 i hi)
/-- two bases, dual to each other -/
structure Alg (w : Nat) (N I : Nat → Fv) : Prop where
  del : ∀ i j, i < w → j < w → D w (I i) (N j) = if i = j then 1 else 0
  com : ∀ a b, a < w → b < w → S w (fun i => N i a * I i b) = if a = b then 1 else 0
theorem Alg.comb {w : Nat} {N I : Nat → Fv} (h : Alg w N I) (v : Fv) (a : Nat) (ha : a < w) : S w (fun i => D w (I i) v * N i a) = v a := by
  have e : S w (fun i => D w (I i) v * N i a) = S w fun b => v b * S w fun i => N i a * I i b := by
    have e1 : S w (fun i => D w (I i) v * N i a) = S w fun i => S w fun b => v b * (N i a * I i b) := S_congr fun i _ => by
      unfold D
      rw [Int.mul_comm, ← S_mul]
      exact S_congr fun b _ => by grind
    rw [e1, S_swap]
    exact S_congr fun b _ => S_mul
  rw [e]
  have e2 : S w (fun b => v b * S w fun i => N i a * I i b) = S w fun b => if b = a then v a else 0 := S_congr fun b hb => by
    rw [h.com a b ha hb]
    by_cases hab : a = b
    · subst hab
      simp
    · rw [if_neg hab, if_neg (fun z => hab z.symm), Int.mul_zero]
  rw [e2, S_single, if_pos ha]
theorem Alg.split {w : Nat} {N I : Nat → Fv} (h : Alg w N I) (co v : Fv) : D w co v = S w fun i => D w (I i) v * D w co (N i) := by
  have e : D w co v = S w fun a => co a * S w (fun i => D w (I i) v * N i a) := S_congr fun a ha => by rw [h.comb v a ha]
  rw [e]
  have e1 : S w (fun a => co a * S w (fun i => D w (I i) v * N i a)) = S w fun a => S w fun i => co a * (D w (I i) v * N i a) := S_congr fun a _ => S_mul.symm
  rw [e1, S_swap]
  exact S_congr fun i _ => by
    unfold D
    rw [← S_mul]
    exact S_congr fun a _ => by
      show co a * (D w (I i) v * N i a) = D w (I i) v * (co a * N i a)
      grind
theorem Alg.step {w : Nat} {N I N' I' : Nat → Fv} {p i : Nat} {q : Int} (h : Alg w N I) (hp : p < w) (hi : i < w) (hn : i ≠ p) (h1 : ∀ a, a < w → N' i a = N i a - q * N p a) (h2 : ∀ j, j ≠ i → ∀ a, a < w → N' j a = N j a) (h3 : ∀ a, a < w → I' p a = I p a + q * I i a) (h4 : ∀ j, j ≠ p → ∀ a, a < w → I' j a = I j a) : Alg w N' I' := by
  have hN : ∀ j, ∀ a, a < w → N' j a = N j a + (if j = i then -q else 0) * N p a := fun j a ha => by
    by_cases hj : j = i
    · subst hj
      rw [if_pos rfl, h1 a ha]
      grind
    · rw [if_neg hj, h2 j hj a ha]
      grind
  have hI : ∀ j, ∀ a, a < w → I' j a = I j a + (if j = p then q else 0) * I i a := fun j a ha => by
    by_cases hj : j = p
    · subst hj
      rw [if_pos rfl, h3 a ha]
    · rw [if_neg hj, h4 j hj a ha]
      grind
  refine ⟨fun k j hk hj => ?_, fun a b ha hb => ?_⟩
  · rw [D_congr (hI k) (hN j), D_add, D_add2, D_add2, h.del k j hk hj, h.del i j hi hj, h.del k p hk hp, h.del i p hi hp, if_neg hn]
    by_cases e1 : k = p <;> by_cases e2 : j = i <;> simp [e1, e2] <;> grind
  · rw [← h.com a b ha hb]
    have e : S w (fun k => N' k a * I' k b) = S w (fun k => (N k a * I k b + (if k = i then -(q * (N p a * I i b)) else 0)) + (if k = p then q * (N p a * I i b) else 0)) := S_congr fun k hk => by
      rw [hN k a ha, hI k b hb]
      by_cases e1 : k = i
      · subst e1
        rw [if_pos rfl, if_pos rfl, if_neg hn, if_neg hn]
        grind
      · by_cases e2 : k = p
        · subst e2
          rw [if_neg e1, if_neg e1, if_pos rfl, if_pos rfl]
          grind
        · rw [if_neg e1, if_neg e1, if_neg e2, if_neg e2]
          grind
    rw [e, S_add, S_add, S_single, S_single, if_pos hi, if_pos hp]
    omega
/-! ### the mirror's rows as functions -/
def vN (s : Two) (i : Nat) : Fv := vw (rowAt s.1 i)
def vI (s : Two) (i : Nat) : Fv := vw (rowAt s.2 i)
theorem fnd_D {w : Nat} {co : List Int} {C : Mat} {i : Nat} (hc : co.length = w) (h : Shape w C) (hi : i < w) : fnd co C i = D w (vw co) (vw (rowAt C i)) := dot_D hc (shape_row h hi)
theorem vw_zip {op : Int → Int → Int} {u v : List Int} {w a : Nat} (hu : u.length = w) (hv : v.length = w) (ha : a < w) : vw (List.zipWith op u v) a = op (vw u a) (vw v a) := by
  unfold vw
  rw [List.getD_eq_getElem?_getD, List.getD_eq_getElem?_getD, List.getD_eq_getElem?_getD, List.getElem?_zipWith, List.getElem?_eq_getElem (by omega), List.getElem?_eq_getElem (by omega)]
  rfl
theorem step_alg {w p i : Nat} {f : Nat → Int} {s : Two} (hp : p < w) (hi : i < w) (s1 : Shape w s.1) (s2 : Shape w s.2) (h : Alg w (vN s) (vI s)) : Alg w (vN (stepS f p s i)) (vI (stepS f p s i)) := by
  by_cases hn : i = p
  · unfold stepS
    rw [if_pos hn]
    exact h
  · refine h.step hp hi hn (q := (f i).fdiv (f p)) (fun a ha => ?_) (fun j hj a _ => ?_) (fun a ha => ?_) (fun j hj a _ => ?_)
    · unfold stepS vN
      rw [if_neg hn]
      show vw (rowAt (s.1.set i _) i) a = _
      rw [rowAt_set_eq (by rw [s1.1]; exact hi)]
      exact vw_zip (shape_row s1 hi) (shape_row s1 hp) ha
    · unfold vN
      rw [(step_keep (w := w) j).1 hj]
    · unfold stepS vI
      rw [if_neg hn]
      show vw (rowAt (s.2.set p _) p) a = _
      rw [rowAt_set_eq (by rw [s2.1]; exact hp)]
      exact vw_zip (shape_row s2 hp) (shape_row s2 hi) ha
    · unfold vI
      rw [(step_keep (w := w) j).2.2 hj]
end K39
namespace K39
open PySem
/-! ### floor division, either sign -/
theorem fdiv_sign (x y : Int) (hy : y ≠ 0) : ∃ σ : Int, (σ = 1 ∨ σ = -1) ∧ 0 < σ * y ∧ 0 ≤ σ * (x - x.fdiv y * y) ∧ σ * (x - x.fdiv y * y) < σ * y := by
  have pos : ∀ x y : Int, 0 < y → 0 ≤ x - x.fdiv y * y ∧ x - x.fdiv y * y < y := fun x y hy => by
    have h1 := Int.fmod_nonneg_of_pos x hy
    have h2 := Int.fmod_lt_of_pos x hy
    rw [Int.fmod_def, Int.mul_comm] at h1 h2
    exact ⟨h1, h2⟩
  rcases Int.lt_trichotomy y 0 with h | h | h
  · refine ⟨-1, .inr rfl, by omega, ?_⟩
    have := pos (-x) (-y) (by omega)
    rw [Int.neg_fdiv_neg] at this
    have e : -x - x.fdiv y * -y = -1 * (x - x.fdiv y * y) := by grind
    rw [e] at this
    omega
  · exact absurd h hy
  · refine ⟨1, .inl rfl, by omega, ?_⟩
    have := pos x y h
    omega
theorem abs_sign {σ z : Int} (h : σ = 1 ∨ σ = -1) : (σ * z).natAbs = z.natAbs := by
  rcases h with rfl | rfl
  · rw [Int.one_mul]
  · rw [Int.natAbs_mul]; simp
theorem fdiv_any {x y : Int} (hy : y ≠ 0) : (x.fdiv y).natAbs * y.natAbs ≤ x.natAbs + y.natAbs ∧ (x - x.fdiv y * y).natAbs < y.natAbs := by
  obtain ⟨σ, hs, h1, h2, h3⟩ := fdiv_sign x y hy
  rw [← Int.natAbs_mul]
  generalize x.fdiv y * y = m at *
  rcases hs with rfl | rfl <;> omega
theorem fdiv_same {σ x y : Int} (hs : σ = 1 ∨ σ = -1) (h1 : 0 < σ * y) (hx : 0 ≤ σ * x) : x.natAbs = (x.fdiv y).natAbs * y.natAbs + (x - x.fdiv y * y).natAbs ∧ 0 ≤ σ * (x - x.fdiv y * y) := by
  have hy : y ≠ 0 := fun z => by
    rw [z] at h1
    omega
  obtain ⟨τ, ht, g1, h2, h3⟩ := fdiv_sign x y hy
  have e : τ = σ := by rcases hs with rfl | rfl <;> rcases ht with rfl | rfl <;> omega
  subst e
  have hq : 0 ≤ x.fdiv y := by
    apply Int.not_lt.mp
    intro z
    have := Int.mul_le_mul_of_nonneg_right (show x.fdiv y ≤ -1 by omega) (Int.le_of_lt h1)
    have e : x.fdiv y * (τ * y) = τ * (x.fdiv y * y) := by grind
    rw [e] at this
    have e2 : τ * (x - x.fdiv y * y) = τ * x - τ * (x.fdiv y * y) := by grind
    rw [e2] at h3
    omega
  have hm : 0 ≤ τ * (x.fdiv y * y) := by
    have := Int.mul_nonneg hq (Int.le_of_lt h1)
    have e : x.fdiv y * (τ * y) = τ * (x.fdiv y * y) := by grind
    rw [e] at this
    exact this
  refine ⟨?_, h2⟩
  rw [← Int.natAbs_mul]
  generalize x.fdiv y * y = m at *
  rcases hs with rfl | rfl <;> omega
/-! ### the pivot is there -/
theorem piv_ex (f : Nat → Int) : ∀ {l : List Nat}, l ≠ [] → ∃ p, isPiv f l p
  | [], h => absurd rfl h
  | [x], _ => ⟨x, List.mem_singleton.mpr rfl, fun q hq => by
      rw [List.mem_singleton.mp hq, Bool.eq_false_iff]
      intro z
      have := pLt_iff.mp z
      omega⟩
  | x :: y :: r, _ => by
    obtain ⟨p, hp, hq⟩ := piv_ex f (l := y :: r) (by simp)
    by_cases h : pLt (key f x) (key f p) = true
    · refine ⟨x, List.mem_cons_self, fun q hqm => ?_⟩
      rw [Bool.eq_false_iff]
      intro z
      have z := pLt_iff.mp z
      have h := pLt_iff.mp h
      rcases List.mem_cons.mp hqm with rfl | hqm
      · omega
      · have h3 := hq q hqm
        rw [Bool.eq_false_iff] at h3
        refine h3 (pLt_iff.mpr ?_)
        omega
    · refine ⟨p, List.mem_cons_of_mem _ hp, fun q hqm => ?_⟩
      rcases List.mem_cons.mp hqm with rfl | hqm
      · exact Bool.eq_false_iff.mpr h
      · exact hq q hqm
theorem absI_abs (z : Int) : absI z = (z.natAbs : Int) := by
  unfold absI
  split <;> omega
theorem piv_spec (f : Nat → Int) {l : List Nat} (h : l ≠ []) : pivOf f l ∈ l ∧ ∀ q ∈ l, (f (pivOf f l)).natAbs ≤ (f q).natAbs := by
  obtain ⟨p, hp⟩ := piv_ex f h
  rw [pivOf_eq hp]
  refine ⟨hp.1, fun q hq => ?_⟩
  have := hp.2 q hq
  rw [Bool.eq_false_iff] at this
  apply Nat.not_lt.mp
  intro z
  refine this (pLt_iff.mpr (.inl ?_))
  show absI (f q) < absI (f p)
  rw [absI_abs, absI_abs]
  omega
/-! ### a round in closed form -/
section
variable {w p : Nat} {f : Nat → Int}
theorem run_alg : ∀ {l : List Nat} {s : Two}, p < w → (∀ i ∈ l, i < w) → Shape w s.1 → Shape w s.2 → Alg w (vN s) (vI s) → let r := l.foldl (stepS f p) s; Shape w r.1 ∧ Shape w r.2 ∧ Alg w (vN r) (vI r)
  | [], _, _, _, h1, h2, h3 => ⟨h1, h2, h3⟩
  | i :: l, s, hp, hl, h1, h2, h3 => by
    have hi := hl i List.mem_cons_self
    have hs := step_shape (f := f) (s := s) hp hi ⟨h1, h2⟩
    exact run_alg (l := l) hp (fun j hj => hl j (List.mem_cons_of_mem _ hj)) hs.1 hs.2 (step_alg hp hi h1 h2 h3)
theorem step_N {s : Two} {i a : Nat} (hp : p < w) (hi : i < w) (s1 : Shape w s.1) (hn : i ≠ p) (ha : a < w) : vN (stepS f p s i) i a = vN s i a - (f i).fdiv (f p) * vN s p a := by
  unfold stepS vN
  rw [if_neg hn]
  show vw (rowAt (s.1.set i _) i) a = _
  rw [rowAt_set_eq (by rw [s1.1]; exact hi)]
  exact vw_zip (shape_row s1 hi) (shape_row s1 hp) ha
theorem step_I {s : Two} {i a : Nat} (hp : p < w) (hi : i < w) (s2 : Shape w s.2) (hn : i ≠ p) (ha : a < w) : vI (stepS f p s i) p a = vI s p a + (f i).fdiv (f p) * vI s i a := by
  unfold stepS vI
  rw [if_neg hn]
  show vw (rowAt (s.2.set p _) p) a = _
  rw [rowAt_set_eq (by rw [s2.1]; exact hp)]
  exact vw_zip (shape_row s2 hp) (shape_row s2 hi) ha
theorem run_N : ∀ {l : List Nat} {s : Two}, p < w → (∀ i ∈ l, i < w) → l.Nodup → Shape w s.1 → Shape w s.2 → ∀ j a, a < w → vN (l.foldl (stepS f p) s) j a = if j ∈ l ∧ j ≠ p then vN s j a - (f j).fdiv (f p) * vN s p a else vN s j a
  | [], s, _, _, _, _, _, j, a, _ => by
    rw [if_neg (fun z => by cases z.1)]
    rfl
  | i :: l, s, hp, hl, nd, h1, h2, j, a, ha => by
    have hi := hl i List.mem_cons_self
    have hs := step_shape (f := f) (s := s) hp hi ⟨h1, h2⟩
    have ndc := List.nodup_cons.mp nd
    show vN (l.foldl (stepS f p) (stepS f p s i)) j a = _
    rw [run_N (l := l) hp (fun j hj => hl j (List.mem_cons_of_mem _ hj)) ndc.2 hs.1 hs.2 j a ha]
    have kp : vN (stepS f p s i) p a = vN s p a := by
      unfold vN
      by_cases e : i = p
      · rw [(step_keep (w := w) (f := f) (s := s) p).2.1 e]
      · rw [(step_keep (w := w) (f := f) (s := s) p).1 (fun z => e z.symm)]
    rw [kp]
    by_cases hj : j = i
    · subst hj
      rw [if_neg (fun z => ndc.1 z.1)]
      by_cases hjp : j = p
      · rw [if_neg (fun z => z.2 hjp)]
        subst hjp
        exact kp
      · rw [if_pos ⟨List.mem_cons_self, hjp⟩, step_N hp hi h1 hjp ha]
    · have kj : vN (stepS f p s i) j a = vN s j a := by
        unfold vN
        rw [(step_keep (w := w) (f := f) (s := s) j).1 hj]
      rw [kj]
      by_cases hm : j ∈ l ∧ j ≠ p
      · rw [if_pos hm, if_pos ⟨List.mem_cons_of_mem _ hm.1, hm.2⟩]
      · rw [if_neg hm, if_neg (fun z => hm ⟨(List.mem_cons.mp z.1).resolve_left hj, z.2⟩)]
theorem run_I : ∀ {l : List Nat} {s : Two}, ∀ j, j ≠ p → vI (l.foldl (stepS f p) s) j = vI s j
  | [], _, _, _ => rfl
  | i :: l, s, j, hj => by
    show vI (l.foldl (stepS f p) (stepS f p s i)) j = _
    rw [run_I j hj]
    unfold vI
    rw [(step_keep (w := 0) (f := f) (s := s) j).2.2 hj]
theorem run_Ip {J Q : Nat} : ∀ {l : List Nat} {s : Two}, p < w → (∀ i ∈ l, i < w) → Shape w s.1 → Shape w s.2 → (∀ i ∈ l, i ≠ p → ((f i).fdiv (f p)).natAbs ≤ Q ∧ ∀ a, a < w → (vI s i a).natAbs ≤ J) → ∀ a, a < w → (vI (l.foldl (stepS f p) s) p a).natAbs ≤ (vI s p a).natAbs + l.length * (Q * J)
  | [], s, _, _, _, _, _, a, _ => by
    show (vI s p a).natAbs ≤ _
    omega
  | i :: l, s, hp, hl, h1, h2, hq, a, ha => by
    have hi := hl i List.mem_cons_self
    have hs := step_shape (f := f) (s := s) hp hi ⟨h1, h2⟩
    have ih := run_Ip (l := l) (s := stepS f p s i) (J := J) (Q := Q) hp (fun j hj => hl j (List.mem_cons_of_mem _ hj)) hs.1 hs.2 (fun j hj hjp => by
      refine ⟨(hq j (List.mem_cons_of_mem _ hj) hjp).1, fun a ha => ?_⟩
      have e : vI (stepS f p s i) j = vI s j := by
        unfold vI
        rw [(step_keep (w := w) (f := f) (s := s) j).2.2 hjp]
      rw [e]
      exact (hq j (List.mem_cons_of_mem _ hj) hjp).2 a ha) a ha
    show (vI (l.foldl (stepS f p) (stepS f p s i)) p a).natAbs ≤ _
    rw [List.length_cons, Nat.add_mul, Nat.one_mul]
    have : (vI (stepS f p s i) p a).natAbs ≤ (vI s p a).natAbs + Q * J := by
      by_cases e : i = p
      · have e2 : stepS f p s i = s := by
          unfold stepS
          rw [if_pos e]
        rw [e2]
        omega
      · rw [step_I hp hi h2 e ha]
        have h3 := hq i List.mem_cons_self e
        have h4 : ((f i).fdiv (f p) * vI s i a).natAbs ≤ Q * J := by
          rw [Int.natAbs_mul]
          exact Nat.mul_le_mul h3.1 (h3.2 a ha)
        omega
    omega
end
theorem filter_len {l : List Nat} {p q : Nat → Bool} (h : ∀ x ∈ l, p x = true → q x = true) : (l.filter p).length ≤ (l.filter q).length ∧ ((∃ x ∈ l, q x = true ∧ p x = false) → (l.filter p).length + 1 ≤ (l.filter q).length) := by
  induction l with
  | nil => exact ⟨Nat.le_refl _, fun ⟨x, hx, _⟩ => by cases hx⟩
  | cons y l ih =>
    obtain ⟨i1, i2⟩ := ih fun x hx => h x (List.mem_cons_of_mem _ hx)
    have hy := h y List.mem_cons_self
    rw [List.filter_cons, List.filter_cons]
    by_cases e1 : p y = true
    · have e2 := hy e1
      rw [if_pos e1, if_pos e2, List.length_cons, List.length_cons]
      refine ⟨by omega, fun ⟨x, hx, g1, g2⟩ => ?_⟩
      rcases List.mem_cons.mp hx with rfl | hx
      · rw [e1] at g2
        cases g2
      · have := i2 ⟨x, hx, g1, g2⟩
        omega
    · rw [if_neg e1]
      by_cases e2 : q y = true
      · rw [if_pos e2, List.length_cons]
        exact ⟨by omega, fun _ => by omega⟩
      · rw [if_neg e2]
        refine ⟨i1, fun ⟨x, hx, g1, g2⟩ => ?_⟩
        rcases List.mem_cons.mp hx with rfl | hx
        · exact absurd g1 e2
        · exact i2 ⟨x, hx, g1, g2⟩
end K39
namespace K39
open PySem
/-! ### the potential of a round -/
def pv_ (f : Nat → Int) (free : List Nat) : Nat := pivOf f (lefts f free)
def nz (f : Nat → Int) (free : List Nat) : Nat := (lefts f free).length
def bm (f : Nat → Int) (free : List Nat) : Nat := (f (pv_ f free)).natAbs
def Ready (f : Nat → Int) (free : List Nat) (g : Nat) : Prop := ∃ a, (∀ i ∈ free, (f i).natAbs ≤ a) ∧
  (((∃ σ : Int, (σ = 1 ∨ σ = -1) ∧ ∀ i ∈ free, 0 ≤ σ * f i) ∧ g = a * bm f free * 2 ^ nz f free) ∨ g = 3 * (a * bm f free * 2 ^ nz f free))
theorem lefts_mem {f : Nat → Int} {free : List Nat} {i : Nat} : i ∈ lefts f free ↔ i ∈ free ∧ f i ≠ 0 := by
  unfold lefts
  rw [List.mem_filter, decide_eq_true_iff]
theorem other {l : List Nat} (nd : l.Nodup) (h : 2 ≤ l.length) (p : Nat) : ∃ j ∈ l, j ≠ p := by
  match l, nd, h with
  | x :: y :: r, nd, _ =>
    by_cases e : x = p
    · refine ⟨y, by simp, fun z => ?_⟩
      have := (List.nodup_cons.mp nd).1
      exact this (by rw [e, ← z]; exact List.mem_cons_self)
    · exact ⟨x, by simp, e⟩
theorem mul3 {a b c d e f : Nat} (h1 : a * b ≤ d * e) (h2 : c ≤ f) : a * (e' * b * c) ≤ d * e * (e' * f) := by
  have h := Nat.mul_le_mul h1 (Nat.mul_le_mul (Nat.le_refl e') h2)
  calc a * (e' * b * c) = a * b * (e' * c) := by grind
    _ ≤ _ := h
theorem pot_step {f f' : Nat → Int} {free : List Nat} {g : Nat} (nd : free.Nodup) (R : Ready f free g) (h2 : 2 ≤ nz f free)
    (hf : ∀ j ∈ free, f' j = if j ∈ lefts f free ∧ j ≠ pv_ f free then f j - (f j).fdiv (f (pv_ f free)) * f (pv_ f free) else f j) :
    ∃ g', 1 ≤ g' ∧ g' ≤ g ∧ Ready f' free g' ∧ (∀ i ∈ lefts f free, i ≠ pv_ f free → (1 + ((f i).fdiv (f (pv_ f free))).natAbs) * g' ≤ g) ∧ (2 ≤ nz f' free → bm f' free < bm f free) ∧ (∀ i ∈ free, (f' i).natAbs ≤ bm f free) := by
  obtain ⟨a, ha, R⟩ := R
  have hne : lefts f free ≠ [] := fun z => by
    unfold nz at h2
    rw [z] at h2
    simp at h2
  obtain ⟨p1, p2⟩ := piv_spec f hne
  change pv_ f free ∈ lefts f free at p1
  change ∀ q ∈ lefts f free, bm f free ≤ (f q).natAbs at p2
  generalize hp : pv_ f free = p at *
  obtain ⟨pf, p0⟩ := lefts_mem.mp p1
  have hb : bm f free = (f p).natAbs := by
    unfold bm
    rw [hp]
  generalize bm f free = b at *
  have hb1 : 1 ≤ b := by omega
  have fp : f' p = f p := by rw [hf p pf, if_neg (fun z => z.2 rfl)]
  have p1' : p ∈ lefts f' free := lefts_mem.mpr ⟨pf, by rw [fp]; exact p0⟩
  have hne' : lefts f' free ≠ [] := fun z => by
    rw [z] at p1'
    cases p1'
  obtain ⟨r1, r2⟩ := piv_spec f' hne'
  change ∀ q ∈ lefts f' free, bm f' free ≤ (f' q).natAbs at r2
  have hb'0 : 1 ≤ bm f' free := by
    have := (lefts_mem.mp r1).2
    show 1 ≤ (f' (pivOf f' (lefts f' free))).natAbs
    omega
  have hb'b : bm f' free ≤ b := by
    have := r2 p p1'
    rw [fp] at this
    omega
  have sub : ∀ x ∈ free, decide (f' x ≠ 0) = true → decide (f x ≠ 0) = true := fun x hx h => by
    rw [decide_eq_true_iff] at h ⊢
    intro z
    refine h ?_
    rw [hf x hx, if_neg (fun y => (lefts_mem.mp y.1).2 z)]
    exact z
  obtain ⟨l1, l2⟩ := filter_len sub
  change nz f' free ≤ nz f free at l1
  change _ → nz f' free + 1 ≤ nz f free at l2
  have bnd : ∀ i ∈ free, (f' i).natAbs ≤ b := fun i hi => by
    rw [hf i hi]
    by_cases e : i ∈ lefts f free ∧ i ≠ p
    · rw [if_pos e]
      have := (fdiv_any (x := f i) p0).2
      omega
    · rw [if_neg e]
      by_cases ei : i = p
      · rw [ei]
        omega
      · have : f i = 0 := by
          apply Decidable.byContradiction
          intro z
          exact e ⟨lefts_mem.mpr ⟨hi, z⟩, ei⟩
        omega
  have same : ∃ σ : Int, (σ = 1 ∨ σ = -1) ∧ ∀ i ∈ free, 0 ≤ σ * f' i := by
    obtain ⟨σ, hs, _, _, _⟩ := fdiv_sign (f p) (f p) p0
    have hs' : ∃ σ : Int, (σ = 1 ∨ σ = -1) ∧ 0 < σ * f p := by
      rcases Int.lt_or_gt_of_ne p0 with h | h
      · exact ⟨-1, .inr rfl, by omega⟩
      · exact ⟨1, .inl rfl, by omega⟩
    obtain ⟨σ, hs, h1⟩ := hs'
    refine ⟨σ, hs, fun i hi => ?_⟩
    rw [hf i hi]
    by_cases e : i ∈ lefts f free ∧ i ≠ p
    · rw [if_pos e]
      obtain ⟨τ, ht, g1, g2, g3⟩ := fdiv_sign (f i) (f p) p0
      have e : τ = σ := by rcases hs with rfl | rfl <;> rcases ht with rfl | rfl <;> omega
      rw [← e]
      exact g2
    · rw [if_neg e]
      by_cases ei : i = p
      · rw [ei]
        omega
      · have : f i = 0 := by
          apply Decidable.byContradiction
          intro z
          exact e ⟨lefts_mem.mpr ⟨hi, z⟩, ei⟩
        rw [this]
        omega
  have key : ∀ i ∈ lefts f free, i ≠ p → (1 + ((f i).fdiv (f p)).natAbs) * (b * bm f' free * 2 ^ nz f' free) ≤ g := fun i hi hip => by
    have hif := (lefts_mem.mp hi).1
    have fi : f' i = f i - (f i).fdiv (f p) * f p := by rw [hf i hif, if_pos ⟨hi, hip⟩]
    have hbi := p2 i hi
    have hai := ha i hif
    have pw : 2 ^ nz f' free ≤ 2 ^ nz f free := Nat.pow_le_pow_right (by decide) l1
    rcases R with ⟨⟨σ, hs, hσ⟩, hg⟩ | hg
    · have h1 : 0 < σ * f p := by
        have := hσ p pf
        rcases hs with rfl | rfl <;> omega
      have hfd := (fdiv_same hs h1 (hσ i hif)).1
      rw [← fi, ← hb] at hfd
      rw [hg]
      generalize ((f i).fdiv (f p)).natAbs = q at *
      by_cases er : f' i = 0
      · have l3 := l2 ⟨i, hif, decide_eq_true (lefts_mem.mp hi).2, decide_eq_false (fun z => z er)⟩
        have pw2 : 2 ^ nz f' free * 2 ≤ 2 ^ nz f free := by
          rw [← Nat.pow_succ]
          exact Nat.pow_le_pow_right (by decide) l3
        have hq : 1 ≤ q := by
          cases q with
          | zero =>
            rw [er] at hfd
            simp at hfd
            omega
          | succ n => omega
        have e1 : q * bm f' free ≤ q * b := Nat.mul_le_mul (Nat.le_refl q) hb'b
        have e2 : 1 * bm f' free ≤ q * b := Nat.mul_le_mul hq hb'b
        have e3 : (1 + q) * bm f' free ≤ 2 * a := by
          rw [Nat.add_mul]
          rw [er] at hfd
          simp at hfd
          omega
        calc (1 + q) * (b * bm f' free * 2 ^ nz f' free) = (1 + q) * bm f' free * (b * 2 ^ nz f' free) := by grind
          _ ≤ 2 * a * (b * 2 ^ nz f' free) := Nat.mul_le_mul e3 (Nat.le_refl _)
          _ = a * b * (2 ^ nz f' free * 2) := by grind
          _ ≤ a * b * 2 ^ nz f free := Nat.mul_le_mul (Nat.le_refl _) pw2
      · have e0 := r2 i (lefts_mem.mpr ⟨hif, er⟩)
        have e1 : q * bm f' free ≤ q * b := Nat.mul_le_mul (Nat.le_refl q) hb'b
        have e3 : (1 + q) * bm f' free ≤ a := by
          rw [Nat.add_mul]
          omega
        calc (1 + q) * (b * bm f' free * 2 ^ nz f' free) = (1 + q) * bm f' free * (b * 2 ^ nz f' free) := by grind
          _ ≤ a * (b * 2 ^ nz f' free) := Nat.mul_le_mul e3 (Nat.le_refl _)
          _ = a * b * 2 ^ nz f' free := by grind
          _ ≤ a * b * 2 ^ nz f free := Nat.mul_le_mul (Nat.le_refl _) pw
    · have hfd := (fdiv_any (x := f i) p0).1
      rw [← hb] at hfd
      rw [hg]
      generalize ((f i).fdiv (f p)).natAbs = q at *
      have e1 : q * bm f' free ≤ q * b := Nat.mul_le_mul (Nat.le_refl q) hb'b
      have e3 : (1 + q) * bm f' free ≤ 3 * a := by
        rw [Nat.add_mul]
        omega
      calc (1 + q) * (b * bm f' free * 2 ^ nz f' free) = (1 + q) * bm f' free * (b * 2 ^ nz f' free) := by grind
        _ ≤ 3 * a * (b * 2 ^ nz f' free) := Nat.mul_le_mul e3 (Nat.le_refl _)
        _ = 3 * (a * b) * 2 ^ nz f' free := by grind
        _ ≤ 3 * (a * b) * 2 ^ nz f free := Nat.mul_le_mul (Nat.le_refl _) pw
        _ = 3 * (a * b * 2 ^ nz f free) := by grind
  refine ⟨b * bm f' free * 2 ^ nz f' free, Nat.mul_pos (Nat.mul_pos hb1 hb'0) (Nat.pow_pos (by decide)), ?_, ⟨b, bnd, .inl ⟨same, rfl⟩⟩, key, fun h => ?_, bnd⟩
  · obtain ⟨i, hi, hip⟩ := other (List.Pairwise.filter _ nd) h2 p
    have := key i hi hip
    rw [Nat.add_mul, Nat.one_mul] at this
    omega
  · obtain ⟨i, hi, hip⟩ := other (List.Pairwise.filter _ nd) h p
    have hi : i ∈ lefts f' free := hi
    obtain ⟨hif, h0⟩ := lefts_mem.mp hi
    have hil : i ∈ lefts f free := lefts_mem.mpr ⟨hif, of_decide_eq_true (sub i hif (decide_eq_true h0))⟩
    have := r2 i hi
    rw [hf i hif, if_pos ⟨hil, hip⟩] at this
    have := (fdiv_any (x := f i) p0).2
    omega
end K39
namespace K39
open PySem
theorem sm_of {x : Int} {X : Nat} (h : x.natAbs ≤ X) (hX : X < 2 ^ 1000000) : Sm x := by
  unfold Sm
  by_cases h0 : x.natAbs = 0
  · rw [h0]
    decide
  · have : x.natAbs.log2 < 1000000 := (Nat.log2_lt h0).mpr (Nat.lt_of_le_of_lt h hX)
    omega
theorem smL_of {l : List Int} {w X : Nat} (hl : l.length = w) (h : ∀ a, a < w → (vw l a).natAbs ≤ X) (hX : X < 2 ^ 1000000) : SmL l := fun x hx => by
  obtain ⟨a, ha, rfl⟩ := List.getElem_of_mem hx
  have := h a (by omega)
  unfold vw at this
  rw [List.getD_eq_getElem?_getD, List.getElem?_eq_getElem ha] at this
  exact sm_of this hX
theorem pyl_x {x y : Int} (h : x.natAbs < 2 ^ 13500) : Builtin.divisionGoesByPylong x y = false := by
  unfold Builtin.divisionGoesByPylong
  have hx : x.natAbs.log2 < 13500 := by
    by_cases h0 : x.natAbs = 0
    · rw [h0]
      decide
    · exact (Nat.log2_lt h0).mpr h
  simp only [Bool.and_eq_false_iff, decide_eq_false_iff_not]
  by_cases z : (if (y == 0) = true then 0 else y.natAbs.log2 / 30 + 1) > 300
  · refine .inr ?_
    intro z2
    have : (if (x == 0) = true then 0 else x.natAbs.log2 / 30 + 1) ≤ 450 := by
      split
      · omega
      · omega
    omega
  · exact .inl z
theorem pyl_same {x : Int} : Builtin.divisionGoesByPylong x x = false := by
  unfold Builtin.divisionGoesByPylong
  simp only [Bool.and_eq_false_iff, decide_eq_false_iff_not]
  refine .inr ?_
  omega
/-- what the rounds of a row leave -/
structure Post (w : Nat) (co : List Int) (free : List Nat) (X Y F : Nat) (s s' : Two) : Prop where
  sh1 : Shape w s'.1
  sh2 : Shape w s'.2
  alg : Alg w (vN s') (vI s')
  bX : ∀ i a, i < w → a < w → (vN s' i a).natAbs ≤ X
  bY : ∀ i a, i < w → a < w → (vI s' i a).natAbs ≤ Y
  out : ∀ j, j ∉ free → rowAt s'.1 j = rowAt s.1 j ∧ rowAt s'.2 j = rowAt s.2 j
  ker : ∀ c' : Fv, (∀ i ∈ free, D w c' (vN s i) = 0) → ∀ i ∈ free, D w c' (vN s' i) = 0
  few : nz (fnd co s'.1) free < 2
  bF : ∀ i ∈ free, (fnd co s'.1 i).natAbs ≤ F
theorem good_of {w : Nat} {co : List Int} {free : List Nat} {X Y F : Nat} {s : Two} (lt : ∀ i ∈ free, i < w) (hF : F < 2 ^ 13500 ∨ free.length ≤ 1) (hFs : F + 1 < 2 ^ 1000000) (hX : X < 2 ^ 1000000) (hY : Y < 2 ^ 1000000)
    (s1 : Shape w s.1) (s2 : Shape w s.2) (bX : ∀ i a, i < w → a < w → (vN s i a).natAbs ≤ X) (bY : ∀ i a, i < w → a < w → (vI s i a).natAbs ≤ Y) (bF : ∀ i ∈ free, (fnd co s.1 i).natAbs ≤ F) : Good w co free s := by
  refine ⟨s1, s2, fun i hi => ⟨smL_of (shape_row s1 (lt i hi)) (fun a ha => bX i a (lt i hi) ha) hX, smL_of (shape_row s2 (lt i hi)) (fun a ha => bY i a (lt i hi) ha) hY⟩, fun i hi p hp h0 => ⟨?_, ?_⟩⟩
  · have h1 := (fdiv_any (x := fnd co s.1 i) h0).1
    have h2 := bF i hi
    refine sm_of (X := F + 1) ?_ hFs
    generalize ((fnd co s.1 i).fdiv (fnd co s.1 p)).natAbs = q at *
    have hb : 1 ≤ (fnd co s.1 p).natAbs := by omega
    generalize (fnd co s.1 p).natAbs = b at *
    generalize (fnd co s.1 i).natAbs = x at *
    apply Nat.not_lt.mp
    intro z
    have h3 : (F + 1 + 1) * b ≤ q * b := Nat.mul_le_mul z (Nat.le_refl b)
    have h4 : F * 1 ≤ F * b := Nat.mul_le_mul (Nat.le_refl F) hb
    rw [Nat.add_mul, Nat.add_mul] at h3
    omega
  · rcases hF with hF | hF
    · exact pyl_x (Nat.lt_of_le_of_lt (bF i hi) hF)
    · have e : i = p := by
        match free, hF, hi, hp with
        | [], _, hi, _ => cases hi
        | [x], _, hi, hp => rw [List.mem_singleton.mp hi, List.mem_singleton.mp hp]
        | x :: y :: r, hF, _, _ => simp at hF
      rw [e]
      exact pyl_same
theorem run_out {f : Nat → Int} {p j : Nat} : ∀ {l : List Nat} {s : Two}, j ∉ l → j ≠ p → rowAt (l.foldl (stepS f p) s).1 j = rowAt s.1 j ∧ rowAt (l.foldl (stepS f p) s).2 j = rowAt s.2 j
  | [], _, _, _ => ⟨rfl, rfl⟩
  | i :: l, s, hj, hp => by
    have h := run_out (f := f) (l := l) (s := stepS f p s i) (fun z => hj (List.mem_cons_of_mem _ z)) hp
    have k := step_keep (w := 0) (f := f) (p := p) (i := i) (s := s) j
    have hji : j ≠ i := fun z => hj (by rw [z]; exact List.mem_cons_self)
    exact ⟨h.1.trans (k.1 hji), h.2.trans (k.2.2 hp)⟩
theorem pow4 {T : Nat} (h : 1 ≤ T) : 1 + 8 * (T - 1) ≤ T ^ 4 := by
  by_cases h1 : T = 1
  · subst h1
    decide
  · have h2 : 2 ≤ T := by omega
    have e : T ^ 4 = T * T * T * T := by grind
    have h4 : 2 * 2 ≤ T * T := Nat.mul_le_mul h2 h2
    have h5 : 2 * 2 * 2 ≤ T * T * T := Nat.mul_le_mul h4 h2
    have h6 : 2 * 2 * 2 * T ≤ T * T * T * T := Nat.mul_le_mul h5 (Nat.le_refl T)
    omega
theorem rounds {w : Nat} {co : List Int} {free : List Nat} {X Y F : Nat} (hco : co.length = w) (hw : w ≤ 8) (nd : free.Nodup) (lt : ∀ i ∈ free, i < w) (hfl : free.length ≤ 8) (hF : F < 2 ^ 13500 ∨ free.length ≤ 1) (hFs : F + 1 < 2 ^ 1000000) (hX : X < 2 ^ 1000000) (hY : Y < 2 ^ 1000000) :
    ∀ (b : Nat) (s : Two) (g M J : Nat), (2 ≤ nz (fnd co s.1) free → bm (fnd co s.1) free < b) → Shape w s.1 → Shape w s.2 → Alg w (vN s) (vI s) → Ready (fnd co s.1) free g → 1 ≤ g → M * g ≤ X → J * g ^ 4 ≤ Y →
      (∀ i a, i < w → a < w → (vN s i a).natAbs ≤ M) → (∀ i a, i < w → a < w → (vI s i a).natAbs ≤ J) → (∀ i ∈ free, (fnd co s.1 i).natAbs ≤ F) → ∃ n s', RunN w co free n s s' ∧ Post w co free X Y F s s' := by
  intro b
  induction b with
  | zero =>
    intro s g M J hb s1 s2 al R hg hM hJ bM bJ bF
    have hMX : M ≤ X := Nat.le_trans (Nat.le_mul_of_pos_right M hg) hM
    have hJY : J ≤ Y := Nat.le_trans (Nat.le_mul_of_pos_right J (Nat.pow_pos hg)) hJ
    have few : nz (fnd co s.1) free < 2 := by
      apply Nat.not_le.mp
      intro z
      have := hb z
      omega
    have bX : ∀ i a, i < w → a < w → (vN s i a).natAbs ≤ X := fun i a hi ha => Nat.le_trans (bM i a hi ha) hMX
    have bY : ∀ i a, i < w → a < w → (vI s i a).natAbs ≤ Y := fun i a hi ha => Nat.le_trans (bJ i a hi ha) hJY
    exact ⟨0, s, ⟨good_of lt hF hFs hX hY s1 s2 bX bY bF, few, rfl⟩, s1, s2, al, bX, bY, fun j _ => ⟨rfl, rfl⟩, fun c' h => h, few, bF⟩
  | succ b ih =>
    intro s g M J hb s1 s2 al R hg hM hJ bM bJ bF
    have hMX : M ≤ X := Nat.le_trans (Nat.le_mul_of_pos_right M hg) hM
    have hJY : J ≤ Y := Nat.le_trans (Nat.le_mul_of_pos_right J (Nat.pow_pos hg)) hJ
    have bX : ∀ i a, i < w → a < w → (vN s i a).natAbs ≤ X := fun i a hi ha => Nat.le_trans (bM i a hi ha) hMX
    have bY : ∀ i a, i < w → a < w → (vI s i a).natAbs ≤ Y := fun i a hi ha => Nat.le_trans (bJ i a hi ha) hJY
    by_cases few : nz (fnd co s.1) free < 2
    · exact ⟨0, s, ⟨good_of lt hF hFs hX hY s1 s2 bX bY bF, few, rfl⟩, s1, s2, al, bX, bY, fun j _ => ⟨rfl, rfl⟩, fun c' h => h, few, bF⟩
    · have h2 : 2 ≤ nz (fnd co s.1) free := by omega
      have hne : lefts (fnd co s.1) free ≠ [] := fun z => by
        unfold nz at h2
        rw [z] at h2
        simp at h2
      have hpm : pv_ (fnd co s.1) free ∈ lefts (fnd co s.1) free := (piv_spec (fnd co s.1) hne).1
      have hpw := lt _ (lefts_mem.mp hpm).1
      have hlw : ∀ i ∈ lefts (fnd co s.1) free, i < w := fun i hi => lt i (lefts_mem.mp hi).1
      have hnd : (lefts (fnd co s.1) free).Nodup := List.Pairwise.filter _ nd
      have hbm := hb h2
      obtain ⟨t1, t2, tal⟩ := run_alg (f := fnd co s.1) (l := lefts (fnd co s.1) free) hpw hlw s1 s2 al
      have tN := run_N (f := fnd co s.1) (l := lefts (fnd co s.1) free) (s := s) hpw hlw hnd s1 s2
      have tI := run_I (f := fnd co s.1) (p := pv_ (fnd co s.1) free) (l := lefts (fnd co s.1) free) (s := s)
      have tIp := fun Q hq => run_Ip (f := fnd co s.1) (p := pv_ (fnd co s.1) free) (J := J) (Q := Q) (l := lefts (fnd co s.1) free) (s := s) hpw hlw s1 s2 hq
      have er : (lefts (fnd co s.1) free).foldl (stepS (fnd co s.1) (pv_ (fnd co s.1) free)) s = roundS co free s := rfl
      rw [er] at t1 t2 tal tN tI
      have hD : ∀ c' : Fv, ∀ j, D w c' (vN (roundS co free s) j) = if j ∈ lefts (fnd co s.1) free ∧ j ≠ pv_ (fnd co s.1) free then D w c' (vN s j) - (fnd co s.1 j).fdiv (fnd co s.1 (pv_ (fnd co s.1) free)) * D w c' (vN s (pv_ (fnd co s.1) free)) else D w c' (vN s j) := fun c' j => by
        by_cases e : j ∈ lefts (fnd co s.1) free ∧ j ≠ pv_ (fnd co s.1) free
        · rw [if_pos e]
          rw [D_congr (fun _ _ => rfl) (v' := fun a => vN s j a + (-(fnd co s.1 j).fdiv (fnd co s.1 (pv_ (fnd co s.1) free))) * vN s (pv_ (fnd co s.1) free) a) (fun a ha => by
            rw [tN j a ha, if_pos e]
            grind), D_add]
          grind
        · rw [if_neg e]
          exact D_congr (fun _ _ => rfl) fun a ha => by rw [tN j a ha, if_neg e]
      have hf : ∀ j ∈ free, fnd co (roundS co free s).1 j = if j ∈ lefts (fnd co s.1) free ∧ j ≠ pv_ (fnd co s.1) free then fnd co s.1 j - (fnd co s.1 j).fdiv (fnd co s.1 (pv_ (fnd co s.1) free)) * fnd co s.1 (pv_ (fnd co s.1) free) else fnd co s.1 j := fun j hj => by
        have h := hD (vw co) j
        have e1 : ∀ s : Two, Shape w s.1 → ∀ j, j < w → D w (vw co) (vN s j) = fnd co s.1 j := fun s hs j hj => (fnd_D hco hs hj).symm
        rw [e1 _ t1 j (lt j hj), e1 _ s1 j (lt j hj), e1 _ s1 _ hpw] at h
        exact h
      obtain ⟨g', hg1, hgg, R', key, hless, bF'⟩ := pot_step nd R h2 hf
      have hT : 1 ≤ g / g' := (Nat.le_div_iff_mul_le hg1).mpr (by omega)
      have hTg : g / g' * g' ≤ g := Nat.div_mul_le_self g g'
      have hq : ∀ i ∈ lefts (fnd co s.1) free, i ≠ pv_ (fnd co s.1) free → 1 + ((fnd co s.1 i).fdiv (fnd co s.1 (pv_ (fnd co s.1) free))).natAbs ≤ g / g' := fun i hi hip => (Nat.le_div_iff_mul_le hg1).mpr (key i hi hip)
      generalize g / g' = T at hT hTg hq
      have hbF : bm (fnd co s.1) free ≤ F := bF _ (lefts_mem.mp hpm).1
      obtain ⟨n, s', run, post⟩ := ih (roundS co free s) g' (M * T) (J * T ^ 4) (fun h => by
          have := hless h
          omega) t1 t2 tal R' hg1
        (by
          rw [Nat.mul_assoc]
          exact Nat.le_trans (Nat.mul_le_mul (Nat.le_refl M) hTg) hM)
        (by
          rw [Nat.mul_assoc, ← Nat.mul_pow]
          exact Nat.le_trans (Nat.mul_le_mul (Nat.le_refl J) (Nat.pow_le_pow_left hTg 4)) hJ)
        (fun i a hi ha => by
          have h1 := bM i a hi ha
          have h3 := bM _ a hpw ha
          rw [tN i a ha]
          by_cases e : i ∈ lefts (fnd co s.1) free ∧ i ≠ pv_ (fnd co s.1) free
          · rw [if_pos e]
            have h4 := hq i e.1 e.2
            have h5 : ((fnd co s.1 i).fdiv (fnd co s.1 (pv_ (fnd co s.1) free)) * vN s (pv_ (fnd co s.1) free) a).natAbs ≤ (T - 1) * M := by
              rw [Int.natAbs_mul]
              exact Nat.mul_le_mul (by omega) h3
            have h6 : M * T = M + (T - 1) * M := by
              obtain ⟨t, rfl⟩ : ∃ t, T = t + 1 := ⟨T - 1, by omega⟩
              rw [Nat.add_sub_cancel]
              grind
            omega
          · rw [if_neg e]
            exact Nat.le_trans h1 (Nat.le_mul_of_pos_right M hT))
        (fun i a hi ha => by
          have h1 := bJ i a hi ha
          by_cases e : i = pv_ (fnd co s.1) free
          · have h2 := tIp (T - 1) (fun j hj hjp => ⟨by
                have := hq j hj hjp
                omega, fun a ha => bJ j a (hlw j hj) ha⟩) a ha
            rw [er, ← e] at h2
            have hl : (lefts (fnd co s.1) free).length ≤ 8 := Nat.le_trans (List.length_filter_le _ _) hfl
            have h3 : (lefts (fnd co s.1) free).length * ((T - 1) * J) ≤ 8 * ((T - 1) * J) := Nat.mul_le_mul hl (Nat.le_refl _)
            have h4 : J * (1 + 8 * (T - 1)) ≤ J * T ^ 4 := Nat.mul_le_mul (Nat.le_refl J) (pow4 hT)
            have h5 : J * (1 + 8 * (T - 1)) = J + 8 * ((T - 1) * J) := by grind
            omega
          · rw [tI i e]
            exact Nat.le_trans h1 (Nat.le_mul_of_pos_right J (Nat.pow_pos hT)))
        (fun i hi => Nat.le_trans (bF' i hi) hbF)
      refine ⟨n + 1, s', ⟨good_of lt hF hFs hX hY s1 s2 bX bY bF, few, run⟩, ⟨post.sh1, post.sh2, post.alg, post.bX, post.bY, fun j hj => ?_, fun c' h => post.ker c' fun i hi => ?_, post.few, post.bF⟩⟩
      · rw [(post.out j hj).1, (post.out j hj).2]
        have hjl : j ∉ lefts (fnd co s.1) free := fun z => hj (lefts_mem.mp z).1
        have hjp : j ≠ pv_ (fnd co s.1) free := fun z => hjl (z ▸ hpm)
        exact run_out hjl hjp
      · rw [hD c' i]
        split
        · rw [h i hi, h _ (lefts_mem.mp hpm).1]
          simp
        · exact h i hi
end K39
namespace K39
open PySem
/-! ### the bounds, pin by pin -/
def g0 (F : Nat) : Nat := 3 * (F * F * 2 ^ 8)
def Mb (L : Nat) : Nat → Nat
  | 0 => 1
  | k + 1 => Mb L k * g0 (L * Mb L k)
def Jb (L : Nat) : Nat → Nat
  | 0 => 1
  | k + 1 => Jb L k * g0 (L * Mb L k) ^ 4
def Bb (L : Nat) : Nat → Nat
  | 0 => 1
  | k + 1 => 2 * (L * Bb L k * Bb L k)
theorem pos13 : 0 < 2 ^ 13500 := Nat.pow_pos Nat.zero_lt_two
theorem one1M : 0 + 1 < 2 ^ 1000000 := Nat.one_lt_pow (by omega) (by omega)
structure Num (w L L1 Xb : Nat) : Prop where
  l1 : 1 ≤ L
  hw : w ≤ 8
  hF : ∀ k, k + 2 ≤ w → L * Mb L k < 2 ^ 13500
  hB : ∀ k, k < w → L * Bb L k < 2 ^ 9000
  hM : ∀ k, k ≤ w → (L + L1 + 1) * Mb L k + 1 < 2 ^ 1000000
  hJ : ∀ k, k ≤ w → 8 * (Jb L k * (Xb + 1)) < 2 ^ 1000000
theorem Mb_pos {L : Nat} (h : 1 ≤ L) : ∀ k, 1 ≤ Mb L k
  | 0 => Nat.le_refl 1
  | k + 1 => by
    have h1 := Mb_pos h k
    have h2 : 1 ≤ L * Mb L k := Nat.mul_pos h h1
    exact Nat.mul_pos h1 (Nat.mul_pos (by decide) (Nat.mul_pos (Nat.mul_pos h2 h2) (by decide)))
theorem g0_pos {F : Nat} (h : 1 ≤ F) : 1 ≤ g0 F := Nat.mul_pos (by decide) (Nat.mul_pos (Nat.mul_pos h h) (by decide))
theorem rounds0 {w : Nat} {co : List Int} {free : List Nat} {F M J : Nat} {s : Two} (hco : co.length = w) (hw : w ≤ 8) (nd : free.Nodup) (lt : ∀ i ∈ free, i < w) (hfl : free.length ≤ 8) (hF1 : 1 ≤ F) (hF : F < 2 ^ 13500 ∨ free.length ≤ 1) (hFs : F + 1 < 2 ^ 1000000) (hX : M * g0 F < 2 ^ 1000000) (hY : J * g0 F ^ 4 < 2 ^ 1000000)
    (s1 : Shape w s.1) (s2 : Shape w s.2) (al : Alg w (vN s) (vI s)) (bM : ∀ i a, i < w → a < w → (vN s i a).natAbs ≤ M) (bJ : ∀ i a, i < w → a < w → (vI s i a).natAbs ≤ J) (bF : ∀ i ∈ free, (fnd co s.1 i).natAbs ≤ F) :
    ∃ n s', RunN w co free n s s' ∧ Post w co free (M * g0 F) (J * g0 F ^ 4) F s s' := by
  have hg := g0_pos hF1
  by_cases few : nz (fnd co s.1) free < 2
  · have bX : ∀ i a, i < w → a < w → (vN s i a).natAbs ≤ M * g0 F := fun i a hi ha => Nat.le_trans (bM i a hi ha) (Nat.le_mul_of_pos_right M hg)
    have bY : ∀ i a, i < w → a < w → (vI s i a).natAbs ≤ J * g0 F ^ 4 := fun i a hi ha => Nat.le_trans (bJ i a hi ha) (Nat.le_mul_of_pos_right J (Nat.pow_pos hg))
    exact ⟨0, s, ⟨good_of lt hF hFs hX hY s1 s2 bX bY bF, few, rfl⟩, s1, s2, al, bX, bY, fun j _ => ⟨rfl, rfl⟩, fun c' h => h, few, bF⟩
  · have h2 : 2 ≤ nz (fnd co s.1) free := by omega
    have hne : lefts (fnd co s.1) free ≠ [] := fun z => by
      unfold nz at h2
      rw [z] at h2
      simp at h2
    have hpm : pv_ (fnd co s.1) free ∈ lefts (fnd co s.1) free := (piv_spec (fnd co s.1) hne).1
    obtain ⟨pf, p0⟩ := lefts_mem.mp hpm
    have hb1 : 1 ≤ bm (fnd co s.1) free := by
      show 1 ≤ (fnd co s.1 (pv_ (fnd co s.1) free)).natAbs
      omega
    have hbF : bm (fnd co s.1) free ≤ F := bF _ pf
    have hz : 2 ^ nz (fnd co s.1) free ≤ 2 ^ 8 := Nat.pow_le_pow_right (by decide) (Nat.le_trans (List.length_filter_le _ _) hfl)
    have hgg : 3 * (F * bm (fnd co s.1) free * 2 ^ nz (fnd co s.1) free) ≤ g0 F := Nat.mul_le_mul (Nat.le_refl 3) (Nat.mul_le_mul (Nat.mul_le_mul (Nat.le_refl F) hbF) hz)
    exact rounds hco hw nd lt hfl hF hFs hX hY (bm (fnd co s.1) free + 1) s _ M J (fun _ => by omega) s1 s2 al ⟨F, bF, .inr rfl⟩
      (Nat.mul_pos (by decide) (Nat.mul_pos (Nat.mul_pos hF1 hb1) (Nat.pow_pos (by decide)))) (Nat.mul_le_mul (Nat.le_refl M) hgg) (Nat.mul_le_mul (Nat.le_refl J) (Nat.pow_le_pow_left hgg 4)) bM bJ bF
/-! ### sums with one term -/
theorem D_lin2 {w : Nat} {u v v' : Fv} {b c : Int} : D w (fun a => b * v a - c * v' a) u = b * D w v u - c * D w v' u := by
  rw [D_comm (v := u), D_lin, D_comm (u := u), D_comm (u := u)]
theorem sum_zero {l : List Nat} {g : Nat → Int} (h : ∀ j ∈ l, g j = 0) : (l.map g).sum = 0 := by
  induction l with
  | nil => rfl
  | cons x l ih =>
    rw [List.map_cons, List.sum_cons, ih fun j hj => h j (List.mem_cons_of_mem _ hj), h x List.mem_cons_self]
    rfl
theorem sum_one {l : List Nat} {g : Nat → Int} {i : Nat} (nd : l.Nodup) (hi : i ∈ l) (h : ∀ j ∈ l, j ≠ i → g j = 0) : (l.map g).sum = g i := by
  induction l with
  | nil => cases hi
  | cons x l ih =>
    have ndc := List.nodup_cons.mp nd
    rw [List.map_cons, List.sum_cons]
    by_cases e : x = i
    · subst e
      rw [sum_zero fun j hj => h j (List.mem_cons_of_mem _ hj) fun z => ndc.1 (z ▸ hj)]
      omega
    · rw [ih ndc.2 ((List.mem_cons.mp hi).resolve_left fun z => e z.symm) fun j hj => h j (List.mem_cons_of_mem _ hj), h x List.mem_cons_self e]
      omega
theorem part_sum {w : Nat} {N I : Nat → Fv} {ps free : List Nat} (al : Alg w N I) (pt : (ps ++ free).Perm (List.range w)) (c v : Fv) : D w c v = (ps.map fun i => D w (I i) v * D w c (N i)).sum + (free.map fun i => D w (I i) v * D w c (N i)).sum := by
  rw [al.split c v, S_list, ← perm_sum pt, List.map_append, List.sum_append]
/-! ### what holds between rows -/
structure Inv (w : Nat) (x : Fv) (L : Nat) (done : List Fv) (a : Stt) : Prop where
  sh1 : Shape w a.s.1
  sh2 : Shape w a.s.2
  alg : Alg w (vN a.s) (vI a.s)
  part : (a.pins.map (·.1) ++ a.free).Perm (List.range w)
  val : ∀ p ∈ a.pins, p.2 = D w (vI a.s p.1) x
  fk : ∀ c ∈ done, ∀ i ∈ a.free, D w c (vN a.s i) = 0
  kp : ∀ v : Fv, (∀ c ∈ done, D w c v = 0) → ∀ p ∈ a.pins, D w (vI a.s p.1) v = 0
  bM : ∀ i b, i < w → b < w → (vN a.s i b).natAbs ≤ Mb L a.pins.length
  bJ : ∀ i b, i < w → b < w → (vI a.s i b).natAbs ≤ Jb L a.pins.length
  us : ∃ us : List Fv, (∀ u ∈ us, (∀ c ∈ done, D w c u = 0) ∧ ∀ b, b < w → (u b).natAbs ≤ Bb L a.pins.length) ∧ ∀ f : Fv, (∀ u ∈ us, D w f u = 0) → ∀ v : Fv, (∀ c ∈ done, D w c v = 0) → D w f v = 0
structure RowOk (w : Nat) (x : Fv) (C0 C1 : Nat) (done : List Fv) (c : Int) (co : List Int) : Prop where
  len : co.length = w
  zero : c + D w (vw co) x = 0
  b1 : ∀ a, a < w → (vw co a).natAbs ≤ C1
  way : (∀ a, a < w → (vw co a).natAbs ≤ C0) ∨ ∀ v : Fv, (∀ c ∈ done, D w c v = 0) → D w (vw co) v = 0
theorem row_step {w : Nat} {x : Fv} {C0 C1 L L1 Xb : Nat} {done : List Fv} {a : Stt} {c : Int} {co : List Int} (nm : Num w L L1 Xb) (hL : w * C0 ≤ L) (hL1 : w * C1 ≤ L1) (hC1 : C1 < 2 ^ 1000000) (hx : ∀ b, b < w → (x b).natAbs ≤ Xb) (V : Inv w x L done a) (R : RowOk w x C0 C1 done c co) :
    ∃ n s' a', RunN w co a.free n a.s s' ∧ (∀ p ∈ a.pins, SmL (rowAt s'.1 p.1) ∧ Sm (fnd co s'.1 p.1) ∧ Sm p.2) ∧ RowDone c co s' a a' ∧ Inv w x L (vw co :: done) a' := by
  have hnd := (V.part.nodup_iff.mpr List.nodup_range)
  have hndp := List.nodup_append.mp hnd
  have hlt : ∀ i ∈ a.pins.map (·.1) ++ a.free, i < w := fun i hi => List.mem_range.mp (V.part.mem_iff.mp hi)
  have hfl : ∀ i ∈ a.free, i < w := fun i hi => hlt i (List.mem_append_right _ hi)
  have hpl : ∀ p ∈ a.pins, p.1 < w := fun p hp => hlt p.1 (List.mem_append_left _ (List.mem_map.mpr ⟨p, hp, rfl⟩))
  have hcnt : a.pins.length + a.free.length = w := by
    have := V.part.length_eq
    rw [List.length_append, List.length_map, List.length_range] at this
    exact this
  have hw := nm.hw
  have hMs := nm.hM a.pins.length (by omega)
  have hJs := nm.hJ a.pins.length (by omega)
  have hM1 := Mb_pos nm.l1 a.pins.length
  have hMM : Mb L a.pins.length < 2 ^ 1000000 := by
    have : 1 * Mb L a.pins.length ≤ (L + L1 + 1) * Mb L a.pins.length := Nat.mul_le_mul (by omega) (Nat.le_refl _)
    omega
  have hJJ : Jb L a.pins.length < 2 ^ 1000000 := by
    have : Jb L a.pins.length * 1 ≤ Jb L a.pins.length * (Xb + 1) := Nat.mul_le_mul (Nat.le_refl _) (by omega)
    omega
  have hvals : ∀ p ∈ a.pins, Sm p.2 := fun p hp => by
    rw [V.val p hp]
    refine sm_of (X := w * (Jb L a.pins.length * Xb)) (D_bound (fun b hb => V.bJ p.1 b (hpl p hp) hb) hx) ?_
    have : w * (Jb L a.pins.length * Xb) ≤ 8 * (Jb L a.pins.length * (Xb + 1)) := Nat.mul_le_mul hw (Nat.mul_le_mul (Nat.le_refl _) (by omega))
    omega
  have hfree : ∀ i ∈ a.free, ∀ c ∈ done, D w c (vN a.s i) = 0 := fun i hi c hc => V.fk c hc i hi
  by_cases hz : ∀ i ∈ a.free, fnd co a.s.1 i = 0
  · -- nothing is found
    have hz' : ∀ i ∈ a.free, D w (vw co) (vN a.s i) = 0 := fun i hi => by
      have := hz i hi
      rw [fnd_D R.len V.sh1 (hfl i hi)] at this
      exact this
    have hl : lefts (fnd co a.s.1) a.free = [] := by
      apply List.filter_eq_nil_iff.mpr
      intro i hi
      rw [decide_eq_true_iff]
      exact fun z => z (hz i hi)
    have hkill : ∀ v : Fv, (∀ c ∈ done, D w c v = 0) → D w (vw co) v = 0 := fun v hv => by
      rw [part_sum V.alg V.part, sum_zero (l := a.pins.map (·.1)) (fun j hj => by
        obtain ⟨p, hp, rfl⟩ := List.mem_map.mp hj
        rw [V.kp v hv p hp, Int.zero_mul]), sum_zero (l := a.free) (fun j hj => by rw [hz' j hj, Int.mul_zero])]
      rfl
    refine ⟨0, a.s, ⟨a.s, a.free, a.pins⟩, ⟨good_of (F := 0) hfl (.inl pos13) one1M hMM hJJ V.sh1 V.sh2 V.bM V.bJ (fun i hi => by rw [hz i hi]; decide), by rw [hl]; decide, rfl⟩, fun p hp => ⟨smL_of (shape_row V.sh1 (hpl p hp)) (fun b hb => V.bM p.1 b (hpl p hp) hb) hMM, ?_, hvals p hp⟩, ?_, ?_⟩
    · rw [fnd_D R.len V.sh1 (hpl p hp)]
      refine sm_of (X := w * (C1 * Mb L a.pins.length)) (D_bound R.b1 (fun b hb => V.bM p.1 b (hpl p hp) hb)) ?_
      have : w * (C1 * Mb L a.pins.length) ≤ (L + L1 + 1) * Mb L a.pins.length := by
        rw [← Nat.mul_assoc]
        exact Nat.mul_le_mul (by omega) (Nat.le_refl _)
      omega
    · unfold RowDone lastOf
      rw [hl]
      refine ⟨?_, rfl⟩
      have h1 := R.zero
      rw [part_sum V.alg V.part, sum_zero (l := a.free) (fun j hj => by
        show _ * _ = (0 : Int)
        rw [hz' j hj, Int.mul_zero]), List.map_map] at h1
      unfold leftF
      have e : a.pins.map (fun p => fnd co a.s.1 p.1 * p.2) = a.pins.map ((fun i => D w (vI a.s i) x * D w (vw co) (vN a.s i)) ∘ fun p => p.1) := List.map_congr_left fun p hp => by
        show fnd co a.s.1 p.1 * p.2 = D w (vI a.s p.1) x * D w (vw co) (vN a.s p.1)
        rw [V.val p hp, fnd_D R.len V.sh1 (hpl p hp), Int.mul_comm]
        rfl
      rw [e]
      omega
    · have hdn : ∀ v : Fv, (∀ c ∈ vw co :: done, D w c v = 0) → ∀ c ∈ done, D w c v = 0 := fun v hv c hc => hv c (List.mem_cons_of_mem _ hc)
      refine ⟨V.sh1, V.sh2, V.alg, V.part, V.val, fun c hc i hi => ?_, fun v hv => V.kp v (hdn v hv), V.bM, V.bJ, ?_⟩
      · rcases List.mem_cons.mp hc with rfl | hc
        · exact hz' i hi
        · exact V.fk c hc i hi
      · obtain ⟨us, h1, h2⟩ := V.us
        exact ⟨us, fun u hu => ⟨fun c hc => by
          rcases List.mem_cons.mp hc with rfl | hc
          · exact hkill u (h1 u hu).1
          · exact (h1 u hu).1 c hc, (h1 u hu).2⟩, fun f hf v hv => h2 f hf v (hdn v hv)⟩
  · -- a column is pinned
    obtain ⟨i0, hi0, hn0⟩ : ∃ i, i ∈ a.free ∧ fnd co a.s.1 i ≠ 0 := by
      apply Decidable.byContradiction
      intro z
      refine hz fun i hi => ?_
      apply Decidable.byContradiction
      intro z2
      exact z ⟨i, hi, z2⟩
    have hn0' : D w (vw co) (vN a.s i0) ≠ 0 := by
      rw [fnd_D R.len V.sh1 (hfl i0 hi0)] at hn0
      exact hn0
    have hb0 : ∀ b, b < w → (vw co b).natAbs ≤ C0 := R.way.resolve_right fun z => hn0' (z _ (hfree i0 hi0))
    have hfp : 0 < a.free.length := List.length_pos_of_mem hi0
    have hk : a.pins.length < w := by omega
    have hMs1 := nm.hM (a.pins.length + 1) (by omega)
    have hJs1 := nm.hJ (a.pins.length + 1) (by omega)
    have hLM : 1 ≤ L * Mb L a.pins.length := Nat.mul_pos nm.l1 hM1
    have hDb : ∀ (u : Fv) (B : Nat), (∀ b, b < w → (u b).natAbs ≤ B) → (D w (vw co) u).natAbs ≤ L * B := fun u B hu => Nat.le_trans (D_bound hb0 hu) (by
      rw [← Nat.mul_assoc]
      exact Nat.mul_le_mul hL (Nat.le_refl _))
    have hM2 : Mb L (a.pins.length + 1) < 2 ^ 1000000 := by
      have : 1 * Mb L (a.pins.length + 1) ≤ (L + L1 + 1) * Mb L (a.pins.length + 1) := Nat.mul_le_mul (by omega) (Nat.le_refl _)
      omega
    have hJ2 : Jb L (a.pins.length + 1) < 2 ^ 1000000 := by
      have : Jb L (a.pins.length + 1) * 1 ≤ Jb L (a.pins.length + 1) * (Xb + 1) := Nat.mul_le_mul (Nat.le_refl _) (by omega)
      omega
    obtain ⟨n, s', run, P⟩ := rounds0 (co := co) (free := a.free) (F := L * Mb L a.pins.length) (M := Mb L a.pins.length) (J := Jb L a.pins.length) (s := a.s) R.len hw hndp.2.1 hfl (by omega) hLM
      (by
        by_cases h2 : a.pins.length + 2 ≤ w
        · exact .inl (nm.hF _ h2)
        · exact .inr (by omega))
      (by
        have : L * Mb L a.pins.length ≤ (L + L1 + 1) * Mb L a.pins.length := Nat.mul_le_mul (by omega) (Nat.le_refl _)
        omega) hM2 hJ2 V.sh1 V.sh2 V.alg V.bM V.bJ (fun i hi => by
          rw [fnd_D R.len V.sh1 (hfl i hi)]
          exact hDb _ _ fun b hb => V.bM i b (hfl i hi) hb)
    change Post w co a.free (Mb L (a.pins.length + 1)) (Jb L (a.pins.length + 1)) _ _ _ at P
    have hf' : ∀ i, i < w → fnd co s'.1 i = D w (vw co) (vN s' i) := fun i hi => fnd_D R.len P.sh1 hi
    have hpf : ∀ p ∈ a.pins, p.1 ∉ a.free := fun p hp z => hndp.2.2 _ (List.mem_map.mpr ⟨p, hp, rfl⟩) _ z rfl
    have hpI : ∀ p ∈ a.pins, vI s' p.1 = vI a.s p.1 := fun p hp => by
      unfold vI
      rw [(P.out p.1 (hpf p hp)).2]
    -- one is left
    obtain ⟨at', hat, hl⟩ : ∃ i, i ∈ a.free ∧ lefts (fnd co s'.1) a.free = [i] := by
      have few := P.few
      unfold nz at few
      match hm : lefts (fnd co s'.1) a.free, few with
      | [], _ =>
        exfalso
        have hz2 : ∀ i ∈ a.free, D w (vw co) (vN s' i) = 0 := fun i hi => by
          rw [← hf' i (hfl i hi)]
          apply Decidable.byContradiction
          intro z
          have : i ∈ lefts (fnd co s'.1) a.free := lefts_mem.mpr ⟨hi, z⟩
          rw [hm] at this
          cases this
        refine hn0' ?_
        rw [part_sum P.alg V.part, sum_zero (l := a.pins.map (·.1)) (fun j hj => by
          obtain ⟨p, hp, rfl⟩ := List.mem_map.mp hj
          show D w (vI s' p.1) _ * _ = (0 : Int)
          rw [hpI p hp, V.kp _ (hfree i0 hi0) p hp, Int.zero_mul]), sum_zero (l := a.free) (fun j hj => by rw [hz2 j hj, Int.mul_zero])]
        rfl
      | [i], _ => exact ⟨i, (lefts_mem.mp (show i ∈ lefts (fnd co s'.1) a.free by rw [hm]; exact List.mem_cons_self)).1, rfl⟩
      | _ :: _ :: _, few => simp at few; omega
    have hatw := hfl at' hat
    have hwh0 : fnd co s'.1 at' ≠ 0 := (lefts_mem.mp (show at' ∈ lefts (fnd co s'.1) a.free by rw [hl]; exact List.mem_cons_self)).2
    have hoth : ∀ j ∈ a.free, j ≠ at' → D w (vw co) (vN s' j) = 0 := fun j hj hne => by
      rw [← hf' j (hfl j hj)]
      apply Decidable.byContradiction
      intro z
      have : j ∈ lefts (fnd co s'.1) a.free := lefts_mem.mpr ⟨hj, z⟩
      rw [hl] at this
      exact hne (List.mem_singleton.mp this)
    have hall : ∀ v : Fv, D w (vw co) v = ((a.pins.map (·.1)).map fun i => D w (vI s' i) v * D w (vw co) (vN s' i)).sum + D w (vI s' at') v * fnd co s'.1 at' := fun v => by
      rw [part_sum P.alg V.part, sum_one hndp.2.1 hat (fun j hj hne => by rw [hoth j hj hne, Int.mul_zero]), hf' at' hatw]
    have hker : ∀ v : Fv, (∀ c ∈ done, D w c v = 0) → D w (vw co) v = D w (vI s' at') v * fnd co s'.1 at' := fun v hv => by
      rw [hall v, sum_zero (l := a.pins.map (·.1)) (fun j hj => by
        obtain ⟨p, hp, rfl⟩ := List.mem_map.mp hj
        show D w (vI s' p.1) _ * _ = (0 : Int)
        rw [hpI p hp, V.kp _ hv p hp, Int.zero_mul]), Int.zero_add]
    obtain ⟨us, hu1, hu2⟩ := V.us
    obtain ⟨u, hu, hcu⟩ : ∃ u ∈ us, D w (vw co) u ≠ 0 := by
      apply Decidable.byContradiction
      intro z
      refine hn0' (hu2 (vw co) (fun u hu => ?_) _ (hfree i0 hi0))
      apply Decidable.byContradiction
      intro z2
      exact z ⟨u, hu, z2⟩
    have hwhole : (fnd co s'.1 at').natAbs ≤ L * Bb L a.pins.length := by
      have h1 := hDb u _ (hu1 u hu).2
      have h2 := hker u (hu1 u hu).1
      rw [h2] at h1 hcu
      rw [Int.natAbs_mul] at h1
      have h3 : 1 ≤ (D w (vI s' at') u).natAbs := by
        have : D w (vI s' at') u ≠ 0 := fun z => hcu (by rw [z, Int.zero_mul])
        omega
      have h4 : 1 * (fnd co s'.1 at').natAbs ≤ (D w (vI s' at') u).natAbs * (fnd co s'.1 at').natAbs := Nat.mul_le_mul h3 (Nat.le_refl _)
      omega
    have hleft : leftF c co s'.1 a.pins = -(D w (vI s' at') x * fnd co s'.1 at') := by
      have h1 := R.zero
      rw [hall x, List.map_map] at h1
      unfold leftF
      have e : a.pins.map (fun p => fnd co s'.1 p.1 * p.2) = a.pins.map ((fun i => D w (vI s' i) x * D w (vw co) (vN s' i)) ∘ fun p => p.1) := List.map_congr_left fun p hp => by
        show fnd co s'.1 p.1 * p.2 = D w (vI s' p.1) x * D w (vw co) (vN s' p.1)
        rw [hpI p hp, ← V.val p hp, hf' p.1 (hpl p hp), Int.mul_comm]
      rw [e]
      omega
    have hval : (-(leftF c co s'.1 a.pins)).fdiv (fnd co s'.1 at') = D w (vI s' at') x := by
      rw [hleft, Int.neg_neg]
      exact Int.mul_fdiv_cancel _ hwh0
    refine ⟨n, s', ⟨s', a.free.erase at', a.pins ++ [(at', D w (vI s' at') x)]⟩, run, fun p hp => ⟨smL_of (shape_row P.sh1 (hpl p hp)) (fun b hb => P.bX p.1 b (hpl p hp) hb) hM2, ?_, hvals p hp⟩, ?_, ?_⟩
    · rw [hf' p.1 (hpl p hp)]
      refine sm_of (hDb _ _ fun b hb => P.bX p.1 b (hpl p hp) hb) ?_
      have : L * Mb L (a.pins.length + 1) ≤ (L + L1 + 1) * Mb L (a.pins.length + 1) := Nat.mul_le_mul (by omega) (Nat.le_refl _)
      omega
    · unfold RowDone lastOf
      rw [hl]
      refine ⟨smL_of (shape_row P.sh1 hatw) (fun b hb => P.bX at' b hatw hb) hM2, ?_, PyProof.noPylong_of_log2 ?_, ?_⟩
      · rw [hleft, Int.fmod_def, ← Int.neg_mul, Int.mul_fdiv_cancel _ hwh0]
        grind
      · exact (Nat.log2_lt (by omega)).mpr (Nat.lt_of_le_of_lt hwhole (nm.hB _ hk))
      · rw [hval]
    · have hlen : (a.pins ++ [(at', D w (vI s' at') x)]).length = a.pins.length + 1 := by rw [List.length_append]; rfl
      have hdn : ∀ v : Fv, (∀ c ∈ vw co :: done, D w c v = 0) → ∀ c ∈ done, D w c v = 0 := fun v hv c hc => hv c (List.mem_cons_of_mem _ hc)
      have pm : ((a.pins ++ [(at', D w (vI s' at') x)]).map (·.1) ++ a.free.erase at').Perm (a.pins.map (·.1) ++ a.free) := by
        rw [List.map_append, List.append_assoc]
        exact List.Perm.append_left _ (List.perm_cons_erase hat).symm
      refine ⟨P.sh1, P.sh2, P.alg, pm.trans V.part, fun p hp => ?_, fun c hc i hi => ?_, fun v hv p hp => ?_, fun i b hi hb => ?_, fun i b hi hb => ?_, ?_⟩
      · rcases List.mem_append.mp hp with hp | hp
        · show p.2 = D w (vI s' p.1) x
          rw [hpI p hp]
          exact V.val p hp
        · rw [List.mem_singleton.mp hp]
      · have hif : i ∈ a.free := List.mem_of_mem_erase hi
        rcases List.mem_cons.mp hc with rfl | hc
        · refine hoth i hif fun z => ?_
          have := (List.Nodup.mem_erase_iff hndp.2.1).mp hi
          exact this.1 z
        · exact P.ker c (V.fk c hc) i hif
      · rcases List.mem_append.mp hp with hp | hp
        · show D w (vI s' p.1) v = 0
          rw [hpI p hp]
          exact V.kp v (hdn v hv) p hp
        · rw [List.mem_singleton.mp hp]
          have h1 := hker v (hdn v hv)
          rw [hv _ List.mem_cons_self] at h1
          exact (Int.mul_eq_zero.mp h1.symm).resolve_right hwh0
      · show (vN s' i b).natAbs ≤ Mb L (a.pins ++ _).length
        rw [hlen]
        exact P.bX i b hi hb
      · show (vI s' i b).natAbs ≤ Jb L (a.pins ++ _).length
        rw [hlen]
        exact P.bY i b hi hb
      · refine ⟨us.map fun v b => D w (vw co) u * v b - D w (vw co) v * u b, fun v' hv' => ?_, fun f hf v hv => ?_⟩
        · obtain ⟨v, hv, rfl⟩ := List.mem_map.mp hv'
          refine ⟨fun c hc => ?_, fun b hb => ?_⟩
          · rw [D_lin]
            rcases List.mem_cons.mp hc with rfl | hc
            · grind
            · rw [(hu1 v hv).1 c hc, (hu1 u hu).1 c hc]
              simp
          · show (D w (vw co) u * v b - D w (vw co) v * u b).natAbs ≤ Bb L (a.pins ++ _).length
            rw [hlen]
            show _ ≤ 2 * (L * Bb L a.pins.length * Bb L a.pins.length)
            have e1 : (D w (vw co) u * v b).natAbs ≤ L * Bb L a.pins.length * Bb L a.pins.length := by
              rw [Int.natAbs_mul]
              exact Nat.mul_le_mul (hDb u _ (hu1 u hu).2) ((hu1 v hv).2 b hb)
            have e2 : (D w (vw co) v * u b).natAbs ≤ L * Bb L a.pins.length * Bb L a.pins.length := by
              rw [Int.natAbs_mul]
              exact Nat.mul_le_mul (hDb v _ (hu1 v hv).2) ((hu1 u hu).2 b hb)
            omega
        · have h1 := hu2 (fun b => D w (vw co) u * f b - D w f u * vw co b) (fun v hv => by
            have := hf _ (List.mem_map.mpr ⟨v, hv, rfl⟩)
            rw [D_lin] at this
            rw [D_lin2, Int.mul_comm (D w f u)]
            exact this) v (hdn v hv)
          rw [D_lin2, hv _ List.mem_cons_self, Int.mul_zero, Int.sub_zero] at h1
          exact (Int.mul_eq_zero.mp h1).resolve_left hcu
end K39
namespace K39
open PySem
def RowsOk (w : Nat) (x : Fv) (C0 C1 : Nat) : List Fv → List (List Int) → Prop
  | _, [] => True
  | done, r :: rest => ∃ c co, r = c :: co ∧ RowOk w x C0 C1 done c co ∧ RowsOk w x C0 C1 (vw co :: done) rest
theorem rows_run {w : Nat} {x : Fv} {C0 C1 L L1 Xb : Nat} (nm : Num w L L1 Xb) (hL : w * C0 ≤ L) (hL1 : w * C1 ≤ L1) (hC1 : C1 < 2 ^ 1000000) (hx : ∀ b, b < w → (x b).natAbs ≤ Xb) :
    ∀ {rows : List (List Int)} {done : List Fv} {a : Stt}, Inv w x L done a → RowsOk w x C0 C1 done rows → ∃ t done', RowsRun w rows a t ∧ Inv w x L done' t ∧ (∀ c ∈ done, c ∈ done') ∧ ∀ c co, c :: co ∈ rows → vw co ∈ done' ∧ co.length = w ∧ c + D w (vw co) x = 0
  | [], done, a, V, _ => ⟨a, done, rfl, V, fun c hc => hc, fun c co h => by cases h⟩
  | r :: rest, done, a, V, h => by
    obtain ⟨c, co, rfl, R, h⟩ := h
    obtain ⟨n, s', a', run, hs, rd, V'⟩ := row_step nm hL hL1 hC1 hx V R
    obtain ⟨t, done', rr, V'', sub, all⟩ := rows_run nm hL hL1 hC1 hx V' h
    refine ⟨t, done', ⟨c, co, n, s', a', rfl, smL_of R.len R.b1 hC1, ?_, run, hs, rd, rr⟩, V'', fun c hc => sub c (List.mem_cons_of_mem _ hc), fun c' co' hm => ?_⟩
    · have := R.len
      have := nm.hw
      omega
    · rcases List.mem_cons.mp hm with e | hm
      · obtain ⟨rfl, rfl⟩ := List.cons.inj e
        exact ⟨sub _ List.mem_cons_self, R.len, R.zero⟩
      · exact all c' co' hm
/-! ### the start -/
theorem idM_row {w p : Nat} (hp : p < w) : rowAt (idM w) p = (List.range w).map fun a => if a = p then 1 else 0 := by
  unfold rowAt idM
  rw [List.getD_eq_getElem?_getD, List.getElem?_map, List.getElem?_range hp]
  rfl
theorem idM_vw {w p a : Nat} (hp : p < w) (ha : a < w) : vw (rowAt (idM w) p) a = if a = p then 1 else 0 := by
  rw [idM_row hp]
  unfold vw
  rw [List.getD_eq_getElem?_getD, List.getElem?_map, List.getElem?_range ha]
  rfl
theorem idM_shape {w : Nat} : Shape w (idM w) := by
  unfold idM
  refine ⟨by rw [List.length_map, List.length_range], fun m hm => ?_⟩
  obtain ⟨p, _, rfl⟩ := List.mem_map.mp hm
  rw [List.length_map, List.length_range]
theorem init_inv {w : Nat} {x : Fv} {L : Nat} : Inv w x L [] (initS w) := by
  refine ⟨idM_shape, idM_shape, ⟨fun i j hi hj => ?_, fun a b ha hb => ?_⟩, ?_, fun p hp => (by cases hp), fun c hc => (by cases hc), fun v _ p hp => (by cases hp), fun i b hi hb => ?_, fun i b hi hb => ?_, ?_⟩
  · show S w (fun a => vw (rowAt (idM w) i) a * vw (rowAt (idM w) j) a) = _
    rw [S_congr (g := fun a => if a = i then (if i = j then 1 else 0) else 0) fun a ha => by
      rw [idM_vw hi ha, idM_vw hj ha]
      by_cases e : a = i
      · subst e
        simp
      · simp [e], S_single, if_pos hi]
  · show S w (fun i => vw (rowAt (idM w) i) a * vw (rowAt (idM w) i) b) = _
    rw [S_congr (g := fun i => if i = a then (if a = b then 1 else 0) else 0) fun i hi => by
      rw [idM_vw hi ha, idM_vw hi hb]
      by_cases e : i = a
      · subst e
        by_cases e2 : b = i
        · simp [e2]
        · have e3 : ¬ i = b := fun z => e2 z.symm
          simp [e2, e3]
      · have e' : ¬ a = i := fun z => e z.symm
        simp [e, e'], S_single, if_pos ha]
  · exact List.Perm.refl _
  · show (vw (rowAt (idM w) i) b).natAbs ≤ 1
    rw [idM_vw hi hb]
    split <;> decide
  · show (vw (rowAt (idM w) i) b).natAbs ≤ 1
    rw [idM_vw hi hb]
    split <;> decide
  · refine ⟨(List.range w).map fun k b => if b = k then 1 else 0, fun u hu => ⟨fun c hc => (by cases hc), fun b hb => ?_⟩, fun f hf v _ => ?_⟩
    · obtain ⟨k, _, rfl⟩ := List.mem_map.mp hu
      show (if b = k then (1 : Int) else 0).natAbs ≤ 1
      split <;> decide
    · refine S_zero fun a ha => ?_
      have := hf _ (List.mem_map.mpr ⟨a, List.mem_range.mpr ha, rfl⟩)
      unfold D at this
      rw [S_congr (g := fun b => if b = a then f a else 0) fun b hb => by
        by_cases e : b = a
        · subst e
          simp
        · simp [e], S_single, if_pos ha] at this
      rw [this, Int.zero_mul]
/-! ### adding rows up -/
theorem add_vw {w : Nat} {α : Type} (k : α → Int) (r : α → List Int) : ∀ (l : List α) (acc : List Int), acc.length = w → (∀ p ∈ l, (r p).length = w) → (l.foldl (fun acc p => addRow (k p) acc (r p)) acc).length = w ∧ ∀ a, a < w → vw (l.foldl (fun acc p => addRow (k p) acc (r p)) acc) a = vw acc a + (l.map fun p => k p * vw (r p) a).sum
  | [], acc, h, _ => ⟨h, fun a _ => by simp⟩
  | p :: l, acc, h, hr => by
    have hp := hr p List.mem_cons_self
    have hl : (addRow (k p) acc (r p)).length = w := by
      unfold addRow
      rw [List.length_zipWith, h, hp, Nat.min_self]
    obtain ⟨h1, h2⟩ := add_vw k r l (addRow (k p) acc (r p)) hl fun q hq => hr q (List.mem_cons_of_mem _ hq)
    refine ⟨h1, fun a ha => ?_⟩
    show vw (l.foldl _ (addRow (k p) acc (r p))) a = _
    rw [h2 a ha, List.map_cons, List.sum_cons]
    have : vw (addRow (k p) acc (r p)) a = vw acc a + k p * vw (r p) a := vw_zip h hp ha
    rw [this]
    omega
theorem D_sum {w : Nat} {α : Type} (c : Fv) (k : α → Int) (r : α → Fv) : ∀ l : List α, D w c (fun a => (l.map fun p => k p * r p a).sum) = (l.map fun p => k p * D w c (r p)).sum
  | [] => S_zero fun a _ => Int.mul_zero _
  | p :: l => by
    rw [List.map_cons, List.sum_cons, ← D_sum c k r l]
    rw [D_congr (fun _ _ => rfl) (v' := fun a => (l.map fun p => k p * r p a).sum + k p * r p a) fun a _ => by
      rw [List.map_cons, List.sum_cons]
      omega, D_add]
    omega
theorem sum_bound {α : Type} {g : α → Int} {b : Nat} : ∀ {l : List α}, (∀ p ∈ l, (g p).natAbs ≤ b) → ((l.map g).sum).natAbs ≤ l.length * b
  | [], _ => by simp
  | p :: l, h => by
    have h1 := sum_bound (g := g) (b := b) (l := l) fun q hq => h q (List.mem_cons_of_mem _ hq)
    have h2 := h p List.mem_cons_self
    rw [List.map_cons, List.sum_cons, List.length_cons, Nat.add_mul, Nat.one_mul]
    omega
theorem pick {ts : List Int} {i : Nat} : ∀ {l : List Nat} {ts : List Int} {j : Nat}, l.Nodup → ts.length = l.length → l[j]? = some i → ((l.zip ts).map fun p => p.2 * (if i = p.1 then 1 else 0)).sum = ts.getD j 0
  | [], _, _, _, _, h => by cases h
  | x :: l, [], _, _, h, _ => by cases h
  | x :: l, t :: ts, j, nd, hl, h => by
    have ndc := List.nodup_cons.mp nd
    have hl : ts.length = l.length := by simpa using hl
    rw [List.zip_cons_cons, List.map_cons, List.sum_cons]
    cases j with
    | zero =>
      obtain rfl : x = i := Option.some.inj h
      have : ((l.zip ts).map fun p => p.2 * (if x = p.1 then 1 else 0)).sum = 0 := by
        have h0 : ∀ (l : List (Nat × Int)), (∀ p ∈ l, x ≠ p.1) → (l.map fun p => p.2 * (if x = p.1 then (1 : Int) else 0)).sum = 0 := fun l => by
          induction l with
          | nil => exact fun _ => rfl
          | cons q l ih =>
            intro h
            rw [List.map_cons, List.sum_cons, ih fun p hp => h p (List.mem_cons_of_mem _ hp), if_neg (h q List.mem_cons_self)]
            omega
        refine h0 _ fun p hp z => ndc.1 ?_
        rw [z]
        exact (List.of_mem_zip (a := p.1) (b := p.2) hp).1
      rw [this]
      simp
    | succ j =>
      have h : l[j]? = some i := h
      have hne : i ≠ x := fun z => ndc.1 (by rw [← z]; exact List.mem_of_getElem? h)
      rw [pick (ts := ts) ndc.2 hl h, if_neg hne]
      simp
structure BaseOk (w : Nat) (xs : List Int) (rows : List (List Int)) (B : Bas) : Prop where
  pl : B.point.length = w
  ml : ∀ m ∈ B.moves, m.length = w
  rl : ∀ m ∈ B.reads, m.length = w
  len : B.reads.length = B.moves.length
  lw : B.moves.length ≤ 8
  rowp : ∀ c co, c :: co ∈ rows → co.length = w ∧ c + dot co B.point = 0 ∧ ∀ m ∈ B.moves, dot co m = 0
  dl : ∀ i j, i < B.moves.length → j < B.moves.length → dot (rowAt B.reads i) (rowAt B.moves j) = if j = i then 1 else 0
  back : spreadF B (timesF B xs) = xs
  forth : ∀ t, t.length = B.moves.length → (spreadF B t).length = w ∧ timesF B (spreadF B t) = t ∧ ∀ c co, c :: co ∈ rows → c + dot co (spreadF B t) = 0
  sp : ∀ a, a < w → (vw B.point a).natAbs ≤ 2 ^ 2000003
  sm : ∀ m ∈ B.moves, ∀ a, a < w → (vw m a).natAbs ≤ 2 ^ 1000000
  sr : ∀ m ∈ B.reads, ∀ a, a < w → (vw m a).natAbs ≤ 2 ^ 1000000
theorem ext_vw {w : Nat} {u v : List Int} (hu : u.length = w) (hv : v.length = w) (h : ∀ a, a < w → vw u a = vw v a) : u = v := by
  apply List.ext_getElem (by omega)
  intro a h1 h2
  have := h a (by omega)
  unfold vw at this
  rw [List.getD_eq_getElem?_getD, List.getD_eq_getElem?_getD, List.getElem?_eq_getElem h1, List.getElem?_eq_getElem h2] at this
  exact this
theorem zip_maps {α β γ : Type} (f : α → β) (g : α → γ) : ∀ l : List α, (l.map f).zip (l.map g) = l.map fun i => (f i, g i)
  | [] => rfl
  | a :: l => by rw [List.map_cons, List.map_cons, List.map_cons, List.zip_cons_cons, zip_maps f g l]
theorem zip_mapl {α β γ : Type} (f : α → β) : ∀ (l : List α) (t : List γ), (l.map f).zip t = (l.zip t).map fun p => (f p.1, p.2)
  | [], _ => rfl
  | a :: l, [] => rfl
  | a :: l, b :: t => by rw [List.map_cons, List.zip_cons_cons, List.zip_cons_cons, List.map_cons, zip_mapl f l t]
theorem settled_base {w : Nat} {xs : List Int} {C0 C1 L L1 Xb : Nat} {rows : List (List Int)} (nm : Num w L L1 Xb) (hxl : xs.length = w) (hL : w * C0 ≤ L) (hL1 : w * C1 ≤ L1) (hC1 : C1 < 2 ^ 1000000) (hx : ∀ b, b < w → (vw xs b).natAbs ≤ Xb) (h : RowsOk w (vw xs) C0 C1 [] rows) :
    ∃ B, SettledRun w rows B ∧ BaseOk w xs rows B := by
  obtain ⟨t, done, rr, V, _, all⟩ := rows_run nm hL hL1 hC1 hx init_inv h
  have hw := nm.hw
  have hnd := (V.part.nodup_iff.mpr List.nodup_range)
  have hndp := List.nodup_append.mp hnd
  have hlt : ∀ i ∈ t.pins.map (·.1) ++ t.free, i < w := fun i hi => List.mem_range.mp (V.part.mem_iff.mp hi)
  have hfl : ∀ i ∈ t.free, i < w := fun i hi => hlt i (List.mem_append_right _ hi)
  have hpl : ∀ p ∈ t.pins, p.1 < w := fun p hp => hlt p.1 (List.mem_append_left _ (List.mem_map.mpr ⟨p, hp, rfl⟩))
  have hcnt : t.pins.length + t.free.length = w := by
    have := V.part.length_eq
    rw [List.length_append, List.length_map, List.length_range] at this
    exact this
  have hMs := nm.hM t.pins.length (by omega)
  have hJs := nm.hJ t.pins.length (by omega)
  have hMM : Mb L t.pins.length < 2 ^ 1000000 := by
    have : 1 * Mb L t.pins.length ≤ (L + L1 + 1) * Mb L t.pins.length := Nat.mul_le_mul (by omega) (Nat.le_refl _)
    omega
  have hJJ : Jb L t.pins.length < 2 ^ 1000000 := by
    have : Jb L t.pins.length * 1 ≤ Jb L t.pins.length * (Xb + 1) := Nat.mul_le_mul (Nat.le_refl _) (by omega)
    omega
  have hvb : ∀ p ∈ t.pins, p.2.natAbs ≤ 2 ^ 1000000 := fun p hp => by
    rw [V.val p hp]
    have h1 := D_bound (w := w) (fun b hb => V.bJ p.1 b (hpl p hp) hb) hx
    have : w * (Jb L t.pins.length * Xb) ≤ 8 * (Jb L t.pins.length * (Xb + 1)) := Nat.mul_le_mul hw (Nat.mul_le_mul (Nat.le_refl _) (by omega))
    omega
  have hvals : ∀ p ∈ t.pins, Sm p.2 := fun p hp => by
    rw [V.val p hp]
    refine sm_of (X := w * (Jb L t.pins.length * Xb)) (D_bound (fun b hb => V.bJ p.1 b (hpl p hp) hb) hx) ?_
    have : w * (Jb L t.pins.length * Xb) ≤ 8 * (Jb L t.pins.length * (Xb + 1)) := Nat.mul_le_mul hw (Nat.mul_le_mul (Nat.le_refl _) (by omega))
    omega
  refine ⟨baseOf w t, ⟨t, rr, fun p hp => ⟨hvals p hp, smL_of (shape_row V.sh1 (hpl p hp)) (fun b hb => V.bM p.1 b (hpl p hp) hb) hMM⟩, rfl⟩, ?_⟩
  -- the point
  obtain ⟨pl, pv⟩ := add_vw (w := w) (fun p : Nat × Int => p.2) (fun p => rowAt t.s.1 p.1) t.pins (List.replicate w 0) List.length_replicate fun p hp => shape_row V.sh1 (hpl p hp)
  change (pointOf w t.s.1 t.pins).length = w at pl
  change ∀ a, a < w → vw (pointOf w t.s.1 t.pins) a = _ at pv
  have rep : ∀ a, vw (List.replicate w (0 : Int)) a = 0 := fun a => by
    unfold vw
    rw [List.getD_eq_getElem?_getD, List.getElem?_replicate]
    split <;> rfl
  have pv : ∀ a, a < w → vw (pointOf w t.s.1 t.pins) a = (t.pins.map fun p => p.2 * vN t.s p.1 a).sum := fun a ha => by
    rw [pv a ha, rep, Int.zero_add]
    rfl
  have hDp : ∀ c : Fv, D w c (vw (pointOf w t.s.1 t.pins)) = (t.pins.map fun p => p.2 * D w c (vN t.s p.1)).sum := fun c => by
    rw [D_congr (fun _ _ => rfl) pv, D_sum c (fun p : Nat × Int => p.2) fun p => vN t.s p.1]
  have hIp : ∀ i ∈ t.free, D w (vI t.s i) (vw (pointOf w t.s.1 t.pins)) = 0 := fun i hi => by
    rw [hDp]
    have : ∀ p ∈ t.pins, p.2 * D w (vI t.s i) (vN t.s p.1) = 0 := fun p hp => by
      rw [V.alg.del i p.1 (hfl i hi) (hpl p hp), if_neg (fun z => hndp.2.2 p.1 (List.mem_map.mpr ⟨p, hp, rfl⟩) i hi z.symm), Int.mul_zero]
    have h0 : ∀ l : List (Nat × Int), (∀ p ∈ l, p.2 * D w (vI t.s i) (vN t.s p.1) = 0) → (l.map fun p => p.2 * D w (vI t.s i) (vN t.s p.1)).sum = 0 := fun l => by
      induction l with
      | nil => exact fun _ => rfl
      | cons q l ih =>
        intro h
        rw [List.map_cons, List.sum_cons, ih fun p hp => h p (List.mem_cons_of_mem _ hp), h q List.mem_cons_self]
        rfl
    exact h0 _ this
  have hspread : ∀ ts : List Int, (spreadF (baseOf w t) ts).length = w ∧ ∀ a, a < w → vw (spreadF (baseOf w t) ts) a = vw (pointOf w t.s.1 t.pins) a + ((t.free.zip ts).map fun p => p.2 * vN t.s p.1 a).sum := fun ts => by
    have h := add_vw (w := w) (fun p : List Int × Int => p.2) (fun p => p.1) ((baseOf w t).moves.zip ts) (baseOf w t).point pl fun p hp => by
      have h1 := (List.of_mem_zip (a := p.1) (b := p.2) hp).1
      obtain ⟨i, hi, e⟩ := List.mem_map.mp h1
      rw [← e]
      exact shape_row V.sh1 (hfl i hi)
    refine ⟨h.1, fun a ha => ?_⟩
    unfold spreadF
    rw [h.2 a ha]
    show _ + (((t.free.map (rowAt t.s.1)).zip ts).map _).sum = _
    rw [zip_mapl, List.map_map]
    rfl
  have hsd : ∀ (c : Fv) (ts : List Int), D w c (vw (spreadF (baseOf w t) ts)) = D w c (vw (pointOf w t.s.1 t.pins)) + ((t.free.zip ts).map fun p => p.2 * D w c (vN t.s p.1)).sum := fun c ts => by
    rw [D_congr (fun _ _ => rfl) (v' := fun a => vw (pointOf w t.s.1 t.pins) a + 1 * ((t.free.zip ts).map fun p => p.2 * vN t.s p.1 a).sum) fun a ha => by
      rw [(hspread ts).2 a ha, Int.one_mul], D_add, D_sum c (fun p : Nat × Int => p.2) fun p => vN t.s p.1, Int.one_mul]
  have haway : ∀ (vals : List Int), vals.length = w → ∀ i ∈ t.free, dot (rowAt t.s.2 i) (List.zipWith (fun a b => a - b) vals (baseOf w t).point) = D w (vI t.s i) (vw vals) := fun vals hv i hi => by
    rw [dot_D (shape_row V.sh2 (hfl i hi)) (by rw [List.length_zipWith, hv]; show min w (pointOf w t.s.1 t.pins).length = w; rw [pl, Nat.min_self])]
    rw [D_congr (fun _ _ => rfl) (v' := fun a => vw vals a + (-1) * vw (pointOf w t.s.1 t.pins) a) fun a ha => by
      rw [vw_zip hv (show (baseOf w t).point.length = w from pl) ha]
      show vw vals a - vw (pointOf w t.s.1 t.pins) a = _
      omega, D_add]
    show D w (vI t.s i) (vw vals) + -1 * D w (vI t.s i) _ = _
    rw [hIp i hi]
    omega
  have hrow0 : ∀ c co, c :: co ∈ rows → c + D w (vw co) (vw (pointOf w t.s.1 t.pins)) = 0 := fun c co hm => by
    obtain ⟨h1, h2, h3⟩ := all c co hm
    rw [part_sum V.alg V.part, sum_zero (l := t.free) (fun j hj => by rw [V.fk _ h1 j hj, Int.mul_zero]), List.map_map] at h3
    rw [hDp]
    have e : t.pins.map (fun p => p.2 * D w (vw co) (vN t.s p.1)) = t.pins.map ((fun i => D w (vI t.s i) (vw xs) * D w (vw co) (vN t.s i)) ∘ fun p => p.1) := List.map_congr_left fun p hp => by
      show p.2 * _ = D w (vI t.s p.1) (vw xs) * _
      rw [V.val p hp]
    rw [e]
    omega
  refine ⟨pl, fun m hm => ?_, fun m hm => ?_, ?_, ?_, fun c co hm => ⟨(all c co hm).2.1, ?_, fun m hmm => ?_⟩, fun i j hi hj => ?_, ?_, fun ts hts => ⟨(hspread ts).1, ?_, fun c co hm => ?_⟩, fun a ha => ?_, fun m hm a ha => ?_, fun m hm a ha => ?_⟩
  · obtain ⟨i, hi, rfl⟩ := List.mem_map.mp hm
    exact shape_row V.sh1 (hfl i hi)
  · obtain ⟨i, hi, rfl⟩ := List.mem_map.mp hm
    exact shape_row V.sh2 (hfl i hi)
  · show (t.free.map _).length = (t.free.map _).length
    rw [List.length_map, List.length_map]
  · show (t.free.map _).length ≤ 8
    rw [List.length_map]
    omega
  · show c + dot co (pointOf w t.s.1 t.pins) = 0
    rw [dot_D (all c co hm).2.1 pl]
    exact hrow0 c co hm
  · obtain ⟨i, hi, rfl⟩ := List.mem_map.mp hmm
    rw [dot_D (all c co hm).2.1 (shape_row V.sh1 (hfl i hi))]
    exact V.fk _ (all c co hm).1 i hi
  · have hi : i < t.free.length := by
      have : i < (t.free.map (rowAt t.s.1)).length := hi
      rwa [List.length_map] at this
    have hj : j < t.free.length := by
      have : j < (t.free.map (rowAt t.s.1)).length := hj
      rwa [List.length_map] at this
    have ei : ∀ (C : Mat) (i : Nat) (hi : i < t.free.length), rowAt (t.free.map (rowAt C)) i = rowAt C t.free[i] := fun C i hi => by
      show (t.free.map (rowAt C)).getD i [] = _
      rw [List.getD_eq_getElem?_getD, List.getElem?_map, List.getElem?_eq_getElem hi]
      rfl
    show dot (rowAt (t.free.map (rowAt t.s.2)) i) (rowAt (t.free.map (rowAt t.s.1)) j) = _
    have m1 := hfl _ (List.getElem_mem hi)
    have m2 := hfl _ (List.getElem_mem hj)
    rw [ei _ i hi, ei _ j hj, dot_D (shape_row V.sh2 m1) (shape_row V.sh1 m2)]
    show D w (vI t.s t.free[i]) (vN t.s t.free[j]) = _
    rw [V.alg.del _ _ m1 m2]
    by_cases e : j = i
    · subst e
      simp
    · rw [if_neg e, if_neg]
      exact fun z => e ((List.getElem_inj hndp.2.1).mp z).symm
  · refine ext_vw (hspread _).1 hxl fun a ha => ?_
    rw [(hspread _).2 a ha, pv a ha]
    have e : timesF (baseOf w t) xs = t.free.map fun i => D w (vI t.s i) (vw xs) := by
      unfold timesF
      show (t.free.map (rowAt t.s.2)).map _ = _
      rw [List.map_map]
      exact List.map_congr_left fun i hi => haway xs hxl i hi
    have ez : ∀ (g : Nat → Int) (l : List Nat), (l.zip (l.map g)) = l.map fun i => (i, g i) := fun g l => by
      have := zip_maps (fun i : Nat => i) g l
      simpa using this
    rw [e, ez, List.map_map]
    have hc := V.alg.comb (vw xs) a ha
    rw [S_list, ← perm_sum V.part, List.map_append, List.sum_append, List.map_map] at hc
    rw [← hc]
    congr 2
    exact List.map_congr_left fun p hp => by
      show p.2 * _ = D w (vI t.s p.1) (vw xs) * vN t.s p.1 a
      rw [V.val p hp]
  · have hl : ts.length = t.free.length := by
      rw [hts]
      show (t.free.map _).length = _
      rw [List.length_map]
    unfold timesF
    show (t.free.map (rowAt t.s.2)).map _ = _
    rw [List.map_map]
    apply List.ext_getElem (by rw [List.length_map, hl])
    intro j h1 h2
    have hj : j < t.free.length := by omega
    have hm := List.getElem_mem hj
    rw [List.getElem_map]
    show dot (rowAt t.s.2 t.free[j]) _ = _
    rw [haway _ (hspread ts).1 _ hm, hsd, hIp _ hm, Int.zero_add]
    have e : (t.free.zip ts).map (fun p => p.2 * D w (vI t.s t.free[j]) (vN t.s p.1)) = (t.free.zip ts).map fun p => p.2 * (if t.free[j] = p.1 then 1 else 0) := List.map_congr_left fun p hp => by
      rw [V.alg.del _ _ (hfl _ hm) (hfl _ (List.of_mem_zip (a := p.1) (b := p.2) hp).1)]
    rw [e, pick (ts := ts) hndp.2.1 hl (List.getElem?_eq_getElem hj), List.getD_eq_getElem?_getD, List.getElem?_eq_getElem h2]
    rfl
  · obtain ⟨h1, h2, h3⟩ := all c co hm
    rw [dot_D h2 (hspread ts).1, hsd]
    have e : (t.free.zip ts).map (fun p => p.2 * D w (vw co) (vN t.s p.1)) = (t.free.zip ts).map fun _ => (0 : Int) := List.map_congr_left fun p hp => by
      rw [V.fk _ h1 _ (List.of_mem_zip (a := p.1) (b := p.2) hp).1, Int.mul_zero]
    have z : ∀ l : List (Nat × Int), (l.map fun _ => (0 : Int)).sum = 0 := fun l => by
      induction l with
      | nil => rfl
      | cons q l ih =>
        rw [List.map_cons, List.sum_cons, ih]
        rfl
    rw [e, z, Int.add_zero]
    exact hrow0 c co hm
  · show (vw (pointOf w t.s.1 t.pins) a).natAbs ≤ _
    rw [pv a ha]
    refine Nat.le_trans (sum_bound (b := 2 ^ 1000000 * 2 ^ 1000000) fun p hp => ?_) ?_
    · rw [Int.natAbs_mul]
      exact Nat.mul_le_mul (hvb p hp) (Nat.le_trans (V.bM p.1 a (hpl p hp) ha) (Nat.le_of_lt hMM))
    · have e : (2 : Nat) ^ 2000003 = 2 ^ 3 * (2 ^ 1000000 * 2 ^ 1000000) := by rw [← Nat.pow_add, ← Nat.pow_add]
      rw [e]
      exact Nat.mul_le_mul (by omega) (Nat.le_refl _)
  · obtain ⟨i, hi, rfl⟩ := List.mem_map.mp hm
    exact Nat.le_trans (V.bM i a (hfl i hi) ha) (Nat.le_of_lt hMM)
  · obtain ⟨i, hi, rfl⟩ := List.mem_map.mp hm
    exact Nat.le_trans (V.bJ i a (hfl i hi) ha) (Nat.le_of_lt hJJ)
end K39
namespace K39
open PySem
theorem n1F : ∀ k, k < 7 → 864 * Mb 864 k < 2 ^ 13500 := by decide +kernel
theorem n1B : ∀ k, k < 8 → 864 * Bb 864 k < 2 ^ 9000 := by decide +kernel
theorem n1M : ∀ k, k < 9 → (864 + 10 ^ 21 + 1) * Mb 864 k + 1 < 2 ^ 1000000 := by decide +kernel
theorem n1J : ∀ k, k < 9 → 8 * (Jb 864 k * (10 ^ 13 + 1)) < 2 ^ 1000000 := by decide +kernel
theorem n2F : ∀ k, k < 4 → (6 * 10 ^ 14) * Mb (6 * 10 ^ 14) k < 2 ^ 13500 := by decide +kernel
theorem n2B : ∀ k, k < 5 → (6 * 10 ^ 14) * Bb (6 * 10 ^ 14) k < 2 ^ 9000 := by decide +kernel
theorem n2M : ∀ k, k < 6 → (6 * 10 ^ 14 + 10 ^ 21 + 1) * Mb (6 * 10 ^ 14) k + 1 < 2 ^ 1000000 := by decide +kernel
theorem n2J : ∀ k, k < 6 → 8 * (Jb (6 * 10 ^ 14) k * (10 ^ 13 + 1)) < 2 ^ 1000000 := by decide +kernel
theorem num1 {w : Nat} (h : w ≤ 8) : Num w 864 (10 ^ 21) (10 ^ 13) := ⟨by decide, h, fun k hk => n1F k (by omega), fun k hk => n1B k (by omega), fun k hk => n1M k (by omega), fun k hk => n1J k (by omega)⟩
theorem num2 {w : Nat} (h : w ≤ 5) : Num w (6 * 10 ^ 14) (10 ^ 21) (10 ^ 13) := ⟨by decide, by omega, fun k hk => n2F k (by omega), fun k hk => n2B k (by omega), fun k hk => n2M k (by omega), fun k hk => n2J k (by omega)⟩
end K39
namespace K39
open PySem
def C0 (sz : Nat) : Nat := 12 * (10 ^ (1 + 6 * sz) - 1)
theorem c0_le {sz : Nat} (h : sz ≤ 2) : C0 sz ≤ 12 * 10 ^ 13 := by
  have : sz = 0 ∨ sz = 1 ∨ sz = 2 := by omega
  rcases this with rfl | rfl | rfl <;> decide
theorem sm_small {x : Int} (h : x.natAbs < 2 ^ 128) : Sm x := by
  unfold Sm
  by_cases h0 : x.natAbs = 0
  · rw [h0]
    decide
  · have : x.natAbs.log2 < 128 := (Nat.log2_lt h0).mpr h
    omega
/-- rows as the law lays them -/
def Built (wd sz : Nat) (xs : List Int) (rows : List (List Int)) : Prop := ∀ k, k < rows.length → ∃ c co, rowAt rows k = c :: co ∧ co.length = wd ∧ c = 0 - dot co xs ∧ ((∀ x ∈ co, x.natAbs ≤ C0 sz) ∨ ∃ (j : Nat) (t : Int), j < k ∧ t.natAbs ≤ 3 ∧ co = (rowAt rows j).tail.map fun x => t * x)
theorem built_small {wd sz : Nat} {xs : List Int} {rows : List (List Int)} (B : Built wd sz xs rows) : ∀ k, k < rows.length → ∀ x ∈ (rowAt rows k).tail, x.natAbs ≤ 3 ^ k * C0 sz := by
  intro k
  induction k using Nat.strongRecOn with
  | ind k ih =>
    intro hk x hx
    obtain ⟨c, co, e, h1, h2, h3⟩ := B k hk
    rw [e] at hx
    have hx : x ∈ co := hx
    rcases h3 with h3 | ⟨j, t, hj, ht, e2⟩
    · have := h3 x hx
      have h1 : 1 * C0 sz ≤ 3 ^ k * C0 sz := Nat.mul_le_mul (Nat.pow_pos (by decide)) (Nat.le_refl _)
      omega
    · rw [e2] at hx
      obtain ⟨y, hy, rfl⟩ := List.mem_map.mp hx
      have := ih j hj (by omega) y hy
      rw [Int.natAbs_mul]
      have h4 : t.natAbs * y.natAbs ≤ 3 * (3 ^ j * C0 sz) := Nat.mul_le_mul ht this
      have h5 : 3 ^ (j + 1) * C0 sz ≤ 3 ^ k * C0 sz := Nat.mul_le_mul (Nat.pow_le_pow_right (by decide) hj) (Nat.le_refl _)
      rw [Nat.pow_succ] at h5
      have h6 : 3 * (3 ^ j * C0 sz) = 3 ^ j * 3 * C0 sz := by grind
      omega
theorem coef_small {wd sz : Nat} {xs : List Int} {rows : List (List Int)} {co : List Int} (B : Built wd sz xs rows) (h : CoefOk wd sz rows co) (hl : rows.length ≤ 10) : ∀ x ∈ co, x.natAbs ≤ 3 ^ 11 * C0 sz := fun x hx => by
  rcases h.2 with h3 | ⟨j, t, hj, ht, e2⟩
  · have := h3 x hx
    change _ ≤ C0 sz at this
    omega
  · rw [e2] at hx
    obtain ⟨y, hy, rfl⟩ := List.mem_map.mp hx
    have := built_small B j hj y hy
    rw [Int.natAbs_mul]
    have h4 : t.natAbs * y.natAbs ≤ 3 * (3 ^ j * C0 sz) := Nat.mul_le_mul ht this
    have h5 : 3 ^ (j + 1) * C0 sz ≤ 3 ^ 11 * C0 sz := Nat.mul_le_mul (Nat.pow_le_pow_right (by decide) (by omega)) (Nat.le_refl _)
    rw [Nat.pow_succ] at h5
    have h6 : 3 * (3 ^ j * C0 sz) = 3 ^ j * 3 * C0 sz := by grind
    omega
theorem pow311 {sz : Nat} (h : sz ≤ 2) : 3 ^ 11 * C0 sz < 2 ^ 128 := by
  have := c0_le h
  have h2 : 3 ^ 11 * C0 sz ≤ 3 ^ 11 * (12 * 10 ^ 13) := Nat.mul_le_mul (Nat.le_refl _) this
  have h3 : 3 ^ 11 * (12 * 10 ^ 13) < 2 ^ 128 := by decide +kernel
  omega
theorem coef_sm {wd sz : Nat} {xs : List Int} {rows : List (List Int)} {co : List Int} (hs : sz ≤ 2) (B : Built wd sz xs rows) (h : CoefOk wd sz rows co) (hl : rows.length ≤ 10) : SmL co := fun x hx => sm_small (Nat.lt_of_le_of_lt (coef_small B h hl x hx) (pow311 hs))
theorem rowAt_app {rows : List (List Int)} {r : List Int} {k : Nat} (h : k < rows.length) : rowAt (rows ++ [r]) k = rowAt rows k := by
  unfold rowAt
  rw [List.getD_eq_getElem?_getD, List.getD_eq_getElem?_getD, List.getElem?_append_left h]
theorem rowAt_end {rows : List (List Int)} {r : List Int} : rowAt (rows ++ [r]) rows.length = r := by
  unfold rowAt
  rw [List.getD_eq_getElem?_getD, List.getElem?_append_right (Nat.le_refl _), Nat.sub_self]
  rfl
theorem built_app {wd sz : Nat} {xs : List Int} {rows : List (List Int)} {co : List Int} (B : Built wd sz xs rows) (h : CoefOk wd sz rows co) : Built wd sz xs (rows ++ [(0 - dot co xs) :: co]) := fun k hk => by
  rw [List.length_append] at hk
  by_cases hkl : k < rows.length
  · obtain ⟨c, co', e, h1, h2, h3⟩ := B k hkl
    refine ⟨c, co', by rw [rowAt_app hkl]; exact e, h1, h2, ?_⟩
    rcases h3 with h3 | ⟨j, t, hj, ht, e2⟩
    · exact .inl h3
    · exact .inr ⟨j, t, hj, ht, by rw [rowAt_app (by omega)]; exact e2⟩
  · have hkl : k = rows.length := by
      have : [(0 - dot co xs) :: co].length = 1 := rfl
      omega
    subst hkl
    refine ⟨_, co, rowAt_end, h.1, rfl, ?_⟩
    rcases h.2 with h3 | ⟨j, t, hj, ht, e2⟩
    · exact .inl h3
    · exact .inr ⟨j, t, hj, ht, by rw [rowAt_app hj]; exact e2⟩
theorem vw_map {co : List Int} {t : Int} {a : Nat} : vw (co.map fun x => t * x) a = t * vw co a := by
  unfold vw
  rw [List.getD_eq_getElem?_getD, List.getD_eq_getElem?_getD, List.getElem?_map]
  cases co[a]? with
  | none => exact (Int.mul_zero t).symm
  | some x => rfl
theorem D_scale {w : Nat} {u u' v : Fv} {t : Int} (h : ∀ a, a < w → u a = t * u' a) : D w u v = t * D w u' v := by
  unfold D
  rw [← S_mul]
  exact S_congr fun a ha => by
    rw [h a ha]
    grind
theorem vw_mem {l : List Int} {a : Nat} (h : a < l.length) : vw l a ∈ l := by
  unfold vw
  rw [List.getD_eq_getElem?_getD, List.getElem?_eq_getElem h]
  exact List.getElem_mem h
/-- the rows from k on are as the rounds ask -/
theorem rows_ok {wd sz : Nat} {xs : List Int} {rows : List (List Int)} (hx : xs.length = wd) (hl : rows.length ≤ 10) (B : Built wd sz xs rows) : ∀ (m k : Nat) (done : List Fv), k + m = rows.length → (∀ j, j < k → vw (rowAt rows j).tail ∈ done) → RowsOk wd (vw xs) (C0 sz) (3 ^ 11 * C0 sz) done (rows.drop k) := by
  intro m
  induction m with
  | zero =>
    intro k done hk _
    rw [List.drop_eq_nil_of_le (by omega)]
    trivial
  | succ m ih =>
    intro k done hk hd
    have hkl : k < rows.length := by omega
    obtain ⟨c, co, e, h1, h2, h3⟩ := B k hkl
    have e1 : rows.drop k = (c :: co) :: rows.drop (k + 1) := by
      rw [List.drop_eq_getElem_cons hkl]
      congr 1
      have := rowAt_get hkl
      rw [List.getElem?_eq_getElem hkl, e] at this
      exact Option.some.inj this
    rw [e1]
    have hsm := built_small B k hkl
    rw [e] at hsm
    change ∀ x ∈ co, _ at hsm
    refine ⟨c, co, rfl, ⟨h1, ?_, fun a ha => ?_, ?_⟩, ih (k + 1) _ (by omega) fun j hj => ?_⟩
    · rw [h2, dot_D h1 hx]
      omega
    · have := hsm (vw co a) (vw_mem (by omega))
      have h5 : 3 ^ k * C0 sz ≤ 3 ^ 11 * C0 sz := Nat.mul_le_mul (Nat.pow_le_pow_right (by decide) (by omega)) (Nat.le_refl _)
      omega
    · rcases h3 with h3 | ⟨j, t, hj, ht, e2⟩
      · exact .inl fun a ha => h3 _ (vw_mem (by omega))
      · refine .inr fun v hv => ?_
        rw [D_scale (u' := vw (rowAt rows j).tail) (t := t) fun a ha => by rw [e2, vw_map], hv _ (hd j hj), Int.mul_zero]
    · by_cases hjk : j = k
      · subst hjk
        rw [e]
        exact List.mem_cons_self
      · exact List.mem_cons_of_mem _ (hd j (by omega))
/-- the law's rows have a base -/
theorem law_base_ex {wd sz : Nat} {xs : List Int} {rows : List (List Int)} (hw : (wd ≤ 8 ∧ sz = 0) ∨ (wd ≤ 5 ∧ sz ≤ 2)) (hx : xs.length = wd) (hxb : ∀ x ∈ xs, x.natAbs < 10 ^ (1 + 6 * sz)) (hl : rows.length ≤ 10) (B : Built wd sz xs rows) : ∃ Ba, SettledRun wd rows Ba ∧ BaseOk wd xs rows Ba := by
  have hR := rows_ok hx hl B rows.length 0 [] (by omega) fun j hj => absurd hj (Nat.not_lt_zero j)
  rw [List.drop_zero] at hR
  have hsz : sz ≤ 2 := by omega
  have hxb' : ∀ b, b < wd → (vw xs b).natAbs ≤ 10 ^ 13 := fun b hb => by
    have := hxb _ (vw_mem (show b < xs.length by omega))
    have h2 : 10 ^ (1 + 6 * sz) ≤ 10 ^ 13 := Nat.pow_le_pow_right (by decide) (by omega)
    omega
  have hc := c0_le hsz
  have hL1 : wd * (3 ^ 11 * C0 sz) ≤ 10 ^ 21 := by
    have h1 : 3 ^ 11 * C0 sz ≤ 3 ^ 11 * (12 * 10 ^ 13) := Nat.mul_le_mul (Nat.le_refl _) hc
    have h2 : wd * (3 ^ 11 * C0 sz) ≤ 5 * (3 ^ 11 * (12 * 10 ^ 13)) ∨ sz = 0 := by
      rcases hw with hw | hw
      · exact .inr hw.2
      · exact .inl (Nat.mul_le_mul hw.1 h1)
    rcases h2 with h2 | h2
    · have h3 : 5 * (3 ^ 11 * (12 * 10 ^ 13)) ≤ 10 ^ 21 := by decide +kernel
      omega
    · subst h2
      have h3 : wd * (3 ^ 11 * C0 0) ≤ 8 * (3 ^ 11 * C0 0) := Nat.mul_le_mul (by omega) (Nat.le_refl _)
      have h4 : 8 * (3 ^ 11 * C0 0) ≤ 10 ^ 21 := by decide +kernel
      omega
  have hC1 : 3 ^ 11 * C0 sz < 2 ^ 1000000 := Nat.lt_of_lt_of_le (pow311 hsz) (Nat.pow_le_pow_right (by omega) (by omega))
  rcases hw with ⟨h8, rfl⟩ | ⟨h5, _⟩
  · exact settled_base (num1 h8) hx (by
      have : wd * C0 0 ≤ 8 * C0 0 := Nat.mul_le_mul h8 (Nat.le_refl _)
      have e : 8 * C0 0 = 864 := by decide
      omega) hL1 hC1 hxb' hR
  · exact settled_base (num2 h5) hx (by
      have : wd * C0 sz ≤ 5 * (12 * 10 ^ 13) := Nat.mul_le_mul h5 hc
      have e : 5 * (12 * 10 ^ 13) = 6 * 10 ^ 14 := by decide
      omega) hL1 hC1 hxb' hR
end K39
namespace K39
open PySem PySem.Spec PyProof.Rows L2 Evl
section
variable {K : PySem.W.Frag} {σ : L2.St} {H H' : Hp} {ta tb te tl : TE} {vs : List Nat}
theorem el_cat {b : Addr} {xs ys : List V} (ha : EvL ta σ H xs) (hb : Ev tb σ H (.ref b)) (hy : H b = some (.lst ys)) (hl : xs.length + ys.length ≤ 100000) : EvL (tOp rCat ta tb) σ H (xs ++ ys) := fun H1 e Q q =>
  ha H1 e _ fun p H2 hp e2 h2 => hb H2 (e.trans e2) _ fun H3 e3 => ⟨p, b, xs, ys, rfl, rfl, e3 _ _ h2, e3 _ _ (e2 _ _ (e _ _ hy)), sz_of hl, fun r hr => q r _ (fresh_back (e2.trans e3) hr) ((e2.trans e3).trans (Ex.new hr)) upd_same⟩
end
abbrev sRows : Stmt := topS 27
abbrev nRows : List Str := ["_law_cells", "_law_head", "_law_values", "_law_size", "_law_rows_here", "_law_k", "_law_coefs_here"]
theorem scRows : FnScope nRows ["_law_cells", "_law_head", "_law_values", "_law_size"] (defScope sRows) := ⟨rfl, rfl, rfl, by decide +kernel, rfl, by decide +kernel, by decide +kernel⟩
/-- rows as lists, none of them at h -/
def RowsD (h : Addr) (H : Hp) (r : Addr) (rows : List (List Int)) : Prop := ∃ ras : List Addr, H r = some (.lst (ras.map V.ref)) ∧ ras.length = rows.length ∧ ∀ (i : Nat) (a : Addr), ras[i]? = some a → a ≠ h ∧ H a = some (.lst ((rowAt rows i).map V.int))
section
variable {P : Program} {w : World} {K : PySem.W.Frag} {mg : Str → Option Value} {base : Heap}
def spRows (K : PySem.W.Frag) : Sp := fun vs H Q _ => ∃ (c h v : Addr) (sz n : Nat) (ns xs : List Int), vs = [.ref c, .ref h, .ref v, .int (sz : Int)] ∧ SqL K H c (ns.map V.int) ∧ ns.length ≤ 11 ∧ PoolAt (n + 1) H h ∧ SqL K H v (xs.map V.int) ∧ SmL xs ∧ xs.length ≤ 1000 ∧ sz ≤ 2 ∧
  ∀ r rows H', H r = none → r ≠ h → ExB h H H' → PoolAt n H' h → RowsD h H' r rows → Built xs.length sz xs rows → rows.length ≤ 10 → Q (.ref r) H'
theorem ok_rows {f fC fP fD fT : Addr} {fd fdC fdP fdD fdT : FuncData} (F : Fun K "_law_rows" "_law_rows" sRows f fd)
    (GC : FnOk P w K mg base CX0 3 fC fdC ["_law_pool_here", "_law_rows_here", "_law_wide", "_law_size"] (spCoefs K)) (gC : mg "_law_coefs" = some (.ref fC)) (kC : PySem.W.keepIn K (.ref fC) = true) (bC : Binds K fdC ["_law_pool_here", "_law_rows_here", "_law_wide", "_law_size"] [])
    (GP : FnOk P w K mg base CX0 1 fP fdP ["_law_script", "_law_k"] (spPool K)) (gP : mg "_law_pool" = some (.ref fP)) (kP : PySem.W.keepIn K (.ref fP) = true) (bP : Binds K fdP ["_law_script", "_law_k"] [])
    (GD : FnOk P w K mg base CX0 1 fD fdD ["_law_one", "_law_other"] (spDot K)) (gD : mg "_law_dot" = some (.ref fD)) (kD : PySem.W.keepIn K (.ref fD) = true) (bD : Binds K fdD ["_law_one", "_law_other"] [])
    (GT : FnOk P w K mg base CX0 1 fT fdT ["_law_pool_here", "_law_many"] spTake) (gT : mg "_law_take" = some (.ref fT)) (kT : PySem.W.keepIn K (.ref fT) = true) (bT : Binds K fdT ["_law_pool_here", "_law_many"] [])
    (mr : mg "range" = none) (ml : mg "len" = none) : FnOk P w K mg base CX0 4 f fd ["_law_cells", "_law_head", "_law_values", "_law_size"] (spRows K) := by
  refine F.ok scRows (fun vs H Q E h => ?_) (fun cdv A outer s H vs Q E hr h => ?_)
  · obtain ⟨_, _, _, _, _, _, _, rfl, _⟩ := h
    rfl
  · obtain ⟨c, h, v, sz, n, ns, xs, rfl, hc, hnl, hp, hv, hxs, hxl, hsz, q⟩ := h
    have nd := scRows.nd
    have hr1 := hr.mono (j := 1) (by decide)
    refine ⟨_, pss_cons (ps_set (i := 4) nd rfl (.inl rfl) (pe_lst pa_nil))
      (pss_cons (ps_for PassesOwn.never rfl (pi_range2 (by rfl) mr (pa_cons pe_int (pa_cons (pe_callB call_len_seq (by rfl) ml PySem.boot_len (pa_cons (pv 0) pa_nil)) pa_nil))) (pg_name (i := 5) nd rfl (.inl rfl))
        (pss_cons (ps_set (i := 6) nd rfl (.inl rfl) (pe_call GC hr (by rfl) gC kC bC .nil pass0 (pa_cons (pe_call GP hr1 (by rfl) gP kP bP .nil pass0 (pa_cons (pv 0) (pa_cons (pv 5) pa_nil))) (pa_cons (pv 4) (pa_cons (pe_callB call_len_seq (by rfl) ml PySem.boot_len (pa_cons (pv 2) pa_nil)) (pa_cons (pv 3) pa_nil))))))
        (pss_one (ps_expr (pe_bm PySem.F.plainAttrs_list PySem.F.slot_list_append PySem.F.type_list_append mt_append (pv 4) (pa_cons (pe_op op_cat (pe_lst (pa_cons (pe_op op_sub pe_int (pe_call GD hr1 (by rfl) gD kD bD .nil pass0 (pa_cons (pv 6) (pa_cons (pv 2) pa_nil)))) pa_nil)) (pv 6)) pa_nil))))))
      (pss_cons (ps_if (PW.pt (pw_and (pt_cmpR op_gt (pe_callB call_len_seq (by rfl) ml PySem.boot_len (pa_cons (pv 4) pa_nil)) pe_int (nomark _)) (pw_and1 (pt_cmpR op_eq (pe_call GT hr1 (by rfl) gT kT bT .nil pass0 (pa_cons (pv 1) (pa_cons pe_int pa_nil))) pe_int (nomark _)))))
        (pss_one (ps_set (i := 4) nd rfl (.inl rfl) (pe_lst pa_nil))) pss_nil)
      (pss_one (ps_ret (pv 4))))), ?_⟩
    refine q_asgL (el_lst ea_nil (by decide)) fun r H1 hr0 e1 h1 => ?_
    have hrh : r ≠ h := fun z => hp.some (z ▸ hr0)
    refine norm_st (σ' := [some (.ref c), some (.ref h), some (.ref v), some (.int (sz : Int)), some (.ref r), none, none]) rfl ?_
    refine q_forR2 (lo := 1) (n := (ns.length : Int)) (ea_cons ev_c (ea_cons (ev_is (ev_lenQ (K := K) (ev_var rfl) (sqk_l (ex_l e1 hc))) (by rw [List.length_map])) ea_nil)) (by omega) (fun i σ' H' => ∃ y5 y6 rows, σ' = [some (.ref c), some (.ref h), some (.ref v), some (.int (sz : Int)), some (.ref r), y5, y6] ∧ Ex H H' ∧ RowsD h H' r rows ∧ Built xs.length sz xs rows ∧ rows.length = i)
      (fun H2 e2 => ⟨none, none, [], rfl, e1.trans e2, ⟨[], e2 _ _ h1, rfl, fun i a z => (by cases z)⟩, fun k hk => absurd hk (Nat.not_lt_zero k), rfl⟩) (fun i σ' H' hi pz => ?_) fun σ' H' pz => ?_
    · obtain ⟨y5, y6, rows, rfl, e, ⟨ras, hras, hral, hrow⟩, B, hrl⟩ := pz
      have ei : (1 : Int) + (i : Int) = ((i + 1 : Nat) : Int) := by omega
      rw [ei]
      have hpH : PoolAt (n + 1) H' h := hp.ex e
      refine ⟨_, rfl, _, rfl, c, ns, i + 1, rfl, ex_l e hc, by omega, fun p H2 hp2 e2 pA => ⟨_, rfl, _, rfl, v, xs.map V.int, rfl, .inl (ex_l (e.trans e2) hv), _, rfl, p, r, xs.length, sz, 8000000, H', rows, by rw [List.length_map]; rfl, hxl, hsz, pA.le (by omega), e2, hp2, ⟨ras, sq_of hras, hral, fun i a ha => sq_of (hrow i a ha).2⟩, by omega, fun x hx => ?_, fun l co H3 hl hlp e3 p3 h3 okc => ?_⟩⟩
      · obtain ⟨k, hk, rfl⟩ := List.getElem_of_mem hx
        obtain ⟨c', co, e, h1, _⟩ := B k hk
        refine ⟨c', co, ?_, h1⟩
        have := rowAt_get hk
        rw [List.getElem?_eq_getElem hk, e] at this
        exact Option.some.inj this
      · have eH3 : Ex H' H3 := fun a o ha => e3 a o (fun z => by
          rw [z, hp2] at ha
          cases ha) (e2 a o ha)
        have hcs : SmL co := coef_sm hsz B okc (by omega)
        simp only [gName, List.set_cons_succ, List.set_cons_zero]
        refine s_appL (K := K) (ys := ((0 - dot co xs) :: co).map V.int) (eH3 _ _ hras) (ev_var rfl) (el_cat (xs := [.int (0 - dot co xs)]) (el_lst (ea_cons (ev_op ev_c (ev_dot (K := K) (ka := false) (kb := false) (ns := co) (ms := xs) (ev_var rfl) (ev_var rfl) (sq_of h3) (ex_l (e.trans eH3) hv) (by rw [okc.1]; omega) (mul_ok hcs hxs)) rv_I0) ea_nil) (by show 1 ≤ 100000; decide)) (ev_var rfl) h3 (by rw [List.length_map, okc.1]; show 1 + _ ≤ _; omega)) (by rw [List.length_map]; omega) fun ra H4 hra e4 h4 => ?_
        have hrar : ra ≠ r := fun z => by
          rw [z, eH3 _ _ hras] at hra
          cases hra
        have hrah : ra ≠ h := fun z => (hpH.ex eH3).some (z ▸ hra)
        refine ⟨_, _, rows ++ [(0 - dot co xs) :: co], rfl, ?_, ⟨ras ++ [ra], ?_, ?_, fun k a hka => ?_⟩, built_app B okc, by rw [List.length_append, hrl]; rfl⟩
        · exact Ex.mut ((e.trans eH3).trans e4) hr0
        · rw [upd_same, List.map_append]
          rfl
        · rw [List.length_append, List.length_append, hral]
          rfl
        · by_cases hk : k < ras.length
          · rw [List.getElem?_append_left hk] at hka
            obtain ⟨g1, g2⟩ := hrow k a hka
            have har : a ≠ r := fun z => by
              rw [z, hras] at g2
              have g3 := HO.lst.inj (Option.some.inj g2)
              obtain ⟨c', co', e5, _⟩ := B k (by omega)
              rw [e5] at g3
              cases ras with
              | nil => cases hka
              | cons b bs => cases g3
            refine ⟨g1, ?_⟩
            rw [upd_ne har, rowAt_app (by omega)]
            exact e4 _ _ (eH3 _ _ g2)
          · have hk2 : k = ras.length := by
              have := (List.getElem?_eq_some_iff.mp hka).1
              rw [List.length_append] at this
              have e1 : [ra].length = 1 := rfl
              omega
            subst hk2
            rw [List.getElem?_append_right (Nat.le_refl _), Nat.sub_self] at hka
            obtain rfl : ra = a := Option.some.inj hka
            refine ⟨hrah, ?_⟩
            rw [upd_ne hrar, hral, rowAt_end]
            exact h4
    · obtain ⟨y5, y6, rows, rfl, e, hR, B, hrl⟩ := pz
      have hrl10 : rows.length ≤ 10 := by
        rw [hrl]
        omega
      have hpH : PoolAt (n + 1) H' h := hp.ex e
      obtain ⟨ras, hras, hral, hrow⟩ := hR
      have fin : ∀ H2, ExB h H' H2 → PoolAt n H2 h → tRet (tVar 4) ({ nx := fun x H' => Q V.non H', rt := Q } : Ends) [some (.ref c), some (.ref h), some (.ref v), some (.int (sz : Int)), some (.ref r), y5, y6] H2 := fun H2 e2 p2 =>
        s_ret (ev_var rfl) fun H3 e3 => q r rows H3 hr0 hrh (((ExB.of e).trans e2).trans (ExB.of e3)) (p2.ex e3) ⟨ras, e3 _ _ (e2 _ _ hrh hras), hral, fun i a ha => ⟨(hrow i a ha).1, e3 _ _ (e2 _ _ (hrow i a ha).1 (hrow i a ha).2)⟩⟩ B hrl10
      refine (et_test (ev_is (ev_op (ev_lenQ (K := K) (ev_var (i := 4) (σ := [some (.ref c), some (.ref h), some (.ref v), some (.int (sz : Int)), some (.ref r), y5, y6]) rfl) (sqk_l (sq_of hras))) ev_c rv_I0) (w := .bl (decide ((0 : Int) < (rows.length : Int)))) (by rw [List.length_map, hral]))) H' (Ex.refl _) _ fun H2 e2 => ?_
      by_cases hb : decide ((0 : Int) < (rows.length : Int)) = true
      · rw [hb]
        refine iteT ?_
        refine take_ev (n := n) (ea_cons (ev_var rfl) (ea_cons ev_c ea_nil)) (by decide) (by decide) (hpH.ex e2) fun t H3 t0 t1 e3 p3 => ⟨rfl, ⟨_, rfl, ?_⟩⟩
        by_cases ht : decide (V.int t = V.int 0) = true
        · rw [ht]
          refine iteT ?_
          refine s_asgL (D := { nx := _, rt := _ }) (el_lst ea_nil (by decide)) fun r2 H4 hr2 e4 h4 => ?_
          have hr2h : r2 ≠ h := fun z => p3.some (z ▸ hr2)
          have eA : ExB h H H3 := ((ExB.of e).trans (ExB.of e2)).trans e3
          show tRet (tVar 4) _ [some (.ref c), some (.ref h), some (.ref v), some (.int (sz : Int)), some (.ref r2), y5, y6] H4
          exact s_ret (ev_var rfl) fun H5 e5 => q r2 [] H5 (exb_new eA hr2 hr2h) hr2h ((eA.trans (ExB.of e4)).trans (ExB.of e5)) ((p3.ex e4).ex e5) ⟨[], e5 _ _ h4, rfl, fun i a z => (by cases z)⟩ (fun k hk => absurd hk (Nat.not_lt_zero k)) (Nat.zero_le _)
        · rw [Bool.not_eq_true] at ht
          rw [ht]
          exact iteF (fin H3 ((ExB.of e2).trans e3) p3)
      · rw [Bool.not_eq_true] at hb
        rw [hb]
        exact iteF (iteF (fin H2 (ExB.of e2) ((hpH.ex e2).le (by omega))))
end
end K39
namespace K39
open PySem
theorem sm_big {x : Int} {k : Nat} (h : x.natAbs ≤ 2 ^ k) (hk : k < 59999999) : Sm x := by
  unfold Sm
  by_cases h0 : x.natAbs = 0
  · rw [h0]
    decide
  · have h1 : x.natAbs < 2 ^ (k + 1) := by
      rw [Nat.pow_succ]
      have : 0 < 2 ^ k := Nat.pow_pos (by decide)
      omega
    have : x.natAbs.log2 < k + 1 := (Nat.log2_lt h0).mpr h1
    omega
theorem mem_vw {l : List Int} {x : Int} (h : x ∈ l) : ∃ a, a < l.length ∧ vw l a = x := by
  obtain ⟨a, ha, rfl⟩ := List.getElem_of_mem h
  refine ⟨a, ha, ?_⟩
  unfold vw
  rw [List.getD_eq_getElem?_getD, List.getElem?_eq_getElem ha]
  rfl
theorem smL_big {l : List Int} {w k : Nat} (hl : l.length = w) (h : ∀ a, a < w → (vw l a).natAbs ≤ 2 ^ k) (hk : k < 59999999) : SmL l := fun x hx => by
  obtain ⟨a, ha, rfl⟩ := mem_vw hx
  exact sm_big (h a (by omega)) hk
theorem two_le {a b : Nat} (h : a ≤ b) : 2 ^ a ≤ 2 ^ b := Nat.pow_le_pow_right (by omega) h
theorem add_pow {x y k : Nat} (hx : x ≤ 2 ^ k) (hy : y ≤ 2 ^ k) : x + y ≤ 2 ^ (k + 1) := by
  rw [Nat.pow_succ]
  omega
theorem dot_pow {w k m : Nat} {u v : List Int} (hw : w ≤ 8) (hu : u.length = w) (hv : v.length = w) (h1 : ∀ a, a < w → (vw u a).natAbs ≤ 2 ^ k) (h2 : ∀ a, a < w → (vw v a).natAbs ≤ 2 ^ m) : (dot u v).natAbs ≤ 2 ^ (3 + (k + m)) := by
  rw [dot_D hu hv, Nat.pow_add, Nat.pow_add]
  exact Nat.le_trans (D_bound h1 h2) (Nat.mul_le_mul (show w ≤ 2 ^ 3 by omega) (Nat.le_refl _))
section
variable {w : Nat} {xs : List Int} {rows : List (List Int)} {B : Bas}
theorem away_pow (S : BaseOk w xs rows B) {vals : List Int} {k : Nat} (hv : vals.length = w) (hk : 2000003 ≤ k) (h : ∀ a, a < w → (vw vals a).natAbs ≤ 2 ^ k) : (List.zipWith (fun a b => a - b) vals B.point).length = w ∧ ∀ a, a < w → (vw (List.zipWith (fun a b => a - b) vals B.point) a).natAbs ≤ 2 ^ (k + 1) := by
  refine ⟨by rw [List.length_zipWith, hv, S.pl, Nat.min_self], fun a ha => ?_⟩
  rw [vw_zip hv S.pl ha]
  have h1 := h a ha
  have h2 := Nat.le_trans (S.sp a ha) (two_le hk)
  have := add_pow h1 h2
  omega
theorem times_pow (S : BaseOk w xs rows B) (hw : w ≤ 8) {vals : List Int} {k : Nat} (hv : vals.length = w) (hk : 2000003 ≤ k) (h : ∀ a, a < w → (vw vals a).natAbs ≤ 2 ^ k) : (timesF B vals).length = B.moves.length ∧ ∀ t ∈ timesF B vals, t.natAbs ≤ 2 ^ (3 + (1000000 + (k + 1))) := by
  refine ⟨by unfold timesF; rw [List.length_map]; exact S.len, fun t ht => ?_⟩
  unfold timesF at ht
  obtain ⟨r, hr, rfl⟩ := List.mem_map.mp ht
  obtain ⟨a1, a2⟩ := away_pow S hv hk h
  exact dot_pow hw (S.rl r hr) a1 (fun a ha => S.sr r hr a ha) a2
theorem spread_pow (S : BaseOk w xs rows B) {ts : List Int} {k : Nat} (hk : 2000003 ≤ k) (h : ∀ t ∈ ts, t.natAbs ≤ 2 ^ k) : ∀ a, a < w → (vw (spreadF B ts) a).natAbs ≤ 2 ^ (3 + (k + 1000000) + 1) := fun a ha => by
  have hz := add_vw (w := w) (fun p : List Int × Int => p.2) (fun p => p.1) (B.moves.zip ts) B.point S.pl fun p hp => S.ml _ (List.of_mem_zip (a := p.1) (b := p.2) hp).1
  unfold spreadF
  rw [hz.2 a ha]
  have h1 : ((B.moves.zip ts).map fun p => p.2 * vw p.1 a).sum.natAbs ≤ (B.moves.zip ts).length * (2 ^ k * 2 ^ 1000000) := sum_bound fun p hp => by
    have h2 := List.of_mem_zip (a := p.1) (b := p.2) hp
    rw [Int.natAbs_mul]
    exact Nat.mul_le_mul (h _ h2.2) (S.sm _ h2.1 a ha)
  have hl : (B.moves.zip ts).length ≤ 2 ^ 3 := by
    rw [List.length_zip]
    have := S.lw
    omega
  have h3 : (B.moves.zip ts).length * (2 ^ k * 2 ^ 1000000) ≤ 2 ^ (3 + (k + 1000000)) := by
    rw [Nat.pow_add 2 3, Nat.pow_add]
    exact Nat.mul_le_mul hl (Nat.le_refl _)
  have h4 := Nat.le_trans (S.sp a ha) (two_le (show 2000003 ≤ 3 + (k + 1000000) by omega))
  have := add_pow h4 (Nat.le_trans h1 h3)
  omega
theorem sees_of {sz : Nat} (S : BaseOk w xs rows B) (hw : w ≤ 8) (hs : sz ≤ 2) (hl : rows.length ≤ 10) (Bu : Built w sz xs rows) : Sees w rows B := by
  refine ⟨by omega, S.pl, S.ml, S.rl, S.len, by have := S.lw; omega, fun r hr => ?_, S.dl, smL_big S.pl S.sp (by decide), fun m hm => smL_big (S.ml m hm) (S.sm m hm) (by decide), fun m hm => smL_big (S.rl m hm) (S.sr m hm) (by decide)⟩
  obtain ⟨k, hk, e⟩ := List.getElem_of_mem hr
  obtain ⟨c, co, e1, h1, _⟩ := Bu k hk
  have e2 : r = c :: co := by
    have := rowAt_get hk
    rw [List.getElem?_eq_getElem hk, e, e1] at this
    exact Option.some.inj this
  obtain ⟨g1, g2, g3⟩ := S.rowp c co (e2 ▸ hr)
  refine ⟨c, co, e2, by omega, fun x hx => ?_, g2, g3⟩
  have := built_small Bu k hk x (by rw [e1]; exact hx)
  refine sm_small (Nat.lt_of_le_of_lt ?_ (pow311 hs))
  exact Nat.le_trans this (Nat.mul_le_mul (Nat.pow_le_pow_right (by decide) (by omega)) (Nat.le_refl _))
/-- what a base is to the law, in one piece -/
structure LawOk (w sz : Nat) (xs : List Int) (rows : List (List Int)) (B : Bas) : Prop where
  ok : BaseOk w xs rows B
  sees : Sees w rows B
  xl : xs.length = w
  w8 : w ≤ 8
  xb : ∀ a, a < w → (vw xs a).natAbs ≤ 2 ^ 2000003
theorem small_pow {x sz : Nat} (h : x < 10 ^ (1 + 6 * sz)) (hs : sz ≤ 2) : x ≤ 2 ^ 2000003 := by
  have h1 : 10 ^ (1 + 6 * sz) ≤ 10 ^ 13 := Nat.pow_le_pow_right (by decide) (by omega)
  have h2 : 10 ^ 13 ≤ 2 ^ 44 := by decide
  have h3 : 2 ^ 44 ≤ 2 ^ 2000003 := two_le (by omega)
  omega
theorem lawOk_of {sz : Nat} (hw : (w ≤ 8 ∧ sz = 0) ∨ (w ≤ 5 ∧ sz ≤ 2)) (hx : xs.length = w) (hxb : ∀ x ∈ xs, x.natAbs < 10 ^ (1 + 6 * sz)) (hl : rows.length ≤ 10) (Bu : Built w sz xs rows) : ∃ Ba, SettledRun w rows Ba ∧ LawOk w sz xs rows Ba := by
  obtain ⟨Ba, h1, h2⟩ := law_base_ex hw hx hxb hl Bu
  exact ⟨Ba, h1, h2, sees_of h2 (by omega) (by omega) hl Bu, hx, by omega, fun a ha => small_pow (hxb _ (vw_mem (by omega))) (by omega)⟩
section
variable {sz : Nat} (L : LawOk w sz xs rows B)
include L
theorem LawOk.away : SmL (List.zipWith (fun a b => a - b) xs B.point) := by
  obtain ⟨h1, h2⟩ := away_pow L.ok L.xl (Nat.le_refl _) L.xb
  exact smL_big h1 h2 (by decide)
theorem LawOk.reads : ∀ r ∈ B.reads, SmL r ∧ r.length ≤ 1000 := fun r hr => ⟨L.sees.sr r hr, by
  have := L.sees.rl r hr
  have := L.sees.wl
  omega⟩
theorem LawOk.times : (timesF B xs).length = B.moves.length ∧ ∀ t ∈ timesF B xs, t.natAbs ≤ 2 ^ 3000007 := by
  obtain ⟨h1, h2⟩ := times_pow L.ok L.w8 L.xl (Nat.le_refl _) L.xb
  exact ⟨h1, fun t ht => Nat.le_trans (h2 t ht) (two_le (by decide))⟩
theorem LawOk.movs (ts : List Int) (h : ∀ t ∈ ts, t.natAbs ≤ 2 ^ 3000008) : ∀ i : Nat, i < min B.moves.length ts.length → Sm (ts.getD i 0) ∧ SmL (rowAt B.moves i) := fun i hi => by
  have h1 : i < ts.length := by omega
  have h2 : i < B.moves.length := by omega
  refine ⟨?_, L.sees.sm _ (mat_get h2)⟩
  rw [List.getD_eq_getElem?_getD, List.getElem?_eq_getElem h1]
  exact sm_big (h _ (List.getElem_mem h1)) (by decide)
theorem LawOk.there (ts : List Int) (h : ∀ t ∈ ts, t.natAbs ≤ 2 ^ 3000008) (hl : ts.length = B.moves.length) : SmL (spreadF B ts) ∧ SmL (List.zipWith (fun a b => a - b) (spreadF B ts) B.point) ∧ (spreadF B ts).length = w := by
  have h1 := spread_pow L.ok (show 2000003 ≤ 3000008 by decide) h
  have h0 := (L.ok.forth ts hl).1
  obtain ⟨h2, h3⟩ := away_pow L.ok h0 (by decide) h1
  exact ⟨smL_big h0 h1 (by decide), smL_big h2 h3 (by decide), h0⟩
end
end
end K39
namespace K39
open PySem PySem.Spec PyProof.Rows L2 Evl
section
variable {K : PySem.W.Frag} {σ : L2.St} {H H' : Hp} {ta tb te tl : TE} {vs : List Nat} {x y z : V}
theorem el_cat2 {b : Addr} {xs ys : List V} (ha : Ev ta σ H (.ref b)) (hx : H b = some (.lst xs)) (hb : EvL tb σ H ys) (hl : xs.length + ys.length ≤ 100000) : EvL (tOp rCat ta tb) σ H (xs ++ ys) := fun H1 e Q q =>
  ha H1 e _ fun H2 e2 => hb H2 (e.trans e2) _ fun p H3 hp e3 h3 => ⟨b, p, xs, ys, rfl, rfl, e3 _ _ (e2 _ _ (e _ _ hx)), h3, sz_of hl, fun r hr => q r _ (fresh_back (e2.trans e3) hr) ((e2.trans e3).trans (Ex.new hr)) upd_same⟩
theorem el_rep {k : Int} {xs : List V} (ha : EvL ta σ H xs) (hb : Ev tb σ H (.int k)) (hk : 0 ≤ k ∧ k ≤ 1) (hl : xs.length ≤ 100000) : EvL (tOp rRep ta tb) σ H (List.replicate k.toNat xs).flatten := fun H1 e Q q =>
  ha H1 e _ fun p H2 hp e2 h2 => hb H2 (e.trans e2) _ fun H3 e3 => ⟨p, k, xs, rfl, rfl, e3 _ _ h2, by omega, by omega, by
    have h1 : k.toNat ≤ 1 := by omega
    have h2 : xs.length * k.toNat ≤ xs.length * 1 := Nat.mul_le_mul (Nat.le_refl _) h1
    exact sz_of (by omega), fun r hr => q r _ (fresh_back (e2.trans e3) hr) ((e2.trans e3).trans (Ex.new hr)) upd_same⟩
/-- [e for x in xs], xs a list that stands: values -/
theorem el_lcLs {a : Addr} {xs : List V} {j : Nat} (v : Nat → V) (h : Ev tl σ H (.ref a)) (hx : SqL K H a xs) (hz : xs.length ≤ 40000) (hw : ∀ x, wipe ((wipe σ vs).set j (some x)) vs = wipe σ vs)
    (he : ∀ (i : Nat) (x : V) H1, Ex H H1 → xs[i]? = some x → Ev te ((wipe σ vs).set j (some x)) H1 (v i)) : EvL (tLc (iList K tl) (gName j) tYes te vs) σ H ((List.range xs.length).map v) := fun H0 e0 Q q =>
  h H0 e0 _ fun H1 e1 => ⟨a, rfl, ⟨xs, ex_l (e0.trans e1) hx⟩, fun Dl hD =>
    lcV (walk_list (K := K) (xs := xs)) (fun H' e' => ex_l ((e0.trans e1).trans e') hx) hz (fun _ => true) v hD (fun i x H' H'' hi e' y => by
      obtain ⟨rfl, hxi⟩ := y
      exact turn_name (hw x) et_yes fun _ => he i x _ ((e0.trans e1).trans e') hxi) fun H' e' h' => q Dl H' (fresh_back e1 hD) (e1.trans e') (by rw [h', given_all])⟩
/-- [e for i, x in enumerate(xs)]: new objects -/
theorem eln_enum {a : Addr} {k : Bool} {xs : List V} {j1 j2 : Nat} (h : Ev tl σ H (.ref a)) (hx : SqK K k H a xs) (hz : xs.length ≤ 40000) (o : Nat → HO) (hw : ∀ x y, wipe (((wipe σ vs).set j1 (some x)).set j2 (some y)) vs = wipe σ vs)
    (he : ∀ (i : Nat) (x : V) H1, Ex H H1 → xs[i]? = some x → EvN te (((wipe σ vs).set j1 (some (.int (i : Int)))).set j2 (some x)) H1 (o i)) : EvLN (tLc (iEnumG K (tCons tl tNil)) (gTup K 2 (gCons (gName j1) (gCons (gName j2) gNil))) tYes te vs) σ H (made xs.length (fun _ => true) o) := fun H0 e0 Q q =>
  h H0 e0 _ fun H1 e1 => ⟨a, xs, k, rfl, ex_k (e0.trans e1) hx, fun Dl hD =>
    lcN (walk_enumG (K := K) (k := k) (a := a) (xs := xs)) (fun H' e' => ex_k ((e0.trans e1).trans e') hx) hz (fun _ => true) o hD (fun i x H' H'' hi e' y => by
      obtain ⟨T, x1, x2, rfl, hT, rfl, g1, g2⟩ := y
      obtain rfl : V.int (i : Int) = x1 := Option.some.inj g1
      exact turn_pair hT (hw _ _) (fun H2 _ => et_yes) fun H2 e2 _ => he i x2 H2 ((((e0.trans e1).trans e')).trans e2) g2) fun H' as e' h' ob => q Dl as H' (fresh_back e1 hD) (e1.trans e') h' (ob.back e1)⟩
/-- a thing that stands, and a new list of new objects -/
theorem ev_opN {r : R2} {os : List HO} (ha : Ev ta σ H x) (hb : EvLN tb σ H os) (hr : ∀ p as H1, Ex H H1 → H1 p = some (.lst (List.map V.ref as)) → Objs H H1 as os → RV r x (.ref p) H1 z) : Ev (tOp r ta tb) σ H z := fun H1 e Q q =>
  ha H1 e _ fun H2 e2 => hb H2 (e.trans e2) _ fun p as H3 hp e3 h3 ob => hr p as H3 ((e.trans e2).trans e3) h3 (ob.back (e.trans e2)) H3 (Ex.refl H3) Q fun H4 e4 => q H4 ((e2.trans e3).trans e4)
theorem ev_opN1 {r : R2} {os : List HO} (ha : EvLN ta σ H os) (hb : ∀ H1, Ex H H1 → Ev tb σ H1 y) (hr : ∀ p as H1, Ex H H1 → H1 p = some (.lst (List.map V.ref as)) → Objs H H1 as os → RV r (.ref p) y H1 z) : Ev (tOp r ta tb) σ H z := fun H1 e Q q =>
  ha H1 e _ fun p as H2 hp e2 h2 ob => hb H2 (e.trans e2) H2 (Ex.refl H2) _ fun H3 e3 => hr p as H3 ((e.trans e2).trans e3) (e3 _ _ h2) ((ob.back e).ex e3) H3 (Ex.refl H3) Q fun H4 e4 => q H4 ((e2.trans e3).trans e4)
theorem en_if {b : Bool} {t : TT} {o : HO} (h : EvT t σ H b) (h1 : b = true → EvN ta σ H o) (h2 : b = false → EvN tb σ H o) : EvN (tIf t ta tb) σ H o := fun H1 e Q q => h H1 e _ fun H2 e2 => by
  cases b with
  | true => exact iteT (h1 rfl H2 (e.trans e2) Q fun p H3 hp e3 h3 => q p H3 (fresh_back e2 hp) (e2.trans e3) h3)
  | false => exact iteF (h2 rfl H2 (e.trans e2) Q fun p H3 hp e3 h3 => q p H3 (fresh_back e2 hp) (e2.trans e3) h3)
/-- what evaluates to a base -/
def EvB (B : Bas) (te : TE) (σ : L2.St) (H : Hp) : Prop := ∀ H1, Ex H H1 → ∀ Q : VK, (∀ p H2, Ex H1 H2 → BaseAt H2 p B → Q (.ref p) H2) → te σ H1 Q
theorem ev_opB {B : Bas} {r : R2} (ha : EvB B ta σ H) (hb : ∀ H1, Ex H H1 → Ev tb σ H1 y) (hr : ∀ p H1, Ex H H1 → BaseAt H1 p B → RV r (.ref p) y H1 z) : Ev (tOp r ta tb) σ H z := fun H1 e Q q =>
  ha H1 e _ fun p H2 e2 h2 => hb H2 (e.trans e2) H2 (Ex.refl H2) _ fun H3 e3 => hr p H3 ((e.trans e2).trans e3) (h2.ex e3) H3 (Ex.refl H3) Q fun H4 e4 => q H4 ((e2.trans e3).trans e4)
theorem rv_eqD {d : PyData} (h1 : ∀ H1, Ex H H1 → Dp K H1 x d) (h2 : ∀ H1, Ex H H1 → Dp K H1 y d) (hl : d.canLay0 = true) (hd : d.depth ≤ 64) : RV (rEqD K) x y H (.bl true) := fun H1 e Q q => by
  refine ⟨d, d, h1 H1 e, h2 H1 e, sh_of hl hd, sh_of hl hd, ?_⟩
  rw [SeqAt.eqv_refl d hl]
  exact q H1 (Ex.refl H1)
theorem rv_notB {a b : Bool} : RV rNotB (.bl a) (.bl b) H (.bl (!decide (a = b))) := fun H1 _ _ q => ⟨a, b, rfl, rfl, q H1 (Ex.refl H1)⟩
end
/-- all that stands but at one place -/
def less1 (H : Hp) (h : Addr) : Hp := fun b => if b = h then none else H b
theorem less1_ex {H : Hp} {h : Addr} : Ex (less1 H h) H := fun a o z => by
  unfold less1 at z
  split at z
  · cases z
  · exact z
theorem less1_at {H : Hp} {h a : Addr} {o : HO} (hn : a ≠ h) (e : H a = some o) : less1 H h a = some o := by
  unfold less1
  rw [if_neg hn]
  exact e
theorem less1_to {H H' : Hp} {h : Addr} (e : ExB h H H') : Ex (less1 H h) H' := fun a o z => by
  unfold less1 at z
  split at z
  · cases z
  · rename_i hn
    exact e a o hn z
theorem pool_tup {n : Nat} {H : Hp} {h a : Addr} {xs : List V} (p : PoolAt n H h) (e : H a = some (.tup xs)) : a ≠ h := fun z => by
  obtain ⟨_, _, _, h1, _⟩ := p
  rw [z, h1] at e
  cases e
theorem tups_less {n : Nat} {H : Hp} {h : Addr} {as : List Addr} {M : Mat} (p : PoolAt n H h) (t : TupsAt H as M) : TupsAt (less1 H h) as M := ⟨t.1, fun i a x => less1_at (pool_tup p (t.2 i a x)) (t.2 i a x)⟩
theorem base_less {n : Nat} {H : Hp} {h a : Addr} {B : Bas} (p : PoolAt n H h) (b : BaseAt H a B) : BaseAt (less1 H h) a B := by
  obtain ⟨q, m, r, ms, rs, h1, h2, h3, h4, h5, h6⟩ := b
  exact ⟨q, m, r, ms, rs, less1_at (pool_tup p h1) h1, less1_at (pool_tup p h2) h2, less1_at (pool_tup p h3) h3, less1_at (pool_tup p h4) h4, tups_less p h5, tups_less p h6⟩
theorem RowsL.ex {K : PySem.W.Frag} {H H' : Hp} {r : Addr} {rows : List (List Int)} (R : RowsL K H r rows) (e : Ex H H') : RowsL K H' r rows := by
  obtain ⟨ras, h1, h2, h3⟩ := R
  exact ⟨ras, ex_l e h1, h2, fun i a ha => ex_l e (h3 i a ha)⟩
theorem rowAt_of {rows : List (List Int)} {i : Nat} {x : List Int} (h : rows[i]? = some x) : rowAt rows i = x := by
  unfold rowAt
  rw [List.getD_eq_getElem?_getD, h]
  rfl
/-- new rows, told by a form each -/
theorem made_rows {rows : List (List Int)} {n : Nat} (hn : n = rows.length) (o : Nat → List Int → HO) : made n (fun _ => true) (fun i => o i (rowAt rows i)) = (List.range rows.length).map fun i => o i (rowAt rows i) := by
  rw [made_all, hn]
theorem objs_at {H H1 : Hp} {as : List Addr} {rows : List (List Int)} {o : Nat → List Int → HO} (ob : Objs H H1 as ((List.range rows.length).map fun i => o i (rowAt rows i))) : as.length = rows.length ∧ ∀ (i : Nat) (a : Addr), as[i]? = some a → H1 a = some (o i (rowAt rows i)) ∧ H a = none := by
  have hl : as.length = rows.length := by rw [ob.1, List.length_map, List.length_range]
  refine ⟨hl, fun i a h => ?_⟩
  have hi : i < rows.length := by
    have := (List.getElem?_eq_some_iff.mp h).1
    omega
  have := ob.2 i a _ h (by rw [List.getElem?_map, List.getElem?_range hi]; rfl)
  exact ⟨this.2, this.1⟩
section
variable {K : PySem.W.Frag} {σ : L2.St} {H H' : Hp} {ta tb te tl : TE} {vs : List Nat} {w sz : Nat} {xs : List Int} {rows : List (List Int)} {B : Bas}
theorem eu_spread {p : Addr} {ts : List Int} (S : LawOk w sz xs rows B) (ha : Ev ta σ H (.ref p)) (hB : BaseAt H p B) (hb : ∀ H1, Ex H H1 → ∀ Q : VK, (∀ t H2, Ex H1 H2 → SqL K H2 t (ts.map V.int) → Q (.ref t) H2) → tb σ H1 Q) (hts : ∀ t ∈ ts, t.natAbs ≤ 2 ^ 3000008) : EvU (tCall (spSpread K) [] E0 (tCons ta (tCons tb tNil))) σ H ((spreadF B ts).map V.int) := fun H0 e0 Q q =>
  ha H0 e0 _ fun H1 e1 => hb H1 (e0.trans e1) _ fun t H2 e2 ht => ⟨p, t, B, ts, rfl, hB.ex ((e0.trans e1).trans e2), ht, by rw [S.sees.pl]; exact S.sees.wl, S.movs ts hts, fun r H3 hr e3 h3 => q r H3 (fresh_back (e1.trans e2) hr) ((e1.trans e2).trans e3) h3⟩
theorem eu_spreadE {p : Addr} {ts ys : List Int} (S : LawOk w sz xs rows B) (ha : Ev ta σ H (.ref p)) (hB : BaseAt H p B) (hb : ∀ H1, Ex H H1 → ∀ Q : VK, (∀ t H2, Ex H1 H2 → SqL K H2 t (ts.map V.int) → Q (.ref t) H2) → tb σ H1 Q) (hts : ∀ t ∈ ts, t.natAbs ≤ 2 ^ 3000008) (e : spreadF B ts = ys) : EvU (tCall (spSpread K) [] E0 (tCons ta (tCons tb tNil))) σ H (ys.map V.int) := e ▸ eu_spread S ha hB hb hts
theorem st_list {t : Addr} {ts : List Int} (hb : Ev tb σ H (.ref t)) (ht : SqL K H t (ts.map V.int)) : ∀ H1, Ex H H1 → ∀ Q : VK, (∀ t H2, Ex H1 H2 → SqL K H2 t (ts.map V.int) → Q (.ref t) H2) → tb σ H1 Q := fun H1 e Q q => hb H1 e _ fun H2 e2 => q t H2 e2 (ex_l (e.trans e2) ht)
theorem new_list {ts : List Int} (hb : EvL tb σ H (ts.map V.int)) : ∀ H1, Ex H H1 → ∀ Q : VK, (∀ t H2, Ex H1 H2 → SqL K H2 t (ts.map V.int) → Q (.ref t) H2) → tb σ H1 Q := fun H1 e Q q => hb H1 e _ fun p H2 _ e2 h2 => q p H2 e2 (sq_of h2)
/-- times_of: a new list -/
theorem el_times {p : Addr} {k : Bool} {vals : List Int} (S : LawOk w sz xs rows B) (ha : Ev ta σ H (.ref p)) (hB : BaseAt H p B) (hb : ∀ H1, Ex H H1 → ∀ Q : VK, (∀ t H2, Ex H1 H2 → SqK K k H2 t (vals.map V.int) → Q (.ref t) H2) → tb σ H1 Q) (hl : vals.length = w) (hs : SmL (List.zipWith (fun a b => a - b) vals B.point)) : EvL (tCall (spTimes K) [] E0 (tCons ta (tCons tb tNil))) σ H ((timesF B vals).map V.int) := fun H0 e0 Q q =>
  ha H0 e0 _ fun H1 e1 => hb H1 (e0.trans e1) _ fun t H2 e2 ht => ⟨p, t, k, B, vals, rfl, hB.ex ((e0.trans e1).trans e2), ht, by rw [hl]; exact S.sees.wl, by rw [S.sees.len]; exact S.sees.lw, S.reads, hs, fun r H3 hr e3 h3 => q r H3 (fresh_back (e1.trans e2) hr) ((e1.trans e2).trans e3) h3⟩
theorem st_k {t : Addr} {k : Bool} {ts : List Int} (hb : Ev tb σ H (.ref t)) (ht : SqK K k H t (ts.map V.int)) : ∀ H1, Ex H H1 → ∀ Q : VK, (∀ t H2, Ex H1 H2 → SqK K k H2 t (ts.map V.int) → Q (.ref t) H2) → tb σ H1 Q := fun H1 e Q q => hb H1 e _ fun H2 e2 => q t H2 e2 (ex_k (e.trans e2) ht)
theorem ev_base {r p : Addr} (S : LawOk w sz xs rows B) (hl : rows.length ≤ 10) (ha : Ev ta σ H (.ref r)) (hb : Ev tb σ H (.ref p)) (hc : Ev te σ H (.int (w : Int))) (R : RowsL K H r rows) (hB : BaseAt H p B) : Ev (tCall (spBase K) [] E0 (tCons ta (tCons tb (tCons te tNil)))) σ H (.bl true) := fun H0 e0 Q q =>
  ha H0 e0 _ fun H1 e1 => hb H1 (e0.trans e1) _ fun H2 e2 => hc H2 ((e0.trans e1).trans e2) _ fun H3 e3 => ⟨r, p, w, rows, B, rfl, R.ex (((e0.trans e1).trans e2).trans e3), by omega, hB.ex (((e0.trans e1).trans e2).trans e3), S.sees, fun H4 e4 => q H4 (((e1.trans e2).trans e3).trans e4)⟩
end
end K39
namespace K39
open PySem PySem.Spec PyProof.Rows L2 Evl
abbrev sLaw : Stmt := topS 28
abbrev nLaw : List Str := ["_law_script", "_law_cells", "_law_head", "_law_wide", "_law_size", "_law_values", "_law_rows_here", "_law_handed", "_law_found", "_law_times", "_law_away", "_law_further", "_law_there", "_law_mixed", "_law_other", "_law_at", "_law_row", "_law_a", "_law_b", "_law_read", "_law_often"]
theorem scLaw : FnScope nLaw ["_law_script"] (defScope sLaw) := ⟨rfl, rfl, rfl, by decide +kernel, rfl, by decide +kernel, by decide +kernel⟩
theorem fnok_ex {ι : Type} {P : Program} {w : World} {K : PySem.W.Frag} {mg : Str → Option Value} {base : Heap} {k : Nat} {f : Addr} {fd : FuncData} {ps : List Str} {sp : ι → Sp} (F : ∀ i, FnOk P w K mg base CX0 k f fd ps (sp i)) : FnOk P w K mg base CX0 k f fd ps (fun vs H Q E => ∃ i, sp i vs H Q E) :=
  ⟨fun vs H Q E ⟨i, h⟩ => (F i).len vs H Q E h, fun A outer s H args us vs Q E hr he hb hv ⟨i, h⟩ => (F i).run A outer s H args us vs Q E hr he hb hv h⟩
theorem op_of {r : R2} {ta tb : TE} {σ : L2.St} {H : Hp} {Q : VK} (h : ta σ H fun x H1 => tb σ H1 fun y H2 => r x y H2 Q) : tOp r ta tb σ H Q := h
theorem q_asgK {te : TE} {tz : TS} {D : Ends} {σ : L2.St} {H : Hp} {i : Nat} (h : te σ H fun x H1 => tz D (σ.set i (some x)) H1) : tSeq (tAsg te (gName i)) tz D σ H := h
/-- a state of the law: its own names, then the blocks' -/
abbrev stL (x0 x1 x2 x3 x4 x5 x6 x7 x8 x9 x10 x11 x12 x13 x14 : Option V) : L2.St := [x0, x1, x2, x3, x4, x5, x6, x7, x8, x9, x10, x11, x12, x13, x14, none, none, none, none, none, none]
theorem size_of {s0 wd : Nat} (h : s0 ≤ 2) (hw : wd ≤ 8) : ∃ sz : Nat, (s0 : Int) * (if decide ((wd : Int) < 6) = true then 1 else 0) = (sz : Int) ∧ sz ≤ 2 ∧ ((wd ≤ 8 ∧ sz = 0) ∨ (wd ≤ 5 ∧ sz ≤ 2)) := by
  by_cases e : (wd : Int) < 6
  · exact ⟨s0, by rw [decide_eq_true e]; simp, h, .inr ⟨by omega, h⟩⟩
  · exact ⟨0, by rw [decide_eq_false e]; simp, by omega, .inl ⟨hw, rfl⟩⟩
def spSettledX (K : PySem.W.Frag) : Sp := fun vs H Q E => ∃ wd : Nat, spSettled K wd vs H Q E
/-- a call by place -/
structure Cal (P : Program) (w : World) (K : PySem.W.Frag) (mg : Str → Option Value) (base : Heap) (k : Nat) (x : Str) (sp : Sp) (dvs : List V) : Prop where
  ex : ∃ (f : Addr) (fd : FuncData) (ps : List Str), FnOk P w K mg base CX0 k f fd ps sp ∧ mg x = some (.ref f) ∧ PySem.W.keepIn K (.ref f) = true ∧ Binds K fd ps [] ∧ dvs = []
/-- a call with keywords behind n values, in the parameters' order -/
structure CalK (P : Program) (w : World) (K : PySem.W.Frag) (mg : Str → Option Value) (base : Heap) (k : Nat) (x : Str) (n : Nat) (ks : List Str) (sp : Sp) : Prop where
  ex : ∃ (f : Addr) (fd : FuncData) (ps : List Str), FnOk P w K mg base CX0 k f fd ps sp ∧ mg x = some (.ref f) ∧ PySem.W.keepIn K (.ref f) = true ∧ KBn K fd ps n ks (fun us ws => us ++ ws) (fun vs zs => vs ++ zs)
section
variable {X : Cx} {x : Str} {p pos : Pos} {e : Expr} {es : List Expr} {kws : List Keyword} {t tk : TA} {k j n : Nat} {ks : List Str} {sp : Sp}
theorem pe_c (c : Cal X.prog X.w X.K X.mg X.base k x sp []) (hr : Room j X.A) (hk : k ≤ j) (hg : Gl X x) (ha : PA X (e :: es) t)
    (hdb : (x == ("__debug__" : Str)) = false := by decide) (he : starEach (e :: es) X.env = (false, eval e X.env) :: starEach es X.env := by rfl) (hpl : (backTo pos (starEach es X.env)).any (·.1) = false := by rfl) :
    PE X (.Call (.Name x p) (e :: es) [] pos) (tCall sp [] E0 t) := by
  obtain ⟨f, fd, ps, F, hm, kp, b, _⟩ := c.ex
  exact pe_call F (hr.mono hk) hg hm kp b .nil pass0 ha hdb he hpl
theorem pe_cK (c : CalK X.prog X.w X.K X.mg X.base k x n ks sp) (hr : Room j X.A) (hk : k ≤ j) (hg : Gl X x) (ha : PA X (e :: es) t) (hkw : PK X kws tk)
    (hall : (backToKw pos (keywordEach kws X.env)).all (·.1.isSome) = true := by rfl) (hks : (backToKw pos (keywordEach kws X.env)).filterMap (·.1) = ks := by rfl)
    (hdb : (x == ("__debug__" : Str)) = false := by decide) (he : starEach (e :: es) X.env = (false, eval e X.env) :: starEach es X.env := by rfl)
    (hpl : ((backTo pos (starEach (e :: es) X.env)).any (·.1) || (backToKw pos (keywordEach kws X.env)).any (·.1.isNone)) = false := by rfl) :
    PE X (.Call (.Name x p) (e :: es) kws pos) (tCallN n ks.length sp (fun vs zs => vs ++ zs) E0 t tk) := by
  obtain ⟨f, fd, ps, F, hm, kp, b⟩ := c.ex
  exact pe_callN F (hr.mono hk) hg hm kp b pass0 ha hkw hall hks hdb he hpl
end
section
variable {P : Program} {w : World} {K : PySem.W.Frag} {mg : Str → Option Value} {base : Heap}
def spLaw (K : PySem.W.Frag) : Sp := fun vs H Q _ => ∃ (a : Addr) (ns : List Int), vs = [.ref a] ∧ SqL K H a (ns.map V.int) ∧ ns.length ≤ 63 ∧ ∀ H', Q (.bl true) H'
theorem ok_law {f : Addr} {fd : FuncData} (F : Fun K "law" "law" sLaw f fd)
    (cF : Cal P w K mg base 1 "_law_folded" (spFolded K) []) (cP : Cal P w K mg base 1 "_law_pool" (spPool K) []) (cT : Cal P w K mg base 1 "_law_take" spTake []) (cN : Cal P w K mg base 2 "_law_number" spNumber [])
    (cR : Cal P w K mg base 4 "_law_rows" (spRows K) []) (cB : Cal P w K mg base 3 "_law_base" (spBase K) []) (cX : Cal P w K mg base 2 "times_of" (spTimes K) []) (cD : Cal P w K mg base 1 "_law_dot" (spDot K) [])
    (cW : Cal P w K mg base 1 "spread" (spSpread K) []) (cM : Cal P w K mg base 2 "_law_numbers" (spNumbers K) [])
    (cS : CalK P w K mg base 3 "settled" 1 ["width"] (spSettledX K)) (cH : CalK P w K mg base 1 "shows_rest" 2 ["width"] spShows)
    (mi : mg "isinstance" = none) (mt : mg "tuple" = none) (mls : mg "list" = none) (ml : mg "len" = none) (my : mg "any" = none) (me : mg "enumerate" = none) (mr : mg "range" = none) (mn : mg "int" = none) (mz : mg "zip" = none) :
    FnOk P w K mg base CX0 5 f fd ["_law_script"] (spLaw K) := by
  refine F.ok scLaw (fun vs H Q E h => ?_) (fun cdv A outer s H vs Q E hr h => ?_)
  · obtain ⟨_, _, rfl, _⟩ := h
    rfl
  · obtain ⟨a, ns, rfl, ha, hl, q⟩ := h
    have nd := scLaw.nd
    refine ⟨_, pss_cons (ps_set (i := 1) nd rfl (.inl rfl) (pe_c cF hr (by decide) (by rfl) (pa_cons (pv 0) (pa_cons pe_int pa_nil))))
      (pss_cons (ps_set (i := 1) nd rfl (.inl rfl) (pe_op op_cat (pv 1) (pe_op op_rep (pe_lst (pa_cons pe_int (pa_cons pe_int pa_nil))) (pe_callTy cr_int (by rfl) mn (by decide +kernel) (pa_cons
          (pe_and (pe_cmpR op_lt (pe_callB call_len_seq (by rfl) ml PySem.boot_len (pa_cons (pv 1) pa_nil)) pe_int (nomark _)) (pe_one (pe_cmpR op_lt (pe_ix (ixL (K := K)) (pv 1) pe_int (fun _ _ => rfl)) (pe_op op_pow pe_int pe_int) (nomark _)))) pa_nil)))))
      (pss_cons (ps_set (i := 2) nd rfl (.inr rfl) (pe_c cP hr (by decide) (by rfl) (pa_cons (pv 1) (pa_cons pe_int pa_nil))))
      (pss_cons (ps_set (i := 3) nd rfl (.inl rfl) (pe_c cT hr (by decide) (by rfl) (pa_cons (pv 2) (pa_cons pe_int pa_nil))))
      (pss_cons (ps_set (i := 4) nd rfl (.inr rfl) (pe_op op_mul (pe_ix (ixL (K := K)) (pe_lst (pa_cons pe_int (pa_cons pe_int (pa_cons pe_int (pa_cons pe_int (pa_cons pe_int pa_nil)))))) (pe_c cT hr (by decide) (by rfl) (pa_cons (pv 2) (pa_cons pe_int pa_nil))) (fun _ _ => rfl))
          (pe_callTy cr_int (by rfl) mn (by decide +kernel) (pa_cons (pe_cmpR op_lt (pv 3) pe_int (nomark _)) pa_nil))))
      (pss_cons (ps_setLc (i := 5) (own := [("_law_at", 15)]) (g := gName 15) rfl nd rfl rfl (sw_true rfl rfl rfl (by decide +kernel)) (pi_range1 (by rfl) mr (pa_cons (pv 3) pa_nil)) (blkOk_by (own := [("_law_at", 15)]) (N := nLaw) (sc := defScope sLaw) (by decide +kernel))
          (fun _ _ _ _ _ => pg_name (i := 15) nd rfl (.inl rfl) (.inr rfl)) (fun _ _ _ _ _ => pts_nil) (fun _ _ _ _ _ => pe_c cN hr (by decide) (by rfl) (pa_cons (pv 2) (pa_cons (pv 4) pa_nil))))
      (pss_cons (ps_set (i := 6) nd rfl (.inl rfl) (pe_c cR hr (by decide) (by rfl) (pa_cons (pv 1) (pa_cons (pv 2) (pa_cons (pv 5) (pa_cons (pv 4) pa_nil))))))
      (pss_cons (ps_setLc (i := 7) (own := [("_law_row", 16)]) (g := gName 16) rfl nd rfl rfl (sw_true rfl rfl rfl (by decide +kernel)) (pi_list (pv 6)) (blkOk_by (own := [("_law_row", 16)]) (N := nLaw) (sc := defScope sLaw) (by decide +kernel))
          (fun _ _ _ _ _ => pg_name (i := 16) nd rfl (.inl rfl) (.inr rfl)) (fun _ _ _ _ _ => pts_nil) (fun _ _ _ _ _ => pe_callTy (cr_tuple (K := K)) (by rfl) mt (by decide +kernel) (pa_cons (pv 16) pa_nil)))
      (pss_cons (ps_set (i := 8) nd rfl (.inl rfl) (pe_cK cS hr (by decide) (by rfl) (pa_cons (pv 7) pa_nil) (pk_cons (pv 3) pk_nil)))
      (pss_cons (ps_if (PW.pt (pw_or (pt_not (pt_val (pe_c cB hr (by decide) (by rfl) (pa_cons (pv 6) (pa_cons (pv 8) (pa_cons (pv 3) pa_nil))))))
          (pw_or1 (pt_cmpR (op_neD hr.units) (pv 7) (pe_lc (own := [("_law_row", 16)]) (g := gName 16) rfl nd (pi_list (pv 6)) (blkOk_by (own := [("_law_row", 16)]) (N := nLaw) (sc := defScope sLaw) (by decide +kernel))
            (fun _ _ _ _ _ => pg_name (i := 16) nd rfl (.inl rfl) (.inr rfl)) (fun _ _ _ _ _ => pts_nil) (fun _ _ _ _ _ => pe_callTy (cr_tuple (K := K)) (by rfl) mt (by decide +kernel) (pa_cons (pv 16) pa_nil))) (nomark _))))) pss_never pss_nil)
      (pss_cons (ps_set (i := 9) nd rfl (.inl rfl) (pe_c cX hr (by decide) (by rfl) (pa_cons (pv 8) (pa_cons (pe_callTy (cr_list (K := K)) (by rfl) mls (by decide +kernel) (pa_cons (pv 5) pa_nil)) pa_nil))))
      (pss_cons (ps_set (i := 10) nd rfl (.inr rfl) (pe_lc (own := [("_law_a", 17), ("_law_b", 18)]) (g := gTup K 2 (gCons (gName 17) (gCons (gName 18) gNil))) rfl nd (pi_zipG (by rfl) mz (pa_cons (pv 5) (pa_cons (pe_ix (ixT (K := K)) (pv 8) pe_int (fun _ _ => rfl)) pa_nil))) (blkOk_by (own := [("_law_a", 17), ("_law_b", 18)]) (N := nLaw) (sc := defScope sLaw) (by decide +kernel))
          (fun _ _ _ _ _ => pg_tup rfl (pgs_cons (pg_name (i := 17) nd rfl (.inl rfl) (.inr rfl)) (pgs_cons (pg_name (i := 18) nd rfl (.inl rfl) (.inr rfl)) pgs_nil))) (fun _ _ _ _ _ => pts_nil) (fun _ _ _ _ _ => pe_op op_sub (pv 17) (pv 18))))
      (pss_cons (ps_if (PW.pt (pw_or (pt_not (pt_val (pe_callB (cr_isi (K := K)) (by rfl) mi (by decide +kernel) (pa_cons (pv 9) (pa_cons (pe_bltn (v := .ty "list") (u := .type "list") (by rfl) mls (by decide +kernel) rfl) pa_nil)))))
          (pw_or1 (pt_cmpR (op_neD hr.units) (pv 9) (pe_lc (own := [("_law_read", 19)]) (g := gName 19) rfl nd (pi_tup (pe_ix (ixT (K := K)) (pv 8) pe_int (fun _ _ => rfl))) (blkOk_by (own := [("_law_read", 19)]) (N := nLaw) (sc := defScope sLaw) (by decide +kernel))
            (fun _ _ _ _ _ => pg_name (i := 19) nd rfl (.inl rfl) (.inr rfl)) (fun _ _ _ _ _ => pts_nil) (fun _ _ _ _ _ => pe_c cD hr (by decide) (by rfl) (pa_cons (pv 19) (pa_cons (pv 10) pa_nil)))) (nomark _))))) pss_never pss_nil)
      (pss_cons (ps_if (PW.pt (pw_or (pt_cmpR (op_neD hr.units) (pe_c cW hr (by decide) (by rfl) (pa_cons (pv 8) (pa_cons (pv 9) pa_nil))) (pe_callTy (cr_tuple (K := K)) (by rfl) mt (by decide +kernel) (pa_cons (pv 5) pa_nil)) (nomark _))
          (pw_or1 (pt_cmpR (op_neD hr.units) (pe_cK cS hr (by decide) (by rfl) (pa_cons (pv 7) pa_nil) (pk_cons (pv 3) pk_nil)) (pv 8) (nomark _))))) pss_never pss_nil)
      (pss_cons (ps_setLc (i := 11) (own := [("_law_often", 20)]) (g := gName 20) rfl nd rfl rfl (sw_true rfl rfl rfl (by decide +kernel)) (pi_list (pv 9)) (blkOk_by (own := [("_law_often", 20)]) (N := nLaw) (sc := defScope sLaw) (by decide +kernel))
          (fun _ _ _ _ _ => pg_name (i := 20) nd rfl (.inl rfl) (.inr rfl)) (fun _ _ _ _ _ => pts_nil) (fun _ _ _ _ _ => pe_op op_add (pv 20) (pe_c cN hr (by decide) (by rfl) (pa_cons (pv 2) (pa_cons (pv 4) pa_nil)))))
      (pss_cons (ps_set (i := 12) nd rfl (.inr rfl) (pe_c cW hr (by decide) (by rfl) (pa_cons (pv 8) (pa_cons (pv 11) pa_nil))))
      (pss_cons (ps_if (PW.pt (pw_or (pt_not (pt_val (pe_c cM hr (by decide) (by rfl) (pa_cons (pv 12) (pa_cons (pv 3) pa_nil)))))
          (pw_or1 (pt_cmpR (op_neD hr.units) (pe_c cX hr (by decide) (by rfl) (pa_cons (pv 8) (pa_cons (pv 12) pa_nil))) (pv 11) (nomark _))))) pss_never pss_nil)
      (pss_cons (ps_if (pt_val (pe_callB (cr_any rfl) (by rfl) my (by decide +kernel) (pa_cons (pe_lc (own := [("_law_row", 16)]) (g := gName 16) rfl nd (pi_list (pv 6)) (blkOk_by (own := [("_law_row", 16)]) (N := nLaw) (sc := defScope sLaw) (by decide +kernel))
            (fun _ _ _ _ _ => pg_name (i := 16) nd rfl (.inl rfl) (.inr rfl)) (fun _ _ _ _ _ => pts_nil) (fun _ _ _ _ _ => pe_cmpR op_ne (pe_op op_add (pe_ix (ixL (K := K)) (pv 16) pe_int (fun _ _ => rfl)) (pe_c cD hr (by decide) (by rfl) (pa_cons (pe_slice (sl_listK (K := K)) (pv 16) (po_some pe_int) po_none) (pa_cons (pv 12) pa_nil)))) pe_int (nomark _))) pa_nil))) pss_never pss_nil)
      (pss_cons (ps_setLc (i := 13) (own := [("_law_at", 15), ("_law_row", 16)]) (g := gTup K 2 (gCons (gName 15) (gCons (gName 16) gNil))) rfl nd rfl rfl (sw_true rfl rfl rfl (by decide +kernel)) (pi_enumG (by rfl) me (pa_cons (pv 6) pa_nil)) (blkOk_by (own := [("_law_at", 15), ("_law_row", 16)]) (N := nLaw) (sc := defScope sLaw) (by decide +kernel))
          (fun _ _ _ _ _ => pg_tup rfl (pgs_cons (pg_name (i := 15) nd rfl (.inl rfl) (.inr rfl)) (pgs_cons (pg_name (i := 16) nd rfl (.inl rfl) (.inr rfl)) pgs_nil))) (fun _ _ _ _ _ => pts_nil)
          (fun _ _ _ _ _ => pe_ifExp (pt_cmpR op_eq (pe_op op_modN (pv 15) pe_int) pe_int (nomark _)) (pe_callTy (cr_list (K := K)) (by rfl) mls (by decide +kernel) (pa_cons (pv 16) pa_nil)) (pe_callTy (cr_tuple (K := K)) (by rfl) mt (by decide +kernel) (pa_cons (pv 16) pa_nil))))
      (pss_cons (ps_set (i := 14) nd rfl (.inl rfl) (pe_cK cS hr (by decide) (by rfl) (pa_cons (pv 13) pa_nil) (pk_cons (pv 3) pk_nil)))
      (pss_cons (ps_if (PW.pt (pw_or (pt_not (pt_val (pe_c cB hr (by decide) (by rfl) (pa_cons (pv 6) (pa_cons (pv 14) (pa_cons (pv 3) pa_nil))))))
          (pw_or1 (pt_cmpR (op_neD hr.units) (pe_c cW hr (by decide) (by rfl) (pa_cons (pv 14) (pa_cons (pe_c cX hr (by decide) (by rfl) (pa_cons (pv 14) (pa_cons (pv 5) pa_nil))) pa_nil))) (pe_callTy (cr_tuple (K := K)) (by rfl) mt (by decide +kernel) (pa_cons (pv 5) pa_nil)) (nomark _))))) pss_never pss_nil)
      (pss_cons (ps_if (PW.pt (pw_or (pt_cmpR op_notBl (pe_cK cH hr (by decide) (by rfl) (pa_cons (pv 7) (pa_cons (pv 8) pa_nil)) (pk_cons (pv 3) pk_nil)) pe_bl (nomark _))
          (pw_or1 (pt_cmpR op_notBl (pe_cK cH hr (by decide) (by rfl) (pa_cons (pv 13) (pa_cons (pv 8) pa_nil)) (pk_cons (pv 3) pk_nil)) pe_bl (nomark _))))) pss_never pss_nil)
      (pss_one (ps_ret (pe_cmpR (op_eqD hr.units) (pe_lc (own := [("_law_row", 16)]) (g := gName 16) rfl nd (pi_list (pv 13)) (blkOk_by (own := [("_law_row", 16)]) (N := nLaw) (sc := defScope sLaw) (by decide +kernel))
            (fun _ _ _ _ _ => pg_name (i := 16) nd rfl (.inl rfl) (.inr rfl)) (fun _ _ _ _ _ => pts_nil) (fun _ _ _ _ _ => pe_callTy (cr_list (K := K)) (by rfl) mls (by decide +kernel) (pa_cons (pv 16) pa_nil))) (pv 6) (nomark _))))))))))))))))))))))))), ?_⟩
    -- cells
    refine q_asgK ?_
    refine ⟨_, rfl, a, ns, rfl, ha, by omega, fun c0 ms H1 hc0 e1 h1 l1 l2 => ?_⟩
    show tSeq _ _ _ (stL (some (.ref a)) (some (.ref c0)) none none none none none none none none none none none none none) H1
    obtain ⟨bb, hbb, hb2⟩ : ∃ bb : Bool, Ev (tAndV (tOp (rI0 fun i j => .bl (decide (i < j))) (tCB (rLenS K) (tCons (tVar 1) tNil)) (tC (.int 2))) (tOp (rI0 fun i j => .bl (decide (i < j))) (tOp (rIxL K) (tVar 1) (tC (.int 0))) (tOp (rI CPow fun i j => .int (i ^ j.toNat)) (tC (.int 10)) (tC (.int 18))))) (stL (some (.ref a)) (some (.ref c0)) none none none none none none none none none none none none none) H1 (.bl bb) ∧ (bb = true → ms.length < 2) := by
      obtain ⟨m0, mr0, rfl⟩ : ∃ m0 mr0, ms = m0 :: mr0 := by
        cases ms with
        | nil => exact absurd l1 (by decide)
        | cons m r => exact ⟨m, r, rfl⟩
      refine ⟨_, ev_andV (ev_op (ev_lenQ (K := K) (ev_var rfl) (sqk_l (sq_of h1))) ev_c rv_I0) fun _ => ev_op (ev_ixL (ev_var rfl) ev_c (sq_of h1) (atI_nat (j := 0) rfl)) (ev_op ev_c ev_c (rv_I ⟨by decide, by decide, by decide⟩)) rv_I0, fun z => ?_⟩
      have := of_decide_eq_true (Bool.and_eq_true_iff.mp z).1
      rw [List.length_map] at this
      omega
    obtain ⟨ms2, hms2, hl2⟩ : ∃ ms2 : List Int, ms.map V.int ++ (List.replicate (if bb = true then (1 : Int) else 0).toNat [V.int 7, V.int 9]).flatten = ms2.map V.int ∧ ms2.length ≤ 11 := by
      cases bb with
      | true => exact ⟨ms ++ [7, 9], by rw [List.map_append]; rfl, by rw [List.length_append]; have := hb2 rfl; show _ + 2 ≤ 11; omega⟩
      | false => exact ⟨ms, by simp, l2⟩
    refine q_asgL (xs := ms2.map V.int) (el_is (el_cat2 (ev_var rfl) h1 (el_rep (el_lst (ea_cons ev_c (ea_cons ev_c ea_nil)) (by show 2 ≤ 100000; decide)) (ev_int hbb) (by split <;> omega) (by show 2 ≤ 100000; decide)) (by rw [List.length_map]; cases bb <;> simp <;> omega)) hms2) fun c H2 hc e2 h2 => ?_
    refine norm_st (σ' := stL (some (.ref a)) (some (.ref c)) none none none none none none none none none none none none none) rfl ?_
    -- head
    refine q_asgK ?_
    refine ⟨_, rfl, c, ms2, 0, rfl, sq_of h2, by decide, fun h H3 hh e3 p3 => ?_⟩
    show tSeq _ _ _ (stL (some (.ref a)) (some (.ref c)) (some (.ref h)) none none none none none none none none none none none none) H3
    have hch : c ≠ h := fun z => by
      rw [← z, h2] at hh
      cases hh
    have h3c := e3 _ _ h2
    -- wide
    refine q_asgK ?_
    refine take_ev (n := 8999999) (ea_cons (ev_var rfl) (ea_cons ev_c ea_nil)) (by decide) (by decide) p3 fun wd0 H4 w0 w1 e4 p4 => ?_
    obtain ⟨wd, rfl⟩ : ∃ wd : Nat, wd0 = (wd : Int) := ⟨wd0.toNat, by omega⟩
    have hwd : wd ≤ 8 := by omega
    show tSeq _ _ _ (stL (some (.ref a)) (some (.ref c)) (some (.ref h)) (some (.int (wd : Int))) none none none none none none none none none none none) H4
    -- size
    refine q_asgK (op_of (op_of ?_))
    refine el_lst (vs := [.int 0, .int 0, .int 0, .int 1, .int 2]) (ea_cons ev_c (ea_cons ev_c (ea_cons ev_c (ea_cons ev_c (ea_cons ev_c ea_nil))))) (by show 5 ≤ 100000; decide) H4 (Ex.refl _) _ fun L H5 hL e5 h5 => ?_
    have p5 := p4.ex e5
    have hLh : L ≠ h := fun z => p4.some (z ▸ hL)
    refine take_ev (n := 8999998) (ea_cons (ev_var rfl) (ea_cons ev_c ea_nil)) (by decide) (by decide) p5 fun t H6 t0 t1 e6 p6 => ?_
    have h6 := e6 _ _ hLh h5
    obtain ⟨s0, hs0, hat⟩ : ∃ s0 : Nat, s0 ≤ 2 ∧ atI [V.int 0, V.int 0, V.int 0, V.int 1, V.int 2] t = some (.int (s0 : Int)) := by
      have : t = 0 ∨ t = 1 ∨ t = 2 ∨ t = 3 ∨ t = 4 := by omega
      rcases this with rfl | rfl | rfl | rfl | rfl
      · exact ⟨0, by decide, rfl⟩
      · exact ⟨0, by decide, rfl⟩
      · exact ⟨0, by decide, rfl⟩
      · exact ⟨1, by decide, rfl⟩
      · exact ⟨2, by decide, rfl⟩
    obtain ⟨sz, hsz, hsz2, hcase⟩ := size_of hs0 hwd
    refine ⟨L, _, t, .int (s0 : Int), rfl, rfl, sq_of h6, hat, ev_int (ev_op (ev_var rfl) ev_c rv_I0) H6 (Ex.refl _) _ fun H7 e7 => ⟨(s0 : Int), _, rfl, rfl, .inl ⟨by omega, by omega⟩, ?_⟩⟩
    show tSeq _ _ _ (stL (some (.ref a)) (some (.ref c)) (some (.ref h)) (some (.int (wd : Int))) (some (.int ((s0 : Int) * (if decide ((wd : Int) < 6) = true then 1 else 0)))) none none none none none none none none none none) H7
    rw [hsz]
    have p7 := p6.ex e7
    have eB7 : ExB h H3 H7 := ((e4.trans (ExB.of e5)).trans e6).trans (ExB.of e7)
    have h7c := eB7 _ _ hch h3c
    -- values
    refine q_asgK ?_
    refine tlc_nums (B := 10 ^ (1 + 6 * sz) - 1) (n := 8000000) (m := wd) (ea_cons (ev_var rfl) ea_nil) (by omega) (wipe1 (by decide)) (p7.le (by omega)) (fun i H8 N Q1 e8 p8 k => number_ev (ea_cons (ev_var rfl) (ea_cons (ev_var rfl) ea_nil)) hsz2 p8 fun v H9 hv e9 p9 => k v H9 (by omega) e9 p9) fun v xs H8 hxl hxb hv hvh e8 p8 h8v => ?_
    show tSeq _ _ _ (stL (some (.ref a)) (some (.ref c)) (some (.ref h)) (some (.int (wd : Int))) (some (.int (sz : Int))) (some (.ref v)) none none none none none none none none none) H8
    have hxb2 : ∀ x ∈ xs, x.natAbs < 10 ^ (1 + 6 * sz) := fun x hx => by
      have := hxb x hx
      have := Nat.pow_pos (n := 1 + 6 * sz) (show 0 < 10 by decide)
      omega
    have hxs : SmL xs := fun x hx => sm_big (small_pow (hxb2 x hx) hsz2) (by decide)
    -- rows
    refine q_asgK ?_
    refine ⟨_, rfl, _, rfl, _, rfl, _, rfl, c, h, v, sz, 7000000, ms2, xs, rfl, sq_of (e8 _ _ hch h7c), hl2, p8.le (by omega), sq_of h8v, hxs, by omega, hsz2, fun r rows H9 hr9 hrh e9 p9 hRd hBu hrl => ?_⟩
    show tSeq _ _ _ (stL (some (.ref a)) (some (.ref c)) (some (.ref h)) (some (.int (wd : Int))) (some (.int (sz : Int))) (some (.ref v)) (some (.ref r)) none none none none none none none none) H9
    have h9v := e9 _ _ hvh h8v
    rw [hxl] at hBu
    obtain ⟨B, run, S⟩ := lawOk_of hcase hxl hxb2 hrl hBu
    obtain ⟨ras, hras, hral, hrow⟩ := hRd
    have hR9 : RowsL K H9 r rows := ⟨ras, sq_of hras, hral, fun i a ha => sq_of (hrow i a ha).2⟩
    -- handed
    have hand : ∀ (σ : L2.St) (H' : Hp), Ex (less1 H9 h) H' → σ[6]? = some (some (.ref r)) → σ.length = 21 → EvLN (tLc (iList K (tVar 6)) (gName 16) tYes (tCB (rTups K) (tCons (tVar 16) tNil)) [16]) σ H' ((List.range rows.length).map fun i => .tup ((rowAt rows i).map V.int)) := fun σ H' e g hσ => by
      have hl : (List.map V.ref ras).length = rows.length := by rw [List.length_map, hral]
      have := eln_list (K := K) (σ := σ) (te := tCB (rTups K) (tCons (tVar 16) tNil)) (vs := [16]) (j := 16) (xs := ras.map V.ref) (ev_var g) (sq_of (e _ _ (less1_at hrh hras))) (by rw [hl]; omega) (fun i => .tup ((rowAt rows i).map V.int)) (wipe1 (by decide)) fun i x H2 e2 hx => by
        rw [List.getElem?_map] at hx
        obtain ⟨ai, hai, rfl⟩ := Option.map_eq_some_iff.mp hx
        exact en_tuple (K := K) (ev_var (List.getElem?_set_self (by rw [wipe_length, hσ]; decide))) (sq_of (e2 _ _ (e _ _ (less1_at (hrow i ai hai).1 (hrow i ai hai).2))))
      rw [made_all, hl] at this
      exact this
    have eG9 : Ex (less1 H9 h) H9 := less1_ex
    refine q_asgLN (hand _ H9 eG9 rfl rfl) fun hd tas H10 hhd e10 h10 ob10 => ?_
    refine norm_st (σ' := stL (some (.ref a)) (some (.ref c)) (some (.ref h)) (some (.int (wd : Int))) (some (.int (sz : Int))) (some (.ref v)) (some (.ref r)) (some (.ref hd)) none none none none none none none) rfl ?_
    obtain ⟨htl, htas⟩ := objs_at (o := fun _ r => .tup (r.map V.int)) ob10
    have p10 := p9.ex e10
    have hhdh : hd ≠ h := fun z => p9.some (z ▸ hhd)
    have hrl10 : rows.length ≤ 1000 := by omega
    -- settled
    have sett : ∀ (σ : L2.St) (H' : Hp) (i : Nat) (l : Addr) (as : List Addr), H' l = some (.lst (as.map V.ref)) → as.length = rows.length → (∀ (i : Nat) (r : Addr), as[i]? = some r → ∃ k, SqK K k H' r ((rowAt rows i).map V.int)) → σ[i]? = some (some (.ref l)) → σ[3]? = some (some (.int (wd : Int))) →
        EvB B (tCallN 1 ["width"].length (spSettledX K) (fun vs zs => vs ++ zs) E0 (tCons (tVar i) tNil) (tCons (tVar 3) tNil)) σ H' := fun σ H' i l as hl has hel g1 g2 H1 e Q q =>
      ⟨_, g1, _, g2, rfl, rfl, wd, l, as, rows, B, rfl, sq_of (e _ _ hl), has, hrl10, fun i r hr => let ⟨k, hk⟩ := hel i r hr; ⟨k, ex_k e hk⟩, by omega, run, fun H2 p e2 hb => q p H2 e2 hb⟩
    have sett7 : ∀ (σ : L2.St) (H' : Hp), Ex H10 H' → σ[7]? = some (some (.ref hd)) → σ[3]? = some (some (.int (wd : Int))) → EvB B (tCallN 1 ["width"].length (spSettledX K) (fun vs zs => vs ++ zs) E0 (tCons (tVar 7) tNil) (tCons (tVar 3) tNil)) σ H' := fun σ H' e g1 g2 =>
      sett σ H' 7 hd tas (e _ _ h10) htl (fun i r hr => ⟨true, st_of (e _ _ (htas i r hr).1)⟩) g1 g2
    refine q_asgK (sett7 _ H10 (Ex.refl _) rfl rfl H10 (Ex.refl _) _ fun b H11 e11 hB11 => ?_)
    show tSeq _ _ _ (stL (some (.ref a)) (some (.ref c)) (some (.ref h)) (some (.int (wd : Int))) (some (.int (sz : Int))) (some (.ref v)) (some (.ref r)) (some (.ref hd)) (some (.ref b)) none none none none none none) H11
    have eG11 : Ex (less1 H9 h) H11 := (eG9.trans e10).trans e11
    have hRG : RowsL K (less1 H9 h) r rows := ⟨ras, sq_of (less1_at hrh hras), hral, fun i a ha => sq_of (less1_at (hrow i a ha).1 (hrow i a ha).2)⟩
    have hvG : less1 H9 h v = some (.lst (xs.map V.int)) := less1_at hvh h9v
    -- data of rows
    have dpR : ∀ (H' : Hp) (l : Addr) (as : List Addr), H' l = some (.lst (as.map V.ref)) → as.length = rows.length → (∀ (i : Nat) (a : Addr), as[i]? = some a → H' a = some (.tup ((rowAt rows i).map V.int))) → Dp K H' (.ref l) (.list (rows.map dT)) := fun H' l as h1 h2 h3 =>
      .lst (sq_of h1) (dp_refs dT as rows h2 fun i a x ha hx => by
        have := h3 i a ha
        rw [rowAt_of hx] at this
        exact dp_T (st_of this))
    have layR : (PyData.list (rows.map dT)).canLay0 = true := lay_all dT lay_dT rows
    have depR : (PyData.list (rows.map dT)).depth ≤ 64 := by
      have := dep_lst dep_dT rows
      omega
    refine q_when (b := false) (et_or (a := false) (b := false) (et_not (a := true) (et_B (ev_base S hrl (ev_var rfl) (ev_var rfl) (ev_var rfl) (hRG.ex eG11) hB11))) fun _ => et_test (ev_opN (ev_var rfl) (hand _ H11 eG11 rfl rfl) fun p as H1 e h1 ob => rv_neD (d := .list (rows.map dT)) (fun H2 e2 => dpR H2 hd tas (e2 _ _ (e _ _ (e11 _ _ h10))) htl fun i a ha => e2 _ _ (e _ _ (e11 _ _ (htas i a ha).1)))
      (fun H2 e2 => dpR H2 p as (e2 _ _ h1) (objs_at (o := fun _ r => .tup (r.map V.int)) ob).1 fun i a ha => e2 _ _ ((objs_at (o := fun _ r => .tup (r.map V.int)) ob).2 i a ha).1) layR depR)) (fun z => by cases z) fun _ H12 e12 => ?_
    have eG12 := eG11.trans e12
    have hB12 := hB11.ex e12
    -- times
    refine q_asgL (el_times (K := K) (k := false) S (ev_var rfl) hB12 (fun H1 e Q q => en_list (K := K) (k := false) (ev_var rfl) (sqk_l (sq_of (eG12 _ _ hvG))) H1 e _ fun p H2 _ e2 h2 => q p H2 e2 (sqk_l (sq_of h2))) hxl S.away) fun t13 H13 ht13 e13 h13 => ?_
    refine norm_st (σ' := stL (some (.ref a)) (some (.ref c)) (some (.ref h)) (some (.int (wd : Int))) (some (.int (sz : Int))) (some (.ref v)) (some (.ref r)) (some (.ref hd)) (some (.ref b)) (some (.ref t13)) none none none none none) rfl ?_
    have eG13 := eG12.trans e13
    have hB13 := hB12.ex e13
    have p13 := ((p10.ex e11).ex e12).ex e13
    have htl13 := S.times.1
    have ht13h : t13 ≠ h := fun z => ((p10.ex e11).ex e12).some (z ▸ ht13)
    -- away
    have hpt : ∀ (σ : L2.St) (H' : Hp), BaseAt H' b B → σ[8]? = some (some (.ref b)) → ∃ qa m rd ms rs, Ev (tOp (rIxT K) (tVar 8) (tC (.int 1))) σ H' (.ref qa) ∧ H' qa = some (.tup (B.point.map V.int)) ∧ Ev (tOp (rIxT K) (tVar 8) (tC (.int 3))) σ H' (.ref rd) ∧ H' rd = some (.tup (List.map V.ref rs)) ∧ TupsAt H' rs B.reads ∧ H' m = some (.tup (List.map V.ref ms)) ∧ TupsAt H' ms B.moves ∧ H' b = some (.tup [.str "base", .ref qa, .ref m, .ref rd]) := fun σ H' hb g => by
      obtain ⟨qa, m, rd, ms, rs, h1, h2, h3, h4, h5, h6⟩ := hb
      exact ⟨qa, m, rd, ms, rs, ev_ixT (ev_var g) ev_c (st_of h1) (atI_nat (j := 1) rfl), h2, ev_ixT (ev_var g) ev_c (st_of h1) (atI_nat (j := 3) rfl), h4, h6, h3, h5, h1⟩
    obtain ⟨qa, m, rd, ms', rs, ev1, hqa, ev3, hrd, hrs, _, _, _⟩ := hpt (stL (some (.ref a)) (some (.ref c)) (some (.ref h)) (some (.int (wd : Int))) (some (.int (sz : Int))) (some (.ref v)) (some (.ref r)) (some (.ref hd)) (some (.ref b)) (some (.ref t13)) none none none none none) H13 hB13 rfl
    refine q_asgL (el_zip (K := K) (ka := false) (kb := true) (fun a b => a - b) (ev_var rfl) ev1 (sq_of (eG13 _ _ hvG)) (st_of hqa) (by omega) (wipe2 (by decide) (by decide)) (fun k p q H1 _ _ _ => ev_op (ev_var rfl) (ev_var rfl) rv_I0)) fun aw H14 haw e14 h14 => ?_
    refine norm_st (σ' := stL (some (.ref a)) (some (.ref c)) (some (.ref h)) (some (.int (wd : Int))) (some (.int (sz : Int))) (some (.ref v)) (some (.ref r)) (some (.ref hd)) (some (.ref b)) (some (.ref t13)) (some (.ref aw)) none none none none) rfl ?_
    have eG14 := eG13.trans e14
    have hB14 := hB13.ex e14
    have h14t := e14 _ _ h13
    obtain ⟨_, _, rd, _, rs, _, _, ev3, hrd, hrs, _, _, _⟩ := hpt (stL (some (.ref a)) (some (.ref c)) (some (.ref h)) (some (.int (wd : Int))) (some (.int (sz : Int))) (some (.ref v)) (some (.ref r)) (some (.ref hd)) (some (.ref b)) (some (.ref t13)) (some (.ref aw)) none none none none) H14 hB14 rfl
    have dTi := dep_dL (timesF B xs)
    refine q_when (b := false) (et_or (a := false) (b := false) (et_not (a := true) (et_B (ev_isi (K := K) (ev_var rfl) ev_c (ty_lst h14t) (by decide +kernel)))) fun _ => et_test (ev_opL (xs := (timesF B xs).map V.int) (ev_var rfl) (el_is (el_lcT (K := K) (xs := rs.map V.ref) (fun i => .int (dot (rowAt B.reads i) (List.zipWith (fun a b => a - b) xs B.point))) ev3 (st_of hrd) (by rw [List.length_map, hrs.1, S.sees.len]; have := S.sees.lw; omega) (wipe1 (by decide)) (fun i x H1 e1 hx => ?_)) ?_)
      fun p H1 h1 e => rv_neD (d := dL (timesF B xs)) (fun H2 e2 => dp_L (sq_of (e2 _ _ (e _ _ h14t)))) (fun H2 e2 => dp_L (sq_of (e2 _ _ h1))) (lay_dL _) (by omega))) (fun z => by cases z) fun _ H15 e15 => ?_
    · obtain ⟨ra, rfl, hra, hri⟩ := tups_get hrs hx
      have hmem := List.mem_of_getElem? hri
      exact ev_dot (K := K) (ka := true) (kb := false) (ns := rowAt B.reads i) (ms := List.zipWith (fun a b => a - b) xs B.point) (ev_var rfl) (ev_var rfl) (st_of (e1 _ _ hra)) (sq_of (e1 _ _ h14)) (by have := (S.reads _ hmem).2; omega) (mul_ok (S.reads _ hmem).1 S.away)
    · rw [List.length_map, hrs.1]
      unfold timesF
      rw [List.map_map]
      apply List.ext_getElem?
      intro k
      rw [List.getElem?_map, List.getElem?_map]
      by_cases hk : k < B.reads.length
      · rw [List.getElem?_range hk, rowAt_get hk]
        rfl
      · rw [List.getElem?_eq_none (by rw [List.length_range]; omega), List.getElem?_eq_none (by omega)]
        rfl
    have eG15 := eG14.trans e15
    have hB15 := hB14.ex e15
    have h15t := e15 _ _ h14t
    have t8 : ∀ t ∈ timesF B xs, t.natAbs ≤ 2 ^ 3000008 := fun t ht => Nat.le_trans (S.times.2 t ht) (two_le (by decide))
    have dTx := dep_dT xs
    -- spread leads back, the same base again
    refine q_when (b := false) (et_or (a := false) (b := false) (et_test (ev_opUU (xs := xs.map V.int) (ys := xs.map V.int) (eu_spreadE (K := K) (ts := timesF B xs) S (ev_var rfl) hB15 (st_list (ev_var rfl) (sq_of h15t)) t8 S.ok.back) (en_tuple (K := K) (ev_var rfl) (sq_of (eG15 _ _ hvG)))
        fun p q H1 h1 h2 e => rv_neD (d := dT xs) (fun H2 e2 => dp_T (st_of (e2 _ _ h1))) (fun H2 e2 => dp_T (st_of (e2 _ _ h2))) (lay_dT _) (by omega))) fun _ => et_test (ev_opB (sett7 _ H15 ((((e11.trans e12).trans e13).trans e14).trans e15) rfl rfl) (fun H1 e => ev_var rfl) fun p H1 e hb => rv_neD (d := dBase B) (fun H2 e2 => dp_base (hb.ex e2)) (fun H2 e2 => dp_base (hB15.ex (e.trans e2))) (lay_base B) (dep_base B))) (fun z => by cases z) fun _ H16 e16 => ?_
    have e10_16 := ((((e11.trans e12).trans e13).trans e14).trans e15).trans e16
    have p16 := ((p13.ex e14).ex e15).ex e16
    have hB16 := hB15.ex e16
    have h16t := e16 _ _ h15t
    -- further
    refine q_asgK ?_
    refine tlc_numsL (B := 2 ^ 3000008) (n := 1000000) (ts := timesF B xs) (ev_var rfl) h16t ht13h (by rw [htl13]; exact S.sees.lw) (wipe1 (by decide)) (p16.le (by rw [htl13]; have := S.sees.lw; omega)) (fun t H1 N Q1 ht e p k => ⟨_, rfl, number_ev (ea_cons (ev_var rfl) (ea_cons (ev_var rfl) ea_nil)) hsz2 p fun z H2 hz e2 p2 => ⟨t, z, rfl, rfl, k _ H2 ?_ e2 p2⟩⟩) fun fu zs H17 hzl hzb hfu hfuh e17 p17 h17 => ?_
    · have h1 := S.times.2 t ht
      have h2 : z.natAbs ≤ 2 ^ 3000007 := Nat.le_trans (small_pow hz hsz2) (two_le (by decide))
      have h3 := add_pow h1 h2
      omega
    show tSeq _ _ _ (stL (some (.ref a)) (some (.ref c)) (some (.ref h)) (some (.int (wd : Int))) (some (.int (sz : Int))) (some (.ref v)) (some (.ref r)) (some (.ref hd)) (some (.ref b)) (some (.ref t13)) (some (.ref aw)) (some (.ref fu)) none none none) H17
    have eG16 := eG15.trans e16
    have eG17 : Ex (less1 H9 h) H17 := fun x o z => e17 x o (fun y => by
      rw [y] at z
      unfold less1 at z
      rw [if_pos rfl] at z
      cases z) (eG16 x o z)
    have h17hd := e17 _ _ hhdh (e10_16 _ _ h10)
    have hB17 : BaseAt H17 b B := (base_less p16 hB16).ex (less1_to e17)
    have hzl2 : zs.length = B.moves.length := hzl.trans htl13
    obtain ⟨sm1, sm2, slen⟩ := S.there zs hzb hzl2
    obtain ⟨_, forth, rowz⟩ := S.ok.forth zs hzl2
    -- there
    refine q_asgU (eu_spread (K := K) (ts := zs) S (ev_var rfl) hB17 (st_list (ev_var rfl) (sq_of h17)) hzb) fun th H18 hth e18 h18 => ?_
    refine norm_st (σ' := stL (some (.ref a)) (some (.ref c)) (some (.ref h)) (some (.int (wd : Int))) (some (.int (sz : Int))) (some (.ref v)) (some (.ref r)) (some (.ref hd)) (some (.ref b)) (some (.ref t13)) (some (.ref aw)) (some (.ref fu)) (some (.ref th)) none none) rfl ?_
    have eG18 := eG17.trans e18
    have hB18 := hB17.ex e18
    have dZs := dep_dL zs
    refine q_when (b := false) (et_or (a := false) (b := false) (et_not (a := true) (et_B (ev_call (vs := [.ref th, .int (wd : Int)]) (ea_cons (ev_var rfl) (ea_cons (ev_var rfl) ea_nil)) fun H2 e2 Q2 q2 E2 => ⟨th, spreadF B zs, by rw [slen]; rfl, e2 _ _ h18, by rw [slen]; omega, q2⟩)))
      fun _ => et_test (ev_opL1 (xs := zs.map V.int) (el_is (el_times (K := K) (k := true) S (ev_var rfl) hB18 (st_k (ev_var rfl) (st_of h18)) slen sm2) (by rw [forth])) (fun H1 e => ev_var rfl) fun p H1 h1 e => rv_neD (d := dL zs) (fun H2 e2 => dp_L (sq_of (e2 _ _ h1))) (fun H2 e2 => dp_L (sq_of (e2 _ _ (e _ _ (e18 _ _ h17))))) (lay_dL _) (by omega))) (fun z => by cases z) fun _ H19 e19 => ?_
    have eG19 := eG18.trans e19
    have h19 := e19 _ _ h18
    -- the rows are worth nothing there
    have hRr : ∀ H', Ex (less1 H9 h) H' → H' r = some (.lst (ras.map V.ref)) ∧ ∀ (i : Nat) (x : V), (ras.map V.ref)[i]? = some x → ∃ ra c co, x = .ref ra ∧ i < rows.length ∧ rowAt rows i = c :: co ∧ H' ra = some (.lst ((c :: co).map V.int)) ∧ co.length ≤ 1000 ∧ SmL co ∧ (c :: co) ∈ rows := fun H' e => by
      refine ⟨e _ _ (less1_at hrh hras), fun i x hx => ?_⟩
      rw [List.getElem?_map] at hx
      obtain ⟨ra, hra, rfl⟩ := Option.map_eq_some_iff.mp hx
      have hi : i < rows.length := by
        have := (List.getElem?_eq_some_iff.mp hra).1
        omega
      have hm := List.mem_of_getElem? (show rows[i]? = some (rowAt rows i) from rowAt_get hi)
      obtain ⟨c, co, e1, h1, h2, _⟩ := S.sees.row _ hm
      refine ⟨ra, c, co, rfl, hi, e1, ?_, h1, h2, e1 ▸ hm⟩
      rw [← e1]
      exact e _ _ (less1_at (hrow i ra hra).1 (hrow i ra hra).2)
    have hrl2 : (ras.map V.ref).length = rows.length := by rw [List.length_map, hral]
    refine q_when (b := false) (et_B (ev_is (ev_any (K := K) (bs := List.replicate rows.length false) (el_is (el_lcLs (K := K) (xs := ras.map V.ref) (fun _ => .bl false) (ev_var rfl) (sq_of (hRr H19 eG19).1) (by omega) (wipe1 (by decide)) (fun i x H1 e1 hx => ?_)) ?_)) ?_)) (fun z => by cases z) fun _ H20 e20 => ?_
    · obtain ⟨ra, c', co, rfl, hi, _, hra, hcl, hcs, hmem⟩ := (hRr H1 (eG19.trans e1)).2 i x hx
      exact ev_is (ev_op (ev_op (ev_ixL (ev_var rfl) ev_c (sq_of hra) (atI_nat (j := 0) rfl)) (ev_dotL (K := K) (kb := true) (ms := spreadF B zs) (el_tail (ev_var rfl) (sq_of hra)) (ev_var rfl) (st_of (e1 _ _ h19)) (by omega) (mul_ok hcs sm1)) rv_I0) ev_c (rv_ne rfl)) (by rw [rowz _ _ hmem]; rfl)
    · rw [map_rep, List.length_range, hrl2, List.map_replicate]
    · congr 1
      rw [List.any_eq_false]
      intro b hb
      rw [List.eq_of_mem_replicate hb]
      decide
    have eG20 := eG19.trans e20
    have hB20 := (hB18.ex e19).ex e20
    -- mixed
    refine q_asgLN (eln_enum (K := K) (k := false) (xs := ras.map V.ref) (ev_var rfl) (sq_of (hRr H20 eG20).1) (by omega) (fun i => if decide (V.int ((i : Int).fmod 2) = V.int 0) = true then .lst ((rowAt rows i).map V.int) else .tup ((rowAt rows i).map V.int)) (wipe2 (by decide) (by decide)) (fun i x H1 e1 hx => ?_)) fun mx mas H21 hmx e21 h21 ob21 => ?_
    · obtain ⟨ra, c', co, rfl, hi, ec, hra, hcl, hcs, hmem⟩ := (hRr H1 (eG20.trans e1)).2 i x hx
      rw [← ec] at hra
      refine en_if (b := decide (V.int ((i : Int).fmod 2) = V.int 0)) (et_test (ev_op (ev_op (ev_var rfl) ev_c (rv_I (by decide))) ev_c (rv_eq rfl))) (fun hb => ?_) fun hb => ?_
      · rw [hb, if_pos rfl]
        exact en_list (K := K) (k := false) (ev_var rfl) (sqk_l (sq_of hra))
      · rw [hb, if_neg (by decide)]
        exact en_tuple (K := K) (ev_var rfl) (sq_of hra)
    refine norm_st (σ' := stL (some (.ref a)) (some (.ref c)) (some (.ref h)) (some (.int (wd : Int))) (some (.int (sz : Int))) (some (.ref v)) (some (.ref r)) (some (.ref hd)) (some (.ref b)) (some (.ref t13)) (some (.ref aw)) (some (.ref fu)) (some (.ref th)) (some (.ref mx)) none) rfl ?_
    rw [made_all, hrl2] at ob21
    obtain ⟨hml, hmas⟩ := objs_at (o := fun i r => if decide (V.int ((i : Int).fmod 2) = V.int 0) = true then .lst (r.map V.int) else .tup (r.map V.int)) ob21
    have mixd : ∀ H', Ex H21 H' → ∀ (i : Nat) (r : Addr), mas[i]? = some r → ∃ k, SqK K k H' r ((rowAt rows i).map V.int) := fun H' e i r hr => by
      have h1 := e _ _ (hmas i r hr).1
      by_cases hb : decide (V.int ((i : Int).fmod 2) = V.int 0) = true
      · rw [if_pos hb] at h1
        exact ⟨false, sq_of h1⟩
      · rw [if_neg hb] at h1
        exact ⟨true, st_of h1⟩
    have eG21 := eG20.trans e21
    -- other
    refine q_asgK (sett _ H21 13 mx mas h21 hml (mixd H21 (Ex.refl _)) rfl rfl H21 (Ex.refl _) _ fun ot H22 e22 hO22 => ?_)
    show tSeq _ _ _ (stL (some (.ref a)) (some (.ref c)) (some (.ref h)) (some (.int (wd : Int))) (some (.int (sz : Int))) (some (.ref v)) (some (.ref r)) (some (.ref hd)) (some (.ref b)) (some (.ref t13)) (some (.ref aw)) (some (.ref fu)) (some (.ref th)) (some (.ref mx)) (some (.ref ot))) H22
    have eG22 := eG21.trans e22
    refine q_when (b := false) (et_or (a := false) (b := false) (et_not (a := true) (et_B (ev_base S hrl (ev_var rfl) (ev_var rfl) (ev_var rfl) (hRG.ex eG22) hO22))) fun _ => et_test (ev_opUU (xs := xs.map V.int) (ys := xs.map V.int)
        (eu_spreadE (K := K) (ts := timesF B xs) S (ev_var rfl) hO22 (new_list (el_times (K := K) (k := false) S (ev_var rfl) hO22 (st_k (ev_var rfl) (sq_of (eG22 _ _ hvG))) hxl S.away)) t8 S.ok.back) (en_tuple (K := K) (ev_var rfl) (sq_of (eG22 _ _ hvG)))
        fun p q H1 h1 h2 e => rv_neD (d := dT xs) (fun H2 e2 => dp_T (st_of (e2 _ _ h1))) (fun H2 e2 => dp_T (st_of (e2 _ _ h2))) (lay_dT _) (by omega))) (fun z => by cases z) fun _ H23 e23 => ?_
    have eG23 := eG22.trans e23
    have hB23 := ((hB20.ex e21).ex e22).ex e23
    have e21_23 := e22.trans e23
    -- no rest
    obtain ⟨qa4, m4, rd4, ms4, rs4, hb4, _⟩ := hB23
    have hshow : ∀ (σ : L2.St) (i : Nat) (l : Addr), σ[i]? = some (some (.ref l)) → σ[8]? = some (some (.ref b)) → σ[3]? = some (some (.int (wd : Int))) → Ev (tCallN 2 ["width"].length spShows (fun vs zs => vs ++ zs) E0 (tCons (tVar i) (tCons (tVar 8) tNil)) (tCons (tVar 3) tNil)) σ H23 (.bl false) := fun σ i l g1 g8 g3 H1 e Q q =>
      ⟨_, g1, _, g8, _, g3, rfl, rfl, l, b, (wd : Int), _, rfl, e _ _ hb4, by show 4 ≠ 3; decide, fun H2 e2 => q H2 e2⟩
    refine q_when (b := false) (et_or (a := false) (b := false) (et_test (ev_is (ev_op (hshow _ 7 hd rfl rfl rfl) ev_c rv_notB) (by rfl))) fun _ => et_test (ev_is (ev_op (hshow _ 13 mx rfl rfl rfl) ev_c rv_notB) (by rfl))) (fun z => by cases z) fun _ H24 e24 => ?_
    have eG24 := eG23.trans e24
    have e21_24 := e21_23.trans e24
    -- what was handed in stays
    have hml2 : (mas.map V.ref).length = rows.length := by rw [List.length_map, hml]
    have dpL : ∀ (H' : Hp) (l : Addr) (as : List Addr), H' l = some (.lst (as.map V.ref)) → as.length = rows.length → (∀ (i : Nat) (a : Addr), as[i]? = some a → H' a = some (.lst ((rowAt rows i).map V.int))) → Dp K H' (.ref l) (.list (rows.map dL)) := fun H' l as h1 h2 h3 =>
      .lst (sq_of h1) (dp_refs dL as rows h2 fun i a x ha hx => by
        have := h3 i a ha
        rw [rowAt_of hx] at this
        exact dp_L (sq_of this))
    refine s_ret (ev_opN1 (os := (List.range rows.length).map fun i => .lst ((rowAt rows i).map V.int)) (fun H1 e Q q' => ?_) (fun H1 e => ev_var rfl) fun p as H1 e h1 ob => rv_eqD (d := .list (rows.map dL)) (fun H2 e2 => dpL H2 p as (e2 _ _ h1) (objs_at (o := fun _ r => .lst (r.map V.int)) ob).1 fun i a ha => e2 _ _ ((objs_at (o := fun _ r => .lst (r.map V.int)) ob).2 i a ha).1)
      (fun H2 e2 => dpL H2 r ras ((hRr H2 ((eG24.trans e).trans e2)).1) hral fun i a ha => ((eG24.trans e).trans e2) _ _ (less1_at (hrow i a ha).1 (hrow i a ha).2)) (lay_all dL lay_dL rows) (by have := dep_lst dep_dL rows; omega)) fun H25 _ => q H25
    have hln := eln_list (K := K) (σ := stL (some (.ref a)) (some (.ref c)) (some (.ref h)) (some (.int (wd : Int))) (some (.int (sz : Int))) (some (.ref v)) (some (.ref r)) (some (.ref hd)) (some (.ref b)) (some (.ref t13)) (some (.ref aw)) (some (.ref fu)) (some (.ref th)) (some (.ref mx)) (some (.ref ot))) (H := H24) (tl := tVar 13) (te := tCB (rLists K) (tCons (tVar 16) tNil)) (vs := [16]) (j := 16) (xs := mas.map V.ref) (ev_var rfl) (sq_of (e21_24 _ _ h21)) (by omega) (fun i => .lst ((rowAt rows i).map V.int)) (wipe1 (by decide)) fun i x H2 e2 hx => by
      rw [List.getElem?_map] at hx
      obtain ⟨ai, hai, rfl⟩ := Option.map_eq_some_iff.mp hx
      obtain ⟨k, hk⟩ := mixd H2 (e21_24.trans e2) i ai hai
      exact en_list (K := K) (k := k) (ev_var rfl) hk
    rw [made_all, hml2] at hln
    exact hln H1 e Q q'
end
end K39
namespace K39
open PySem PySem.Spec PyProof.Rows L2 Evl
theorem kb_one {K : PySem.W.Frag} {x qual : Str} {st : Stmt} {f : Addr} {fd : FuncData} {ps ks : List Str} {n : Nat} (F : Fun K x qual st f fd)
    (h : ∀ (kV doc pm : Value) (an : Option Addr) (cdv ct : Value) (us ws : List Value), us.length = n → ws.length = ks.length → bindArgs (PySem.W.fnOf x qual (defArgs st) (defBody st) (defScope st) .none kV doc pm an cdv ct) ⟨us, ks.zip ws⟩ = pure (ps.zip (us ++ ws))) : KBn K fd ps n ks (fun us ws => us ++ ws) (fun vs zs => vs ++ zs) := by
  obtain ⟨oc, od, kV, doc, pm, an, cdv, ct, osl, rfl, lk, hcd⟩ := F.ex
  exact ⟨fun s us ws _ h1 h2 => .of_eq (h kV doc pm an cdv ct us ws h1 h2), fun r1 r2 => r1.append r2⟩

theorem all_mk {l : PySem.W.OpenLaw} {w : World} {K : PySem.W.Frag} {h : Heap} {mg : Str → Option Value} {fa fP fT fS fH fW fX fq fb fc fd fe ff fg fh fi fj fk : Addr} (X : K.In h) (G : h.Ns mainGlobals mg) (hfa : mg "law" = some (.ref fa))
    {odP anP odT anT odS anS odH anH odW anW odX anX odq anq odb anb odc anc odd and ode ane odf anf odg ang odh anh odi ani odj anj odk ank : Option Addr} {slP slT slS slH slW slX slq slb slc sld sle slf slg slh sli slj slk : Array (Option Value)} {ocP kVP dcP pmP cdP ctP ocT kVT dcT pmT cdT ctT ocS kVS dcS pmS cdS ctS ocH kVH dcH pmH cdH ctH ocW kVW dcW pmW cdW ctW ocX kVX dcX pmX cdX ctX ocq kVq dcq pmq cdq ctq ocb kVb dcb pmb cdb ctb occ kVc dcc pmc cdc ctc ocd kVd dcd pmd cdd ctd oce kVe dce pme cde cte ocf kVf dcf pmf cdf ctf ocg kVg dcg pmg cdg ctg och kVh dch pmh cdh cth oci kVi dci pmi cdi cti ocj kVj dcj pmj cdj ctj ock kVk dck pmk cdk ctk : Value}
    (aP : PySem.W.nsIn K mainGlobals "product" = some (some (.ref fP))) (lP : K.lookup fP = some ⟨ocP, odP, .func (PySem.W.fnOf "product" "product" (defArgs sProduct) (defBody sProduct) (defScope sProduct) .none kVP dcP pmP anP cdP ctP), slP⟩) (cP : PySem.W.codeIn K cdP "product" = true) (kP : PySem.W.keepIn K (.ref fP) = true)
    (aT : PySem.W.nsIn K mainGlobals "turned" = some (some (.ref fT))) (lT : K.lookup fT = some ⟨ocT, odT, .func (PySem.W.fnOf "turned" "turned" (defArgs sTurned) (defBody sTurned) (defScope sTurned) .none kVT dcT pmT anT cdT ctT), slT⟩) (cT : PySem.W.codeIn K cdT "turned" = true) (kT : PySem.W.keepIn K (.ref fT) = true)
    (aS : PySem.W.nsIn K mainGlobals "settled" = some (some (.ref fS))) (lS : K.lookup fS = some ⟨ocS, odS, .func (PySem.W.fnOf "settled" "settled" (defArgs sSettled) (defBody sSettled) (defScope sSettled) .none kVS dcS pmS anS cdS ctS), slS⟩) (cS : PySem.W.codeIn K cdS "settled" = true) (kS : PySem.W.keepIn K (.ref fS) = true)
    (aH : PySem.W.nsIn K mainGlobals "shows_rest" = some (some (.ref fH))) (lH : K.lookup fH = some ⟨ocH, odH, .func (PySem.W.fnOf "shows_rest" "shows_rest" (defArgs sShows) (defBody sShows) (defScope sShows) .none kVH dcH pmH anH cdH ctH), slH⟩) (cH : PySem.W.codeIn K cdH "shows_rest" = true) (kH : PySem.W.keepIn K (.ref fH) = true)
    (aW : PySem.W.nsIn K mainGlobals "spread" = some (some (.ref fW))) (lW : K.lookup fW = some ⟨ocW, odW, .func (PySem.W.fnOf "spread" "spread" (defArgs sSpread) (defBody sSpread) (defScope sSpread) .none kVW dcW pmW anW cdW ctW), slW⟩) (cW : PySem.W.codeIn K cdW "spread" = true) (kW : PySem.W.keepIn K (.ref fW) = true)
    (aX : PySem.W.nsIn K mainGlobals "times_of" = some (some (.ref fX))) (lX : K.lookup fX = some ⟨ocX, odX, .func (PySem.W.fnOf "times_of" "times_of" (defArgs sTimes) (defBody sTimes) (defScope sTimes) .none kVX dcX pmX anX cdX ctX), slX⟩) (cX : PySem.W.codeIn K cdX "times_of" = true) (kX : PySem.W.keepIn K (.ref fX) = true)
    (aq : PySem.W.nsIn K mainGlobals "_law_whole" = some (some (.ref fq))) (lq : K.lookup fq = some ⟨ocq, odq, .func (PySem.W.fnOf "_law_whole" "_law_whole" (defArgs sWhole) (defBody sWhole) (defScope sWhole) .none kVq dcq pmq anq cdq ctq), slq⟩) (cq : PySem.W.codeIn K cdq "_law_whole" = true) (kq : PySem.W.keepIn K (.ref fq) = true)
    (ab : PySem.W.nsIn K mainGlobals "_law_pool" = some (some (.ref fb))) (lb : K.lookup fb = some ⟨ocb, odb, .func (PySem.W.fnOf "_law_pool" "_law_pool" (defArgs sPool) (defBody sPool) (defScope sPool) .none kVb dcb pmb anb cdb ctb), slb⟩) (cb : PySem.W.codeIn K cdb "_law_pool" = true) (kb : PySem.W.keepIn K (.ref fb) = true)
    (ac : PySem.W.nsIn K mainGlobals "_law_take" = some (some (.ref fc))) (lc : K.lookup fc = some ⟨occ, odc, .func (PySem.W.fnOf "_law_take" "_law_take" (defArgs sTake) (defBody sTake) (defScope sTake) .none kVc dcc pmc anc cdc ctc), slc⟩) (cc : PySem.W.codeIn K cdc "_law_take" = true) (kc : PySem.W.keepIn K (.ref fc) = true)
    (ad : PySem.W.nsIn K mainGlobals "_law_folded" = some (some (.ref fd))) (ld : K.lookup fd = some ⟨ocd, odd, .func (PySem.W.fnOf "_law_folded" "_law_folded" (defArgs sFolded) (defBody sFolded) (defScope sFolded) .none kVd dcd pmd and cdd ctd), sld⟩) (cd : PySem.W.codeIn K cdd "_law_folded" = true) (kd : PySem.W.keepIn K (.ref fd) = true)
    (ae : PySem.W.nsIn K mainGlobals "_law_number" = some (some (.ref fe))) (le : K.lookup fe = some ⟨oce, ode, .func (PySem.W.fnOf "_law_number" "_law_number" (defArgs sNumber) (defBody sNumber) (defScope sNumber) .none kVe dce pme ane cde cte), sle⟩) (ce : PySem.W.codeIn K cde "_law_number" = true) (ke : PySem.W.keepIn K (.ref fe) = true)
    (af : PySem.W.nsIn K mainGlobals "_law_dot" = some (some (.ref ff))) (lf : K.lookup ff = some ⟨ocf, odf, .func (PySem.W.fnOf "_law_dot" "_law_dot" (defArgs sDot) (defBody sDot) (defScope sDot) .none kVf dcf pmf anf cdf ctf), slf⟩) (cf : PySem.W.codeIn K cdf "_law_dot" = true) (kf : PySem.W.keepIn K (.ref ff) = true)
    (ag : PySem.W.nsIn K mainGlobals "_law_numbers" = some (some (.ref fg))) (lg : K.lookup fg = some ⟨ocg, odg, .func (PySem.W.fnOf "_law_numbers" "_law_numbers" (defArgs sNumbers) (defBody sNumbers) (defScope sNumbers) .none kVg dcg pmg ang cdg ctg), slg⟩) (cg : PySem.W.codeIn K cdg "_law_numbers" = true) (kg : PySem.W.keepIn K (.ref fg) = true)
    (ah : PySem.W.nsIn K mainGlobals "_law_base" = some (some (.ref fh))) (lh : K.lookup fh = some ⟨och, odh, .func (PySem.W.fnOf "_law_base" "_law_base" (defArgs sBase) (defBody sBase) (defScope sBase) .none kVh dch pmh anh cdh cth), slh⟩) (ch : PySem.W.codeIn K cdh "_law_base" = true) (kh : PySem.W.keepIn K (.ref fh) = true)
    (ai : PySem.W.nsIn K mainGlobals "_law_coefs" = some (some (.ref fi))) (li : K.lookup fi = some ⟨oci, odi, .func (PySem.W.fnOf "_law_coefs" "_law_coefs" (defArgs sCoefs) (defBody sCoefs) (defScope sCoefs) .none kVi dci pmi ani cdi cti), sli⟩) (ci : PySem.W.codeIn K cdi "_law_coefs" = true) (ki : PySem.W.keepIn K (.ref fi) = true)
    (aj : PySem.W.nsIn K mainGlobals "_law_rows" = some (some (.ref fj))) (lj : K.lookup fj = some ⟨ocj, odj, .func (PySem.W.fnOf "_law_rows" "_law_rows" (defArgs sRows) (defBody sRows) (defScope sRows) .none kVj dcj pmj anj cdj ctj), slj⟩) (cj : PySem.W.codeIn K cdj "_law_rows" = true) (kj : PySem.W.keepIn K (.ref fj) = true)
    (ak : PySem.W.nsIn K mainGlobals "law" = some (some (.ref fk))) (lk : K.lookup fk = some ⟨ock, odk, .func (PySem.W.fnOf "law" "law" (defArgs sLaw) (defBody sLaw) (defScope sLaw) .none kVk dck pmk ank cdk ctk), slk⟩) (ck : PySem.W.codeIn K cdk "law" = true) (kk : PySem.W.keepIn K (.ref fk) = true)
    (z_zip : PySem.W.nsIn K mainGlobals "zip" = some none) (z_sum : PySem.W.nsIn K mainGlobals "sum" = some none) (z_abs : PySem.W.nsIn K mainGlobals "abs" = some none) (z_len : PySem.W.nsIn K mainGlobals "len" = some none) (z_min : PySem.W.nsIn K mainGlobals "min" = some none) (z_range : PySem.W.nsIn K mainGlobals "range" = some none) (z_int : PySem.W.nsIn K mainGlobals "int" = some none) (z_list : PySem.W.nsIn K mainGlobals "list" = some none) (z_enumerate : PySem.W.nsIn K mainGlobals "enumerate" = some none) (z_tuple : PySem.W.nsIn K mainGlobals "tuple" = some none) (z_isinstance : PySem.W.nsIn K mainGlobals "isinstance" = some none) (z_max : PySem.W.nsIn K mainGlobals "max" = some none) (z_all : PySem.W.nsIn K mainGlobals "all" = some none) (z_any : PySem.W.nsIn K mainGlobals "any" = some none) (z_bool : PySem.W.nsIn K mainGlobals "bool" = some none) :
    ∃ fd : FuncData, (∀ (s : Shared) (v : Value), BindsTo s fd ⟨[v], []⟩ [("_law_script", v)]) ∧ ∀ base : Heap, K.In base → base.Ns mainGlobals mg → FnOk l.prog w K mg base CX0 5 fa fd ["_law_script"] (spLaw K) := by
  have e := hfa.symm.trans (PySem.W.mg_of X G ak)
  cases e
  have FP := fun_mk (st := sProduct) lP cP kP
  have gP := PySem.W.mg_of X G aP
  have FT := fun_mk (st := sTurned) lT cT kT
  have gT := PySem.W.mg_of X G aT
  have FS := fun_mk (st := sSettled) lS cS kS
  have gS := PySem.W.mg_of X G aS
  have FH := fun_mk (st := sShows) lH cH kH
  have gH := PySem.W.mg_of X G aH
  have FW := fun_mk (st := sSpread) lW cW kW
  have gW := PySem.W.mg_of X G aW
  have FX := fun_mk (st := sTimes) lX cX kX
  have gX := PySem.W.mg_of X G aX
  have Fq := fun_mk (st := sWhole) lq cq kq
  have gq := PySem.W.mg_of X G aq
  have Fb := fun_mk (st := sPool) lb cb kb
  have gb := PySem.W.mg_of X G ab
  have Fc := fun_mk (st := sTake) lc cc kc
  have gc := PySem.W.mg_of X G ac
  have Fd := fun_mk (st := sFolded) ld cd kd
  have gd := PySem.W.mg_of X G ad
  have Fe := fun_mk (st := sNumber) le ce ke
  have ge := PySem.W.mg_of X G ae
  have Ff := fun_mk (st := sDot) lf cf kf
  have gf := PySem.W.mg_of X G af
  have Fg := fun_mk (st := sNumbers) lg cg kg
  have gg := PySem.W.mg_of X G ag
  have Fh := fun_mk (st := sBase) lh ch kh
  have gh := PySem.W.mg_of X G ah
  have Fi := fun_mk (st := sCoefs) li ci ki
  have gi := PySem.W.mg_of X G ai
  have Fj := fun_mk (st := sRows) lj cj kj
  have gj := PySem.W.mg_of X G aj
  have Fk := fun_mk (st := sLaw) lk ck kk
  have m_zip := PySem.W.mg_none_of X G z_zip
  have m_sum := PySem.W.mg_none_of X G z_sum
  have m_abs := PySem.W.mg_none_of X G z_abs
  have m_len := PySem.W.mg_none_of X G z_len
  have m_min := PySem.W.mg_none_of X G z_min
  have m_range := PySem.W.mg_none_of X G z_range
  have m_int := PySem.W.mg_none_of X G z_int
  have m_list := PySem.W.mg_none_of X G z_list
  have m_enumerate := PySem.W.mg_none_of X G z_enumerate
  have m_tuple := PySem.W.mg_none_of X G z_tuple
  have m_isinstance := PySem.W.mg_none_of X G z_isinstance
  have m_max := PySem.W.mg_none_of X G z_max
  have m_all := PySem.W.mg_none_of X G z_all
  have m_any := PySem.W.mg_none_of X G z_any
  have m_bool := PySem.W.mg_none_of X G z_bool
  have bP := FP.binds (ps := ["one", "other"]) fun _ _ _ _ _ _ us hl => match us, hl with | [_, _], _ => rfl
  have bT := FT.binds (ps := ["columns", "inverse", "free", "coefs"]) fun _ _ _ _ _ _ us hl => match us, hl with | [_, _, _, _], _ => rfl
  have bW := FW.binds (ps := ["paper", "times"]) fun _ _ _ _ _ _ us hl => match us, hl with | [_, _], _ => rfl
  have bX := FX.binds (ps := ["paper", "values"]) fun _ _ _ _ _ _ us hl => match us, hl with | [_, _], _ => rfl
  have bq := Fq.binds (ps := ["_law_thing"]) fun _ _ _ _ _ _ us hl => match us, hl with | [_], _ => rfl
  have bb := Fb.binds (ps := ["_law_script", "_law_k"]) fun _ _ _ _ _ _ us hl => match us, hl with | [_, _], _ => rfl
  have bc := Fc.binds (ps := ["_law_pool_here", "_law_many"]) fun _ _ _ _ _ _ us hl => match us, hl with | [_, _], _ => rfl
  have bd := Fd.binds (ps := ["_law_script", "_law_most"]) fun _ _ _ _ _ _ us hl => match us, hl with | [_, _], _ => rfl
  have be := Fe.binds (ps := ["_law_pool_here", "_law_size"]) fun _ _ _ _ _ _ us hl => match us, hl with | [_, _], _ => rfl
  have bf := Ff.binds (ps := ["_law_one", "_law_other"]) fun _ _ _ _ _ _ us hl => match us, hl with | [_, _], _ => rfl
  have bg := Fg.binds (ps := ["_law_thing", "_law_many"]) fun _ _ _ _ _ _ us hl => match us, hl with | [_, _], _ => rfl
  have bh := Fh.binds (ps := ["_law_rows_here", "_law_found", "_law_wide"]) fun _ _ _ _ _ _ us hl => match us, hl with | [_, _, _], _ => rfl
  have bi := Fi.binds (ps := ["_law_pool_here", "_law_rows_here", "_law_wide", "_law_size"]) fun _ _ _ _ _ _ us hl => match us, hl with | [_, _, _, _], _ => rfl
  have bj := Fj.binds (ps := ["_law_cells", "_law_head", "_law_values", "_law_size"]) fun _ _ _ _ _ _ us hl => match us, hl with | [_, _, _, _], _ => rfl
  have qS : KBn K _ ["rows", "width"] 1 ["width"] (fun us ws => us ++ ws) (fun vs zs => vs ++ zs) := kb_one FS fun _ _ _ _ _ _ us ws h1 h2 => match us, ws, h1, h2 with | [_], [_], _, _ => rfl
  have qH : KBn K _ ["rows", "thing", "width"] 2 ["width"] (fun us ws => us ++ ws) (fun vs zs => vs ++ zs) := kb_one FH fun _ _ _ _ _ _ us ws h1 h2 => match us, ws, h1, h2 with | [_, _], [_], _, _ => rfl
  refine ⟨PySem.W.fnOf "law" "law" (defArgs sLaw) (defBody sLaw) (defScope sLaw) .none kVk dck pmk ank cdk ctk, fun s v => .of_eq rfl, fun base _ _ => ?_⟩
  have GP : FnOk l.prog w K mg base CX0 1 _ _ _ _ := ok_product FP m_zip m_sum
  have GT := fun wd => ok_turned (P := l.prog) (w := w) (mg := mg) (base := base) (wd := wd) (k := 0) FT GP gP kP bP m_zip m_abs m_len m_min
  have GS : FnOk l.prog w K mg base CX0 3 _ _ _ (spSettledX K) := fnok_ex fun wd => ok_settled (wd := wd) FS GP gP kP bP (GT wd) gT kT bT m_zip m_range m_int m_list m_enumerate m_sum m_tuple
  have GH : FnOk l.prog w K mg base CX0 1 _ _ _ _ := ok_shows FH m_isinstance m_tuple m_len
  have GW : FnOk l.prog w K mg base CX0 1 _ _ _ _ := ok_spread FW m_zip m_list m_tuple
  have GX : FnOk l.prog w K mg base CX0 2 _ _ _ _ := ok_times FX GP gP kP bP m_zip
  have Gq : FnOk l.prog w K mg base CX0 1 _ _ _ _ := ok_whole Fq m_isinstance m_int m_bool
  have Gb : FnOk l.prog w K mg base CX0 1 _ _ _ _ := ok_pool Fb m_len m_max
  have Gc : FnOk l.prog w K mg base CX0 1 _ _ _ _ := ok_take Fc
  have Gd : FnOk l.prog w K mg base CX0 1 _ _ _ _ := ok_folded Fd m_sum m_range m_max m_min m_len
  have Ge : FnOk l.prog w K mg base CX0 2 _ _ _ _ := ok_number Fe Gc gc kc bc m_range
  have Gf : FnOk l.prog w K mg base CX0 1 _ _ _ _ := ok_dot Ff m_zip m_sum
  have Gg : FnOk l.prog w K mg base CX0 2 _ _ _ _ := ok_numbers Fg Gq gq kq bq m_isinstance m_tuple m_len m_all
  have Gh : FnOk l.prog w K mg base CX0 3 _ _ _ _ := ok_base Fh Gg gg kg bg Gf gf kf bf m_isinstance m_tuple m_list m_len m_all m_any m_enumerate m_range m_int
  have Gi : FnOk l.prog w K mg base CX0 3 _ _ _ _ := ok_coefs Fi Gc gc kc bc Ge ge ke be m_range m_len m_min
  have Gj : FnOk l.prog w K mg base CX0 4 _ _ _ _ := ok_rows Fj Gi gi ki bi Gb gb kb bb Gf gf kf bf Gc gc kc bc m_range m_len
  exact ok_law Fk ⟨_, _, _, Gd, gd, kd, bd, rfl⟩ ⟨_, _, _, Gb, gb, kb, bb, rfl⟩ ⟨_, _, _, Gc, gc, kc, bc, rfl⟩ ⟨_, _, _, Ge, ge, ke, be, rfl⟩ ⟨_, _, _, Gj, gj, kj, bj, rfl⟩ ⟨_, _, _, Gh, gh, kh, bh, rfl⟩ ⟨_, _, _, GX, gX, kX, bX, rfl⟩ ⟨_, _, _, Gf, gf, kf, bf, rfl⟩ ⟨_, _, _, GW, gW, kW, bW, rfl⟩ ⟨_, _, _, Gg, gg, kg, bg, rfl⟩
    ⟨_, _, _, GS, gS, kS, qS⟩ ⟨_, _, _, GH, gH, kH, qH⟩ m_isinstance m_tuple m_list m_len m_any m_enumerate m_range m_int m_zip
end K39
open PySem PySem.W PyProof.Rows
set_option maxHeartbeats 0 in
theorem PySem.Challenge.cw_countfold_k39_whole_every_values_holds : PySem.Challenge.rw_countfold_k39_whole_every_values.Holds := by
  w_on; o_law; k_head; (case hw => w_witness2)
  k_fill
  refine L2.walk_of (l := PySem.Challenge.rw_countfold_k39_whole_every_values) (n := 63) (k := 5) (x := "_law_script") (CX := fun _ => L2.CX0) (sp := fun w => K39.spLaw _) rfl (by decide) rfl ⟨rfl, by decide, by decide⟩ (fun w h Y => PySem.W.kIn_of Y) ?F (fun _ _ a ns hl _ hS => ⟨a, ns, rfl, hS, hl, fun _ => rfl⟩) (fun _ _ _ _ _ h => h)
  case F =>
    intro w mg fa h KX G hmg
    refine' K39.all_mk KX G hmg ?uA0 ?uL0 ?uC0 ?uK0 ?uA1 ?uL1 ?uC1 ?uK1 ?uA2 ?uL2 ?uC2 ?uK2 ?uA3 ?uL3 ?uC3 ?uK3 ?uA4 ?uL4 ?uC4 ?uK4 ?uA5 ?uL5 ?uC5 ?uK5 ?uA6 ?uL6 ?uC6 ?uK6 ?uA7 ?uL7 ?uC7 ?uK7 ?uA8 ?uL8 ?uC8 ?uK8 ?uA9 ?uL9 ?uC9 ?uK9 ?uA10 ?uL10 ?uC10 ?uK10 ?uA11 ?uL11 ?uC11 ?uK11 ?uA12 ?uL12 ?uC12 ?uK12 ?uA13 ?uL13 ?uC13 ?uK13 ?uA14 ?uL14 ?uC14 ?uK14 ?uA15 ?uL15 ?uC15 ?uK15 ?uA16 ?uL16 ?uC16 ?uK16 ?uZ0 ?uZ1 ?uZ2 ?uZ3 ?uZ4 ?uZ5 ?uZ6 ?uZ7 ?uZ8 ?uZ9 ?uZ10 ?uZ11 ?uZ12 ?uZ13 ?uZ14
    (case uA0 => k_is); (case uL0 => k_is); (case uC0 => k_is); (case uK0 => k_is); (case uA1 => k_is); (case uL1 => k_is)
    (case uC1 => k_is); (case uK1 => k_is); (case uA2 => k_is); (case uL2 => k_is); (case uC2 => k_is); (case uK2 => k_is)
    (case uA3 => k_is); (case uL3 => k_is); (case uC3 => k_is); (case uK3 => k_is); (case uA4 => k_is); (case uL4 => k_is)
    (case uC4 => k_is); (case uK4 => k_is); (case uA5 => k_is); (case uL5 => k_is); (case uC5 => k_is); (case uK5 => k_is)
    (case uA6 => k_is); (case uL6 => k_is); (case uC6 => k_is); (case uK6 => k_is); (case uA7 => k_is); (case uL7 => k_is)
    (case uC7 => k_is); (case uK7 => k_is); (case uA8 => k_is); (case uL8 => k_is); (case uC8 => k_is); (case uK8 => k_is)
    (case uA9 => k_is); (case uL9 => k_is); (case uC9 => k_is); (case uK9 => k_is); (case uA10 => k_is); (case uL10 => k_is)
    (case uC10 => k_is); (case uK10 => k_is); (case uA11 => k_is); (case uL11 => k_is); (case uC11 => k_is); (case uK11 => k_is)
    (case uA12 => k_is); (case uL12 => k_is); (case uC12 => k_is); (case uK12 => k_is); (case uA13 => k_is); (case uL13 => k_is)
    (case uC13 => k_is); (case uK13 => k_is); (case uA14 => k_is); (case uL14 => k_is); (case uC14 => k_is); (case uK14 => k_is)
    (case uA15 => k_is); (case uL15 => k_is); (case uC15 => k_is); (case uK15 => k_is); (case uA16 => k_is); (case uL16 => k_is)
    (case uC16 => k_is); (case uK16 => k_is); (case uZ0 => k_is); (case uZ1 => k_is); (case uZ2 => k_is); (case uZ3 => k_is)
    (case uZ4 => k_is); (case uZ5 => k_is); (case uZ6 => k_is); (case uZ7 => k_is); (case uZ8 => k_is); (case uZ9 => k_is)
    (case uZ10 => k_is); (case uZ11 => k_is); (case uZ12 => k_is); (case uZ13 => k_is); (case uZ14 => k_is)
