import PyProof.Rows.All
import Wide.All
import OpenK.AllK
import Wide.FinOn
import PySem.Challenge.RW_barwright_k10_whole_texts_of_tunes
import HandS.ForMost
import HandS.Codes
import HandS.IsInst
import HandS.Deep
import HandS.TupLe
import HandS.TupAny
import HandS.CallLocal
import HandS.ClsMeth
import HandS.Walk
import KE.SortData
set_option Elab.async false
set_option linter.all false
set_option maxRecDepth 100000
set_option maxHeartbeats 4000000
namespace BW
open PySem PySem.Spec PyProof.Rows L2
open C8 (Cal Met Mak pe_c pe_mk pe_mt pe_mt0 pe_gc sl_txt)

def topS (i : Nat) : Stmt := PySem.Challenge.pw_barwright_k10_whole_texts_of_tunes.main.body.getD i (.Pass ⟨0, 0, 0, 0⟩)

/-! ### rules that the layer lacks -/
section
variable {X : Cx}
theorem pe_or2 {e : Expr} {t t' : TE} (h : PE X e t) (h' : PE X e t') : PE X e (fun σ H Q => t σ H Q ∨ t' σ H Q) :=
  ⟨fun pins s σ H Q I q => q.elim (h.run pins s σ H Q I) (h'.run pins s σ H Q I)⟩
def ipS : TIp := fun x y H Q => ∃ i j, x = .str i ∧ y = .str j ∧ i.length + j.length ≤ sizeLine ∧ Q (.str (i ++ j)) H
theorem ip_add_str : PIp X .Add ipS := iop_add_str
theorem units65 {k : Nat} {A : Around} (hr : Room k A) : A.units + 65 < cLine := by
  have := hr.un
  omega
/-- a list and the empty list -/
def rEqNil (K : PySem.W.Frag) : R2 := fun x y H Q => ∃ a b xs, x = .ref a ∧ y = .ref b ∧ SqL K H a xs ∧ SqL K H b [] ∧ Q (.bl xs.isEmpty) H
def rNeNil (K : PySem.W.Frag) : R2 := fun x y H Q => ∃ a b xs, x = .ref a ∧ y = .ref b ∧ SqL K H a xs ∧ SqL K H b [] ∧ Q (.bl (!xs.isEmpty)) H
theorem op_eqNil (hu : X.A.units + 64 < cLine) : OpR X (compareOp .Eq) (rEqNil X.K) := by
  intro pins s σ H x y v u Q I rx ry h
  obtain ⟨a, b, xs, rfl, rfl, ha, hb, q⟩ := h
  cases rx
  cases ry
  obtain ⟨its, rv, hl, hz⟩ := I.list ha
  obtain ⟨its2, rv2, hl2, hz2⟩ := I.list hb
  cases rv2
  cases xs with
  | nil =>
    cases rv
    exact SeqAt.eq_listAt (e := fun _ => true) hl.isList hl2.isList rfl (by omega) (fun j h1 _ => absurd h1 (Nat.not_lt_zero _)) ⟨.bl true, H, I, rfl, q⟩
  | cons x r =>
    cases rv with
    | cons r1 rr => exact SeqAt.eq_list_lengthsAt hl.isList hl2.isList rfl (by omega) ⟨.bl false, H, I, rfl, q⟩
theorem op_neNil (hu : X.A.units + 64 < cLine) : OpR X (compareOp .NotEq) (rNeNil X.K) := by
  intro pins s σ H x y v u Q I rx ry h
  obtain ⟨a, b, xs, rfl, rfl, ha, hb, q⟩ := h
  cases rx
  cases ry
  obtain ⟨its, rv, hl, hz⟩ := I.list ha
  obtain ⟨its2, rv2, hl2, hz2⟩ := I.list hb
  cases rv2
  cases xs with
  | nil =>
    cases rv
    exact SeqAt.RcNeAt.lists (e := fun _ => true) hl.isList hl2.isList rfl (by omega) (fun j h1 _ => absurd h1 (Nat.not_lt_zero _)) X.prog X.w _ _ ⟨.bl false, H, I, rfl, q⟩
  | cons x r =>
    cases rv with
    | cons r1 rr => exact SeqAt.RcNeAt.lists_lengths hl.isList hl2.isList rfl (by omega) X.prog X.w _ _ ⟨.bl true, H, I, rfl, q⟩

/-! sum of a tuple of whole numbers -/
theorem sum_rawT {prog : Program} {w : World} {A : Around} {E : Value → Shared → Prop} {s : Shared} {l : Addr} {its : List Value} {ns : List Int} {Q : Value → Shared → Prop} (hh : A.handled = none) (hl : s.heap.IsTuple l its.toArray) (hi : IntsAre its ns)
    (h : ∀ h' tk t', (∀ b o, s.heap.get? b = some o → h'.get? b = some o) → Q (.int ns.sum t') { s with heap := h', toks := tk }) : wpAny (model prog w) A (call (.builtin "sum") [.ref l]) Q E s := by
  obtain ⟨xs, e⟩ := hi.allInts.items
  have hn : numsOf (intItems xs).toList = ns := by rw [← e]; exact hi.numsOf
  rw [nums_intItems] at hn
  rw [e] at hl
  have hlt : l < s.heap.objs.size := by obtain ⟨_, e, _⟩ := hl; exact Heap.lt_size e
  refine call_sum_walkG (wpAny_pyIter_tuple hl ⟨_, _, _, _, _, _, numAt xs, rfl, Walks.tuple (A := A.in1) hh _ l (Nat.ne_of_lt hlt) (intItems xs), ⟨⟨_, Heap.get?_push_size _ rfl, rfl, rfl⟩, hl.push _⟩, fun b hb => ?_, (fun _ _ => intItems_at), fun h' tk t' hk => ?_⟩)
  · show b < (s.heap.push _).objs.size
    rw [Heap.size_push]
    rcases List.mem_cons.mp hb with rfl | hb
    · exact Nat.lt_succ_self _
    · rcases List.mem_cons.mp hb with rfl | hb
      · exact Nat.lt_succ_of_lt hlt
      · cases hb
  · have := h h' tk t' (fun b o e => hk b o (fun hm => by
      rcases List.mem_cons.mp hm with e1 | hm
      · exact absurd (e1 ▸ Heap.lt_size e) (Nat.lt_irrefl _)
      · cases hm) (Heap.get?_push_of_some _ e))
    have e2 : preSum (numAt xs) (intItems xs).size = ns.sum := by
      rw [preSum_eq, List.take_of_length_le (by simp [intItems]), hn]
    rw [e2]
    exact this
def rSumT (K : PySem.W.Frag) : List V → Hp → VK → Prop := fun vs H Q => ∃ (a : Addr) (ns : List Int), vs = [V.ref a] ∧ SqT K H a (ns.map V.int) ∧ Q (.int ns.sum) H
theorem cr_sumT (hc : X.calm = true) : CallR X (.builtin "sum") (rSumT X.K) := by
  intro pins s σ H vs us Q I r h
  obtain ⟨a, ns, rfl, hs, q⟩ := h
  obtain ⟨its, rv, hl, hz⟩ := I.tuple hs
  rw [Vals.ref1 r]
  exact sum_rawT (I.ok.hd hc) hl rv.ints fun h' tk t' hk => ⟨.int _, H, I.kept hk, ⟨_, rfl⟩, q⟩

/-! sorted of data -/
theorem each_vals : ∀ {bs : List (V × PyData)} {its : List Value}, Vals (bs.map (·.1)) its → PySem.W.EachIs (fun v (b : V × PyData) => RelV b.1 v) its bs
  | [], _, r => by cases r; exact .nil
  | b :: bs, _, r => by
    cases r with
    | cons h t => exact .cons h (each_vals t)
theorem vals_each : ∀ {bs : List (V × PyData)} {its : List Value}, PySem.W.EachIs (fun v (b : V × PyData) => RelV b.1 v) its bs → Vals (bs.map (·.1)) its
  | [], _, r => by cases r; exact .nil
  | b :: bs, _, r => by
    cases r with
    | cons h t => exact .cons h (vals_each t)
theorem each_reads {pins : List (Addr × Obj)} {s : Shared} {σ : L2.St} {H : Hp} (I : Inv X pins σ H s) : ∀ {bs : List (V × PyData)} {its : List Value}, Vals (bs.map (·.1)) its → (∀ b ∈ bs, Dp X.K H b.1 b.2) → PySem.W.EachIs (fun v (b : V × PyData) => ∃ as, Reads s.heap v b.2 as) its bs
  | [], _, r, _ => by cases r; exact .nil
  | b :: bs, _, r, h => by
    cases r with
    | cons h1 t => exact .cons (Dp.reads I b.2 b.1 _ (h b List.mem_cons_self) h1) (each_reads I t fun c hc => h c (List.mem_cons_of_mem _ hc))
def rSortedD (K : PySem.W.Frag) : List V → Hp → VK → Prop := fun vs H Q => ∃ (a : Addr) (bs : List (V × PyData)), vs = [V.ref a] ∧ SqL K H a (bs.map (·.1)) ∧ (∀ b ∈ bs, Dp K H b.1 b.2) ∧ PySem.W.AllAlike (bs.map (·.2)) ∧ PySem.W.Sortable (bs.map (·.2)) ∧
  (∀ b ∈ bs, b.2.depth ≤ 8) ∧ ∀ p, H p = none → Q (.ref p) (upd H p (.lst ((bs.mergeSort (PySem.W.dataLe false (·.2))).map (·.1))))
theorem cr_sortedD (hc : X.calm = true) (hu : X.A.units + 64 < cLine) : CallR X (.builtin "sorted") (rSortedD X.K) := by
  intro pins s σ H vs us Q I r h
  obtain ⟨a, bs, rfl, hs, hd, hal, hk, hdep, q⟩ := h
  obtain ⟨its, rv, hl, hz⟩ := I.list hs
  rw [Vals.ref1 r]
  have hz' : bs.length ≤ sizeLine := by rw [List.length_map] at hz; exact hz
  refine PySem.W.sorted_data hl.isList (each_vals rv) (each_reads I rv hd) hal hk hz' (fun b hb => by have := hdep b hb; omega) fun out h1 h2 => ?_
  obtain ⟨ep, he'⟩ := PyProof.Rows.sortedAll_at s.heap its out.toArray
  have hlen : ((bs.mergeSort (PySem.W.dataLe false (·.2))).map (·.1)).length ≤ sizeLine := by
    rw [List.length_map, List.length_mergeSort]
    exact hz'
  exact ⟨.ref _, upd H (s.heap.objs.size + 1) (.lst _), I.laid (t' := s.toks) (fun _ _ => PyProof.Rows.sortedAll_old) (Nat.le_succ _) ⟨hlen, out, ep, vals_each h2, he'⟩, rfl, q _ (I.hok.fresh (Nat.le_succ _))⟩

/-! a text so many times -/
def Rep (x : Str) (n : Int) : Str := if n < 1 then Str.empty else if (n == 1 || x.length == 0) = true then x else ⟨(List.replicate n.toNat x.cps).foldl (· ++ ·) #[]⟩
theorem op_mul_str : OpR X (binaryOp .Mult) (fun x y H Q => ∃ z n, x = .str z ∧ y = .int n ∧ z.length ≤ 1 ∧ -1000 < n ∧ n ≤ 2 ∧ Q (.str (Rep z n)) H) := by
  intro pins s σ H x y v u Q I rx ry h
  obtain ⟨z, n, rfl, rfl, hz, h1, h2, q⟩ := h
  obtain ⟨t, rfl⟩ := rx
  obtain ⟨t', rfl⟩ := ry
  refine PySem.P.mul_str (by
      have a : ¬ n < -(2 ^ 63 : Int) := by omega
      have b : ¬ n ≥ 2 ^ 63 := by omega
      rw [decide_eq_false a, decide_eq_false b] <;> rfl) (fun hn _ => ?_) (fun hn _ => ?_) ?_
  · have e : (1 : Int) ≤ (2 ^ 63 - 1) / n := by
      rw [Int.le_ediv_iff_mul_le (by omega)]
      omega
    have : (z.length : Int) ≤ 1 := by omega
    omega
  · have e : z.length * n.toNat ≤ 1000 := by
      have : n.toNat ≤ 1000 := by omega
      calc z.length * n.toNat ≤ 1 * 1000 := Nat.mul_le_mul hz this
        _ = 1000 := rfl
    unfold PySem.Builtin.Str.tooLong
    have : 1000 ≤ sizeLine := by decide
    exact decide_eq_false (by omega)
  · unfold Rep at q
    by_cases hn : n < 1
    · rw [if_pos hn] at q ⊢
      exact ⟨by decide, .str _, H, I.tok _, ⟨_, rfl⟩, q⟩
    · rw [if_neg hn] at q ⊢
      by_cases hb : (n == 1 || z.length == 0) = true
      · rw [if_pos hb] at q ⊢
        exact ⟨.str z, H, I, ⟨_, rfl⟩, q⟩
      · rw [if_neg hb] at q ⊢
        have e2 : n = 2 := by
          rw [Bool.or_eq_true, beq_iff_eq] at hb
          have h3 : ¬ n = 1 := fun z => hb (.inl z)
          omega
        subst e2
        have h4 : (⟨(List.replicate (2 : Int).toNat z.cps).foldl (· ++ ·) #[]⟩ : Str).length ≤ sizeLine := by
          have : 1000 ≤ sizeLine := by decide
          have e3 : (⟨(List.replicate (2 : Int).toNat z.cps).foldl (· ++ ·) #[]⟩ : Str).length = z.length + z.length := by
            show ((#[] ++ z.cps) ++ z.cps).size = z.cps.size + z.cps.size
            simp
          omega
        exact ⟨h4, .str _, H, I.tok _, ⟨_, rfl⟩, q⟩

/-! C.m(x, ..), C a class, m a def of it -/
def tCFn (C : Addr) (sp : Sp) (E : XK) (ta : TE) (t : TA) : TE := fun σ H Q => ta σ H fun x H1 => x = .ref C ∧ t σ H1 fun vs H2 => sp vs H2 Q E
structure ClsFn (P : Program) (w : World) (K : PySem.W.Frag) (mg : Str → Option Value) (base : Heap) (k : Nat) (C : Addr) (m : Str) (sp : Sp) : Prop where
  ex : ∃ (mc : Value) (f : Addr) (fd : FuncData) (ps : List Str), ClX.CRead K C mc ∧ ClX.CVal K C mc m (.ref f) (.ref f) ∧ PySem.W.keepIn K (.ref f) = true ∧ FnOk P w K mg base C8.CX0 k f fd ps sp ∧ Binds K fd ps []
theorem pe_clsfn {pl : Sem Bool} {k j : Nat} {C : Addr} {m : Str} {sp : Sp} {o e : Expr} {es : List Expr} {pos apos : Pos} {ta : TE} {t : TA} (c : ClsFn X.prog X.w X.K X.mg X.base k C m sp) (hr : Room j X.A) (hk : k ≤ j) (he : PE X o ta) (ha : PA X (e :: es) t)
    (hst : starEach (e :: es) X.env = (false, eval e X.env) :: starEach es X.env := by rfl) (hpl : (backTo pos (starEach es X.env)).any (·.1) = false := by rfl)
    (ht : eval (.Call (.Attribute o m apos) (e :: es) [] pos) X.env = (do
      let ov ← eval o X.env
      standAt apos.atName
      let (f, first) ← holding [ov] (getMethod ov m pl)
      callWith pos f first (backTo pos (starEach (e :: es) X.env)) (backToKw pos (keywordEach [] X.env))) := by rfl) :
    PE X (.Call (.Attribute o m apos) (e :: es) [] pos) (tCFn C sp C8.E0 ta t) := by
  obtain ⟨mc, f, fd, ps, r, cv, kp, F, hb⟩ := c.ex
  refine ⟨fun pins s σ H Q I h => ?_⟩
  refine PySem.W.methodCall_KW (pl := pl) (thn (he.run pins s σ H _ I h) fun u s1 ⟨x, H1, I1, rx, ex, q⟩ => ?_) ht
  subst ex
  obtain rfl : u = Value.ref C := rx
  refine PySem.W.method_cls I1.kIn r.ga (ClX.getcval_ok I1 r cv fun s2 I2 => ?_)
  refine PySem.W.callWith_K (h₀ := X.base) I.ok.mod.kin kp (thn (ha.run pos pins s2 σ _ _ I2 q) fun us s3 ⟨vs, H3, I3, rv, q3⟩ => ⟨I3.kIn, ?_⟩) hst hpl
  exact run_fn F (hr.mono hk) hb .nil C8.pass0 I3 rv (by rw [List.append_nil]; exact q3)

/-! d.get(key) of a dict of the module with text keys -/
structure KGet (K : PySem.W.Frag) (w : World) (x : Str) (d : Addr) (tbl : Str → Option (Option V)) : Prop where
  ex : ∃ (es : Array DictEntry) (n : Nat), KDict K w d es n ∧ ∀ z r, tbl z = some r → ∃ u, PySem.W.nsIn K d z = some u ∧ RelO r u
def tKGet (d : Addr) (tbl : Str → Option (Option V)) (td te : TE) : TE := fun σ H Q => td σ H fun x H1 => x = .ref d ∧ te σ H1 fun y H2 => ∃ z r, y = .str z ∧ tbl z = some r ∧ Q (r.getD .non) H2
theorem pe_kget {x : Str} {d : Addr} {tbl : Str → Option (Option V)} {o e : Expr} {td te : TE} {apos cpos : Pos} (D : KGet X.K X.w x d tbl) (ho : PE X o td) (he : PE X e te) (m : M1 X o "get" apos e cpos := by exact ⟨rfl, rfl, rfl, rfl⟩) :
    PE X (.Call (.Attribute o "get" apos) [e] [] cpos) (tKGet d tbl td te) := by
  refine ⟨fun pins s σ H Q I h => ?_⟩
  obtain ⟨es, n, kd, tb⟩ := D.ex
  refine wpAny_Call_method m.base m.few m.line PySem.F.plainAttrs_dict PySem.F.slot_dict_get PySem.F.type_dict_get (thn (ho.run pins s σ H _ I h) fun u s1 ⟨x, H1, I1, rx, ex, q1⟩ => ?_)
  subst ex
  obtain rfl : u = Value.ref d := rx
  refine ⟨kd_type kd I1, (fun b z => by cases z; exact ⟨_, I1.kIn _ _ kd.at_, rfl⟩), ?_⟩
  rw [m.trees]
  refine Calls.callWith_builtin rfl (Calls.evalArgs_plain (Calls.spliced_cons (thn (he.run pins s1 σ H1 _ I1 q1) fun iv s2 ⟨y, H2, I2, ry, z, r, ey, ez, q2⟩ => Calls.spliced_nil ?_)))
  subst ey
  obtain ⟨t, rfl⟩ := ry
  obtain ⟨u0, e0, r0⟩ := tb z r ez
  have hm := PySem.W.mapOf_K (prog := X.prog) (w := X.w) I2.kIn kd.at_ kd.lit
  refine call_meetsIn PySem.F.slot_dict_get hm.typeIs PySem.F.entry_dict_get (PySem.F.args_dict_get_2 _ _) (meets_dict_get (strKind X.prog X.w) d (PySem.strKind_is X.prog X.w z t) kd.low) ⟨_, hm, ?_⟩
  rw [PySem.W.find_K kd.at_ e0]
  refine ⟨r.getD .non, H2, I2.tok _, ?_, q2⟩
  cases r with
  | none =>
    cases u0 with
    | none => rfl
    | some _ => exact r0.elim
  | some v =>
    cases u0 with
    | none => exact r0.elim
    | some _ => exact r0
end
end BW
set_option Elab.async false
set_option linter.all false
set_option maxRecDepth 100000
set_option maxHeartbeats 4000000
namespace BW
open PySem PySem.Spec PyProof.Rows L2

/-! ### the ghost heap: G holds what never changes, H all -/
structure Grow (M : Addr → Prop) (G H G' H' : Hp) : Prop where
  gg : Same G G'
  gh : Same G' H'
  hh : ∀ b o, ¬ M b → H b = some o → H' b = some o
  fr : ∀ b o, H b = some o → G b = none → G' b = none
abbrev No : Addr → Prop := fun _ => False
abbrev At (t : Addr) : Addr → Prop := fun b => b = t

section
variable {M M' : Addr → Prop} {G H G1 H1 G2 H2 : Hp} {p : Addr} {o u : HO}
theorem same_new (h : H p = none) : Same H (upd H p o) := fun b x e => by
  rw [upd_ne (ne_of_none e h)]
  exact e
theorem same_upd2 (s : Same G H) (h : H p = none) : Same (upd G p o) (upd H p o) := fun b x e => by
  by_cases hb : b = p
  · subst hb
    rw [upd_same] at e ⊢
    exact e
  · rw [upd_ne hb] at e ⊢
    exact s _ _ e
theorem same_mut (s : Same G H) (h : G p = none) : Same G (upd H p o) := fun b x e => by
  rw [upd_ne (ne_of_none e h)]
  exact s _ _ e
theorem Grow.refl (s : Same G H) : Grow M G H G H := ⟨Same.refl _, s, fun _ _ _ e => e, fun _ _ _ e => e⟩
theorem Grow.trans (a : Grow M G H G1 H1) (b : Grow M G1 H1 G2 H2) (hM : ∀ b o, M b → H b = some o → G b = none → G1 b = none ∧ ∃ o, H1 b = some o) : Grow M G H G2 H2 where
  gg := a.gg.trans b.gg
  gh := b.gh
  hh := fun c x n e => b.hh _ _ n (a.hh _ _ n e)
  fr := fun c x e g => by
    by_cases h : M c
    · obtain ⟨q, o, e1⟩ := hM c x h e g
      exact b.fr c o e1 q
    · exact b.fr c x (a.hh _ _ h e) (a.fr c x e g)
/-- with no mutable thing -/
theorem Grow.tr (a : Grow No G H G1 H1) (b : Grow No G1 H1 G2 H2) : Grow No G H G2 H2 := a.trans b fun _ _ h => h.elim
theorem Grow.trA {t : Addr} (a : Grow (At t) G H G1 H1) (b : Grow (At t) G1 H1 G2 H2) (h : ∃ o, H1 t = some o) : Grow (At t) G H G2 H2 := a.trans b fun c x m e g => by
  cases m
  exact ⟨a.fr _ _ e g, h⟩
theorem Grow.mono (a : Grow M G H G1 H1) (h : ∀ b, M b → M' b) : Grow M' G H G1 H1 := ⟨a.gg, a.gh, fun b o n e => a.hh b o (fun m => n (h b m)) e, a.fr⟩
theorem Grow.no (a : Grow No G H G1 H1) : Grow M G H G1 H1 := a.mono fun _ h => h.elim
theorem Grow.of_same (s : Same G H) (h : Same H H1) : Grow M G H G H1 := ⟨Same.refl _, s.trans h, fun _ _ _ e => h _ _ e, fun _ _ _ e => e⟩
/-- a new thing that never changes -/
theorem Grow.imm (a : Grow M G H G1 H1) (h : H1 p = none) (hp : ∀ o, H p = some o → M p → False) : Grow M G H (upd G1 p o) (upd H1 p o) where
  gg := fun b x e => by
    rw [upd_ne (ne_of_none (a.gh _ _ (a.gg _ _ e)) h)]
    exact a.gg _ _ e
  gh := same_upd2 a.gh h
  hh := fun b x n e => by
    rw [upd_ne (ne_of_none (a.hh _ _ n e) h)]
    exact a.hh _ _ n e
  fr := fun b x e g => by
    have hb : b ≠ p := fun q => by
      subst q
      by_cases m : M b
      · exact hp _ e m
      · rw [a.hh _ _ m e] at h
        cases h
    rw [upd_ne hb]
    exact a.fr _ _ e g
theorem Grow.immN (a : Grow No G H G1 H1) (h : H1 p = none) : Grow No G H (upd G1 p o) (upd H1 p o) := a.imm h fun _ _ m => m
/-- a new thing that may change, or a write at one that G does not hold and that is new since H, or may change -/
theorem Grow.put (a : Grow M G H G1 H1) (hg : G1 p = none) (hp : H p = none ∨ M p) : Grow M G H G1 (upd H1 p o) where
  gg := a.gg
  gh := same_mut a.gh hg
  hh := fun b x n e => by
    have hb : b ≠ p := fun q => by
      subst q
      rcases hp with h | h
      · rw [h] at e
        cases e
      · exact n h
    rw [upd_ne hb]
    exact a.hh _ _ n e
  fr := a.fr
/-- it changes no more -/
theorem Grow.fix (a : Grow M G H G1 H1) (h1 : H1 p = some o) (h0 : H p = none) (hg : G1 p = none) : Grow M G H (upd G1 p o) H1 where
  gg := fun b x e => by
    rw [upd_ne (ne_of_none (a.gg _ _ e) hg)]
    exact a.gg _ _ e
  gh := fun b x e => by
    by_cases hb : b = p
    · subst hb
      rw [upd_same] at e
      rw [h1]
      exact e
    · rw [upd_ne hb] at e
      exact a.gh _ _ e
  hh := a.hh
  fr := fun b x e g => by
    have hb : b ≠ p := fun q => by
      subst q
      rw [h0] at e
      cases e
    rw [upd_ne hb]
    exact a.fr _ _ e g
theorem Grow.new (a : Grow M G H G1 H1) (h : H1 p = none) (hp : ∀ o, H p = some o → ¬ M p → False) : G1 p = none := a.gh.free h
theorem Grow.free0 (a : Grow No G H G1 H1) (h : H1 p = none) : H p = none := by
  cases e : H p with
  | none => rfl
  | some o =>
    rw [a.hh _ _ (fun m => m) e] at h
    cases h
theorem Grow.same (a : Grow No G H G1 H1) : Same H H1 := fun b o e => a.hh b o (fun m => m) e
theorem Grow.s0 (a : Grow M G H G1 H1) : Same G H1 := a.gg.trans a.gh
end

/-! ### data -/
section
variable {K : PySem.W.Frag} {G G' : Hp} {v : V} {vs : List V} {d d1 d2 d3 : PyData} {ds : List PyData}
theorem sqT_mono {a : Addr} {xs : List V} (e : Same G G') (h : SqT K G a xs) : SqT K G' a xs := by
  rcases h with (h | ⟨o, h⟩) | h
  · exact .inl (.inl (e _ _ h))
  · exact .inl (.inr ⟨o, e _ _ h⟩)
  · exact .inr h
mutual
theorem _root_.L2.Dp.mono (e : Same G G') : ∀ {d : PyData} {v : V}, Dp K G v d → Dp K G' v d
  | _, _, .non => .non
  | _, _, .bl b => .bl b
  | _, _, .int i => .int i
  | _, _, .str x => .str x
  | .list ds, _, .lst h r => .lst (e.seq h) (L2.DpAll.mono e r)
  | .tuple ds, _, .tup h r => .tup (sqT_mono e h) (L2.DpAll.mono e r)
theorem _root_.L2.DpAll.mono (e : Same G G') : ∀ {ds : List PyData} {vs : List V}, DpAll K G vs ds → DpAll K G' vs ds
  | _, _, .nil => .nil
  | _, _, .cons h t => .cons (L2.Dp.mono e h) (L2.DpAll.mono e t)
end
theorem _root_.L2.DpAll.len : ∀ {ds : List PyData} {vs : List V}, DpAll K G vs ds → vs.length = ds.length
  | _, _, .nil => rfl
  | _, _, .cons _ t => congrArg (· + 1) (L2.DpAll.len t)
theorem _root_.L2.DpAll.get : ∀ {ds : List PyData} {vs : List V} {i : Nat} {v : V}, DpAll K G vs ds → vs[i]? = some v → ∃ d, ds[i]? = some d ∧ Dp K G v d
  | _, _, i, _, .nil, e => by simp at e
  | _, _, 0, _, .cons h _, e => by simp at e; subst e; exact ⟨_, rfl, h⟩
  | _, _, i + 1, _, .cons _ t, e => L2.DpAll.get (i := i) t (by simpa using e)
theorem _root_.L2.DpAll.getD : ∀ {ds : List PyData} {vs : List V} {i : Nat} {d : PyData}, DpAll K G vs ds → ds[i]? = some d → ∃ v, vs[i]? = some v ∧ Dp K G v d
  | _, _, i, _, .nil, e => by simp at e
  | _, _, 0, _, .cons h _, e => by simp at e; subst e; exact ⟨_, rfl, h⟩
  | _, _, i + 1, _, .cons _ t, e => L2.DpAll.getD (i := i) t (by simpa using e)
theorem _root_.L2.DpAll.of : ∀ {ds : List PyData} {vs : List V}, vs.length = ds.length → (∀ (i : Nat) (v : V), vs[i]? = some v → ∃ d, ds[i]? = some d ∧ Dp K G v d) → DpAll K G vs ds
  | [], [], _, _ => .nil
  | [], _ :: _, h, _ => by simp at h
  | _ :: _, [], h, _ => by simp at h
  | d :: ds, v :: vs, h, f => by
    obtain ⟨d', e, q⟩ := f 0 v rfl
    cases (Option.some.inj e)
    exact .cons q (L2.DpAll.of (by simpa using h) fun (i : Nat) v (e : vs[i]? = some v) => f (i + 1) v e)
theorem _root_.L2.DpAll.snoc : ∀ {ds : List PyData} {vs : List V} {v : V} {d : PyData}, DpAll K G vs ds → Dp K G v d → DpAll K G (vs ++ [v]) (ds ++ [d])
  | _, _, _, _, .nil, h => .cons h .nil
  | _, _, _, _, .cons a t, h => .cons a (L2.DpAll.snoc t h)
theorem _root_.L2.DpAll.app : ∀ {ds ds' : List PyData} {vs vs' : List V}, DpAll K G vs ds → DpAll K G vs' ds' → DpAll K G (vs ++ vs') (ds ++ ds')
  | _, _, _, _, .nil, h => h
  | _, _, _, _, .cons a t, h => .cons a (L2.DpAll.app t h)
theorem _root_.L2.DpAll.ints : ∀ {ns : List Int} {vs : List V}, DpAll K G vs (ns.map .int) → vs = ns.map V.int
  | [], _, h => by
    have h' : DpAll K G _ [] := h
    cases h'
    rfl
  | n :: ns, _, h => by
    have h' : DpAll K G _ (.int n :: ns.map .int) := h
    cases h' with
    | cons a t =>
      cases a
      exact congrArg (V.int n :: ·) (L2.DpAll.ints t)
theorem _root_.L2.DpAll.strs : ∀ {ns : List Str} {vs : List V}, DpAll K G vs (ns.map .str) → vs = ns.map V.str
  | [], _, h => by
    have h' : DpAll K G _ [] := h
    cases h'
    rfl
  | n :: ns, _, h => by
    have h' : DpAll K G _ (.str n :: ns.map .str) := h
    cases h' with
    | cons a t =>
      cases a
      exact congrArg (V.str n :: ·) (L2.DpAll.strs t)
theorem _root_.L2.DpAll.ofInts : ∀ {ns : List Int}, DpAll K G (ns.map V.int) (ns.map .int)
  | [] => .nil
  | n :: ns => .cons (.int n) L2.DpAll.ofInts
theorem _root_.L2.DpAll.ofStrs : ∀ {ns : List Str}, DpAll K G (ns.map V.str) (ns.map .str)
  | [] => .nil
  | n :: ns => .cons (.str n) L2.DpAll.ofStrs
theorem dpI {i : Int} (h : Dp K G v (.int i)) : v = .int i := by cases h; rfl
theorem dpS {x : Str} (h : Dp K G v (.str x)) : v = .str x := by cases h; rfl
theorem dpB {b : Bool} (h : Dp K G v (.bool b)) : v = .bl b := by cases h; rfl
theorem dpL (h : Dp K G v (.list ds)) : ∃ a xs, v = .ref a ∧ SqL K G a xs ∧ DpAll K G xs ds := by
  cases h with
  | lst h r => exact ⟨_, _, rfl, h, r⟩
theorem dpT (h : Dp K G v (.tuple ds)) : ∃ a xs, v = .ref a ∧ SqT K G a xs ∧ DpAll K G xs ds := by
  cases h with
  | tup h r => exact ⟨_, _, rfl, h, r⟩
theorem dpT2 (h : Dp K G v (.tuple [d1, d2])) : ∃ a x y, v = .ref a ∧ SqT K G a [x, y] ∧ Dp K G x d1 ∧ Dp K G y d2 := by
  obtain ⟨a, xs, e, h, r⟩ := dpT h
  cases r with
  | cons r1 r => cases r with
    | cons r2 r => cases r; exact ⟨a, _, _, e, h, r1, r2⟩
theorem dpT3 (h : Dp K G v (.tuple [d1, d2, d3])) : ∃ a x y z, v = .ref a ∧ SqT K G a [x, y, z] ∧ Dp K G x d1 ∧ Dp K G y d2 ∧ Dp K G z d3 := by
  obtain ⟨a, xs, e, h, r⟩ := dpT h
  cases r with
  | cons r1 r => cases r with
    | cons r2 r => cases r with
      | cons r3 r => cases r; exact ⟨a, _, _, _, e, h, r1, r2, r3⟩
theorem sqlU {a : Addr} {xs : List V} (h : G a = some (.lst xs)) : SqL K G a xs := .inl (.inl h)
theorem sqtU {a : Addr} {xs : List V} (h : G a = some (.tup xs)) : SqT K G a xs := .inl (.inl h)
theorem _root_.L2.Dp.lstU {a : Addr} {xs : List V} (h : G a = some (.lst xs)) (r : DpAll K G xs ds) : Dp K G (.ref a) (.list ds) := .lst (sqlU h) r
theorem _root_.L2.Dp.tupU {a : Addr} {xs : List V} (h : G a = some (.tup xs)) (r : DpAll K G xs ds) : Dp K G (.ref a) (.tuple ds) := .tup (sqtU h) r
theorem _root_.L2.DpAll.one (h : Dp K G v d) : DpAll K G [v] [d] := .cons h .nil
end

/-! ### a comprehension without tests, over anything that is walked -/
section
variable {M : Addr → Prop} {G H : Hp} {J : It} {n : Nat} {Gd : Hp → Prop} {Y : Nat → Hp → V → Hp → Prop} {g : TG} {te : TE} {vs : List Nat} {σ : L2.St} {D : Addr} {Qd : Hp → Prop}
/-- I tells of what may change, R of the value made at a turn -/
theorem lc_gen (w : Walk J n Gd Y) (hD : H D = none) (sm : Same G H) (I : Nat → Hp → Prop) (R : Hp → Nat → V → Prop) (hn : n ≤ 100000)
    (hM : ∀ b, M b → ∃ o, H b = some o ∧ G b = none) (hI : ∀ i H H', (∀ b, M b → H' b = H b) → I i H → I i H' ∧ ∀ b, M b → ∃ o, H b = some o) (hR : ∀ G G' i v, Same G G' → R G i v → R G' i v)
    (h0 : I 0 H) (hG : ∀ G1 H1, Grow M G H G1 H1 → Gd H1)
    (hs : ∀ i x G1 H1 H1', i < n → Grow M G H G1 H1 → I i H1 → Y i H1 x H1' → ∀ Q : VK, (∀ G2 H2 y, Grow M G1 H1 G2 H2 → I (i + 1) H2 → R G2 i y → Q y H2) → g x (wipe σ vs) H1' fun σ2 H2 => wipe σ2 vs = wipe σ vs ∧ te σ2 H2 Q)
    (hd : ∀ G' H' acc, Grow M G H G' H' → G' D = none → H' D = some (.lst acc) → acc.length = n → (∀ i v, acc[i]? = some v → R G' i v) → I n H' → Qd H') :
    ∃ W : Nat → Nat → Hp → Prop, (∃ m, W 0 m (upd H D (.lst []))) ∧ ∀ i m H, W i m H →
      (J.stop i H ∧ Qd H) ∨ (J.go i H ∧ ∃ Nx : Hp → Prop, (∀ H', Nx H' → ∃ m', m' < m ∧ W (i + 1) m' H') ∧ ∀ x H', J.yld i H x H' → g x (wipe σ vs) H' fun σ2 H2 => wipe σ2 vs = wipe σ vs ∧ tYes σ2 H2 fun b H3 =>
        if b = true then te σ2 H3 fun y H4 => ∃ acc, H4 D = some (.lst acc) ∧ acc.length < sizeLine ∧ Nx (upd H4 D (.lst (acc ++ [y]))) else Nx H3) := by
  have nMD : ¬ M D := fun m => by
    obtain ⟨o, e, _⟩ := hM D m
    rw [hD] at e
    cases e
  have hsz : (100000 : Nat) < sizeLine := by decide
  refine lc_it w (fun i H' => i ≤ n ∧ ∃ G' acc, Grow M G H G' H' ∧ G' D = none ∧ H' D = some (.lst acc) ∧ acc.length = i ∧ (∀ j v, acc[j]? = some v → R G' j v) ∧ I i H') ?_ ?_ ?_ ?_
  · refine ⟨Nat.zero_le _, G, [], (Grow.refl sm).put (sm.free hD) (.inl hD), sm.free hD, upd_same, rfl, fun j v e => by simp at e, ?_⟩
    exact (hI 0 H _ (fun b m => upd_ne fun (q : b = D) => nMD (q ▸ m)) h0).1
  · rintro i H' hi ⟨_, G', acc, g', _⟩
    exact hG _ _ g'
  · rintro i x H1 H1' hi ⟨_, G1, acc, g1, gD, eD, el, er, hi1⟩ y
    have key := hs i x G1 H1 H1' hi g1 hi1 y (fun y H4 => ∃ acc, H4 D = some (.lst acc) ∧ acc.length < sizeLine ∧ (i + 1 ≤ n ∧ ∃ G' acc', Grow M G H G' (upd H4 D (.lst (acc ++ [y]))) ∧ G' D = none ∧ (upd H4 D (.lst (acc ++ [y]))) D = some (.lst acc') ∧ acc'.length = i + 1 ∧ (∀ j v, acc'[j]? = some v → R G' j v) ∧ I (i + 1) (upd H4 D (.lst (acc ++ [y]))))) ?_
    · exact key
    · intro G2 H2 y g2 hi2 hr
      have eD2 : H2 D = some (.lst acc) := g2.hh _ _ nMD eD
      have gD2 : G2 D = none := g2.fr _ _ eD gD
      refine ⟨acc, eD2, by omega, hi, G2, acc ++ [y], ?_, gD2, upd_same, by rw [List.length_append, el] <;> rfl, fun j v e => ?_, ?_⟩
      · refine (g1.trans g2 fun b o m e _ => ?_).put gD2 (.inl hD)
        obtain ⟨o', e', ge⟩ := hM b m
        exact ⟨g1.fr b o' e' ge, (hI i H1 H1 (fun _ _ => rfl) hi1).2 b m⟩
      · by_cases hj : j < acc.length
        · rw [List.getElem?_append_left hj] at e
          exact hR _ _ _ _ g2.gg (er j v e)
        · have hj2 : j = acc.length := by
            have := (List.getElem?_eq_some_iff.mp e).1
            rw [List.length_append, List.length_singleton] at this
            omega
          subst hj2
          rw [List.getElem?_append_right (Nat.le_refl _), Nat.sub_self] at e
          have : y = v := Option.some.inj e
          subst this
          rw [el]
          exact hr
      · exact (hI _ _ _ (fun b m => upd_ne fun (q : b = D) => nMD (q ▸ m)) hi2).1
  · rintro H' ⟨_, G', acc, g', gD, eD, el, er, hi⟩
    exact hd G' H' acc g' gD eD el er hi
/-- .. where nothing changes -/
theorem lc_pure (w : Walk J n Gd Y) (hD : H D = none) (sm : Same G H) (R : Hp → Nat → V → Prop) (hn : n ≤ 100000) (hR : ∀ G G' i v, Same G G' → R G i v → R G' i v) (hG : ∀ G1 H1, Grow No G H G1 H1 → Gd H1)
    (hs : ∀ i x G1 H1 H1', i < n → Grow No G H G1 H1 → Y i H1 x H1' → ∀ Q : VK, (∀ G2 H2 y, Grow No G1 H1 G2 H2 → R G2 i y → Q y H2) → g x (wipe σ vs) H1' fun σ2 H2 => wipe σ2 vs = wipe σ vs ∧ te σ2 H2 Q)
    (hd : ∀ G' H' acc, Grow No G H G' H' → G' D = none → H' D = some (.lst acc) → acc.length = n → (∀ i v, acc[i]? = some v → R G' i v) → Qd H') :
    ∃ W : Nat → Nat → Hp → Prop, (∃ m, W 0 m (upd H D (.lst []))) ∧ ∀ i m H, W i m H →
      (J.stop i H ∧ Qd H) ∨ (J.go i H ∧ ∃ Nx : Hp → Prop, (∀ H', Nx H' → ∃ m', m' < m ∧ W (i + 1) m' H') ∧ ∀ x H', J.yld i H x H' → g x (wipe σ vs) H' fun σ2 H2 => wipe σ2 vs = wipe σ vs ∧ tYes σ2 H2 fun b H3 =>
        if b = true then te σ2 H3 fun y H4 => ∃ acc, H4 D = some (.lst acc) ∧ acc.length < sizeLine ∧ Nx (upd H4 D (.lst (acc ++ [y]))) else Nx H3) :=
  lc_gen (M := No) w hD sm (fun _ _ => True) R hn (fun _ m => m.elim) (fun _ _ _ _ _ => ⟨trivial, fun _ m => m.elim⟩) hR trivial hG (fun i x G1 H1 H1' hi g1 _ y Q hq => hs i x G1 H1 H1' hi g1 y Q fun G2 H2 y g2 r => hq G2 H2 y g2 trivial r)
    (fun G' H' acc g' h2 h3 h4 h5 _ => hd G' H' acc g' h2 h3 h4 h5)
end
end BW
set_option Elab.async false
set_option linter.all false
set_option maxRecDepth 100000
set_option maxHeartbeats 4000000
namespace BW
open PySem PySem.Spec PyProof.Rows L2
section
variable {G H : Hp} {J : It} {n : Nat} {Gd : Hp → Prop} {Y : Nat → Hp → V → Hp → Prop} {g : TG} {te : TE} {tt : TT} {vs : List Nat} {σ : L2.St} {D : Addr} {Qd : Hp → Prop}
theorem range_filter_succ (f : Nat → Bool) (i : Nat) : (List.range (i + 1)).filter f = (List.range i).filter f ++ (if f i = true then [i] else []) := by
  rw [List.range_succ, List.filter_append]
  congr 1
  by_cases h : f i = true
  · simp [h]
  · simp [h]
/-- a comprehension with a test, nothing that stood changes -/
theorem lc_fil (w : Walk J n Gd Y) (hD : H D = none) (sm : Same G H) (f : Nat → Bool) (R : Hp → Nat → V → Prop) (hn : n ≤ 100000) (hR : ∀ G G' i v, Same G G' → R G i v → R G' i v) (hG : ∀ G1 H1, Grow No G H G1 H1 → Gd H1)
    (hs : ∀ i x G1 H1 H1', i < n → Grow No G H G1 H1 → Y i H1 x H1' → ∀ (Qy : VK) (Qn : Hp → Prop), (f i = true → ∀ G2 H2 y, Grow No G1 H1 G2 H2 → R G2 i y → Qy y H2) → (f i = false → ∀ G2 H2, Grow No G1 H1 G2 H2 → Qn H2) →
      g x (wipe σ vs) H1' fun σ2 H2 => wipe σ2 vs = wipe σ vs ∧ tt σ2 H2 fun b H3 => if b = true then te σ2 H3 Qy else Qn H3)
    (hd : ∀ G' H' acc, Grow No G H G' H' → G' D = none → H' D = some (.lst acc) → acc.length = ((List.range n).filter f).length → (∀ (j : Nat) v, acc[j]? = some v → ∃ i, ((List.range n).filter f)[j]? = some i ∧ R G' i v) → Qd H') :
    ∃ W : Nat → Nat → Hp → Prop, (∃ m, W 0 m (upd H D (.lst []))) ∧ ∀ i m H, W i m H →
      (J.stop i H ∧ Qd H) ∨ (J.go i H ∧ ∃ Nx : Hp → Prop, (∀ H', Nx H' → ∃ m', m' < m ∧ W (i + 1) m' H') ∧ ∀ x H', J.yld i H x H' → g x (wipe σ vs) H' fun σ2 H2 => wipe σ2 vs = wipe σ vs ∧ tt σ2 H2 fun b H3 =>
        if b = true then te σ2 H3 fun y H4 => ∃ acc, H4 D = some (.lst acc) ∧ acc.length < sizeLine ∧ Nx (upd H4 D (.lst (acc ++ [y]))) else Nx H3) := by
  have hsz : (100000 : Nat) < sizeLine := by decide
  have hlen : ∀ i, ((List.range i).filter f).length ≤ i := fun i => by
    have := List.length_filter_le f (List.range i)
    rw [List.length_range] at this
    exact this
  refine lc_it w (fun i H' => i ≤ n ∧ ∃ G' acc, Grow No G H G' H' ∧ G' D = none ∧ H' D = some (.lst acc) ∧ acc.length = ((List.range i).filter f).length ∧ (∀ (j : Nat) v, acc[j]? = some v → ∃ k, ((List.range i).filter f)[j]? = some k ∧ R G' k v)) ?_ ?_ ?_ ?_
  · exact ⟨Nat.zero_le _, G, [], (Grow.refl sm).put (sm.free hD) (.inl hD), sm.free hD, upd_same, rfl, fun j v e => by simp at e⟩
  · rintro i H' hi ⟨_, G', acc, g', _⟩
    exact hG _ _ g'
  · rintro i x H1 H1' hi ⟨_, G1, acc, g1, gD, eD, el, er⟩ y
    have hl := hlen i
    refine hs i x G1 H1 H1' hi g1 y _ _ (fun hf G2 H2 y g2 hr => ?_) (fun hf G2 H2 g2 => ?_)
    · have eD2 : H2 D = some (.lst acc) := g2.same _ _ eD
      have gD2 : G2 D = none := g2.fr _ _ eD gD
      have ef : (List.range (i + 1)).filter f = (List.range i).filter f ++ [i] := by rw [range_filter_succ, if_pos hf]
      refine ⟨acc, eD2, by omega, hi, G2, acc ++ [y], (g1.tr g2).put gD2 (.inl hD), gD2, upd_same, by rw [ef, List.length_append, List.length_append, el] <;> rfl, fun j v e => ?_⟩
      rw [ef]
      by_cases hj : j < acc.length
      · rw [List.getElem?_append_left hj] at e
        obtain ⟨k, hk, hr'⟩ := er j v e
        exact ⟨k, by rw [List.getElem?_append_left (by omega)]; exact hk, hR _ _ _ _ g2.gg hr'⟩
      · have hj2 : j = acc.length := by
          have := (List.getElem?_eq_some_iff.mp e).1
          rw [List.length_append, List.length_singleton] at this
          omega
        subst hj2
        rw [List.getElem?_append_right (Nat.le_refl _), Nat.sub_self] at e
        have : y = v := Option.some.inj e
        subst this
        exact ⟨i, by rw [List.getElem?_append_right (by omega), el, Nat.sub_self]; rfl, hr⟩
    · have ef : (List.range (i + 1)).filter f = (List.range i).filter f := by rw [range_filter_succ, if_neg (by rw [hf]; decide), List.append_nil]
      refine ⟨hi, G2, acc, g1.tr g2, g2.fr _ _ eD gD, g2.same _ _ eD, by rw [ef]; exact el, fun j v e => ?_⟩
      rw [ef]
      obtain ⟨k, hk, hr'⟩ := er j v e
      exact ⟨k, hk, hR _ _ _ _ g2.gg hr'⟩
  · rintro H' ⟨_, G', acc, g', gD, eD, el, er⟩
    exact hd G' H' acc g' gD eD el er
end
end BW
set_option Elab.async false
set_option linter.all false
set_option maxRecDepth 100000
set_option maxHeartbeats 4000000
namespace BW
open PySem PySem.Spec PyProof.Rows L2
open C8 (Cal Met Mak fnBody fnScope fnArgs)
/-! ### the text by places (printed by wip/gentxt.py) -/
abbrev s_is_whole : Stmt := topS 5
abbrev N_is_whole : List Str := ["thing"]
abbrev P_is_whole : List Str := ["thing"]
theorem sc_is_whole : FnScope N_is_whole P_is_whole (fnScope s_is_whole) := ⟨rfl, rfl, rfl, by decide +kernel, rfl, by decide +kernel, by decide +kernel⟩
abbrev s_is_among : Stmt := topS 6
abbrev N_is_among : List Str := ["thing", "least", "most"]
abbrev P_is_among : List Str := ["thing", "least", "most"]
theorem sc_is_among : FnScope N_is_among P_is_among (fnScope s_is_among) := ⟨rfl, rfl, rfl, by decide +kernel, rfl, by decide +kernel, by decide +kernel⟩
abbrev s_is_made_of : Stmt := topS 7
abbrev N_is_made_of : List Str := ["thing", "signs", "most", "sign"]
abbrev P_is_made_of : List Str := ["thing", "signs", "most"]
theorem sc_is_made_of : FnScope N_is_made_of P_is_made_of (fnScope s_is_made_of) := ⟨rfl, rfl, rfl, by decide +kernel, rfl, by decide +kernel, by decide +kernel⟩
abbrev s_number_of : Stmt := topS 8
abbrev N_number_of : List Str := ["word", "figures"]
abbrev P_number_of : List Str := ["word"]
theorem sc_number_of : FnScope N_number_of P_number_of (fnScope s_number_of) := ⟨rfl, rfl, rfl, by decide +kernel, rfl, by decide +kernel, by decide +kernel⟩
abbrev s_number_text : Stmt := topS 9
abbrev N_number_text : List Str := ["number"]
abbrev P_number_text : List Str := ["number"]
theorem sc_number_text : FnScope N_number_text P_number_text (fnScope s_number_text) := ⟨rfl, rfl, rfl, by decide +kernel, rfl, by decide +kernel, by decide +kernel⟩
abbrev s_is_syllable : Stmt := topS 10
abbrev N_is_syllable : List Str := ["thing"]
abbrev P_is_syllable : List Str := ["thing"]
theorem sc_is_syllable : FnScope N_is_syllable P_is_syllable (fnScope s_is_syllable) := ⟨rfl, rfl, rfl, by decide +kernel, rfl, by decide +kernel, by decide +kernel⟩
abbrev s_words_of : Stmt := topS 11
abbrev N_words_of : List Str := ["row", "words"]
abbrev P_words_of : List Str := ["row"]
theorem sc_words_of : FnScope N_words_of P_words_of (fnScope s_words_of) := ⟨rfl, rfl, rfl, by decide +kernel, rfl, by decide +kernel, by decide +kernel⟩
abbrev s_common : Stmt := topS 15
abbrev N_common : List Str := ["one", "other", "times", "rest"]
abbrev P_common : List Str := ["one", "other"]
theorem sc_common : FnScope N_common P_common (fnScope s_common) := ⟨rfl, rfl, rfl, by decide +kernel, rfl, by decide +kernel, by decide +kernel⟩
abbrev s_pair_of : Stmt := topS 16
abbrev N_pair_of : List Str := ["grains", "part"]
abbrev P_pair_of : List Str := ["grains"]
theorem sc_pair_of : FnScope N_pair_of P_pair_of (fnScope s_pair_of) := ⟨rfl, rfl, rfl, by decide +kernel, rfl, by decide +kernel, by decide +kernel⟩
abbrev s_amount_text : Stmt := topS 17
abbrev N_amount_text : List Str := ["grains", "top", "bottom"]
abbrev P_amount_text : List Str := ["grains"]
theorem sc_amount_text : FnScope N_amount_text P_amount_text (fnScope s_amount_text) := ⟨rfl, rfl, rfl, by decide +kernel, rfl, by decide +kernel, by decide +kernel⟩
abbrev s_grains_of : Stmt := topS 18
abbrev N_grains_of : List Str := ["word", "upper", "stroke", "lower", "top", "bottom", "grains", "rest"]
abbrev P_grains_of : List Str := ["word"]
theorem sc_grains_of : FnScope N_grains_of P_grains_of (fnScope s_grains_of) := ⟨rfl, rfl, rfl, by decide +kernel, rfl, by decide +kernel, by decide +kernel⟩
abbrev s_is_pitch : Stmt := topS 29
abbrev N_is_pitch : List Str := ["thing", "step", "lean", "octave"]
abbrev P_is_pitch : List Str := ["thing"]
theorem sc_is_pitch : FnScope N_is_pitch P_is_pitch (fnScope s_is_pitch) := ⟨rfl, rfl, rfl, by decide +kernel, rfl, by decide +kernel, by decide +kernel⟩
abbrev s_pitch_of : Stmt := topS 30
abbrev N_pitch_of : List Str := ["word", "step", "octave", "lean"]
abbrev P_pitch_of : List Str := ["word"]
theorem sc_pitch_of : FnScope N_pitch_of P_pitch_of (fnScope s_pitch_of) := ⟨rfl, rfl, rfl, by decide +kernel, rfl, by decide +kernel, by decide +kernel⟩
abbrev s_lean_text : Stmt := topS 31
abbrev N_lean_text : List Str := ["lean"]
abbrev P_lean_text : List Str := ["lean"]
theorem sc_lean_text : FnScope N_lean_text P_lean_text (fnScope s_lean_text) := ⟨rfl, rfl, rfl, by decide +kernel, rfl, by decide +kernel, by decide +kernel⟩
abbrev s_pitch_text : Stmt := topS 32
abbrev N_pitch_text : List Str := ["pitch", "step", "lean", "octave"]
abbrev P_pitch_text : List Str := ["pitch"]
theorem sc_pitch_text : FnScope N_pitch_text P_pitch_text (fnScope s_pitch_text) := ⟨rfl, rfl, rfl, by decide +kernel, rfl, by decide +kernel, by decide +kernel⟩
abbrev s_line : Stmt := topS 33
abbrev N_line : List Str := ["pitch"]
abbrev P_line : List Str := ["pitch"]
theorem sc_line : FnScope N_line P_line (fnScope s_line) := ⟨rfl, rfl, rfl, by decide +kernel, rfl, by decide +kernel, by decide +kernel⟩
abbrev s_is_key : Stmt := topS 36
abbrev N_is_key : List Str := ["thing"]
abbrev P_is_key : List Str := ["thing"]
theorem sc_is_key : FnScope N_is_key P_is_key (fnScope s_is_key) := ⟨rfl, rfl, rfl, by decide +kernel, rfl, by decide +kernel, by decide +kernel⟩
abbrev s_bar_grains : Stmt := topS 40
abbrev N_bar_grains : List Str := ["metre"]
abbrev P_bar_grains : List Str := ["metre"]
theorem sc_bar_grains : FnScope N_bar_grains P_bar_grains (fnScope s_bar_grains) := ⟨rfl, rfl, rfl, by decide +kernel, rfl, by decide +kernel, by decide +kernel⟩
abbrev s_is_metre : Stmt := topS 41
abbrev N_is_metre : List Str := ["thing", "top", "bottom", "groups", "one"]
abbrev P_is_metre : List Str := ["thing"]
theorem sc_is_metre : FnScope N_is_metre P_is_metre (fnScope s_is_metre) := ⟨rfl, rfl, rfl, by decide +kernel, rfl, by decide +kernel, by decide +kernel⟩
abbrev s_metre_of : Stmt := topS 42
abbrev N_metre_of : List Str := ["word", "front", "colon", "rest", "upper", "stroke", "lower", "groups", "metre", "one"]
abbrev P_metre_of : List Str := ["word"]
theorem sc_metre_of : FnScope N_metre_of P_metre_of (fnScope s_metre_of) := ⟨rfl, rfl, rfl, by decide +kernel, rfl, by decide +kernel, by decide +kernel⟩
abbrev s_metre_text : Stmt := topS 43
abbrev N_metre_text : List Str := ["metre", "top", "bottom", "groups", "text", "one"]
abbrev P_metre_text : List Str := ["metre"]
theorem sc_metre_text : FnScope N_metre_text P_metre_text (fnScope s_metre_text) := ⟨rfl, rfl, rfl, by decide +kernel, rfl, by decide +kernel, by decide +kernel⟩
abbrev s_Sound___init__ : Stmt := inClass (topS 51) 0
abbrev N_Sound___init__ : List Str := ["self", "length"]
abbrev P_Sound___init__ : List Str := ["self", "length"]
theorem sc_Sound___init__ : FnScope N_Sound___init__ P_Sound___init__ (fnScope s_Sound___init__) := ⟨rfl, rfl, rfl, by decide +kernel, rfl, by decide +kernel, by decide +kernel⟩
abbrev s_Rest_told : Stmt := inClass (topS 52) 0
abbrev N_Rest_told : List Str := ["self"]
abbrev P_Rest_told : List Str := ["self"]
theorem sc_Rest_told : FnScope N_Rest_told P_Rest_told (fnScope s_Rest_told) := ⟨rfl, rfl, rfl, by decide +kernel, rfl, by decide +kernel, by decide +kernel⟩
abbrev s_Tones___init__ : Stmt := inClass (topS 53) 0
abbrev N_Tones___init__ : List Str := ["self", "pitches", "length", "word", "opens", "closes"]
abbrev P_Tones___init__ : List Str := ["self", "pitches", "length", "word", "opens", "closes"]
theorem sc_Tones___init__ : FnScope N_Tones___init__ P_Tones___init__ (fnScope s_Tones___init__) := ⟨rfl, rfl, rfl, by decide +kernel, rfl, by decide +kernel, by decide +kernel⟩
abbrev s_Tones_told : Stmt := inClass (topS 53) 1
abbrev N_Tones_told : List Str := ["self"]
abbrev P_Tones_told : List Str := ["self"]
theorem sc_Tones_told : FnScope N_Tones_told P_Tones_told (fnScope s_Tones_told) := ⟨rfl, rfl, rfl, by decide +kernel, rfl, by decide +kernel, by decide +kernel⟩
abbrev s_are_pitches : Stmt := topS 54
abbrev N_are_pitches : List Str := ["thing", "one", "other"]
abbrev P_are_pitches : List Str := ["thing"]
theorem sc_are_pitches : FnScope N_are_pitches P_are_pitches (fnScope s_are_pitches) := ⟨rfl, rfl, rfl, by decide +kernel, rfl, by decide +kernel, by decide +kernel⟩
abbrev s_is_rest : Stmt := topS 55
abbrev N_is_rest : List Str := ["thing"]
abbrev P_is_rest : List Str := ["thing"]
theorem sc_is_rest : FnScope N_is_rest P_is_rest (fnScope s_is_rest) := ⟨rfl, rfl, rfl, by decide +kernel, rfl, by decide +kernel, by decide +kernel⟩
abbrev s_is_tones : Stmt := topS 56
abbrev N_is_tones : List Str := ["thing"]
abbrev P_is_tones : List Str := ["thing"]
theorem sc_is_tones : FnScope N_is_tones P_is_tones (fnScope s_is_tones) := ⟨rfl, rfl, rfl, by decide +kernel, rfl, by decide +kernel, by decide +kernel⟩
abbrev s_sound_of : Stmt := topS 57
abbrev N_sound_of : List Str := ["told"]
abbrev P_sound_of : List Str := ["told"]
theorem sc_sound_of : FnScope N_sound_of P_sound_of (fnScope s_sound_of) := ⟨rfl, rfl, rfl, by decide +kernel, rfl, by decide +kernel, by decide +kernel⟩
abbrev s_need_slurs : Stmt := topS 58
abbrev N_need_slurs : List Str := ["sounds", "is_open", "sound"]
abbrev P_need_slurs : List Str := ["sounds"]
theorem sc_need_slurs : FnScope N_need_slurs P_need_slurs (fnScope s_need_slurs) := ⟨rfl, rfl, rfl, by decide +kernel, rfl, by decide +kernel, by decide +kernel⟩
abbrev s_tidied : Stmt := topS 59
abbrev N_tidied : List Str := ["sounds", "found", "sound"]
abbrev P_tidied : List Str := ["sounds"]
theorem sc_tidied : FnScope N_tidied P_tidied (fnScope s_tidied) := ⟨rfl, rfl, rfl, by decide +kernel, rfl, by decide +kernel, by decide +kernel⟩
abbrev s_voice_of : Stmt := topS 60
abbrev N_voice_of : List Str := ["told", "sounds", "one"]
abbrev P_voice_of : List Str := ["told"]
theorem sc_voice_of : FnScope N_voice_of P_voice_of (fnScope s_voice_of) := ⟨rfl, rfl, rfl, by decide +kernel, rfl, by decide +kernel, by decide +kernel⟩
abbrev s_need_changes : Stmt := topS 61
abbrev N_need_changes : List Str := ["rows", "is_good", "row", "one", "other"]
abbrev P_need_changes : List Str := ["rows", "is_good"]
theorem sc_need_changes : FnScope N_need_changes P_need_changes (fnScope s_need_changes) := ⟨rfl, rfl, rfl, by decide +kernel, rfl, by decide +kernel, by decide +kernel⟩
abbrev s_last_at : Stmt := topS 62
abbrev N_last_at : List Str := ["rows", "bar", "row"]
abbrev P_last_at : List Str := ["rows", "bar"]
theorem sc_last_at : FnScope N_last_at P_last_at (fnScope s_last_at) := ⟨rfl, rfl, rfl, by decide +kernel, rfl, by decide +kernel, by decide +kernel⟩
abbrev s_laid : Stmt := topS 63
abbrev N_laid : List Str := ["metres", "keys", "lasts", "found", "begin", "bar", "metre"]
abbrev P_laid : List Str := ["metres", "keys", "lasts"]
theorem sc_laid : FnScope N_laid P_laid (fnScope s_laid) := ⟨rfl, rfl, rfl, by decide +kernel, rfl, by decide +kernel, by decide +kernel⟩
abbrev s_Tune___init__ : Stmt := inClass (topS 64) 0
abbrev N_Tune___init__ : List Str := ["self", "metres", "keys", "voices", "one"]
abbrev P_Tune___init__ : List Str := ["self", "metres", "keys", "voices"]
theorem sc_Tune___init__ : FnScope N_Tune___init__ P_Tune___init__ (fnScope s_Tune___init__) := ⟨rfl, rfl, rfl, by decide +kernel, rfl, by decide +kernel, by decide +kernel⟩
abbrev s_Tune_metres_told : Stmt := inClass (topS 64) 1
abbrev N_Tune_metres_told : List Str := ["self"]
abbrev P_Tune_metres_told : List Str := ["self"]
theorem sc_Tune_metres_told : FnScope N_Tune_metres_told P_Tune_metres_told (fnScope s_Tune_metres_told) := ⟨rfl, rfl, rfl, by decide +kernel, rfl, by decide +kernel, by decide +kernel⟩
abbrev s_Tune_keys_told : Stmt := inClass (topS 64) 2
abbrev N_Tune_keys_told : List Str := ["self"]
abbrev P_Tune_keys_told : List Str := ["self"]
theorem sc_Tune_keys_told : FnScope N_Tune_keys_told P_Tune_keys_told (fnScope s_Tune_keys_told) := ⟨rfl, rfl, rfl, by decide +kernel, rfl, by decide +kernel, by decide +kernel⟩
abbrev s_Tune_sounds_told : Stmt := inClass (topS 64) 3
abbrev N_Tune_sounds_told : List Str := ["self", "voice", "sound"]
abbrev P_Tune_sounds_told : List Str := ["self", "voice"]
theorem sc_Tune_sounds_told : FnScope N_Tune_sounds_told P_Tune_sounds_told (fnScope s_Tune_sounds_told) := ⟨rfl, rfl, rfl, by decide +kernel, rfl, by decide +kernel, by decide +kernel⟩
abbrev s_Tune_many : Stmt := inClass (topS 64) 4
abbrev N_Tune_many : List Str := ["self"]
abbrev P_Tune_many : List Str := ["self"]
theorem sc_Tune_many : FnScope N_Tune_many P_Tune_many (fnScope s_Tune_many) := ⟨rfl, rfl, rfl, by decide +kernel, rfl, by decide +kernel, by decide +kernel⟩
abbrev s_Tune_lasts : Stmt := inClass (topS 64) 5
abbrev N_Tune_lasts : List Str := ["self", "voice", "sound"]
abbrev P_Tune_lasts : List Str := ["self"]
theorem sc_Tune_lasts : FnScope N_Tune_lasts P_Tune_lasts (fnScope s_Tune_lasts) := ⟨rfl, rfl, rfl, by decide +kernel, rfl, by decide +kernel, by decide +kernel⟩
abbrev s_Tune_frames : Stmt := inClass (topS 64) 6
abbrev N_Tune_frames : List Str := ["self"]
abbrev P_Tune_frames : List Str := ["self"]
theorem sc_Tune_frames : FnScope N_Tune_frames P_Tune_frames (fnScope s_Tune_frames) := ⟨rfl, rfl, rfl, by decide +kernel, rfl, by decide +kernel, by decide +kernel⟩
abbrev s_Rows___init__ : Stmt := inClass (topS 67) 0
abbrev N_Rows___init__ : List Str := ["self", "text", "row"]
abbrev P_Rows___init__ : List Str := ["self", "text"]
theorem sc_Rows___init__ : FnScope N_Rows___init__ P_Rows___init__ (fnScope s_Rows___init__) := ⟨rfl, rfl, rfl, by decide +kernel, rfl, by decide +kernel, by decide +kernel⟩
abbrev s_Rows_is_over : Stmt := inClass (topS 67) 1
abbrev N_Rows_is_over : List Str := ["self"]
abbrev P_Rows_is_over : List Str := ["self"]
theorem sc_Rows_is_over : FnScope N_Rows_is_over P_Rows_is_over (fnScope s_Rows_is_over) := ⟨rfl, rfl, rfl, by decide +kernel, rfl, by decide +kernel, by decide +kernel⟩
abbrev s_Rows_next_words : Stmt := inClass (topS 67) 3
abbrev N_Rows_next_words : List Str := ["self"]
abbrev P_Rows_next_words : List Str := ["self"]
theorem sc_Rows_next_words : FnScope N_Rows_next_words P_Rows_next_words (fnScope s_Rows_next_words) := ⟨rfl, rfl, rfl, by decide +kernel, rfl, by decide +kernel, by decide +kernel⟩
abbrev s_Rows_begins : Stmt := inClass (topS 67) 4
abbrev N_Rows_begins : List Str := ["self", "word"]
abbrev P_Rows_begins : List Str := ["self", "word"]
theorem sc_Rows_begins : FnScope N_Rows_begins P_Rows_begins (fnScope s_Rows_begins) := ⟨rfl, rfl, rfl, by decide +kernel, rfl, by decide +kernel, by decide +kernel⟩
abbrev s_Rows_step : Stmt := inClass (topS 67) 5
abbrev N_Rows_step : List Str := ["self"]
abbrev P_Rows_step : List Str := ["self"]
theorem sc_Rows_step : FnScope N_Rows_step P_Rows_step (fnScope s_Rows_step) := ⟨rfl, rfl, rfl, by decide +kernel, rfl, by decide +kernel, by decide +kernel⟩
abbrev s_key_of : Stmt := topS 68
abbrev N_key_of : List Str := ["word", "number"]
abbrev P_key_of : List Str := ["word"]
theorem sc_key_of : FnScope N_key_of P_key_of (fnScope s_key_of) := ⟨rfl, rfl, rfl, by decide +kernel, rfl, by decide +kernel, by decide +kernel⟩
abbrev s_told_by : Stmt := topS 69
abbrev N_told_by : List Str := ["rows", "word", "is_what", "words"]
abbrev P_told_by : List Str := ["rows", "word", "is_what"]
theorem sc_told_by : FnScope N_told_by P_told_by (fnScope s_told_by) := ⟨rfl, rfl, rfl, by decide +kernel, rfl, by decide +kernel, by decide +kernel⟩
abbrev s_change_by : Stmt := topS 70
abbrev N_change_by : List Str := ["rows", "last", "words", "bar", "sort", "what"]
abbrev P_change_by : List Str := ["rows", "last"]
theorem sc_change_by : FnScope N_change_by P_change_by (fnScope s_change_by) := ⟨rfl, rfl, rfl, by decide +kernel, rfl, by decide +kernel, by decide +kernel⟩
abbrev s_signs_by : Stmt := topS 71
abbrev N_signs_by : List Str := ["rows", "words", "rest", "opens", "closes", "word"]
abbrev P_signs_by : List Str := ["rows", "words"]
theorem sc_signs_by : FnScope N_signs_by P_signs_by (fnScope s_signs_by) := ⟨rfl, rfl, rfl, by decide +kernel, rfl, by decide +kernel, by decide +kernel⟩
abbrev s_sound_by : Stmt := topS 72
abbrev N_sound_by : List Str := ["rows", "words", "length", "told", "pitches", "one"]
abbrev P_sound_by : List Str := ["rows"]
theorem sc_sound_by : FnScope N_sound_by P_sound_by (fnScope s_sound_by) := ⟨rfl, rfl, rfl, by decide +kernel, rfl, by decide +kernel, by decide +kernel⟩
abbrev s_voice_by : Stmt := topS 73
abbrev N_voice_by : List Str := ["rows", "found"]
abbrev P_voice_by : List Str := ["rows"]
theorem sc_voice_by : FnScope N_voice_by P_voice_by (fnScope s_voice_by) := ⟨rfl, rfl, rfl, by decide +kernel, rfl, by decide +kernel, by decide +kernel⟩
abbrev s_read_tune : Stmt := topS 74
abbrev N_read_tune : List Str := ["text", "rows", "changes", "voices", "metres", "keys", "bar", "sort", "what"]
abbrev P_read_tune : List Str := ["text"]
theorem sc_read_tune : FnScope N_read_tune P_read_tune (fnScope s_read_tune) := ⟨rfl, rfl, rfl, by decide +kernel, rfl, by decide +kernel, by decide +kernel⟩
abbrev s_sound_row : Stmt := topS 75
abbrev N_sound_row : List Str := ["told", "row", "pitch"]
abbrev P_sound_row : List Str := ["told"]
theorem sc_sound_row : FnScope N_sound_row P_sound_row (fnScope s_sound_row) := ⟨rfl, rfl, rfl, by decide +kernel, rfl, by decide +kernel, by decide +kernel⟩
abbrev s_tune_text : Stmt := topS 76
abbrev N_tune_text : List Str := ["tune", "bar", "changes", "rows", "sort", "row", "voice", "metre", "key", "told"]
abbrev P_tune_text : List Str := ["tune"]
theorem sc_tune_text : FnScope N_tune_text P_tune_text (fnScope s_tune_text) := ⟨rfl, rfl, rfl, by decide +kernel, rfl, by decide +kernel, by decide +kernel⟩
abbrev s__law_draw : Stmt := topS 78
abbrev N__law_draw : List Str := ["_law_script", "_law_tape", "_law_size", "_law_seed", "_law_cell"]
abbrev P__law_draw : List Str := ["_law_script", "_law_tape", "_law_size"]
theorem sc__law_draw : FnScope N__law_draw P__law_draw (fnScope s__law_draw) := ⟨rfl, rfl, rfl, by decide +kernel, rfl, by decide +kernel, by decide +kernel⟩
abbrev s__law_metre : Stmt := topS 79
abbrev N__law_metre : List Str := ["_law_script", "_law_tape", "_law_some"]
abbrev P__law_metre : List Str := ["_law_script", "_law_tape"]
theorem sc__law_metre : FnScope N__law_metre P__law_metre (fnScope s__law_metre) := ⟨rfl, rfl, rfl, by decide +kernel, rfl, by decide +kernel, by decide +kernel⟩
abbrev s__law_pitches : Stmt := topS 80
abbrev N__law_pitches : List Str := ["_law_script", "_law_tape", "_law_found", "_law_at", "_law_k"]
abbrev P__law_pitches : List Str := ["_law_script", "_law_tape"]
theorem sc__law_pitches : FnScope N__law_pitches P__law_pitches (fnScope s__law_pitches) := ⟨rfl, rfl, rfl, by decide +kernel, rfl, by decide +kernel, by decide +kernel⟩
abbrev s__law_syllable : Stmt := topS 81
abbrev N__law_syllable : List Str := ["_law_script", "_law_tape", "_law_letters", "_law_size", "_law_k"]
abbrev P__law_syllable : List Str := ["_law_script", "_law_tape"]
theorem sc__law_syllable : FnScope N__law_syllable P__law_syllable (fnScope s__law_syllable) := ⟨rfl, rfl, rfl, by decide +kernel, rfl, by decide +kernel, by decide +kernel⟩
abbrev s__law_length : Stmt := topS 82
abbrev N__law_length : List Str := ["_law_script", "_law_tape", "_law_some"]
abbrev P__law_length : List Str := ["_law_script", "_law_tape"]
theorem sc__law_length : FnScope N__law_length P__law_length (fnScope s__law_length) := ⟨rfl, rfl, rfl, by decide +kernel, rfl, by decide +kernel, by decide +kernel⟩
abbrev s__law_voice : Stmt := topS 83
abbrev N__law_voice : List Str := ["_law_script", "_law_tape", "_law_most", "_law_found", "_law_is_open", "_law_left", "_law_count", "_law_k", "_law_length_here", "_law_closes", "_law_opens", "_law_word"]
abbrev P__law_voice : List Str := ["_law_script", "_law_tape", "_law_most"]
theorem sc__law_voice : FnScope N__law_voice P__law_voice (fnScope s__law_voice) := ⟨rfl, rfl, rfl, by decide +kernel, rfl, by decide +kernel, by decide +kernel⟩
abbrev s__law_tidy : Stmt := topS 84
abbrev N__law_tidy : List Str := ["_law_voice_here", "_law_found", "_law_told"]
abbrev P__law_tidy : List Str := ["_law_voice_here"]
theorem sc__law_tidy : FnScope N__law_tidy P__law_tidy (fnScope s__law_tidy) := ⟨rfl, rfl, rfl, by decide +kernel, rfl, by decide +kernel, by decide +kernel⟩
abbrev s__law_lasts : Stmt := topS 85
abbrev N__law_lasts : List Str := ["_law_voices_here", "_law_sums", "_law_voice_here", "_law_told"]
abbrev P__law_lasts : List Str := ["_law_voices_here"]
theorem sc__law_lasts : FnScope N__law_lasts P__law_lasts (fnScope s__law_lasts) := ⟨rfl, rfl, rfl, by decide +kernel, rfl, by decide +kernel, by decide +kernel⟩
abbrev s__law_frames : Stmt := topS 86
abbrev N__law_frames : List Str := ["_law_script", "_law_tape", "_law_lasts_here", "_law_found", "_law_begin", "_law_metre_here", "_law_key"]
abbrev P__law_frames : List Str := ["_law_script", "_law_tape", "_law_lasts_here"]
theorem sc__law_frames : FnScope N__law_frames P__law_frames (fnScope s__law_frames) := ⟨rfl, rfl, rfl, by decide +kernel, rfl, by decide +kernel, by decide +kernel⟩
abbrev s__law_changes : Stmt := topS 87
abbrev N__law_changes : List Str := ["_law_frames_here", "_law_part", "_law_found", "_law_place", "_law_frame"]
abbrev P__law_changes : List Str := ["_law_frames_here", "_law_part"]
theorem sc__law_changes : FnScope N__law_changes P__law_changes (fnScope s__law_changes) := ⟨rfl, rfl, rfl, by decide +kernel, rfl, by decide +kernel, by decide +kernel⟩
abbrev s__law_voices : Stmt := topS 88
abbrev N__law_voices : List Str := ["_law_script", "_law_tape", "_law_most", "_law_k"]
abbrev P__law_voices : List Str := ["_law_script", "_law_tape", "_law_most"]
theorem sc__law_voices : FnScope N__law_voices P__law_voices (fnScope s__law_voices) := ⟨rfl, rfl, rfl, by decide +kernel, rfl, by decide +kernel, by decide +kernel⟩
abbrev s__law_amount : Stmt := topS 89
abbrev N__law_amount : List Str := ["_law_grains", "_law_times", "_law_top", "_law_bottom", "_law_one"]
abbrev P__law_amount : List Str := ["_law_grains", "_law_times"]
theorem sc__law_amount : FnScope N__law_amount P__law_amount (fnScope s__law_amount) := ⟨rfl, rfl, rfl, by decide +kernel, rfl, by decide +kernel, by decide +kernel⟩
abbrev s__law_row : Stmt := topS 90
abbrev N__law_row : List Str := ["_law_told", "_law_times", "_law_words", "_law_step", "_law_lean", "_law_octave", "_law_row_here"]
abbrev P__law_row : List Str := ["_law_told", "_law_times"]
theorem sc__law_row : FnScope N__law_row P__law_row (fnScope s__law_row) := ⟨rfl, rfl, rfl, by decide +kernel, rfl, by decide +kernel, by decide +kernel⟩
abbrev s__law_metre_text : Stmt := topS 91
abbrev N__law_metre_text : List Str := ["_law_metre_here", "_law_text", "_law_one"]
abbrev P__law_metre_text : List Str := ["_law_metre_here"]
theorem sc__law_metre_text : FnScope N__law_metre_text P__law_metre_text (fnScope s__law_metre_text) := ⟨rfl, rfl, rfl, by decide +kernel, rfl, by decide +kernel, by decide +kernel⟩
abbrev s__law_rows : Stmt := topS 92
abbrev N__law_rows : List Str := ["_law_frames_here", "_law_voices_here", "_law_times", "_law_rows_here", "_law_place", "_law_front", "_law_voice_here", "_law_told"]
abbrev P__law_rows : List Str := ["_law_frames_here", "_law_voices_here", "_law_times"]
theorem sc__law_rows : FnScope N__law_rows P__law_rows (fnScope s__law_rows) := ⟨rfl, rfl, rfl, by decide +kernel, rfl, by decide +kernel, by decide +kernel⟩
abbrev s__law_all_told : Stmt := topS 93
abbrev N__law_all_told : List Str := ["_law_tune", "_law_found", "_law_k"]
abbrev P__law_all_told : List Str := ["_law_tune"]
theorem sc__law_all_told : FnScope N__law_all_told P__law_all_told (fnScope s__law_all_told) := ⟨rfl, rfl, rfl, by decide +kernel, rfl, by decide +kernel, by decide +kernel⟩
abbrev s__law_drawn : Stmt := topS 94
abbrev N__law_drawn : List Str := ["_law_script", "_law_tape", "_law_voices_here", "_law_tidy_here", "_law_voice_here"]
abbrev P__law_drawn : List Str := ["_law_script", "_law_tape"]
theorem sc__law_drawn : FnScope N__law_drawn P__law_drawn (fnScope s__law_drawn) := ⟨rfl, rfl, rfl, by decide +kernel, rfl, by decide +kernel, by decide +kernel⟩
abbrev s_law : Stmt := topS 95
abbrev N_law : List Str := ["_law_script", "_law_tape", "_law_voices_here", "_law_tidy_here", "_law_frames_here", "_law_times", "_law_due", "_law_text", "_law_tune", "_law_others", "_law_neat", "_law_bars", "_law_other", "_law_written", "_law_again", "_law_made", "_law_k"]
abbrev P_law : List Str := ["_law_script"]
theorem sc_law : FnScope N_law P_law (fnScope s_law) := ⟨rfl, rfl, rfl, by decide +kernel, rfl, by decide +kernel, by decide +kernel⟩

/-! ### a def, a method, a class as they stand behind the top -/
section
variable {P : Program} {w : World} {K : PySem.W.Frag} {mg : Str → Option Value} {base : Heap}
structure DefX (K : PySem.W.Frag) (mg : Str → Option Value) (x : Str) (st : Stmt) (ps : List Str) (f : Addr) : Prop where
  ex : ∃ fd : FuncData, C8.Def K mg x st f fd ∧ Binds K fd ps []
structure MethX (K : PySem.W.Frag) (C : Addr) (m qual : Str) (st : Stmt) (ps : List Str) : Prop where
  ex : ∃ (f : Addr) (fd : FuncData), Meth K C m f ∧ C8.Fun K m qual st f fd ∧ Binds K fd ps []
structure MakX (K : PySem.W.Frag) (mg : Str → Option Value) (x : Str) (C : Addr) (qual : Str) (st : Stmt) (ps : List Str) : Prop where
  ex : ∃ (f : Addr) (fd : FuncData), Mk K C f ∧ mg x = some (.ref C) ∧ C8.Fun K "__init__" qual st f fd ∧ Binds K fd ps []
structure OwnC (K : PySem.W.Frag) (C : Addr) : Prop where
  cl : Cls K C
  ha : PySem.W.findIn K (.ref C) "__class__" = some (some (.builtin "object.__class__"))
  hn : PySem.W.specialIn K (.builtin "object.__class__") "__get__" = some (some (.builtin "getset_descriptor.__get__"))
  htk : PySem.W.takesIn K (.builtin "object.__class__") = some true
  hm : PySem.W.mroIn K C (.type "object") = some true
theorem OwnC.ty {C a dx : Addr} {H : Hp} {fs : List (Str × V)} (o : OwnC K C) (h : H a = some (.ins C dx fs)) : TyX K H (.ref a) (.ref C) := .base (.ins h o.cl o.ha o.hn o.htk o.hm)
theorem bindsX {x qual : Str} {st : Stmt} {f : Addr} {oc : Value} {od an : Option Addr} {osl : Array (Option Value)} {kV doc pm cdv ct : Value} {ps : List Str}
    (b : ∀ us : List Value, us.length = ps.length → bindArgs (PySem.W.fnOf x qual (fnArgs st) (fnBody st) (fnScope st) .none kV doc pm an cdv ct) ⟨us, []⟩ = pure (ps.zip us)) : Binds K (PySem.W.fnOf x qual (fnArgs st) (fnBody st) (fnScope st) .none kV doc pm an cdv ct) ps [] := .all b
theorem funX {x qual : Str} {st : Stmt} {f : Addr} {oc : Value} {od an : Option Addr} {osl : Array (Option Value)} {kV doc pm cdv ct : Value} (l : K.lookup f = some ⟨oc, od, .func (PySem.W.fnOf x qual (fnArgs st) (fnBody st) (fnScope st) .none kV doc pm an cdv ct), osl⟩)
    (c : PySem.W.codeIn K cdv qual = true) : C8.Fun K x qual st f (PySem.W.fnOf x qual (fnArgs st) (fnBody st) (fnScope st) .none kV doc pm an cdv ct) := ⟨⟨oc, od, .none, kV, doc, pm, an, cdv, ct, osl, rfl, l, c⟩⟩
theorem defX_mk {h : Heap} {x : Str} {st : Stmt} {ps : List Str} {f : Addr} {oc : Value} {od an : Option Addr} {osl : Array (Option Value)} {kV doc pm cdv ct : Value} (X : K.In h) (G : h.Ns mainGlobals mg) (a : PySem.W.nsIn K mainGlobals x = some (some (.ref f)))
    (l : K.lookup f = some ⟨oc, od, .func (PySem.W.fnOf x x (fnArgs st) (fnBody st) (fnScope st) .none kV doc pm an cdv ct), osl⟩) (c : PySem.W.codeIn K cdv x = true) (k : PySem.W.keepIn K (.ref f) = true)
    (b : ∀ us : List Value, us.length = ps.length → bindArgs (PySem.W.fnOf x x (fnArgs st) (fnBody st) (fnScope st) .none kV doc pm an cdv ct) ⟨us, []⟩ = pure (ps.zip us)) : DefX K mg x st ps f :=
  ⟨_, ⟨funX l c, PySem.W.mg_of X G a, k⟩, bindsX (f := f) (oc := oc) (od := od) (osl := osl) b⟩
theorem methX_mk {C : Addr} {m qual : Str} {st : Stmt} {ps : List Str} {f : Addr} {oc : Value} {od an : Option Addr} {osl : Array (Option Value)} {kV doc pm cdv ct : Value} (a : PySem.W.findIn K (.ref C) m = some (some (.ref f))) (i : PySem.W.isFn K (.ref f) = true)
    (l : K.lookup f = some ⟨oc, od, .func (PySem.W.fnOf m qual (fnArgs st) (fnBody st) (fnScope st) .none kV doc pm an cdv ct), osl⟩) (c : PySem.W.codeIn K cdv qual = true) (k : PySem.W.keepIn K (.ref f) = true)
    (b : ∀ us : List Value, us.length = ps.length → bindArgs (PySem.W.fnOf m qual (fnArgs st) (fnBody st) (fnScope st) .none kV doc pm an cdv ct) ⟨us, []⟩ = pure (ps.zip us)) : MethX K C m qual st ps :=
  ⟨f, _, ⟨a, i, k⟩, funX l c, bindsX (f := f) (oc := oc) (od := od) (osl := osl) b⟩
theorem makX_mk {h : Heap} {x : Str} {C : Addr} {qual : Str} {st : Stmt} {ps : List Str} {f : Addr} {oc : Value} {od an : Option Addr} {osl : Array (Option Value)} {kV doc pm cdv ct : Value} (X : K.In h) (G : h.Ns mainGlobals mg) (n : PySem.W.nsIn K mainGlobals x = some (some (.ref C))) (mk : PySem.W.makesIn K C = true)
    (a : PySem.W.findIn K (.ref C) "__init__" = some (some (.ref f))) (i : PySem.W.isFn K (.ref f) = true) (kc : PySem.W.keepIn K (.ref C) = true)
    (l : K.lookup f = some ⟨oc, od, .func (PySem.W.fnOf "__init__" qual (fnArgs st) (fnBody st) (fnScope st) .none kV doc pm an cdv ct), osl⟩) (c : PySem.W.codeIn K cdv qual = true)
    (b : ∀ us : List Value, us.length = ps.length → bindArgs (PySem.W.fnOf "__init__" qual (fnArgs st) (fnBody st) (fnScope st) .none kV doc pm an cdv ct) ⟨us, []⟩ = pure (ps.zip us)) : MakX K mg x C qual st ps :=
  ⟨f, _, ⟨mk, a, i, kc⟩, PySem.W.mg_of X G n, funX l c, bindsX (f := f) (oc := oc) (od := od) (osl := osl) b⟩
theorem ownC_mk {C : Addr} (pg : PySem.W.plainGet K C Str.empty = true) (hd : PySem.W.hasDictIn K C = true) (po : PySem.W.plainOver K C = true) (sa : PySem.W.findIn K (.ref C) "__setattr__" = some (some (.builtin "object.__setattr__")))
    (ha : PySem.W.findIn K (.ref C) "__class__" = some (some (.builtin "object.__class__"))) (hn : PySem.W.specialIn K (.builtin "object.__class__") "__get__" = some (some (.builtin "getset_descriptor.__get__")))
    (htk : PySem.W.takesIn K (.builtin "object.__class__") = some true) (hm : PySem.W.mroIn K C (.type "object") = some true) : OwnC K C := ⟨⟨pg, hd, po, sa⟩, ha, hn, htk, hm⟩
theorem conS {h : Heap} {x : Str} {z : Str} {t : Tok} (X : K.In h) (G : h.Ns mainGlobals mg) (a : PySem.W.nsIn K mainGlobals x = some (some (.str z t))) : ∃ u, mg x = some u ∧ RelV (.str z) u := ⟨_, PySem.W.mg_of X G a, t, rfl⟩
theorem conI {h : Heap} {x : Str} {z : Int} {t : Tok} (X : K.In h) (G : h.Ns mainGlobals mg) (a : PySem.W.nsIn K mainGlobals x = some (some (.int z t))) : ∃ u, mg x = some u ∧ RelV (.int z) u := ⟨_, PySem.W.mg_of X G a, t, rfl⟩
theorem conR {h : Heap} {x : Str} {z : Addr} (X : K.In h) (G : h.Ns mainGlobals mg) (a : PySem.W.nsIn K mainGlobals x = some (some (.ref z))) : ∃ u, mg x = some u ∧ RelV (.ref z) u := ⟨_, PySem.W.mg_of X G a, rfl⟩
/-- the addresses of the top's things -/
structure Ad where
  (cSound cRest cTones cTune cRows dLEANS fmetre_of fkey_of fis_metre fis_key : Addr)
def leansT : Str → Option (Option V) := fun z => if z = "--" then some (some (.int (-2))) else if z = "-" then some (some (.int (-1))) else if z = "" then some (some (.int 0)) else if z = "+" then some (some (.int 1)) else if z = "++" then some (some (.int 2)) else none
structure Txt (w : World) (K : PySem.W.Frag) (mg : Str → Option Value) (A : Ad) : Prop where
  n_isinstance : mg "isinstance" = none
  n_int : mg "int" = none
  n_bool : mg "bool" = none
  n_str : mg "str" = none
  n_tuple : mg "tuple" = none
  n_list : mg "list" = none
  n_len : mg "len" = none
  n_all : mg "all" = none
  n_sum : mg "sum" = none
  n_max : mg "max" = none
  n_range : mg "range" = none
  n_zip : mg "zip" = none
  n_enumerate : mg "enumerate" = none
  n_divmod : mg "divmod" = none
  n_sorted : mg "sorted" = none
  c_FIGURES : ∃ u, mg "FIGURES" = some u ∧ RelV (.str "0123456789") u
  c_SYLLABLE : ∃ u, mg "SYLLABLE" = some u ∧ RelV (.str "abcdefghijklmnopqrstuvwxyzABCDEFGHIJKLMNOPQRSTUVWXYZ-") u
  c_MOST_FIGURES : ∃ u, mg "MOST_FIGURES" = some u ∧ RelV (.int 4) u
  c_MOST_LETTERS : ∃ u, mg "MOST_LETTERS" = some u ∧ RelV (.int 12) u
  c_GRAINS : ∃ u, mg "GRAINS" = some u ∧ RelV (.int 96) u
  c_MOST_GRAINS : ∃ u, mg "MOST_GRAINS" = some u ∧ RelV (.int 4608) u
  c_STEPS : ∃ u, mg "STEPS" = some u ∧ RelV (.str "cdefgab") u
  c_OCTAVES : ∃ u, mg "OCTAVES" = some u ∧ RelV (.str "012345678") u
  c_MOST_LEAN : ∃ u, mg "MOST_LEAN" = some u ∧ RelV (.int 2) u
  c_MOST_OCTAVE : ∃ u, mg "MOST_OCTAVE" = some u ∧ RelV (.int 8) u
  c_MOST_KEY : ∃ u, mg "MOST_KEY" = some u ∧ RelV (.int 7) u
  c_MOST_TOP : ∃ u, mg "MOST_TOP" = some u ∧ RelV (.int 12) u
  c_MOST_BAR : ∃ u, mg "MOST_BAR" = some u ∧ RelV (.int 192) u
  c_LEAST_LENGTH : ∃ u, mg "LEAST_LENGTH" = some u ∧ RelV (.int 2) u
  c_MOST_TONE : ∃ u, mg "MOST_TONE" = some u ∧ RelV (.int 384) u
  c_MOST_REST : ∃ u, mg "MOST_REST" = some u ∧ RelV (.int 4608) u
  c_MOST_PITCHES : ∃ u, mg "MOST_PITCHES" = some u ∧ RelV (.int 4) u
  c_MOST_SOUNDS : ∃ u, mg "MOST_SOUNDS" = some u ∧ RelV (.int 96) u
  c_MOST_BARS : ∃ u, mg "MOST_BARS" = some u ∧ RelV (.int 24) u
  c_MOST_VOICES : ∃ u, mg "MOST_VOICES" = some u ∧ RelV (.int 2) u
  c_LEANS : ∃ u, mg "LEANS" = some u ∧ RelV (.ref A.dLEANS) u
  leans : KGet K w "LEANS" A.dLEANS leansT
  v_Sound : ∃ u, mg "Sound" = some u ∧ RelV (.ref A.cSound) u
  v_Rest : ∃ u, mg "Rest" = some u ∧ RelV (.ref A.cRest) u
  v_Tones : ∃ u, mg "Tones" = some u ∧ RelV (.ref A.cTones) u
  v_metre_of : ∃ u, mg "metre_of" = some u ∧ RelV (.ref A.fmetre_of) u
  v_key_of : ∃ u, mg "key_of" = some u ∧ RelV (.ref A.fkey_of) u
  v_is_metre : ∃ u, mg "is_metre" = some u ∧ RelV (.ref A.fis_metre) u
  v_is_key : ∃ u, mg "is_key" = some u ∧ RelV (.ref A.fis_key) u
  d_is_whole : ∃ f, DefX K mg "is_whole" s_is_whole P_is_whole f
  d_is_among : ∃ f, DefX K mg "is_among" s_is_among P_is_among f
  d_is_made_of : ∃ f, DefX K mg "is_made_of" s_is_made_of P_is_made_of f
  d_number_of : ∃ f, DefX K mg "number_of" s_number_of P_number_of f
  d_number_text : ∃ f, DefX K mg "number_text" s_number_text P_number_text f
  d_is_syllable : ∃ f, DefX K mg "is_syllable" s_is_syllable P_is_syllable f
  d_words_of : ∃ f, DefX K mg "words_of" s_words_of P_words_of f
  d_common : ∃ f, DefX K mg "common" s_common P_common f
  d_pair_of : ∃ f, DefX K mg "pair_of" s_pair_of P_pair_of f
  d_amount_text : ∃ f, DefX K mg "amount_text" s_amount_text P_amount_text f
  d_grains_of : ∃ f, DefX K mg "grains_of" s_grains_of P_grains_of f
  d_is_pitch : ∃ f, DefX K mg "is_pitch" s_is_pitch P_is_pitch f
  d_pitch_of : ∃ f, DefX K mg "pitch_of" s_pitch_of P_pitch_of f
  d_lean_text : ∃ f, DefX K mg "lean_text" s_lean_text P_lean_text f
  d_pitch_text : ∃ f, DefX K mg "pitch_text" s_pitch_text P_pitch_text f
  d_line : ∃ f, DefX K mg "line" s_line P_line f
  d_is_key : DefX K mg "is_key" s_is_key P_is_key A.fis_key
  d_bar_grains : ∃ f, DefX K mg "bar_grains" s_bar_grains P_bar_grains f
  d_is_metre : DefX K mg "is_metre" s_is_metre P_is_metre A.fis_metre
  d_metre_of : DefX K mg "metre_of" s_metre_of P_metre_of A.fmetre_of
  d_metre_text : ∃ f, DefX K mg "metre_text" s_metre_text P_metre_text f
  d_are_pitches : ∃ f, DefX K mg "are_pitches" s_are_pitches P_are_pitches f
  d_is_rest : ∃ f, DefX K mg "is_rest" s_is_rest P_is_rest f
  d_is_tones : ∃ f, DefX K mg "is_tones" s_is_tones P_is_tones f
  d_sound_of : ∃ f, DefX K mg "sound_of" s_sound_of P_sound_of f
  d_need_slurs : ∃ f, DefX K mg "need_slurs" s_need_slurs P_need_slurs f
  d_tidied : ∃ f, DefX K mg "tidied" s_tidied P_tidied f
  d_voice_of : ∃ f, DefX K mg "voice_of" s_voice_of P_voice_of f
  d_need_changes : ∃ f, DefX K mg "need_changes" s_need_changes P_need_changes f
  d_last_at : ∃ f, DefX K mg "last_at" s_last_at P_last_at f
  d_laid : ∃ f, DefX K mg "laid" s_laid P_laid f
  d_key_of : DefX K mg "key_of" s_key_of P_key_of A.fkey_of
  d_told_by : ∃ f, DefX K mg "told_by" s_told_by P_told_by f
  d_change_by : ∃ f, DefX K mg "change_by" s_change_by P_change_by f
  d_signs_by : ∃ f, DefX K mg "signs_by" s_signs_by P_signs_by f
  d_sound_by : ∃ f, DefX K mg "sound_by" s_sound_by P_sound_by f
  d_voice_by : ∃ f, DefX K mg "voice_by" s_voice_by P_voice_by f
  d_read_tune : ∃ f, DefX K mg "read_tune" s_read_tune P_read_tune f
  d_sound_row : ∃ f, DefX K mg "sound_row" s_sound_row P_sound_row f
  d_tune_text : ∃ f, DefX K mg "tune_text" s_tune_text P_tune_text f
  d__law_draw : ∃ f, DefX K mg "_law_draw" s__law_draw P__law_draw f
  d__law_metre : ∃ f, DefX K mg "_law_metre" s__law_metre P__law_metre f
  d__law_pitches : ∃ f, DefX K mg "_law_pitches" s__law_pitches P__law_pitches f
  d__law_syllable : ∃ f, DefX K mg "_law_syllable" s__law_syllable P__law_syllable f
  d__law_length : ∃ f, DefX K mg "_law_length" s__law_length P__law_length f
  d__law_voice : ∃ f, DefX K mg "_law_voice" s__law_voice P__law_voice f
  d__law_tidy : ∃ f, DefX K mg "_law_tidy" s__law_tidy P__law_tidy f
  d__law_lasts : ∃ f, DefX K mg "_law_lasts" s__law_lasts P__law_lasts f
  d__law_frames : ∃ f, DefX K mg "_law_frames" s__law_frames P__law_frames f
  d__law_changes : ∃ f, DefX K mg "_law_changes" s__law_changes P__law_changes f
  d__law_voices : ∃ f, DefX K mg "_law_voices" s__law_voices P__law_voices f
  d__law_amount : ∃ f, DefX K mg "_law_amount" s__law_amount P__law_amount f
  d__law_row : ∃ f, DefX K mg "_law_row" s__law_row P__law_row f
  d__law_metre_text : ∃ f, DefX K mg "_law_metre_text" s__law_metre_text P__law_metre_text f
  d__law_rows : ∃ f, DefX K mg "_law_rows" s__law_rows P__law_rows f
  d__law_all_told : ∃ f, DefX K mg "_law_all_told" s__law_all_told P__law_all_told f
  d__law_drawn : ∃ f, DefX K mg "_law_drawn" s__law_drawn P__law_drawn f
  d_law : ∃ f, DefX K mg "law" s_law P_law f
  o_Rest : OwnC K A.cRest
  o_Tones : OwnC K A.cTones
  o_Tune : OwnC K A.cTune
  o_Rows : OwnC K A.cRows
  no_Rest_length : NoAttr K A.cRest "length"
  no_Tones_length : NoAttr K A.cTones "length"
  no_Tones_pitches : NoAttr K A.cTones "pitches"
  no_Tones_word : NoAttr K A.cTones "word"
  no_Tones_opens : NoAttr K A.cTones "opens"
  no_Tones_closes : NoAttr K A.cTones "closes"
  no_Tune_by_metre : NoAttr K A.cTune "by_metre"
  no_Tune_by_key : NoAttr K A.cTune "by_key"
  no_Tune_voices : NoAttr K A.cTune "voices"
  no_Tune_bars : NoAttr K A.cTune "bars"
  no_Rows_rows : NoAttr K A.cRows "rows"
  no_Rows_place : NoAttr K A.cRows "place"
  k_Rest_Rest : PySem.W.kitOne K (.ref A.cRest) (.ref A.cRest) = some true
  k_Rest_Tones : PySem.W.kitOne K (.ref A.cRest) (.ref A.cTones) = some false
  k_Tones_Rest : PySem.W.kitOne K (.ref A.cTones) (.ref A.cRest) = some false
  k_Tones_Tones : PySem.W.kitOne K (.ref A.cTones) (.ref A.cTones) = some true
  m_Rest_told : MethX K A.cRest "told" "Rest.told" s_Rest_told P_Rest_told
  m_Tones_told : MethX K A.cTones "told" "Tones.told" s_Tones_told P_Tones_told
  m_Tune_metres_told : MethX K A.cTune "metres_told" "Tune.metres_told" s_Tune_metres_told P_Tune_metres_told
  m_Tune_keys_told : MethX K A.cTune "keys_told" "Tune.keys_told" s_Tune_keys_told P_Tune_keys_told
  m_Tune_sounds_told : MethX K A.cTune "sounds_told" "Tune.sounds_told" s_Tune_sounds_told P_Tune_sounds_told
  m_Tune_many : MethX K A.cTune "many" "Tune.many" s_Tune_many P_Tune_many
  m_Tune_lasts : MethX K A.cTune "lasts" "Tune.lasts" s_Tune_lasts P_Tune_lasts
  m_Tune_frames : MethX K A.cTune "frames" "Tune.frames" s_Tune_frames P_Tune_frames
  m_Rows_is_over : MethX K A.cRows "is_over" "Rows.is_over" s_Rows_is_over P_Rows_is_over
  m_Rows_next_words : MethX K A.cRows "next_words" "Rows.next_words" s_Rows_next_words P_Rows_next_words
  m_Rows_begins : MethX K A.cRows "begins" "Rows.begins" s_Rows_begins P_Rows_begins
  m_Rows_step : MethX K A.cRows "step" "Rows.step" s_Rows_step P_Rows_step
  i_Rest : MakX K mg "Rest" A.cRest "Sound.__init__" s_Sound___init__ P_Sound___init__
  i_Tones : MakX K mg "Tones" A.cTones "Tones.__init__" s_Tones___init__ P_Tones___init__
  i_Tune : MakX K mg "Tune" A.cTune "Tune.__init__" s_Tune___init__ P_Tune___init__
  i_Rows : MakX K mg "Rows" A.cRows "Rows.__init__" s_Rows___init__ P_Rows___init__
  f_Sound : ∃ (mc : Value) (f : Addr) (fd : FuncData), ClX.CRead K A.cSound mc ∧ ClX.CVal K A.cSound mc "__init__" (.ref f) (.ref f) ∧ PySem.W.keepIn K (.ref f) = true ∧ C8.Fun K "__init__" "Sound.__init__" s_Sound___init__ f fd ∧ Binds K fd P_Sound___init__ []

/-! ### the promise of a def, by its body -/
theorem cal_of {x : Str} {st : Stmt} {f : Addr} {N ps : List Str} {k : Nat} {sp : Sp} (D : DefX K mg x st ps f) (S : FnScope N ps (fnScope st)) (len : ∀ vs H Q E, sp vs H Q E → vs.length = ps.length)
    (hbody : ∀ (cdv : Value) (A : Around) (outer : List Env) (s : Shared) (H : Hp) (vs : List V) (Q : VK) (E : XK), Room k (A.deeper (envOfC x (fnScope st) s.heap.objs.size f cdv)) → sp vs H Q E →
      ∃ t, PSs (cxOf C8.CX0 P w K mg base N x (fnScope st) f cdv A outer s H E).nox (fnBody st) t ∧ t { nx := fun _ H' => Q .non H', rt := Q } (start N vs) H) : Cal P w K mg base (k + 1) x sp [] := by
  obtain ⟨fd, d, b⟩ := D.ex
  exact C8.cal0 d b .nil S len hbody
theorem calAt_of {x : Str} {st : Stmt} {f : Addr} {N ps : List Str} {k : Nat} {sp : Sp} (D : DefX K mg x st ps f) (S : FnScope N ps (fnScope st)) (len : ∀ vs H Q E, sp vs H Q E → vs.length = ps.length)
    (hbody : ∀ (cdv : Value) (A : Around) (outer : List Env) (s : Shared) (H : Hp) (vs : List V) (Q : VK) (E : XK), Room k (A.deeper (envOfC x (fnScope st) s.heap.objs.size f cdv)) → sp vs H Q E →
      ∃ t, PSs (cxOf C8.CX0 P w K mg base N x (fnScope st) f cdv A outer s H E).nox (fnBody st) t ∧ t { nx := fun _ H' => Q .non H', rt := Q } (start N vs) H) : C8.CalAt P w K mg base (k + 1) f sp := by
  obtain ⟨fd, d, b⟩ := D.ex
  exact ⟨fd, ps, C8.fn0 d.fn S len hbody, d.kp, b⟩
theorem cal_at {x : Str} {st : Stmt} {f : Addr} {ps : List Str} {k : Nat} {sp : Sp} (D : DefX K mg x st ps f) (c : C8.CalAt P w K mg base k f sp) : Cal P w K mg base k x sp [] := by
  obtain ⟨fd, d, b⟩ := D.ex
  obtain ⟨fd', ps', F, kp, b'⟩ := c.ex
  exact ⟨f, fd', ps', [], F, d.mgf, kp, b', .nil⟩
theorem met_of {m qual : Str} {C : Addr} {st : Stmt} {N ps : List Str} {k : Nat} {sp : Sp} (c : OwnC K C) (D : MethX K C m qual st ps) (S : FnScope N ps (fnScope st)) (len : ∀ vs H Q E, sp vs H Q E → vs.length = ps.length)
    (hbody : ∀ (f : Addr) (cdv : Value) (A : Around) (outer : List Env) (s : Shared) (H : Hp) (vs : List V) (Q : VK) (E : XK), Room k (A.deeper (envOfC qual (fnScope st) s.heap.objs.size f cdv)) → sp vs H Q E →
      ∃ t, PSs (cxOf C8.CX0 P w K mg base N qual (fnScope st) f cdv A outer s H E).nox (fnBody st) t ∧ t { nx := fun _ H' => Q .non H', rt := Q } (start N vs) H) : Met P w K mg base (k + 1) C m sp [] := by
  obtain ⟨f, fd, me, d, b⟩ := D.ex
  exact C8.met0 c.cl me d b S len (hbody f)
theorem mak_of {x qual : Str} {C : Addr} {st : Stmt} {N ps : List Str} {k : Nat} {sp : Sp} (D : MakX K mg x C qual st ps) (S : FnScope N ps (fnScope st)) (len : ∀ vs H Q E, sp vs H Q E → vs.length = ps.length)
    (hbody : ∀ (f : Addr) (cdv : Value) (A : Around) (outer : List Env) (s : Shared) (H : Hp) (vs : List V) (Q : VK) (E : XK), Room k (A.deeper (envOfC qual (fnScope st) s.heap.objs.size f cdv)) → sp vs H Q E →
      ∃ t, PSs (cxOf C8.CX0 P w K mg base N qual (fnScope st) f cdv A outer s H E).nox (fnBody st) t ∧ t { nx := fun _ H' => Q .non H', rt := Q } (start N vs) H) : Mak P w K mg base (k + 1) x C sp [] := by
  obtain ⟨f, fd, me, hm, d, b⟩ := D.ex
  exact C8.mak0 me hm d b .nil S len (hbody f)
/-! ### isinstance -/
theorem isT {H : Hp} {a : Addr} {xs : List V} (h : SqT K H a xs) : TyX K H (.ref a) (.type "tuple") := by
  rcases h with (h | ⟨o, h⟩) | ⟨o, _, _, h, c, _⟩
  · exact .base (.tup h)
  · exact .fTuple h
  · exact .kTuple h c
theorem isL {H : Hp} {a : Addr} {xs : List V} (h : SqL K H a xs) : TyX K H (.ref a) (.type "list") := by
  rcases h with (h | ⟨o, h⟩) | ⟨o, _, _, h, c, _⟩
  · exact .base (.lst h)
  · exact .base (.frz h)
  · exact .kList h c
theorem isB {H : Hp} {Q : VK} {x : V} {t c : String} {b : Bool} (ty : TyX K H x (.type t)) (h : kitB t c = some b) (q : Q (.bl b) H) : rIsi K [x, .ty c] H Q := ⟨x, _, _, _, b, rfl, .ty c, ty, kit_ty h, q⟩
theorem isO {H : Hp} {Q : VK} {x : V} {C D : Addr} {b : Bool} (ty : TyX K H x (.ref C)) (h : PySem.W.kitOne K (.ref C) (.ref D) = some b) (q : Q (.bl b) H) : rIsi K [x, .ref D] H Q := ⟨x, _, _, _, b, rfl, .own D, ty, h, q⟩
theorem tyI {H : Hp} {i : Int} : TyX K H (.int i) (.type "int") := .base (.int i)
theorem tyS {H : Hp} {x : Str} : TyX K H (.str x) (.type "str") := .base (.str x)
theorem tyB {H : Hp} {b : Bool} : TyX K H (.bl b) (.type "bool") := .base (.bl b)
end
end BW
set_option Elab.async false
set_option linter.all false
set_option maxRecDepth 100000
set_option maxHeartbeats 4000000
set_option pp.maxSteps 3000
namespace BW
open PySem PySem.Spec PyProof.Rows L2
open C8 (Cal Met Mak pe_c pe_mk pe_mt pe_mt0 pe_gc sl_txt fnBody fnScope fnArgs)
local macro_rules | `(tactic| walk_at "v") => `(tactic| refine ⟨_, rfl, ?_⟩)
local macro_rules | `(tactic| walk_at "i2") => `(tactic| refine ⟨_, _, rfl, rfl, ?_⟩)
local macro_rules | `(tactic| walk_at "k") => `(tactic| exact (by decide +kernel))
local macro_rules | `(tactic| walk_at "s") => `(tactic| repeat (first | refine ⟨_, rfl, ?_⟩ | refine ⟨_, _, rfl, rfl, ?_⟩ | refine ⟨rfl, ?_⟩ | refine ⟨⟨_, rfl⟩, ?_⟩ | refine iteT ?_ | refine iteF ?_ | refine ⟨_, _, _, _, _, rfl, .ty _, tyI, kit_ty kit_int_int, ?_⟩ | refine ⟨_, _, _, _, _, rfl, .ty _, tyI, kit_ty kit_int_bool, ?_⟩ | refine ⟨_, _, _, _, _, rfl, .ty _, tyS, kit_ty kit_str_str, ?_⟩ | refine ⟨_, _, _, _, _, rfl, .ty _, tyB, kit_ty kit_bool_bool, ?_⟩ | refine ⟨_, _, _, _, _, rfl, by assumption, by assumption, by assumption, rfl, ?_⟩))
local macro_rules | `(tactic| walk_at "o") => `(tactic| repeat (first | refine ⟨_, rfl, ?_⟩ | refine ⟨_, _, rfl, rfl, ?_⟩ | refine ⟨rfl, ?_⟩ | refine ⟨⟨_, rfl⟩, ?_⟩ | refine iteT ?_ | refine iteF ?_ | refine ⟨_, _, _, _, _, rfl, .ty _, tyI, kit_ty kit_int_int, ?_⟩ | refine ⟨_, _, _, _, _, rfl, .ty _, tyI, kit_ty kit_int_bool, ?_⟩ | refine ⟨_, _, _, _, _, rfl, .ty _, tyS, kit_ty kit_str_str, ?_⟩ | refine ⟨_, _, _, _, _, rfl, .ty _, tyB, kit_ty kit_bool_bool, ?_⟩ | refine ⟨_, _, _, _, _, rfl, by assumption, by assumption, by assumption, rfl, ?_⟩ | refine iteDF (by omega) ?_ | refine iteD (by omega) ?_ | refine ⟨_, _, _, rfl, by omega, by omega, ?_⟩ | refine And.intro (by omega) ?_))

theorem pe_ty {X : Cx} {x : Str} {n : String} {pos : Pos} (hg : Gl X x) (hm : X.mg x = none) (hv : bootBuiltins x = some (.type n)) (hn : x ≠ "__name__" := by decide) (hd : (x == ("__debug__" : Str)) = false := by decide) : PE X (.Name x pos) (tC (.ty n)) := pe_bltn hg hm hv rfl hn hd
theorem boot_bool_ : bootBuiltins "bool" = some (.type "bool") := by decide +kernel
theorem boot_isinstance_ : bootBuiltins "isinstance" = some (.builtin "isinstance") := by decide +kernel
theorem boot_len_ : bootBuiltins "len" = some (.builtin "len") := by decide +kernel
theorem boot_all_ : bootBuiltins "all" = some (.builtin "all") := by decide +kernel
theorem boot_sum_ : bootBuiltins "sum" = some (.builtin "sum") := by decide +kernel
theorem boot_max_ : bootBuiltins "max" = some (.builtin "max") := by decide +kernel
theorem boot_divmod_ : bootBuiltins "divmod" = some (.builtin "divmod") := by decide +kernel
theorem boot_sorted_ : bootBuiltins "sorted" = some (.builtin "sorted") := by decide +kernel
theorem boot_str_ : bootBuiltins "str" = some (.type "str") := by decide +kernel
theorem boot_int_ : bootBuiltins "int" = some (.type "int") := by decide +kernel
theorem boot_list_ : bootBuiltins "list" = some (.type "list") := by decide +kernel
theorem boot_tuple_ : bootBuiltins "tuple" = some (.type "tuple") := by decide +kernel
theorem kit_int_int : kitB "int" "int" = some true := by decide +kernel
theorem kit_int_bool : kitB "int" "bool" = some false := by decide +kernel
theorem kit_bool_bool : kitB "bool" "bool" = some true := by decide +kernel
theorem kit_str_str : kitB "str" "str" = some true := by decide +kernel
theorem kit_tuple_tuple : kitB "tuple" "tuple" = some true := by decide +kernel
theorem kit_list_list : kitB "list" "list" = some true := by decide +kernel
section
variable {X : Cx}
theorem ixT (K : PySem.W.Frag) (h : X.K = K := by rfl) : IxR X (rIxT K) := by subst h; exact ix_tup
theorem ixL (K : PySem.W.Frag) (h : X.K = K := by rfl) : IxR X (rIxL K) := by subst h; exact ix_list
theorem crSum (K : PySem.W.Frag) (hc : X.calm = true) (h : X.K = K := by rfl) : CallR X (.builtin "sum") (rSum K) := by subst h; exact cr_sum hc
theorem callIsi (K : PySem.W.Frag) (h : X.K = K := by rfl) : CallR X (.builtin "isinstance") (rIsi K) := by subst h; exact call_isi
theorem peFld (K : PySem.W.Frag) {e : Expr} {f : Str} {pos : Pos} {ta : TE} (he : PE X e ta) (hb : attributeBase e f X.env (eval e X.env) = eval e X.env) (h : X.K = K := by rfl) : PE X (.Attribute e f pos) (tFld K ta f) := by subst h; exact pe_fld he hb
end
theorem sz {n : Nat} (h : n ≤ 100000) : n ≤ sizeLine := Nat.le_trans h (by decide)
theorem szl {n : Nat} (h : n < 100000) : n < sizeLine := Nat.lt_of_lt_of_le h (by decide)
theorem iteD {c A B : Prop} [Decidable c] (hc : c) (h : A) : if decide c = true then A else B := by
  rw [decide_eq_true hc]
  exact iteT h
theorem iteDF {c A B : Prop} [Decidable c] (hc : ¬ c) (h : B) : if decide c = true then A else B := by
  rw [decide_eq_false hc]
  exact iteF h
theorem iteN {c A B : Prop} [Decidable c] (hc : c) (h : B) : if (!decide c) = true then A else B := by
  rw [decide_eq_true hc]
  exact iteF h
theorem iteNF {c A B : Prop} [Decidable c] (hc : ¬ c) (h : A) : if (!decide c) = true then A else B := by
  rw [decide_eq_false hc]
  exact iteT h
theorem iteET {b : Bool} {A B : Prop} (h : b = true) (q : A) : if b = true then A else B := by
  rw [h]
  exact iteT q
theorem iteEF {b : Bool} {A B : Prop} (h : b = false) (q : B) : if b = true then A else B := by
  rw [h]
  exact iteF q
theorem Grow.newAt {G H H' : Hp} {p : Addr} {o : HO} (s : Same G H) (h : Same H H') (hp : H p = none) (e : H' p = some o) : Grow No G H (upd G p o) H' :=
  (Grow.of_same s h).fix e hp (s.free hp)
theorem bls {acc : List V} {f : Nat → Bool} (h : ∀ (i : Nat) v, acc[i]? = some v → v = .bl (f i)) : acc = ((List.range acc.length).map f).map V.bl := by
  refine List.ext_getElem? fun i => ?_
  by_cases hi : i < acc.length
  · rw [List.getElem?_eq_getElem hi]
    have e := h i _ (List.getElem?_eq_getElem hi)
    rw [e]
    simp [hi]
  · rw [List.getElem?_eq_none (by omega), List.getElem?_eq_none (by simp; omega)]
theorem all_trues (n : Nat) : ((List.range n).map fun _ => true).all id = true := by simp
section
variable {K : PySem.W.Frag} {H : Hp} {Q : VK}
theorem isii {i : Int} (q : Q (.bl true) H) : rIsi K [.int i, .ty "int"] H Q := isB tyI kit_int_int q
theorem isib {i : Int} (q : Q (.bl false) H) : rIsi K [.int i, .ty "bool"] H Q := isB tyI kit_int_bool q
theorem isbb {b : Bool} (q : Q (.bl true) H) : rIsi K [.bl b, .ty "bool"] H Q := isB tyB kit_bool_bool q
theorem isss {x : Str} (q : Q (.bl true) H) : rIsi K [.str x, .ty "str"] H Q := isB tyS kit_str_str q
theorem istt {a : Addr} {xs : List V} (h : SqT K H a xs) (q : Q (.bl true) H) : rIsi K [.ref a, .ty "tuple"] H Q := isB (isT h) kit_tuple_tuple q
theorem isll {a : Addr} {xs : List V} (h : SqL K H a xs) (q : Q (.bl true) H) : rIsi K [.ref a, .ty "list"] H Q := isB (isL h) kit_list_list q
end
end BW
set_option Elab.async false
set_option linter.all false
set_option maxRecDepth 100000
set_option maxHeartbeats 4000000
namespace BW
open PySem PySem.Spec PyProof.Rows L2
open SX (S)

/-! ### numbers' words as lists of signs -/
def numC (i : Int) : List Nat := if i < 0 then 45 :: TL.numL i.natAbs else TL.numL i.natAbs
theorem numC_nat (n : Nat) : numC (n : Int) = TL.numL n := by
  unfold numC
  rw [if_neg (by omega), Int.natAbs_natCast]
theorem str_num {i : Int} (h : -10 < i) : Str.ofString (toString i) = S (numC i) := by
  by_cases h0 : i < 0
  · have : i = -1 ∨ i = -2 ∨ i = -3 ∨ i = -4 ∨ i = -5 ∨ i = -6 ∨ i = -7 ∨ i = -8 ∨ i = -9 := by omega
    rcases this with rfl | rfl | rfl | rfl | rfl | rfl | rfl | rfl | rfl <;> decide +kernel
  · obtain ⟨n, rfl⟩ : ∃ n : Nat, i = n := ⟨i.toNat, by omega⟩
    rw [numC_nat]
    exact SX.num_S n
theorem numL_pos {n : Nat} (h : n ≠ 0) : (TL.numL n).head? ≠ some 48 := by
  induction n using Nat.strongRecOn with
  | _ n ih =>
    by_cases h1 : n < 10
    · rw [TL.numL_lt h1]
      simp
      omega
    · rw [TL.numL_step (by omega), List.head?_append]
      have := ih (n / 10) (by omega) (by omega)
      have hne := TL.numL_ne (n / 10)
      cases e : (TL.numL (n / 10)).head? with
      | none => rw [List.head?_eq_none_iff] at e; exact absurd e hne
      | some c => rw [e] at this; simpa using this
theorem numL_len4 {n : Nat} (h : n < 10000) : (TL.numL n).length ≤ 4 := TL.numL_len (by decide) (by simpa using h)
theorem numL_one (n : Nat) : 1 ≤ (TL.numL n).length := List.length_pos_iff.mpr (TL.numL_ne n)
theorem S_len' (a : List Nat) : (S a).length = a.length := SX.S_len a
theorem S_tl' (a : List Nat) : (S a).cps.toList = a := rfl
theorem lit_ (s : String) (l : List Nat) (h : (Str.ofString s).cps.toList = l) : Str.ofString s = S l := by
  rw [← h]
theorem sw_S (c d : Nat) (r : List Nat) : Txt.startswith (S (c :: r)) (S [d]) = (c == d) := by
  unfold Txt.startswith
  have h1 : decide (0 + (S [d]).length ≤ (S (c :: r)).length) = true := decide_eq_true (by rw [S_len', S_len']; simp)
  rw [h1, Bool.true_and]
  simp [PySem.Builtin.Str.subAt, S_len']
theorem from1_S (c : Nat) (r : List Nat) : Txt.slice (S (c :: r)) (some 1) none = S r := SX.from_app [c] r rfl
theorem par_some (c : Nat) {p : List Nat} (q : List Nat) (h : c ∉ p) : Txt.partition (S (p ++ c :: q)) (S [c]) = (S p, S [c], S q) :=
  SX.partition_some (List.cons_ne_nil _ _) (SX.par_head (sep := []) q h)
theorem par_none (c : Nat) {p : List Nat} (h : c ∉ p) : Txt.partition (S p) (S [c]) = (S p, S [], S []) :=
  SX.partition_none (List.cons_ne_nil _ _) (SX.par_head_none (sep := []) h)
theorem split_join (c : Nat) (hc : c < 256) {ws : List (List Nat)} (hne : ws ≠ []) (h : ∀ w ∈ ws, c ∉ w) : Txt.split (S (TL.joinL [c] ws)) (S [c]) = ws.map S := by
  rw [SX.split_S (List.cons_ne_nil _ _) (by simpa using hc), SX.spl_join hne h]
theorem inV_strs {x : Str} : ∀ {ws : List Str}, (∀ w ∈ ws, w ≠ x) → inV (.str x) (ws.map V.str) = false
  | [], _ => rfl
  | w :: ws, h => by
    show (eqV (.str w) (.str x) || inV (.str x) (ws.map V.str)) = false
    rw [inV_strs fun z hz => h z (List.mem_cons_of_mem _ hz), Bool.or_false]
    exact beq_eq_false_iff_ne.mpr (h w List.mem_cons_self)
theorem flat_strs : ∀ {ws : List Str}, (ws.map V.str).all flatV = true
  | [] => rfl
  | w :: ws => by
    show (flatV (.str w) && (ws.map V.str).all flatV) = true
    rw [flat_strs] <;> rfl
theorem inV_ints {x : Int} : ∀ {ws : List Int}, (∀ w ∈ ws, w ≠ x) → inV (.int x) (ws.map V.int) = false
  | [], _ => rfl
  | w :: ws, h => by
    show (eqV (.int w) (.int x) || inV (.int x) (ws.map V.int)) = false
    rw [inV_ints fun z hz => h z (List.mem_cons_of_mem _ hz), Bool.or_false]
    exact beq_eq_false_iff_ne.mpr (h w List.mem_cons_self)
theorem atI_0 {α : Type} {c : α} {r : List α} : atI (c :: r) 0 = some c := atI_nat (j := 0) rfl
theorem atI_1 {α : Type} {c d : α} {r : List α} : atI (c :: d :: r) 1 = some d := atI_nat (j := 1) rfl
theorem atI_2 {α : Type} {c d e : α} {r : List α} : atI (c :: d :: e :: r) 2 = some e := atI_nat (j := 2) rfl
theorem atI_3 {α : Type} {c d e f : α} {r : List α} : atI (c :: d :: e :: f :: r) 3 = some f := atI_nat (j := 3) rfl
theorem atI_4 {α : Type} {c d e f g : α} {r : List α} : atI (c :: d :: e :: f :: g :: r) 4 = some g := atI_nat (j := 4) rfl
theorem atI_5 {α : Type} {c d e f g k : α} {r : List α} : atI (c :: d :: e :: f :: g :: k :: r) 5 = some k := atI_nat (j := 5) rfl
theorem pair_eq {a b c d : Int} (h1 : a = c) (h2 : b = d) : [V.int a, V.int b] = [V.int c, V.int d] := by rw [h1, h2]
def SyllOk (l : List Nat) : Prop := 1 ≤ l.length ∧ l.length ≤ 12 ∧ ∀ c ∈ l, c ∈ (Str.ofString "abcdefghijklmnopqrstuvwxyzABCDEFGHIJKLMNOPQRSTUVWXYZ-").cps.toList
theorem ixN_last {α : Type} (xs : List α) (v : α) : ixN (xs ++ [v]).length (-1) = some xs.length := by
  have hl : (xs ++ [v]).length = xs.length + 1 := by simp
  unfold ixN
  rw [hl, if_neg (by decide), if_pos (by omega)]
  congr 1
  omega
theorem set_last {α : Type} (xs : List α) (v x : α) : (xs ++ [v]).set xs.length x = xs ++ [x] := by
  rw [List.set_append_right _ _ (Nat.le_refl _), Nat.sub_self]
  rfl
theorem last_app {α : Type} (xs : List α) (v : α) : (xs ++ [v])[(xs ++ [v]).length - 1]? = some v := by
  rw [List.length_append, List.length_singleton, Nat.add_sub_cancel, List.getElem?_append_right (Nat.le_refl _), Nat.sub_self]
  rfl
/-- grains as a fraction's word: top over bottom -/
def fracC (top bottom : Nat) : List Nat := if bottom = 1 then TL.numL top else TL.numL top ++ 47 :: TL.numL bottom
def amtC (n : Nat) : List Nat := fracC (n / Nat.gcd n 96) (96 / Nat.gcd n 96)
/-- w tells n grains -/
def AmtW (w : List Nat) (n : Nat) : Prop := ∃ top bottom : Nat, 1 ≤ top ∧ top < 10000 ∧ 1 ≤ bottom ∧ bottom < 10000 ∧ 96 * top = n * bottom ∧ n ≤ 4608 ∧ (w = TL.numL top ∧ bottom = 1 ∨ w = TL.numL top ++ 47 :: TL.numL bottom)
theorem amtW_fracC {top bottom n : Nat} (h1 : 1 ≤ top) (h2 : top < 10000) (h3 : 1 ≤ bottom) (h4 : bottom < 10000) (h5 : 96 * top = n * bottom) (h6 : n ≤ 4608) : AmtW (fracC top bottom) n := by
  refine ⟨top, bottom, h1, h2, h3, h4, h5, h6, ?_⟩
  unfold fracC
  by_cases h : bottom = 1
  · exact .inl ⟨if_pos h, h⟩
  · exact .inr (if_neg h)
theorem slash_num {n : Nat} : 47 ∉ TL.numL n := TL.numL_free (.inl (by decide))
theorem S_ne {a b : List Nat} (h : a ≠ b) : S a ≠ S b := fun e => h (SX.S_inj e)
end BW
set_option Elab.async false
set_option linter.all false
set_option maxRecDepth 100000
set_option maxHeartbeats 4000000
namespace BW
open PySem PySem.Spec PyProof.Rows L2
open SX (S)
/-! ### pitches, metres, sounds, bars: typed, as data, as signs -/
structure Pit where
  (step lean oct : Int)
structure PitOk (p : Pit) : Prop where
  s0 : 0 ≤ p.step
  s1 : p.step ≤ 6
  l0 : -2 ≤ p.lean
  l1 : p.lean ≤ 2
  o0 : 0 ≤ p.oct
  o1 : p.oct ≤ 8
def pitD (p : Pit) : PyData := .tuple [.int p.step, .int p.lean, .int p.oct]
def stepC (s : Int) : Nat := if s = 0 then 99 else if s = 1 then 100 else if s = 2 then 101 else if s = 3 then 102 else if s = 4 then 103 else if s = 5 then 97 else 98
def leanC (l : Int) : List Nat := if l = -2 then [45, 45] else if l = -1 then [45] else if l = 0 then [] else if l = 1 then [43] else [43, 43]
def pitC (p : Pit) : List Nat := stepC p.step :: (leanC p.lean ++ [48 + p.oct.toNat])
def Pit.line (p : Pit) : Int := 7 * p.oct + p.step
theorem step7 {s : Int} (h0 : 0 ≤ s) (h1 : s ≤ 6) : s = 0 ∨ s = 1 ∨ s = 2 ∨ s = 3 ∨ s = 4 ∨ s = 5 ∨ s = 6 := by omega
theorem lean5 {s : Int} (h0 : -2 ≤ s) (h1 : s ≤ 2) : s = -2 ∨ s = -1 ∨ s = 0 ∨ s = 1 ∨ s = 2 := by omega
theorem oct9 {s : Int} (h0 : 0 ≤ s) (h1 : s ≤ 8) : s = 0 ∨ s = 1 ∨ s = 2 ∨ s = 3 ∨ s = 4 ∨ s = 5 ∨ s = 6 ∨ s = 7 ∨ s = 8 := by omega
theorem find_step {s : Int} (h0 : 0 ≤ s) (h1 : s ≤ 6) : Txt.find (Str.ofString "cdefgab") (⟨#[stepC s]⟩ : Str) = s := by
  rcases step7 h0 h1 with rfl | rfl | rfl | rfl | rfl | rfl | rfl <;> decide +kernel
theorem find_oct {s : Int} (h0 : 0 ≤ s) (h1 : s ≤ 8) : Txt.find (Str.ofString "012345678") (⟨#[48 + s.toNat]⟩ : Str) = s := by
  rcases oct9 h0 h1 with rfl | rfl | rfl | rfl | rfl | rfl | rfl | rfl | rfl <;> decide +kernel
theorem slice_mid (c o : Nat) {l : Int} (h0 : -2 ≤ l) (h1 : l ≤ 2) : Txt.slice (S (c :: (leanC l ++ [o]))) (some 1) (some (-1)) = S (leanC l) := by
  rw [← C8.cutS_slice]
  rcases lean5 h0 h1 with rfl | rfl | rfl | rfl | rfl <;> rfl
theorem leansT_at {l : Int} (h0 : -2 ≤ l) (h1 : l ≤ 2) : leansT (S (leanC l)) = some (some (.int l)) := by
  rcases lean5 h0 h1 with rfl | rfl | rfl | rfl | rfl <;> decide +kernel
theorem at_step {s : Int} (h0 : 0 ≤ s) (h1 : s ≤ 6) : atI (Str.ofString "cdefgab").cps.toList s = some (stepC s) := by
  rcases step7 h0 h1 with rfl | rfl | rfl | rfl | rfl | rfl | rfl <;> decide +kernel
theorem at_oct {s : Int} (h0 : 0 ≤ s) (h1 : s ≤ 8) : atI (Str.ofString "012345678").cps.toList s = some (48 + s.toNat) := by
  rcases oct9 h0 h1 with rfl | rfl | rfl | rfl | rfl | rfl | rfl | rfl | rfl <;> decide +kernel
theorem leanC_len {l : Int} : (leanC l).length ≤ 2 := by
  unfold leanC
  split
  · decide
  · split
    · decide
    · split
      · decide
      · split <;> decide
theorem pitC_len (p : Pit) : (pitC p).length = (leanC p.lean).length + 2 := by
  unfold pitC
  simp
theorem lean_neg {l : Int} (h0 : -2 ≤ l) (h1 : l < 0) : Rep (Str.ofString "-") (0 - l) = S (leanC l) := by
  have : l = -2 ∨ l = -1 := by omega
  rcases this with rfl | rfl <;> decide +kernel
theorem lean_pos {l : Int} (h0 : 0 ≤ l) (h1 : l ≤ 2) : Rep (Str.ofString "+") l = S (leanC l) := by
  have : l = 0 ∨ l = 1 ∨ l = 2 := by omega
  rcases this with rfl | rfl | rfl <;> decide +kernel

structure Met where
  (top bot : Nat) (gs : List Nat)
  deriving DecidableEq
def intsD (gs : List Nat) : List PyData := gs.map fun g => .int (g : Nat)
def metD (m : Met) : PyData := .tuple [.int m.top, .int m.bot, .tuple (intsD m.gs)]
def metC (m : Met) : List Nat := TL.numL m.top ++ 47 :: (TL.numL m.bot ++ (if m.gs = [] then [] else 58 :: TL.joinL [43] (m.gs.map TL.numL)))
def Met.bar (m : Met) : Nat := m.top * 96 / m.bot
structure MetOk (m : Met) : Prop where
  t0 : 1 ≤ m.top
  t1 : m.top ≤ 12
  b0 : m.bot = 2 ∨ m.bot = 4 ∨ m.bot = 8
  g0 : ∀ g ∈ m.gs, 1 ≤ g ∧ g ≤ m.top
  g1 : m.gs.length ≤ 12
  g2 : m.gs = [] ∨ m.gs.sum = m.top
  br : m.bar ≤ 192
theorem intsD_eq (gs : List Nat) : intsD gs = (gs.map fun g : Nat => (g : Int)).map PyData.int := by
  unfold intsD
  rw [List.map_map]
  rfl
theorem ints_at {gs : List Nat} {i : Nat} {v : V} (h : ((gs.map fun g : Nat => (g : Int)).map V.int)[i]? = some v) : ∃ z, gs[i]? = some z ∧ v = .int (z : Nat) := by
  rw [List.getElem?_map, List.getElem?_map] at h
  cases hz : gs[i]? with
  | none => rw [hz] at h; cases h
  | some z => rw [hz] at h; cases h; exact ⟨z, rfl, rfl⟩
theorem sum_cast : ∀ gs : List Nat, (gs.map fun g : Nat => (g : Int)).sum = ((gs.sum : Nat) : Int)
  | [] => rfl
  | g :: gs => by
    rw [List.map_cons, List.sum_cons, List.sum_cons, sum_cast gs, Int.natCast_add]
theorem sum_le {α : Type} {f : α → Nat} {B : Nat} : ∀ {l : List α}, (∀ x ∈ l, f x ≤ B) → (l.map f).sum ≤ B * l.length
  | [], _ => Nat.zero_le _
  | x :: l, h => by
    have h1 := h x List.mem_cons_self
    have h2 := sum_le (l := l) fun z hz => h z (List.mem_cons_of_mem _ hz)
    rw [List.map_cons, List.sum_cons, List.length_cons, Nat.mul_succ]
    omega
theorem joinL_len {s : List Nat} {B : Nat} : ∀ {l : List (List Nat)}, (∀ x ∈ l, x.length ≤ B) → (TL.joinL s l).length ≤ (B + s.length) * l.length
  | [], _ => Nat.zero_le _
  | [p], h => by
    have := h p List.mem_cons_self
    show p.length ≤ (B + s.length) * 1
    omega
  | p :: q :: r, h => by
    have h1 := h p List.mem_cons_self
    have h2 := joinL_len (s := s) (l := q :: r) fun z hz => h z (List.mem_cons_of_mem _ hz)
    show (p ++ (s ++ TL.joinL s (q :: r))).length ≤ (B + s.length) * ((q :: r).length + 1)
    rw [List.length_append, List.length_append, Nat.mul_succ]
    omega
theorem mem_joinL {c : Nat} {s : List Nat} : ∀ {l : List (List Nat)}, c ∈ TL.joinL s l → c ∈ s ∨ ∃ x ∈ l, c ∈ x
  | [], h => by cases h
  | [p], h => .inr ⟨p, List.mem_cons_self, h⟩
  | p :: q :: r, h => by
    have h' : c ∈ p ++ (s ++ TL.joinL s (q :: r)) := h
    rcases List.mem_append.mp h' with h | h
    · exact .inr ⟨p, List.mem_cons_self, h⟩
    · rcases List.mem_append.mp h with h | h
      · exact .inl h
      · rcases mem_joinL h with h | ⟨x, hx, h⟩
        · exact .inl h
        · exact .inr ⟨x, List.mem_cons_of_mem _ hx, h⟩
theorem canLay_ints : ∀ ns : List Int, PyData.canLayAll0 (ns.map .int) = true
  | [] => by simp [PyData.canLayAll0]
  | n :: ns => by
    show PyData.canLayAll0 (.int n :: ns.map .int) = true
    rw [PyData.canLayAll0, canLay_ints ns] <;> rfl
theorem shaped_ints (ns : List Int) : SeqAt.shaped (.tuple (ns.map .int)) = true := by
  unfold SeqAt.shaped
  rw [PyData.canLay0, canLay_ints, Bool.true_and, decide_eq_true_eq, PyData.depth, PySem.W.depth_ints]
  decide
theorem shaped_nil : SeqAt.shaped (.tuple []) = true := shaped_ints []
theorem eqv_ints : ∀ ns ms : List Int, PyData.eqvAll (ns.map .int) (ms.map .int) = decide (ns = ms)
  | [], [] => by simp [PyData.eqvAll]
  | [], _ :: _ => by simp [PyData.eqvAll]
  | _ :: _, [] => by simp [PyData.eqvAll]
  | n :: ns, m :: ms => by
    show PyData.eqvAll (.int n :: ns.map .int) (.int m :: ms.map .int) = decide (n :: ns = m :: ms)
    rw [PyData.eqvAll, eqv_ints ns ms, PyData.eqv]
    by_cases h : n = m
    · by_cases h2 : ns = ms
      · subst h; subst h2; simp
      · simp [h, h2]
    · simp [h]
theorem eqv_tup (ns ms : List Int) : PyData.eqv (.tuple (ns.map .int)) (.tuple (ms.map .int)) = decide (ns = ms) := by
  rw [PyData.eqv, eqv_ints]
theorem eqv_tupNil (ns : List Int) : PyData.eqv (.tuple (ns.map .int)) (.tuple []) = decide (ns = []) := eqv_tup ns []
theorem metC_free {m : Met} : 58 ∉ TL.numL m.top ++ 47 :: TL.numL m.bot := fun hm => by
  rcases List.mem_append.mp hm with h | h
  · exact TL.numL_free (.inr (by decide)) h
  · rcases List.mem_cons.mp h with h | h
    · exact absurd h (by decide)
    · exact TL.numL_free (.inr (by decide)) h
theorem metC_front0 {m : Met} (hg : m.gs = []) : Txt.partition (S (metC m)) (S [58]) = (S (TL.numL m.top ++ 47 :: TL.numL m.bot), S [], S []) := by
  have e : metC m = TL.numL m.top ++ 47 :: TL.numL m.bot := by unfold metC; rw [if_pos hg, List.append_nil]
  rw [e, par_none 58 metC_free]
theorem metC_front1 {m : Met} (hg : m.gs ≠ []) : Txt.partition (S (metC m)) (S [58]) = (S (TL.numL m.top ++ 47 :: TL.numL m.bot), S [58], S (TL.joinL [43] (m.gs.map TL.numL))) := by
  have e : metC m = (TL.numL m.top ++ 47 :: TL.numL m.bot) ++ 58 :: TL.joinL [43] (m.gs.map TL.numL) := by unfold metC; rw [if_neg hg, List.append_assoc]; rfl
  rw [e, par_some 58 _ metC_free]
theorem metC_len {m : Met} (h : MetOk m) : (metC m).length ≤ 100 := by
  have h1 := h.t1
  have h2 := h.b0
  have h3 := h.g1
  have k1 := numL_len4 (n := m.top) (by omega)
  have k2 := numL_len4 (n := m.bot) (by omega)
  have k3 : (TL.joinL [43] (m.gs.map TL.numL)).length ≤ (4 + 1) * (m.gs.map TL.numL).length := joinL_len fun x hx => by
    obtain ⟨g, hg, rfl⟩ := List.mem_map.mp hx
    exact numL_len4 (by have := (h.g0 g hg).2; omega)
  rw [List.length_map] at k3
  unfold metC
  rw [List.length_append, List.length_cons, List.length_append]
  split
  · simp; omega
  · rw [List.length_cons]; omega
end BW
set_option Elab.async false
set_option linter.all false
set_option maxRecDepth 100000
set_option maxHeartbeats 4000000
namespace BW
open PySem PySem.Spec PyProof.Rows L2
open SX (S)
/-! ### sounds -/
inductive Snd where
  | rest (n : Nat)
  | tones (ps : List Pit) (n : Nat) (w : List Nat) (o c : Bool)
def Snd.len : Snd → Nat
  | .rest n => n
  | .tones _ n _ _ _ => n
def Snd.isRest : Snd → Bool
  | .rest _ => true
  | _ => false
def Rise : List Pit → Prop
  | p :: q :: r => p.line < q.line ∧ Rise (q :: r)
  | _ => True
structure TonesOk (ps : List Pit) (n : Nat) (w : List Nat) : Prop where
  p0 : 1 ≤ ps.length
  p1 : ps.length ≤ 4
  p2 : ∀ p ∈ ps, PitOk p
  p3 : Rise ps
  n0 : 2 ≤ n
  n1 : n ≤ 384
  w0 : w = [] ∨ SyllOk w
def SndOk : Snd → Prop
  | .rest n => 2 ≤ n ∧ n ≤ 4608
  | .tones ps n w _ _ => TonesOk ps n w
def psD (ps : List Pit) : PyData := .list (ps.map pitD)
def sndD : Snd → PyData
  | .rest n => .tuple [.str "rest", .int n]
  | .tones ps n w o c => .tuple [.str "tones", psD ps, .int n, .str (S w), .bool o, .bool c]
def restF (n : Nat) : List (Str × V) := [("length", .int n)]
def tonesF (n : Nat) (pl : V) (w : List Nat) (o c : Bool) : List (Str × V) := [("length", .int n), ("pitches", pl), ("word", .str (S w)), ("opens", .bl o), ("closes", .bl c)]
theorem putF_cons {f g : Str} {v x : V} {r : List (Str × V)} (h : g ≠ f) : putF f v ((g, x) :: r) = (g, x) :: putF f v r := by
  show (if g = f then (g, v) :: r else (g, x) :: putF f v r) = _
  rw [if_neg h]
theorem putF_same {f : Str} {v x : V} {r : List (Str × V)} : putF f v ((f, x) :: r) = (f, v) :: r := by
  show (if f = f then (f, v) :: r else (f, x) :: putF f v r) = _
  rw [if_pos rfl]
/-- a sound's object -/
def SndAt (K : PySem.W.Frag) (A : Ad) (G : Hp) (v : V) : Snd → Prop
  | .rest n => ∃ a dx, v = .ref a ∧ G a = some (.ins A.cRest dx (restF n))
  | .tones ps n w o c => ∃ a dx pl, v = .ref a ∧ G a = some (.ins A.cTones dx (tonesF n pl w o c)) ∧ Dp K G pl (psD ps)
theorem SndAt.mono {K : PySem.W.Frag} {A : Ad} {G G' : Hp} {v : V} (e : Same G G') : ∀ {s : Snd}, SndAt K A G v s → SndAt K A G' v s
  | .rest _, ⟨a, dx, h1, h2⟩ => ⟨a, dx, h1, e _ _ h2⟩
  | .tones .., ⟨a, dx, pl, h1, h2, h3⟩ => ⟨a, dx, pl, h1, e _ _ h2, h3.mono e⟩
/-- such objects one by one -/
def SndsIn (K : PySem.W.Frag) (A : Ad) (G : Hp) (vs : List V) (ss : List Snd) : Prop := vs.length = ss.length ∧ ∀ (i : Nat) (x : V), vs[i]? = some x → ∃ s, ss[i]? = some s ∧ SndAt K A G x s
theorem SndsIn.mono {K : PySem.W.Frag} {A : Ad} {G G' : Hp} {v : List V} {ss : List Snd} (e : Same G G') (h : SndsIn K A G v ss) : SndsIn K A G' v ss := ⟨h.1, fun i x hx => let ⟨s, a, b⟩ := h.2 i x hx; ⟨s, a, b.mono e⟩⟩
theorem SndsIn.snoc {K : PySem.W.Frag} {A : Ad} {G : Hp} {vs : List V} {ss : List Snd} {v : V} {s : Snd} (h : SndsIn K A G vs ss) (hv : SndAt K A G v s) : SndsIn K A G (vs ++ [v]) (ss ++ [s]) := by
  refine ⟨by rw [List.length_append, List.length_append, h.1] <;> rfl, fun i x hx => ?_⟩
  by_cases hi : i < vs.length
  · rw [List.getElem?_append_left hi] at hx
    obtain ⟨t, ht, ha⟩ := h.2 i x hx
    exact ⟨t, by rw [List.getElem?_append_left (by have := h.1; omega)]; exact ht, ha⟩
  · have e : i = vs.length := by
      have := (List.getElem?_eq_some_iff.mp hx).1
      rw [List.length_append, List.length_singleton] at this
      omega
    subst e
    rw [List.getElem?_append_right (Nat.le_refl _), Nat.sub_self] at hx
    cases (Option.some.inj hx)
    exact ⟨s, by rw [List.getElem?_append_right (by have := h.1; omega), h.1, Nat.sub_self]; rfl, hv⟩
/-- .. the last one apart -/
theorem SndsIn.unsnoc {K : PySem.W.Frag} {A : Ad} {G : Hp} {vs : List V} {ss : List Snd} {s : Snd} (h : SndsIn K A G vs (ss ++ [s])) : ∃ us u, vs = us ++ [u] ∧ SndsIn K A G us ss ∧ SndAt K A G u s := by
  have hl := h.1
  rw [List.length_append, List.length_singleton] at hl
  rcases List.eq_nil_or_concat vs with rfl | ⟨us, u, rfl⟩
  · simp at hl
  · rw [List.concat_eq_append] at *
    rw [List.length_append, List.length_singleton] at hl
    refine ⟨us, u, rfl, ⟨by omega, fun i x hx => ?_⟩, ?_⟩
    · have hi : i < us.length := (List.getElem?_eq_some_iff.mp hx).1
      obtain ⟨t, ht, ha⟩ := h.2 i x (by rw [List.getElem?_append_left hi]; exact hx)
      rw [List.getElem?_append_left (by omega)] at ht
      exact ⟨t, ht, ha⟩
    · obtain ⟨t, ht, ha⟩ := h.2 us.length u (by rw [List.getElem?_append_right (Nat.le_refl _), Nat.sub_self]; rfl)
      rw [List.getElem?_append_right (by omega), show us.length - ss.length = 0 by omega] at ht
      cases (Option.some.inj ht)
      exact ha
/-- a list of sounds' objects -/
def SndsAt (K : PySem.W.Frag) (A : Ad) (G : Hp) (v : V) (ss : List Snd) : Prop := ∃ a vs, v = .ref a ∧ SqL K G a vs ∧ vs.length = ss.length ∧ ∀ (i : Nat) (x : V), vs[i]? = some x → ∃ s, ss[i]? = some s ∧ SndAt K A G x s
theorem SndsAt.mono {K : PySem.W.Frag} {A : Ad} {G G' : Hp} {v : V} {ss : List Snd} (e : Same G G') : SndsAt K A G v ss → SndsAt K A G' v ss
  | ⟨a, vs, h1, h2, h3, h4⟩ => ⟨a, vs, h1, e.seq h2, h3, fun i x h => let ⟨s, a, b⟩ := h4 i x h; ⟨s, a, b.mono e⟩⟩

/-! ### rests side by side put together -/
def tidyStep (acc : List Snd) (s : Snd) : List Snd := match s, acc.getLast? with
  | .rest n, some (.rest m) => acc.dropLast ++ [.rest (m + n)]
  | s, _ => acc ++ [s]
def tidyCut (f : List Snd) : List Snd := match f.getLast? with
  | some (.rest _) => f.dropLast
  | _ => f
def tidyL (ss : List Snd) : List Snd := tidyCut (ss.foldl tidyStep [])

theorem snocInd {α : Type} {P : List α → Prop} (h0 : P []) (h1 : ∀ l a, P l → P (l ++ [a])) (l : List α) : P l := by
  have key : ∀ m : List α, P m.reverse := fun m => by
    induction m with
    | nil => exact h0
    | cons a m ih =>
      rw [List.reverse_cons]
      exact h1 _ _ ih
  have := key l.reverse
  rw [List.reverse_reverse] at this
  exact this
theorem tidyStep_snoc (init : List Snd) (x : Snd) (s : Snd) : tidyStep (init ++ [x]) s = match s, x with
    | .rest n, .rest m => init ++ [.rest (m + n)]
    | s, x => init ++ [x] ++ [s] := by
  unfold tidyStep
  rw [List.getLast?_append, List.getLast?_singleton]
  cases s <;> cases x <;> simp
theorem tidyStep_tones (acc : List Snd) (ps : List Pit) (n : Nat) (w : List Nat) (o c : Bool) : tidyStep acc (.tones ps n w o c) = acc ++ [.tones ps n w o c] := by
  unfold tidyStep
  rfl
theorem tidyStep_nil (s : Snd) : tidyStep [] s = [s] := by
  cases s <;> rfl
theorem tidyStep_ne (acc : List Snd) (s : Snd) : tidyStep acc s ≠ [] := by
  rcases List.eq_nil_or_concat acc with rfl | ⟨init, x, rfl⟩
  · rw [tidyStep_nil]
    exact List.cons_ne_nil _ _
  · rw [List.concat_eq_append, tidyStep_snoc]
    cases s <;> cases x <;> simp
def lens (ss : List Snd) : Nat := (ss.map Snd.len).sum
theorem lens_append (a b : List Snd) : lens (a ++ b) = lens a + lens b := by
  unfold lens
  rw [List.map_append, List.sum_append]
theorem lens_one (s : Snd) : lens [s] = s.len := by
  show s.len + 0 = s.len
  omega
theorem tidyStep_lens (acc : List Snd) (s : Snd) : lens (tidyStep acc s) = lens acc + s.len := by
  rcases List.eq_nil_or_concat acc with rfl | ⟨init, x, rfl⟩
  · rw [tidyStep_nil, lens_one]
    show _ = 0 + _
    omega
  · rw [List.concat_eq_append, tidyStep_snoc]
    cases s with
    | tones ps n w o c => cases x <;> (simp only [lens_append, lens_one])
    | rest n =>
      cases x with
      | tones ps n w o c => simp only [lens_append, lens_one]
      | rest m =>
        simp only [lens_append, lens_one, Snd.len]
        omega
def fold (ss : List Snd) : List Snd := ss.foldl tidyStep []
theorem fold_snoc (ss : List Snd) (s : Snd) : fold (ss ++ [s]) = tidyStep (fold ss) s := by
  unfold fold
  rw [List.foldl_append]
  rfl
theorem fold_lens (ss : List Snd) : lens (fold ss) = lens ss := by
  refine snocInd (P := fun ss => lens (fold ss) = lens ss) rfl (fun ss s ih => ?_) ss
  rw [fold_snoc, tidyStep_lens, ih, lens_append, lens_one]
theorem fold_take {ss : List Snd} {i : Nat} {s : Snd} (h : ss[i]? = some s) : fold (ss.take (i + 1)) = tidyStep (fold (ss.take i)) s := by
  rw [List.take_add_one, h]
  exact fold_snoc _ _
theorem fold_ne {ss : List Snd} (h : ss ≠ []) : fold ss ≠ [] := by
  rcases List.eq_nil_or_concat ss with rfl | ⟨init, x, rfl⟩
  · exact absurd rfl h
  · rw [List.concat_eq_append, fold_snoc]
    exact tidyStep_ne _ _
theorem fold_len {ss : List Snd} : (fold ss).length ≤ ss.length := by
  refine snocInd (P := fun ss => (fold ss).length ≤ ss.length) (Nat.le_refl _) (fun ss s ih => ?_) ss
  rw [fold_snoc]
  have : (tidyStep (fold ss) s).length ≤ (fold ss).length + 1 := by
    rcases List.eq_nil_or_concat (fold ss) with e | ⟨init, x, e⟩
    · rw [e, tidyStep_nil]
      exact Nat.le_refl _
    · rw [e, List.concat_eq_append, tidyStep_snoc]
      cases s <;> cases x <;> simp
  rw [List.length_append, List.length_singleton]
  omega
theorem tidyL_eq (ss : List Snd) : tidyL ss = tidyCut (fold ss) := rfl
theorem tidyCut_snoc (init : List Snd) (x : Snd) : tidyCut (init ++ [x]) = if x.isRest = true then init else init ++ [x] := by
  unfold tidyCut
  rw [List.getLast?_append, List.getLast?_singleton]
  cases x <;> simp [Snd.isRest]

/-! ### slurs -/
def slurs : Bool → List Snd → Prop
  | b, [] => b = false
  | b, .rest _ :: r => slurs b r
  | b, .tones _ _ _ o c :: r => (c = true → b = true) ∧ (o = true → b = true → c = true) ∧ slurs (o || (b && !c)) r

/-! ### bars, changes -/
structure Frm where
  (begin : Nat) (met : Met) (key : Int)
def frmD (f : Frm) : PyData := .tuple [.int f.begin, metD f.met, .int f.key]
/-- a change at a bar -/
def chgD {α : Type} (enc : α → PyData) (p : Nat × α) : PyData := .tuple [.int p.1, enc p.2]
end BW
set_option Elab.async false
set_option linter.all false
set_option maxRecDepth 100000
set_option maxHeartbeats 4000000
namespace BW
open PySem PySem.Spec PyProof.Rows L2
open SX (S)
/-! ### data that may be compared -/
def Ly (n : Nat) (d : PyData) : Prop := d.canLay0 = true ∧ d.depth ≤ n
theorem Ly.int {n : Nat} {i : Int} : Ly n (.int i) := ⟨rfl, Nat.zero_le _⟩
theorem Ly.bool {n : Nat} {b : Bool} : Ly n (.bool b) := ⟨rfl, Nat.zero_le _⟩
theorem Ly.none {n : Nat} : Ly n .none := ⟨rfl, Nat.zero_le _⟩
theorem Ly.mono {n m : Nat} {d : PyData} (h : Ly n d) (l : n ≤ m) : Ly m d := ⟨h.1, Nat.le_trans h.2 l⟩
theorem lyAll {n : Nat} : ∀ {ds : List PyData}, (∀ d ∈ ds, Ly n d) → PyData.canLayAll0 ds = true ∧ PyData.depthAll ds ≤ n
  | [], _ => ⟨rfl, Nat.zero_le _⟩
  | d :: ds, h => by
    obtain ⟨a, b⟩ := lyAll fun e he => h e (List.mem_cons_of_mem _ he)
    obtain ⟨c, e⟩ := h d List.mem_cons_self
    refine ⟨?_, ?_⟩
    · rw [PyData.canLayAll0, c, a] <;> rfl
    · rw [PyData.depthAll]
      exact Nat.max_le.mpr ⟨e, b⟩
theorem Ly.list {n : Nat} {ds : List PyData} (h : ∀ d ∈ ds, Ly n d) : Ly (n + 1) (.list ds) := by
  obtain ⟨a, b⟩ := lyAll h
  refine ⟨?_, ?_⟩
  · rw [PyData.canLay0]
    exact a
  · rw [PyData.depth]
    omega
theorem Ly.tuple {n : Nat} {ds : List PyData} (h : ∀ d ∈ ds, Ly n d) : Ly (n + 1) (.tuple ds) := by
  obtain ⟨a, b⟩ := lyAll h
  refine ⟨?_, ?_⟩
  · rw [PyData.canLay0]
    exact a
  · rw [PyData.depth]
    omega
theorem Ly.shaped {n : Nat} {d : PyData} (h : Ly n d) (l : n ≤ 64) : SeqAt.shaped d = true := by
  unfold SeqAt.shaped
  rw [h.1, Bool.true_and]
  exact decide_eq_true (Nat.le_trans h.2 l)
theorem Ly.refl {n : Nat} {d : PyData} (h : Ly n d) : PyData.eqv d d = true := SeqAt.eqv_refl d h.1
theorem ly1 {n : Nat} {d : PyData} (h : Ly n d) : ∀ e ∈ [d], Ly n e := fun e he => by rw [List.mem_singleton.mp he]; exact h
theorem lyc {n : Nat} {d : PyData} {ds : List PyData} (h : Ly n d) (t : ∀ e ∈ ds, Ly n e) : ∀ e ∈ d :: ds, Ly n e := fun e he => by
  rcases List.mem_cons.mp he with rfl | he
  · exact h
  · exact t e he
theorem ly0 {n : Nat} : ∀ e ∈ ([] : List PyData), Ly n e := fun e he => absurd he (List.not_mem_nil)
theorem ly_str {n : Nat} {l : List Nat} (h : ∀ c ∈ l, c < 128) : Ly n (.str (S l)) := by
  refine ⟨?_, Nat.zero_le _⟩
  show (S l).cps.all (· < 0x110000) = true
  rw [← Array.all_toList, List.all_eq_true]
  intro c hc
  exact decide_eq_true (Nat.lt_trans (h c hc) (by decide))
theorem map_cast_inj : ∀ {a b : List Nat}, (a.map fun g : Nat => (g : Int)) = (b.map fun g : Nat => (g : Int)) → a = b
  | [], [], _ => rfl
  | [], _ :: _, h => by simp at h
  | _ :: _, [], h => by simp at h
  | x :: a, y :: b, h => by
    rw [List.map_cons, List.map_cons] at h
    injection h with h1 h2
    rw [map_cast_inj h2, Int.ofNat.inj h1]
theorem ly_met {m : Met} : Ly 2 (metD m) := .tuple (lyc .int (lyc .int (ly1 ((Ly.tuple (n := 0) fun d hd => by
  obtain ⟨g, _, rfl⟩ := List.mem_map.mp hd
  exact .int)))))
theorem eqv_metD {m m' : Met} : PyData.eqv (metD m) (metD m') = decide (m = m') := by
  have e : PyData.eqv (.tuple (intsD m.gs)) (.tuple (intsD m'.gs)) = decide (m.gs = m'.gs) := by
    rw [intsD_eq, intsD_eq, eqv_tup]
    exact decide_eq_decide.mpr ⟨map_cast_inj, fun h => by rw [h]⟩
  unfold metD
  rw [PyData.eqv, PyData.eqvAll, PyData.eqvAll, PyData.eqvAll, PyData.eqvAll, e, PyData.eqv, PyData.eqv]
  cases m with
  | mk t b g =>
    cases m' with
    | mk t' b' g' =>
      simp only [Met.mk.injEq]
      by_cases h1 : t = t' <;> by_cases h2 : b = b' <;> by_cases h3 : g = g' <;> simp [h1, h2, h3, Int.natCast_inj]
      all_goals (try exact fun h => h1 (by omega))
end BW
set_option Elab.async false
set_option linter.all false
set_option maxRecDepth 100000
set_option maxHeartbeats 4000000
namespace BW
open PySem PySem.Spec PyProof.Rows L2
open SX (S)
/-! ### changes, bars -/
def chgsD {α : Type} (enc : α → PyData) (rows : List (Nat × α)) : PyData := .list (rows.map (chgD enc))
structure Chg {α : Type} (enc : α → PyData) (rows : List (Nat × α)) : Prop where
  first : ∃ x, rows[0]? = some (1, x)
  rise : ∀ (i : Nat) p q, rows[i]? = some p → rows[i + 1]? = some q → p.1 < q.1 ∧ PyData.eqv (enc p.2) (enc q.2) = false
  ly : ∀ r ∈ rows, Ly 4 (enc r.2)
  len : rows.length ≤ 1000
/-- the last change at or ahead of a bar -/
def LastAt {α : Type} (rows : List (Nat × α)) (bar : Nat) (x : α) : Prop := ∃ b, (rows.filter fun r => decide (r.1 ≤ bar)).getLast? = some (b, x)
def begs (fs : List Frm) (i : Nat) : Nat := ((fs.take i).map (·.met.bar)).sum
structure Laid (ms : List (Nat × Met)) (ks : List (Nat × Int)) (fs : List Frm) (lasts : Nat) : Prop where
  at_ : ∀ (i : Nat) f, fs[i]? = some f → f.begin = begs fs i ∧ begs fs i < lasts ∧ LastAt ms (i + 1) f.met ∧ LastAt ks (i + 1) f.key ∧ MetOk f.met
  tot : lasts ≤ begs fs fs.length
  len : fs.length ≤ 24
  lm : ∀ p, ms.getLast? = some p → p.1 ≤ fs.length
  lk : ∀ p, ks.getLast? = some p → p.1 ≤ fs.length
theorem begs_succ {fs : List Frm} {i : Nat} {f : Frm} (h : fs[i]? = some f) : begs fs (i + 1) = begs fs i + f.met.bar := by
  unfold begs
  rw [List.take_add_one, h, List.map_append, List.sum_append]
  show _ = _ + _
  congr 1
theorem chg_at {K : PySem.W.Frag} {G : Hp} {α : Type} {enc : α → PyData} {xs : List V} {rows : List (Nat × α)} {i : Nat} {v : V} (h : DpAll K G xs (rows.map (chgD enc))) (hv : xs[i]? = some v) :
    ∃ p, rows[i]? = some p ∧ ∃ a y, v = .ref a ∧ SqT K G a [.int p.1, y] ∧ Dp K G y (enc p.2) := by
  obtain ⟨d, e, q⟩ := h.get hv
  rw [List.getElem?_map] at e
  cases hp : rows[i]? with
  | none => rw [hp] at e; cases e
  | some p =>
    rw [hp] at e
    cases e
    obtain ⟨a, x, y, rfl, ht, rx, ry⟩ := dpT2 q
    cases dpI rx
    exact ⟨p, rfl, a, y, rfl, ht, ry⟩
theorem ly_chgs {α : Type} {enc : α → PyData} {rows : List (Nat × α)} (h : ∀ r ∈ rows, Ly 4 (enc r.2)) : Ly 6 (chgsD enc rows) := .list fun d hd => by
  obtain ⟨r, hr, rfl⟩ := List.mem_map.mp hd
  exact .tuple (lyc .int (ly1 (h r hr)))
theorem fil_range {α : Type} (rows : List α) (p : α → Bool) (f : Nat → Bool) (hf : ∀ (i : Nat) r, rows[i]? = some r → f i = p r) : ((List.range rows.length).filter f).map (fun i => rows[i]?) = (rows.filter p).map some := by
  induction rows generalizing f with
  | nil => rfl
  | cons r rows ih =>
    rw [List.length_cons, List.range_succ_eq_map, List.filter_cons, List.filter_cons, hf 0 r rfl]
    have := ih (fun i => f (i + 1)) fun i x h => hf (i + 1) x h
    by_cases hp : p r = true
    · rw [if_pos hp, if_pos hp, List.map_cons, List.map_cons, List.filter_map, List.map_map]
      congr 1
    · rw [if_neg hp, if_neg hp, List.filter_map, List.map_map]
      exact this
end BW
set_option Elab.async false
set_option linter.all false
set_option maxRecDepth 100000
set_option maxHeartbeats 4000000
set_option pp.maxSteps 3000
namespace BW
open PySem PySem.Spec PyProof.Rows L2
open C8 (Cal Met Mak pe_c pe_mk pe_mt pe_mt0 pe_gc sl_txt fnBody fnScope fnArgs)
local macro_rules | `(tactic| walk_at "v") => `(tactic| refine ⟨_, rfl, ?_⟩)
local macro_rules | `(tactic| walk_at "i2") => `(tactic| refine ⟨_, _, rfl, rfl, ?_⟩)
local macro_rules | `(tactic| walk_at "k") => `(tactic| exact (by decide +kernel))
local macro_rules | `(tactic| walk_at "s") => `(tactic| repeat (first | refine ⟨_, rfl, ?_⟩ | refine ⟨_, _, rfl, rfl, ?_⟩ | refine ⟨rfl, ?_⟩ | refine ⟨⟨_, rfl⟩, ?_⟩ | refine iteT ?_ | refine iteF ?_ | refine ⟨_, _, _, _, _, rfl, .ty _, tyI, kit_ty kit_int_int, ?_⟩ | refine ⟨_, _, _, _, _, rfl, .ty _, tyI, kit_ty kit_int_bool, ?_⟩ | refine ⟨_, _, _, _, _, rfl, .ty _, tyS, kit_ty kit_str_str, ?_⟩ | refine ⟨_, _, _, _, _, rfl, .ty _, tyB, kit_ty kit_bool_bool, ?_⟩ | refine ⟨_, _, _, _, _, rfl, by assumption, by assumption, by assumption, rfl, ?_⟩))
local macro_rules | `(tactic| walk_at "o") => `(tactic| repeat (first | refine ⟨_, rfl, ?_⟩ | refine ⟨_, _, rfl, rfl, ?_⟩ | refine ⟨rfl, ?_⟩ | refine ⟨⟨_, rfl⟩, ?_⟩ | refine iteT ?_ | refine iteF ?_ | refine ⟨_, _, _, _, _, rfl, .ty _, tyI, kit_ty kit_int_int, ?_⟩ | refine ⟨_, _, _, _, _, rfl, .ty _, tyI, kit_ty kit_int_bool, ?_⟩ | refine ⟨_, _, _, _, _, rfl, .ty _, tyS, kit_ty kit_str_str, ?_⟩ | refine ⟨_, _, _, _, _, rfl, .ty _, tyB, kit_ty kit_bool_bool, ?_⟩ | refine ⟨_, _, _, _, _, rfl, by assumption, by assumption, by assumption, rfl, ?_⟩ | refine iteDF (by omega) ?_ | refine iteD (by omega) ?_ | refine ⟨_, _, _, rfl, by omega, by omega, ?_⟩ | refine And.intro (by omega) ?_))

open SX (S)
section
variable {P : Program} {w : World} {K : PySem.W.Frag} {mg : Str → Option Value} {base : Heap} {A : Ad}
def sp_is_whole : Sp := fun vs H Q _ => ∃ i : Int, vs = [.int i] ∧ Q (.bl true) H
theorem ok_is_whole (T : Txt w K mg A) : Cal P w K mg base 1 "is_whole" sp_is_whole [] := by
  obtain ⟨f, d⟩ := T.d_is_whole
  refine cal_of d sc_is_whole (fun vs H Q E h => ?_) (fun cdv A' outer s H vs Q E hr h => ?_)
  · obtain ⟨i, rfl, _⟩ := h; rfl
  · obtain ⟨i, rfl, q⟩ := h
    refine ⟨_, (pss_one (ps_ret (pe_and (pe_callB call_isi (by rfl) T.n_isinstance boot_isinstance_ (pa_cons (pv 0) (pa_cons (pe_ty (by rfl) T.n_int boot_int_) pa_nil))) (pe_one (pe_not (pe_callB call_isi (by rfl) T.n_isinstance boot_isinstance_ (pa_cons (pv 0) (pa_cons (pe_ty (by rfl) T.n_bool boot_bool_) pa_nil)))))))), ?_⟩
    walk_at "s"
    exact q
def sp_is_among : Sp := fun vs H Q _ => ∃ i l m : Int, vs = [.int i, .int l, .int m] ∧ l ≤ i ∧ i ≤ m ∧ Q (.bl true) H
theorem ok_is_among (T : Txt w K mg A) : Cal P w K mg base 2 "is_among" sp_is_among [] := by
  obtain ⟨f, d⟩ := T.d_is_among
  refine cal_of d sc_is_among (fun vs H Q E h => ?_) (fun cdv A' outer s H vs Q E hr h => ?_)
  · obtain ⟨i, l, m, rfl, _⟩ := h; rfl
  · obtain ⟨i, l, m, rfl, h1, h2, q⟩ := h
    refine ⟨_, (pss_one (ps_ret (pe_and (pe_c (ok_is_whole T) hr (by decide) rfl (pa_cons (pv 0) pa_nil)) (pe_one (pe_chain op_le op_le (pv 1) (pv 0) (pv 2)))))), ?_⟩
    walk_at "o"
    rw [← decide_eq_true h2] at q
    exact q
def sp_is_made_of : Sp := fun vs H Q _ => ∃ (x z : List Nat) (m : Int), vs = [.str (S x), .str (S z), .int m] ∧ 1 ≤ x.length ∧ (x.length : Int) ≤ m ∧ x.length ≤ 1000 ∧ (∀ c ∈ x, c ∈ z) ∧ ∀ H', Same H H' → Q (.bl true) H'
theorem ok_is_made_of (T : Txt w K mg A) : Cal P w K mg base 1 "is_made_of" sp_is_made_of [] := by
  obtain ⟨f, d⟩ := T.d_is_made_of
  refine cal_of d sc_is_made_of (fun vs H Q E h => ?_) (fun cdv A' outer s H vs Q E hr h => ?_)
  · obtain ⟨i, l, m, rfl, _⟩ := h; rfl
  · obtain ⟨x, z, m, rfl, h1, h2, h3, hc, q⟩ := h
    refine ⟨_, (pss_cons (ps_if (PW.pt (pw_or (pt_not (pt_val (pe_callB call_isi (by rfl) T.n_isinstance boot_isinstance_ (pa_cons (pv 0) (pa_cons (pe_ty (by rfl) T.n_str boot_str_) pa_nil))))) (pw_or1 (pt_not (pt_chain op_le op_le pe_int (pe_callB call_len_str (by rfl) T.n_len boot_len_ (pa_cons (pv 0) pa_nil)) (pv 2)))))) (pss_one (ps_ret pe_bl)) pss_nil)
    (pss_one (ps_ret (pe_callB (cr_all rfl) (by rfl) T.n_all boot_all_ (pa_cons (pe_lc (own := [("sign", 3)]) (g := (gName 3)) (tt := tYes) (by rfl) sc_is_made_of.nd (pi_str (pv 0)) (blkOk_by (N := N_is_made_of) (sc := (defScope s_is_made_of)) (by decide +kernel)) (fun _ _ _ _ _ => (pg_name (i := 3) sc_is_made_of.nd rfl (Or.inl rfl))) (fun _ _ _ _ _ => pts_nil) (fun _ _ _ _ _ => (pe_cmpR op_in_sign (pv 3) (pv 1) rfl))) pa_nil))))), ?_⟩
    walk_at "s"
    have hl := S_len' x
    refine ⟨sz (by omega), ?_⟩
    walk_at "s"
    refine iteD (by omega) ?_
    walk_at "s"
    rw [decide_eq_true (show ((S x).length : Int) ≤ m by omega)]
    walk_at "s"
    intro D hD
    refine lc_pure walk_str hD (Same.refl H) (fun _ _ v => v = .bl true) (show (S x).length ≤ 100000 by omega) (fun _ _ _ _ _ h => h) (fun _ _ _ => trivial) ?_ ?_
    · rintro i v G1 H1 H1' hi g1 ⟨rfl, c, hc', rfl⟩ Q' hq
      refine ⟨rfl, ?_⟩
      walk_at "s"
      refine hq _ _ _ (Grow.refl g1.gh) ?_
      have hm : c ∈ x := by
        have := List.mem_of_getElem? (by rw [Array.getElem?_toList]; exact hc' : (S x).cps.toList[i]? = some c)
        exact this
      exact congrArg V.bl (decide_eq_true (hc c hm))
    · intro G' H' acc g' gD eD el er
      refine ⟨D, (List.range acc.length).map fun _ => true, rfl, ?_, ?_⟩
      · rw [← bls (f := fun _ => true) er]
        exact sqlU eD
      · rw [all_trues]
        exact q _ g'.same
def sp_number_text : Sp := fun vs H Q _ => ∃ i : Int, vs = [.int i] ∧ -10 < i ∧ i < 10000 ∧ Q (.str (S (numC i))) H
theorem ok_number_text (T : Txt w K mg A) : Cal P w K mg base 1 "number_text" sp_number_text [] := by
  obtain ⟨f, d⟩ := T.d_number_text
  refine cal_of d sc_number_text (fun vs H Q E h => ?_) (fun cdv A' outer s H vs Q E hr h => ?_)
  · obtain ⟨i, rfl, _⟩ := h; rfl
  · obtain ⟨i, rfl, h1, h2, q⟩ := h
    refine ⟨_, (pss_one (ps_ret (pe_callTy call_str_int (by rfl) T.n_str boot_str_ (pa_cons (pv 0) pa_nil)))), ?_⟩
    walk_at "s"
    refine ⟨?_, ?_⟩
    · have : i.natAbs.log2 ≤ i.natAbs := Nat.log2_le_self _
      by_cases h : i.natAbs = 0
      · rw [h]; decide
      · rw [Nat.log2_lt h]
        refine Nat.lt_of_lt_of_le (show i.natAbs < 2 ^ 14 by omega) ?_
        exact Nat.pow_le_pow_right (by decide) (by decide)
    · show Q (.str (Str.ofString (toString i))) H
      rw [str_num h1]
      exact q
theorem fig_digits {x : List Nat} (h : NumText.AllDigits x) : ∀ c ∈ x, c ∈ ([48, 49, 50, 51, 52, 53, 54, 55, 56, 57] : List Nat) := fun c hc => by
  have := h c hc
  have : c = 48 ∨ c = 49 ∨ c = 50 ∨ c = 51 ∨ c = 52 ∨ c = 53 ∨ c = 54 ∨ c = 55 ∨ c = 56 ∨ c = 57 := by omega
  rcases this with rfl | rfl | rfl | rfl | rfl | rfl | rfl | rfl | rfl | rfl <;> decide
theorem int_numL (n : Nat) (h : n < 10000) : PySem.intText? (S (TL.numL n)) = some (n : Int) := by
  rw [← SX.num_S]
  exact TL.int_num (by have := numL_len4 h; omega)
def sp_number_of : Sp := fun vs H Q _ => ∃ i : Int, vs = [.str (S (numC i))] ∧ -10 < i ∧ i < 10000 ∧ ∀ H', Same H H' → Q (.int i) H'
theorem ok_number_of (T : Txt w K mg A) : Cal P w K mg base 2 "number_of" sp_number_of [] := by
  obtain ⟨f, d⟩ := T.d_number_of
  refine cal_of d sc_number_of (fun vs H Q E h => ?_) (fun cdv A' outer s H vs Q E hr h => ?_)
  · obtain ⟨i, rfl, _⟩ := h; rfl
  · obtain ⟨i, rfl, h1, h2, q⟩ := h
    refine ⟨_, (pss_cons (ps_if (pt_not (pt_val (pe_callB call_isi (by rfl) T.n_isinstance boot_isinstance_ (pa_cons (pv 0) (pa_cons (pe_ty (by rfl) T.n_str boot_str_) pa_nil))))) (pss_one (ps_ret pe_non)) pss_nil)
    (pss_cons (ps_set (i := 1) sc_number_of.nd rfl (Or.inl rfl) (pv 0))
    (pss_cons (ps_if (pt_val (pe_m1 PySem.F.slot_str_startswith PySem.F.type_str_startswith mt_startswith (pv 0) pe_str)) (pss_one (ps_set (i := 1) sc_number_of.nd rfl (Or.inl rfl) (pe_slice sl_txt (pv 0) (po_some pe_int) po_none))) pss_nil)
    (pss_cons (ps_if (pt_not (pt_val (pe_c (ok_is_made_of T) hr (by decide) rfl (pa_cons (pv 1) (pa_cons (pe_gc rfl T.c_FIGURES) (pa_cons (pe_gc rfl T.c_MOST_FIGURES) pa_nil)))))) (pss_one (ps_ret pe_non)) pss_nil)
    (pss_cons (ps_if (PW.pt (pw_and (pt_cmpR op_eq (pe_ix ix_str (pv 1) pe_int (fun _ _ => rfl)) pe_str (nomark _)) (pw_and1 (pt_cmpR op_ne (pv 0) pe_str (nomark _))))) (pss_one (ps_ret pe_non)) pss_nil)
    (pss_cons (ps_if (pt_cmpR op_eq (pv 1) (pv 0) (nomark _)) (pss_one (ps_ret (pe_callTy call_int_str (by rfl) T.n_int boot_int_ (pa_cons (pv 1) pa_nil)))) pss_nil)
    (pss_one (ps_ret (pe_op op_sub pe_int (pe_callTy call_int_str (by rfl) T.n_int boot_int_ (pa_cons (pv 1) pa_nil))))))))))), ?_⟩
    walk_at "s"
    by_cases h0 : i < 0
    · have e : numC i = 45 :: TL.numL i.natAbs := by unfold numC; rw [if_pos h0]
      have hn : i.natAbs < 10 := by omega
      have e2 : TL.numL i.natAbs = [48 + i.natAbs] := TL.numL_lt hn
      have hL : (S (numC i)).length = 2 := by rw [S_len', e, e2]; rfl
      refine iteET (by rw [e, lit_ "-" [45] (by decide +kernel), sw_S]; rfl) ?_
      walk_at "s"
      refine ⟨sz (by omega), ?_⟩
      rw [show Txt.slice (S (numC i)) (some 1) none = S (TL.numL i.natAbs) by rw [e]; exact from1_S _ _]
      have hne : S (TL.numL i.natAbs) ≠ S (numC i) := S_ne (by rw [e, e2]; simp)
      refine ⟨_, rfl, TL.numL i.natAbs, [48, 49, 50, 51, 52, 53, 54, 55, 56, 57], 4, ?_, numL_one _, by rw [e2]; simp, by rw [e2]; simp, fig_digits (TL.numL_digits _), fun H1 s1 => ?_⟩
      · rw [lit_ "0123456789" [48, 49, 50, 51, 52, 53, 54, 55, 56, 57] (by decide +kernel)]
        rfl
      walk_at "s"
      refine ⟨S (TL.numL i.natAbs), 0, 48 + i.natAbs, rfl, rfl, sz (by rw [S_len', e2]; simp), by rw [e2]; rfl, ?_⟩
      walk_at "s"
      refine iteDF (fun q => ?_) ?_
      · have q2 : (⟨#[48 + i.natAbs]⟩ : Str) = S [48] := by
          rw [← lit_ "0" [48] (by decide +kernel)]
          exact V.str.inj q
        have := SX.S_inj (a := [48 + i.natAbs]) q2
        simp at this
        omega
      walk_at "s"
      refine iteDF (fun q => hne (V.str.inj q)) ?_
      walk_at "s"
      refine ⟨_, (i.natAbs : Int), rfl, int_numL _ (by omega), by rw [S_len', e2]; simp, ?_⟩
      walk_at "s"
      show Q (.int ((0 : Int) - (i.natAbs : Int))) H1
      rw [show (0 : Int) - (i.natAbs : Int) = i by omega]
      exact q _ s1
    · obtain ⟨n, rfl⟩ : ∃ n : Nat, i = n := ⟨i.toNat, by omega⟩
      have hn : n < 10000 := by omega
      have e := numC_nat n
      rw [e] at *
      have hl4 := numL_len4 hn
      obtain ⟨c, r, ec⟩ : ∃ c r, TL.numL n = c :: r := List.exists_cons_of_ne_nil (TL.numL_ne n)
      have hc := TL.numL_digits n c (by rw [ec]; exact List.mem_cons_self)
      have hL := S_len' (TL.numL n)
      refine iteEF (by rw [ec, lit_ "-" [45] (by decide +kernel), sw_S]; exact beq_eq_false_iff_ne.mpr (by omega)) ?_
      refine ⟨_, rfl, TL.numL n, [48, 49, 50, 51, 52, 53, 54, 55, 56, 57], 4, ?_, numL_one _, by omega, by omega, fig_digits (TL.numL_digits _), fun H1 s1 => ?_⟩
      · rw [lit_ "0123456789" [48, 49, 50, 51, 52, 53, 54, 55, 56, 57] (by decide +kernel)]
        rfl
      walk_at "s"
      refine ⟨S (TL.numL n), 0, c, rfl, rfl, sz (by omega), by rw [ec]; exact atI_nat (j := 0) rfl, ?_⟩
      walk_at "s"
      by_cases h0 : n = 0
      · subst h0
        have e0 : TL.numL 0 = [48] := TL.numL_lt (by decide)
        rw [e0] at ec
        injection ec with ec1 ec2
        subst ec1
        refine iteD (by rw [lit_ "0" [48] (by decide +kernel)]) ?_
        walk_at "s"
        refine ⟨_, ((0 : Nat) : Int), rfl, int_numL _ (by omega), by omega, ?_⟩
        exact q _ s1
      · have hp := numL_pos h0
        rw [ec] at hp
        refine iteDF (fun q => hp ?_) ?_
        · rw [lit_ "0" [48] (by decide +kernel)] at q
          have := SX.S_inj (a := [c]) (V.str.inj q)
          rw [List.head?_cons]
          exact congrArg List.head? this
        walk_at "s"
        refine iteD rfl ?_
        walk_at "s"
        refine ⟨_, (n : Int), rfl, int_numL _ (by omega), by omega, ?_⟩
        exact q _ s1
end
end BW
set_option Elab.async false
set_option linter.all false
set_option maxRecDepth 100000
set_option maxHeartbeats 4000000
set_option pp.maxSteps 3000
namespace BW
open PySem PySem.Spec PyProof.Rows L2
open C8 (Cal Met Mak pe_c pe_mk pe_mt pe_mt0 pe_gc sl_txt fnBody fnScope fnArgs)
local macro_rules | `(tactic| walk_at "v") => `(tactic| refine ⟨_, rfl, ?_⟩)
local macro_rules | `(tactic| walk_at "i2") => `(tactic| refine ⟨_, _, rfl, rfl, ?_⟩)
local macro_rules | `(tactic| walk_at "k") => `(tactic| exact (by decide +kernel))
local macro_rules | `(tactic| walk_at "s") => `(tactic| repeat (first | refine ⟨_, rfl, ?_⟩ | refine ⟨_, _, rfl, rfl, ?_⟩ | refine ⟨rfl, ?_⟩ | refine ⟨⟨_, rfl⟩, ?_⟩ | refine iteT ?_ | refine iteF ?_ | refine ⟨_, _, _, _, _, rfl, .ty _, tyI, kit_ty kit_int_int, ?_⟩ | refine ⟨_, _, _, _, _, rfl, .ty _, tyI, kit_ty kit_int_bool, ?_⟩ | refine ⟨_, _, _, _, _, rfl, .ty _, tyS, kit_ty kit_str_str, ?_⟩ | refine ⟨_, _, _, _, _, rfl, .ty _, tyB, kit_ty kit_bool_bool, ?_⟩ | refine ⟨_, _, _, _, _, rfl, by assumption, by assumption, by assumption, rfl, ?_⟩))
local macro_rules | `(tactic| walk_at "o") => `(tactic| repeat (first | refine ⟨_, rfl, ?_⟩ | refine ⟨_, _, rfl, rfl, ?_⟩ | refine ⟨rfl, ?_⟩ | refine ⟨⟨_, rfl⟩, ?_⟩ | refine iteT ?_ | refine iteF ?_ | refine ⟨_, _, _, _, _, rfl, .ty _, tyI, kit_ty kit_int_int, ?_⟩ | refine ⟨_, _, _, _, _, rfl, .ty _, tyI, kit_ty kit_int_bool, ?_⟩ | refine ⟨_, _, _, _, _, rfl, .ty _, tyS, kit_ty kit_str_str, ?_⟩ | refine ⟨_, _, _, _, _, rfl, .ty _, tyB, kit_ty kit_bool_bool, ?_⟩ | refine ⟨_, _, _, _, _, rfl, by assumption, by assumption, by assumption, rfl, ?_⟩ | refine iteDF (by omega) ?_ | refine iteD (by omega) ?_ | refine ⟨_, _, _, rfl, by omega, by omega, ?_⟩ | refine And.intro (by omega) ?_))

open SX (S)
section
variable {P : Program} {w : World} {K : PySem.W.Frag} {mg : Str → Option Value} {base : Heap} {A : Ad}
theorem nodup_div {a b : Nat} (h : b ≠ 0) : Nat.gcd a b = Nat.gcd b (a % b) := by
  rw [Nat.gcd_comm a b, Nat.gcd_rec b a, Nat.gcd_comm]
def sp_words_of : Sp := fun vs H Q _ => ∃ ws : List (List Nat), vs = [.str (S (TL.joinL [32] ws))] ∧ ws ≠ [] ∧ (∀ z ∈ ws, z ≠ [] ∧ 32 ∉ z) ∧ (TL.joinL [32] ws).length ≤ 10000 ∧ ∀ H' p, Same H H' → H p = none → H' p = some (.lst ((ws.map S).map V.str)) → Q (.ref p) H'
theorem ok_words_of (T : Txt w K mg A) : Cal P w K mg base 1 "words_of" sp_words_of [] := by
  obtain ⟨f, d⟩ := T.d_words_of
  refine cal_of d sc_words_of (fun vs H Q E h => ?_) (fun cdv A' outer s H vs Q E hr h => ?_)
  · obtain ⟨i, rfl, _⟩ := h; rfl
  · obtain ⟨ws, rfl, h1, h2, h3, q⟩ := h
    refine ⟨_, (pss_cons (ps_if (pt_not (pt_val (pe_callB call_isi (by rfl) T.n_isinstance boot_isinstance_ (pa_cons (pv 0) (pa_cons (pe_ty (by rfl) T.n_str boot_str_) pa_nil))))) (pss_one (ps_ret pe_non)) pss_nil)
    (pss_cons (ps_set (i := 1) sc_words_of.nd rfl (Or.inl rfl) (pe_split (pv 0) pe_str))
    (pss_cons (ps_if (pt_cmpR op_in_seq pe_str (pv 1) (by rfl)) (pss_one (ps_ret pe_non)) pss_nil)
    (pss_one (ps_ret (pv 1)))))), ?_⟩
    walk_at "s"
    have hl := S_len' (TL.joinL [32] ws)
    refine ⟨sz (by omega), fun p hp => ?_⟩
    rw [lit_ " " [32] (by decide +kernel), split_join 32 (by decide) h1 fun z hz => (h2 z hz).2]
    walk_at "s"
    have hin : inV (.str (Str.ofString "")) ((ws.map S).map V.str) = false := by
      refine inV_strs fun z hz => ?_
      obtain ⟨l, hl, rfl⟩ := List.mem_map.mp hz
      rw [lit_ "" [] (by decide +kernel)]
      exact S_ne (h2 l hl).1
    refine ⟨p, (ws.map S).map V.str, rfl, .inl (sqlU upd_same), rfl, flat_strs, ?_⟩
    refine ⟨_, rfl, ?_⟩
    refine iteEF ?_ ?_
    · rw [if_neg (by decide), hin]
    walk_at "s"
    exact q _ _ (same_new hp) hp upd_same
def sp_is_syllable : Sp := fun vs H Q _ => ∃ l : List Nat, vs = [.str (S l)] ∧ SyllOk l ∧ ∀ H', Same H H' → Q (.bl true) H'
theorem ok_is_syllable (T : Txt w K mg A) : Cal P w K mg base 2 "is_syllable" sp_is_syllable [] := by
  obtain ⟨f, d⟩ := T.d_is_syllable
  refine cal_of d sc_is_syllable (fun vs H Q E h => ?_) (fun cdv A' outer s H vs Q E hr h => ?_)
  · obtain ⟨i, rfl, _⟩ := h; rfl
  · obtain ⟨l, rfl, ⟨h1, h2, h3⟩, q⟩ := h
    refine ⟨_, (pss_one (ps_ret (pe_c (ok_is_made_of T) hr (by decide) rfl (pa_cons (pv 0) (pa_cons (pe_gc rfl T.c_SYLLABLE) (pa_cons (pe_gc rfl T.c_MOST_LETTERS) pa_nil)))))), ?_⟩
    walk_at "s"
    refine ⟨l, _, 12, ?_, h1, by omega, by omega, h3, q⟩
    rw [SX.S_tl]
    rfl
def sp_common : Sp := fun vs H Q _ => ∃ a b : Nat, vs = [.int a, .int b] ∧ a < 1000000 ∧ b < 1000000 ∧ ∀ H', Same H H' → Q (.int (Nat.gcd a b : Nat)) H'
theorem ok_common (T : Txt w K mg A) : Cal P w K mg base 1 "common" sp_common [] := by
  obtain ⟨f, d⟩ := T.d_common
  refine cal_of d sc_common (fun vs H Q E h => ?_) (fun cdv A' outer s H vs Q E hr h => ?_)
  · obtain ⟨a, b, rfl, _⟩ := h; rfl
  · obtain ⟨a, b, rfl, h1, h2, q⟩ := h
    refine ⟨_, (pss_cons (ps_while PassesOwn.never (pt_cmpR op_ne (pv 1) pe_int (nomark _)) (pss_cons (ps_asg (pe_callB call_divmod (by rfl) T.n_divmod boot_divmod_ (pa_cons (pv 0) (pa_cons (pv 1) pa_nil))) (pg_tup rfl (pgs_cons (pg_name (i := 2) sc_common.nd rfl (Or.inl rfl)) (pgs_cons (pg_name (i := 3) sc_common.nd rfl (Or.inl rfl)) pgs_nil))))
      (pss_cons (ps_set (i := 0) sc_common.nd rfl (Or.inl rfl) (pv 1))
      (pss_one (ps_set (i := 1) sc_common.nd rfl (Or.inl rfl) (pv 3))))))
    (pss_one (ps_ret (pv 0)))), ?_⟩
    refine ⟨fun m σ H' => ∃ (c e : Nat) (x y : Option V), σ = [some (.int c), some (.int e), x, y] ∧ m = e ∧ c < 1000000 ∧ e < 1000000 ∧ Nat.gcd c e = Nat.gcd a b ∧ Same H H', ⟨b, a, b, none, none, rfl, rfl, h1, h2, rfl, Same.refl _⟩, ?_⟩
    rintro m σ H1 ⟨c, e, x, y, rfl, rfl, h3, h4, h5, s1⟩
    walk_at "s"
    by_cases h0 : m = 0
    · subst h0
      refine iteEF ?_ ?_
      · rfl
      walk_at "s"
      rw [Nat.gcd_zero_right] at h5
      rw [h5]
      exact q _ s1
    · refine iteNF (fun q => h0 (by injection q with q; omega)) ?_
      refine ⟨fun σ' H' => ∃ (c' e' : Nat) (x y : Option V), σ' = [some (.int c'), some (.int e'), x, y] ∧ e' < m ∧ c' < 1000000 ∧ e' < 1000000 ∧ Nat.gcd c' e' = Nat.gcd a b ∧ Same H H', ?_, ?_⟩
      · rintro σ' H' ⟨c', e', x, y, rfl, l1, l2, l3, l4, l5⟩
        exact ⟨e', l1, c', e', x, y, rfl, rfl, l2, l3, l4, l5⟩
      walk_at "s"
      refine ⟨_, _, rfl, ⟨by omega, by omega⟩, fun p hp => ?_⟩
      refine ⟨p, _, rfl, sqtU upd_same, rfl, _, _, rfl, _, _, rfl, rfl, ?_⟩
      walk_at "s"
      have hm : c % m < m := Nat.mod_lt _ (by omega)
      refine ⟨m, c % m, some (.int ((c : Int) / m)), some (.int ((c % m : Nat) : Int)), ?_, hm, h4, by omega, ?_, s1.trans (same_new hp)⟩
      · show [some (V.int (m : Int)), some (V.int ((c : Int) % (m : Int))), some (V.int ((c : Int) / m)), some (V.int ((c : Int) % (m : Int)))] = _
        rw [Int.natCast_emod]
      · rw [← nodup_div h0]
        exact h5
def sp_pair_of : Sp := fun vs H Q _ => ∃ n : Nat, vs = [.int n] ∧ 0 < n ∧ n < 1000000 ∧ ∀ H' p, Same H H' → H p = none → H' p = some (.tup [.int (n / Nat.gcd n 96 : Nat), .int (96 / Nat.gcd n 96 : Nat)]) → Q (.ref p) H'
theorem gcd96 (n : Nat) : 0 < Nat.gcd n 96 ∧ Nat.gcd n 96 ≤ 96 := ⟨Nat.gcd_pos_of_pos_right _ (by decide), Nat.le_of_dvd (by decide) (Nat.gcd_dvd_right n 96)⟩
theorem ok_pair_of (T : Txt w K mg A) : Cal P w K mg base 2 "pair_of" sp_pair_of [] := by
  obtain ⟨f, d⟩ := T.d_pair_of
  refine cal_of d sc_pair_of (fun vs H Q E h => ?_) (fun cdv A' outer s H vs Q E hr h => ?_)
  · obtain ⟨a, rfl, _⟩ := h; rfl
  · obtain ⟨n, rfl, h1, h2, q⟩ := h
    obtain ⟨g1, g2⟩ := gcd96 n
    refine ⟨_, (pss_cons (ps_set (i := 1) sc_pair_of.nd rfl (Or.inl rfl) (pe_c (ok_common T) hr (by decide) rfl (pa_cons (pv 0) (pa_cons (pe_gc rfl T.c_GRAINS) pa_nil))))
    (pss_one (ps_ret (pe_tup (pa_cons (pe_op op_fdiv (pv 0) (pv 1)) (pa_cons (pe_op op_fdiv (pe_gc rfl T.c_GRAINS) (pv 1)) pa_nil)))))), ?_⟩
    walk_at "s"
    refine ⟨n, 96, rfl, h2, by decide, fun H1 s1 => ?_⟩
    walk_at "s"
    refine ⟨⟨by omega, by omega⟩, ?_⟩
    walk_at "s"
    refine ⟨⟨by omega, by omega⟩, ?_⟩
    walk_at "s"
    refine ⟨by show 2 ≤ sizeLine; decide, fun p hp => ?_⟩
    refine q _ p (s1.trans (same_new hp)) (s1.free hp) ?_
    rw [upd_same, Int.natCast_ediv, Int.natCast_ediv]
    rfl
def sp_amount_text : Sp := fun vs H Q _ => ∃ n : Nat, vs = [.int n] ∧ 0 < n ∧ n < 10000 ∧ ∀ H', Same H H' → Q (.str (S (amtC n))) H'
theorem ok_amount_text (T : Txt w K mg A) : Cal P w K mg base 3 "amount_text" sp_amount_text [] := by
  obtain ⟨f, d⟩ := T.d_amount_text
  refine cal_of d sc_amount_text (fun vs H Q E h => ?_) (fun cdv A' outer s H vs Q E hr h => ?_)
  · obtain ⟨a, rfl, _⟩ := h; rfl
  · obtain ⟨n, rfl, h1, h2, q⟩ := h
    obtain ⟨g1, g2⟩ := gcd96 n
    have l1 : n / Nat.gcd n 96 ≤ n := Nat.div_le_self _ _
    have l2 : 96 / Nat.gcd n 96 ≤ 96 := Nat.div_le_self _ _
    have k1 := numL_len4 (n := n / Nat.gcd n 96) (by omega)
    have k2 := numL_len4 (n := 96 / Nat.gcd n 96) (by omega)
    have e : amtC n = fracC (n / Nat.gcd n 96) (96 / Nat.gcd n 96) := rfl
    rw [e] at q
    refine ⟨_, (pss_cons (ps_asg (pe_c (ok_pair_of T) hr (by decide) rfl (pa_cons (pv 0) pa_nil)) (pg_tup rfl (pgs_cons (pg_name (i := 1) sc_amount_text.nd rfl (Or.inl rfl)) (pgs_cons (pg_name (i := 2) sc_amount_text.nd rfl (Or.inl rfl)) pgs_nil))))
    (pss_cons (ps_if (pt_cmpR op_eq (pv 2) pe_int (nomark _)) (pss_one (ps_ret (pe_c (ok_number_text T) hr (by decide) rfl (pa_cons (pv 1) pa_nil)))) pss_nil)
    (pss_one (ps_ret (pe_op op_add_str (pe_op op_add_str (pe_c (ok_number_text T) hr (by decide) rfl (pa_cons (pv 1) pa_nil)) pe_str) (pe_c (ok_number_text T) hr (by decide) rfl (pa_cons (pv 2) pa_nil))))))), ?_⟩
    walk_at "s"
    refine ⟨h1, by omega, fun H1 p s1 hp e1 => ?_⟩
    clear e
    generalize n / Nat.gcd n 96 = t at *
    generalize 96 / Nat.gcd n 96 = b at *
    have k3 := S_len' (TL.numL t)
    have k4 := S_len' (TL.numL b)
    refine ⟨p, _, rfl, sqtU e1, rfl, _, _, rfl, _, _, rfl, rfl, ?_⟩
    walk_at "s"
    by_cases hb : b = 1
    · refine iteD (by rw [hb]; rfl) ?_
      walk_at "s"
      refine ⟨by omega, by omega, ?_⟩
      rw [numC_nat]
      have e : fracC t b = TL.numL t := if_pos hb
      rw [e] at q
      exact q _ s1
    · refine iteDF (fun z => hb (by injection z with z; omega)) ?_
      walk_at "s"
      refine ⟨by omega, by omega, ?_⟩
      rw [numC_nat]
      walk_at "s"
      rw [lit_ "/" [47] (by decide +kernel), SX.S_cat]
      refine ⟨sz (by rw [S_len', S_len']; simp; omega), ?_⟩
      walk_at "s"
      refine ⟨by omega, by omega, ?_⟩
      rw [numC_nat]
      refine ⟨_, _, rfl, rfl, sz (by rw [S_len', S_len']; simp; omega), ?_⟩
      have e : fracC t b = TL.numL t ++ 47 :: TL.numL b := if_neg hb
      rw [e] at q
      rw [SX.S_cat, List.append_assoc]
      exact q _ s1
def sp_grains_of : Sp := fun vs H Q _ => ∃ (z : List Nat) (n : Nat), vs = [.str (S z)] ∧ AmtW z n ∧ ∀ H', Same H H' → Q (.int n) H'
theorem ok_grains_of (T : Txt w K mg A) : Cal P w K mg base 3 "grains_of" sp_grains_of [] := by
  obtain ⟨f, d⟩ := T.d_grains_of
  refine cal_of d sc_grains_of (fun vs H Q E h => ?_) (fun cdv A' outer s H vs Q E hr h => ?_)
  · obtain ⟨a, b, rfl, _⟩ := h; rfl
  · obtain ⟨z, n, rfl, ⟨top, bottom, b1, b2, b3, b4, b5, b6, hz⟩, q⟩ := h
    have k1 := numL_len4 b2
    have k2 := numL_len4 b4
    refine ⟨_, (pss_cons (ps_if (pt_not (pt_val (pe_callB call_isi (by rfl) T.n_isinstance boot_isinstance_ (pa_cons (pv 0) (pa_cons (pe_ty (by rfl) T.n_str boot_str_) pa_nil))))) (pss_one (ps_ret pe_non)) pss_nil)
    (pss_cons (ps_asg (pe_partition (pv 0) pe_str) (pg_tup rfl (pgs_cons (pg_name (i := 1) sc_grains_of.nd rfl (Or.inl rfl)) (pgs_cons (pg_name (i := 2) sc_grains_of.nd rfl (Or.inl rfl)) (pgs_cons (pg_name (i := 3) sc_grains_of.nd rfl (Or.inl rfl)) pgs_nil)))))
    (pss_cons (ps_set (i := 4) sc_grains_of.nd rfl (Or.inl rfl) (pe_c (ok_number_of T) hr (by decide) rfl (pa_cons (pv 1) pa_nil)))
    (pss_cons (ps_set (i := 5) sc_grains_of.nd rfl (Or.inl rfl) pe_int)
    (pss_cons (ps_if (pt_cmpR op_ne (pv 2) pe_str (nomark _)) (pss_one (ps_set (i := 5) sc_grains_of.nd rfl (Or.inl rfl) (pe_c (ok_number_of T) hr (by decide) rfl (pa_cons (pv 3) pa_nil)))) pss_nil)
    (pss_cons (ps_if (PW.pt (pw_or (pt_cmpR op_isN (pv 4) pe_non (nomark _)) (pw_or (pt_cmpR op_isN (pv 5) pe_non (nomark _)) (pw_or (pt_cmpR op_lt (pv 4) pe_int (nomark _)) (pw_or1 (pt_cmpR op_lt (pv 5) pe_int (nomark _))))))) (pss_one (ps_ret pe_non)) pss_nil)
    (pss_cons (ps_asg (pe_callB call_divmod (by rfl) T.n_divmod boot_divmod_ (pa_cons (pe_op op_mul (pe_gc rfl T.c_GRAINS) (pv 4)) (pa_cons (pv 5) pa_nil))) (pg_tup rfl (pgs_cons (pg_name (i := 6) sc_grains_of.nd rfl (Or.inl rfl)) (pgs_cons (pg_name (i := 7) sc_grains_of.nd rfl (Or.inl rfl)) pgs_nil))))
    (pss_cons (ps_if (PW.pt (pw_or (pt_cmpR op_ne (pv 7) pe_int (nomark _)) (pw_or1 (pt_cmpR op_gt (pv 6) (pe_gc rfl T.c_MOST_GRAINS) (nomark _))))) (pss_one (ps_ret pe_non)) pss_nil)
    (pss_one (ps_ret (pv 6))))))))))), ?_⟩
    walk_at "s"
    have hd1 : (96 : Int) * (top : Int) / (bottom : Int) = n := by
      rw [show (96 : Int) * (top : Int) = ((n * bottom : Nat) : Int) by rw [← b5]; simp, ← Int.natCast_ediv, Nat.mul_div_cancel _ (by omega)]
    have hd2 : (96 : Int) * (top : Int) % (bottom : Int) = 0 := by
      rw [show (96 : Int) * (top : Int) = ((n * bottom : Nat) : Int) by rw [← b5]; simp, ← Int.natCast_emod, Nat.mul_mod_left] <;> rfl
    rcases hz with ⟨rfl, rfl⟩ | rfl
    · refine ⟨sz (by rw [S_len']; omega), fun p hp => ?_⟩
      rw [lit_ "/" [47] (by decide +kernel), par_none 47 slash_num]
      refine ⟨p, _, rfl, sqtU upd_same, rfl, _, _, rfl, _, _, rfl, _, _, rfl, rfl, ?_⟩
      refine ⟨_, rfl, top, by rw [numC_nat]; rfl, by omega, by omega, fun H1 s1 => ?_⟩
      walk_at "o"
      refine ⟨.inl ⟨by omega, by omega⟩, ?_⟩
      walk_at "s"
      refine ⟨_, _, rfl, ⟨by omega, by omega⟩, fun p2 hp2 => ?_⟩
      refine ⟨p2, [.int n, .int 0], rfl, sqtU (by rw [upd_same]; exact congrArg (fun x => some (HO.tup x)) (pair_eq hd1 hd2)), rfl, _, _, rfl, _, _, rfl, rfl, ?_⟩
      walk_at "o"
      exact q _ (((same_new hp).trans s1).trans (same_new hp2))
    · refine ⟨sz (by rw [S_len']; simp; omega), fun p hp => ?_⟩
      rw [lit_ "/" [47] (by decide +kernel), par_some 47 _ slash_num]
      refine ⟨p, _, rfl, sqtU upd_same, rfl, _, _, rfl, _, _, rfl, _, _, rfl, rfl, ?_⟩
      refine ⟨_, rfl, top, by rw [numC_nat]; rfl, by omega, by omega, fun H1 s1 => ?_⟩
      walk_at "o"
      refine ⟨bottom, by rw [numC_nat]; rfl, by omega, by omega, fun H2 s2 => ?_⟩
      walk_at "o"
      refine ⟨.inl ⟨by omega, by omega⟩, ?_⟩
      walk_at "s"
      refine ⟨_, _, rfl, ⟨by omega, by omega⟩, fun p2 hp2 => ?_⟩
      refine ⟨p2, [.int n, .int 0], rfl, sqtU (by rw [upd_same]; exact congrArg (fun x => some (HO.tup x)) (pair_eq hd1 hd2)), rfl, _, _, rfl, _, _, rfl, rfl, ?_⟩
      walk_at "o"
      exact q _ ((((same_new hp).trans s1).trans s2).trans (same_new hp2))
end
end BW
set_option Elab.async false
set_option linter.all false
set_option maxRecDepth 100000
set_option maxHeartbeats 4000000
set_option pp.maxSteps 3000
namespace BW
open PySem PySem.Spec PyProof.Rows L2
open C8 (Cal Met Mak pe_c pe_mk pe_mt pe_mt0 pe_gc sl_txt fnBody fnScope fnArgs)
local macro_rules | `(tactic| walk_at "v") => `(tactic| refine ⟨_, rfl, ?_⟩)
local macro_rules | `(tactic| walk_at "i2") => `(tactic| refine ⟨_, _, rfl, rfl, ?_⟩)
local macro_rules | `(tactic| walk_at "k") => `(tactic| exact (by decide +kernel))
local macro_rules | `(tactic| walk_at "s") => `(tactic| repeat (first | refine ⟨_, rfl, ?_⟩ | refine ⟨_, _, rfl, rfl, ?_⟩ | refine ⟨rfl, ?_⟩ | refine ⟨⟨_, rfl⟩, ?_⟩ | refine iteT ?_ | refine iteF ?_ | refine ⟨_, _, _, _, _, rfl, .ty _, tyI, kit_ty kit_int_int, ?_⟩ | refine ⟨_, _, _, _, _, rfl, .ty _, tyI, kit_ty kit_int_bool, ?_⟩ | refine ⟨_, _, _, _, _, rfl, .ty _, tyS, kit_ty kit_str_str, ?_⟩ | refine ⟨_, _, _, _, _, rfl, .ty _, tyB, kit_ty kit_bool_bool, ?_⟩ | refine ⟨_, _, _, _, _, rfl, by assumption, by assumption, by assumption, rfl, ?_⟩))
local macro_rules | `(tactic| walk_at "o") => `(tactic| repeat (first | refine ⟨_, rfl, ?_⟩ | refine ⟨_, _, rfl, rfl, ?_⟩ | refine ⟨rfl, ?_⟩ | refine ⟨⟨_, rfl⟩, ?_⟩ | refine iteT ?_ | refine iteF ?_ | refine ⟨_, _, _, _, _, rfl, .ty _, tyI, kit_ty kit_int_int, ?_⟩ | refine ⟨_, _, _, _, _, rfl, .ty _, tyI, kit_ty kit_int_bool, ?_⟩ | refine ⟨_, _, _, _, _, rfl, .ty _, tyS, kit_ty kit_str_str, ?_⟩ | refine ⟨_, _, _, _, _, rfl, .ty _, tyB, kit_ty kit_bool_bool, ?_⟩ | refine ⟨_, _, _, _, _, rfl, by assumption, by assumption, by assumption, rfl, ?_⟩ | refine iteDF (by omega) ?_ | refine iteD (by omega) ?_ | refine ⟨_, _, _, rfl, by omega, by omega, ?_⟩ | refine And.intro (by omega) ?_))

open SX (S)
section
variable {P : Program} {w : World} {K : PySem.W.Frag} {mg : Str → Option Value} {base : Heap} {A : Ad}
def sp_is_pitch (K : PySem.W.Frag) : Sp := fun vs H Q _ => ∃ (v : V) (p : Pit), vs = [v] ∧ Dp K H v (pitD p) ∧ PitOk p ∧ Q (.bl true) H
theorem ok_is_pitch (T : Txt w K mg A) : Cal P w K mg base 3 "is_pitch" (sp_is_pitch K) [] := by
  obtain ⟨f, d⟩ := T.d_is_pitch
  refine cal_of d sc_is_pitch (fun vs H Q E h => ?_) (fun cdv A' outer s H vs Q E hr h => ?_)
  · obtain ⟨v, p, rfl, _⟩ := h; rfl
  · obtain ⟨v, p, rfl, hp, ⟨s0, s1, l0, l1, o0, o1⟩, q⟩ := h
    obtain ⟨a, x, y, z, rfl, ht, rx, ry, rz⟩ := dpT3 hp
    cases dpI rx; cases dpI ry; cases dpI rz
    refine ⟨_, (pss_cons (ps_if (PW.pt (pw_or (pt_not (pt_val (pe_callB call_isi (by rfl) T.n_isinstance boot_isinstance_ (pa_cons (pv 0) (pa_cons (pe_ty (by rfl) T.n_tuple boot_tuple_) pa_nil))))) (pw_or1 (pt_cmpR op_ne (pe_callB call_len_seq (by rfl) T.n_len boot_len_ (pa_cons (pv 0) pa_nil)) pe_int (nomark _))))) (pss_one (ps_ret pe_bl)) pss_nil)
    (pss_cons (ps_asg (pv 0) (pg_tup rfl (pgs_cons (pg_name (i := 1) sc_is_pitch.nd rfl (Or.inl rfl)) (pgs_cons (pg_name (i := 2) sc_is_pitch.nd rfl (Or.inl rfl)) (pgs_cons (pg_name (i := 3) sc_is_pitch.nd rfl (Or.inl rfl)) pgs_nil)))))
    (pss_cons (ps_if (PW.pt (pw_or (pt_not (pt_val (pe_c (ok_is_among T) hr (by decide) rfl (pa_cons (pv 1) (pa_cons pe_int (pa_cons pe_int pa_nil)))))) (pw_or1 (pt_not (pt_val (pe_c (ok_is_among T) hr (by decide) rfl (pa_cons (pv 2) (pa_cons (pe_op op_sub pe_int (pe_gc rfl T.c_MOST_LEAN)) (pa_cons (pe_gc rfl T.c_MOST_LEAN) pa_nil))))))))) (pss_one (ps_ret pe_bl)) pss_nil)
    (pss_one (ps_ret (pe_c (ok_is_among T) hr (by decide) rfl (pa_cons (pv 3) (pa_cons pe_int (pa_cons (pe_gc rfl T.c_MOST_OCTAVE) pa_nil))))))))), ?_⟩
    walk_at "s"
    refine ⟨_, _, _, _, _, rfl, .ty _, isT ht, kit_ty kit_tuple_tuple, ?_⟩
    walk_at "s"
    refine ⟨_, _, rfl, .inr ht, ?_⟩
    walk_at "s"
    refine ⟨_, _, rfl, ht, rfl, _, _, rfl, _, _, rfl, _, _, rfl, rfl, ?_⟩
    walk_at "o"
    exact q
def sp_pitch_of : Sp := fun vs H Q _ => ∃ p : Pit, vs = [.str (S (pitC p))] ∧ PitOk p ∧ ∀ H' a, Same H H' → H a = none → H' a = some (.tup [.int p.step, .int p.lean, .int p.oct]) → Q (.ref a) H'
theorem ok_pitch_of (T : Txt w K mg A) : Cal P w K mg base 1 "pitch_of" sp_pitch_of [] := by
  obtain ⟨f, d⟩ := T.d_pitch_of
  refine cal_of d sc_pitch_of (fun vs H Q E h => ?_) (fun cdv A' outer s H vs Q E hr h => ?_)
  · obtain ⟨p, rfl, _⟩ := h; rfl
  · obtain ⟨p, rfl, ⟨s0, s1, l0, l1, o0, o1⟩, q⟩ := h
    have hl := leanC_len (l := p.lean)
    have hL : (S (pitC p)).length = (leanC p.lean).length + 2 := by rw [S_len', pitC_len]
    refine ⟨_, (pss_cons (ps_if (PW.pt (pw_or (pt_not (pt_val (pe_callB call_isi (by rfl) T.n_isinstance boot_isinstance_ (pa_cons (pv 0) (pa_cons (pe_ty (by rfl) T.n_str boot_str_) pa_nil))))) (pw_or1 (pt_cmpR op_lt (pe_callB call_len_str (by rfl) T.n_len boot_len_ (pa_cons (pv 0) pa_nil)) pe_int (nomark _))))) (pss_one (ps_ret pe_non)) pss_nil)
    (pss_cons (ps_set (i := 1) sc_pitch_of.nd rfl (Or.inl rfl) (pe_m1 PySem.F.slot_str_find PySem.F.type_str_find mt_find (pe_gc rfl T.c_STEPS) (pe_ix ix_str (pv 0) pe_int (fun _ _ => rfl))))
    (pss_cons (ps_set (i := 2) sc_pitch_of.nd rfl (Or.inl rfl) (pe_m1 PySem.F.slot_str_find PySem.F.type_str_find mt_find (pe_gc rfl T.c_OCTAVES) (pe_ix ix_str (pv 0) (pe_un un_neg pe_int) (fun _ _ => rfl))))
    (pss_cons (ps_set (i := 3) sc_pitch_of.nd rfl (Or.inl rfl) (pe_kget T.leans (pe_gc rfl T.c_LEANS) (pe_slice sl_txt (pv 0) (po_some pe_int) (po_some (pe_un un_neg pe_int)))))
    (pss_cons (ps_if (PW.pt (pw_or (pt_cmpR op_lt (pv 1) pe_int (nomark _)) (pw_or (pt_cmpR op_lt (pv 2) pe_int (nomark _)) (pw_or1 (pt_cmpR op_isN (pv 3) pe_non (nomark _)))))) (pss_one (ps_ret pe_non)) pss_nil)
    (pss_one (ps_ret (pe_tup (pa_cons (pv 1) (pa_cons (pv 3) (pa_cons (pv 2) pa_nil))))))))))), ?_⟩
    walk_at "s"
    refine ⟨sz (by omega), ?_⟩
    walk_at "o"
    refine ⟨_, _, stepC p.step, rfl, rfl, sz (by omega), atI_0, ?_⟩
    walk_at "s"
    have e3 : atI (S (pitC p)).cps.toList (-1) = some (48 + p.oct.toNat) := by
      have : (S (pitC p)).cps.toList = (stepC p.step :: leanC p.lean) ++ [48 + p.oct.toNat] := rfl
      rw [this]
      exact atI_last _ _
    refine ⟨_, _, 48 + p.oct.toNat, rfl, rfl, sz (by omega), e3, ?_⟩
    walk_at "s"
    refine ⟨sz (by omega), ?_⟩
    refine ⟨_, some (.int p.lean), rfl, ?_, ?_⟩
    · show leansT (Txt.slice (S (stepC p.step :: (leanC p.lean ++ [48 + p.oct.toNat]))) (some 1) (some (-1))) = _
      rw [slice_mid _ _ l0 l1]
      exact leansT_at l0 l1
    walk_at "s"
    refine iteDF (by rw [find_step s0 s1]; omega) ?_
    walk_at "s"
    refine iteDF (by rw [find_oct o0 o1]; omega) ?_
    walk_at "s"
    refine ⟨by show 3 ≤ sizeLine; decide, fun a ha => ?_⟩
    refine q _ a (same_new ha) ha ?_
    rw [upd_same, find_step s0 s1, find_oct o0 o1]
    rfl
def sp_lean_text : Sp := fun vs H Q _ => ∃ l : Int, vs = [.int l] ∧ -2 ≤ l ∧ l ≤ 2 ∧ Q (.str (S (leanC l))) H
theorem ok_lean_text (T : Txt w K mg A) : Cal P w K mg base 1 "lean_text" sp_lean_text [] := by
  obtain ⟨f, d⟩ := T.d_lean_text
  refine cal_of d sc_lean_text (fun vs H Q E h => ?_) (fun cdv A' outer s H vs Q E hr h => ?_)
  · obtain ⟨p, rfl, _⟩ := h; rfl
  · obtain ⟨l, rfl, h0, h1, q⟩ := h
    refine ⟨_, (pss_cons (ps_if (pt_cmpR op_lt (pv 0) pe_int (nomark _)) (pss_one (ps_ret (pe_op op_mul_str pe_str (pe_op op_sub pe_int (pv 0))))) pss_nil)
    (pss_one (ps_ret (pe_op op_mul_str pe_str (pv 0))))), ?_⟩
    walk_at "s"
    refine ite2 (fun h => ?_) (fun h => ?_)
    · rw [decide_eq_true_eq] at h
      walk_at "s"
      refine ⟨by decide, by omega, by omega, ?_⟩
      rw [lean_neg h0 h]
      exact q
    · rw [decide_eq_true_eq] at h
      walk_at "s"
      refine ⟨by decide, by omega, by omega, ?_⟩
      rw [lean_pos (by omega) h1]
      exact q
def sp_pitch_text (K : PySem.W.Frag) : Sp := fun vs H Q _ => ∃ (v : V) (p : Pit), vs = [v] ∧ Dp K H v (pitD p) ∧ PitOk p ∧ Q (.str (S (pitC p))) H
theorem ok_pitch_text (T : Txt w K mg A) : Cal P w K mg base 2 "pitch_text" (sp_pitch_text K) [] := by
  obtain ⟨f, d⟩ := T.d_pitch_text
  refine cal_of d sc_pitch_text (fun vs H Q E h => ?_) (fun cdv A' outer s H vs Q E hr h => ?_)
  · obtain ⟨v, p, rfl, _⟩ := h; rfl
  · obtain ⟨v, p, rfl, hp, ⟨s0, s1, l0, l1, o0, o1⟩, q⟩ := h
    obtain ⟨a, x, y, z, rfl, ht, rx, ry, rz⟩ := dpT3 hp
    cases dpI rx; cases dpI ry; cases dpI rz
    have hl := leanC_len (l := p.lean)
    refine ⟨_, (pss_cons (ps_asg (pv 0) (pg_tup rfl (pgs_cons (pg_name (i := 1) sc_pitch_text.nd rfl (Or.inl rfl)) (pgs_cons (pg_name (i := 2) sc_pitch_text.nd rfl (Or.inl rfl)) (pgs_cons (pg_name (i := 3) sc_pitch_text.nd rfl (Or.inl rfl)) pgs_nil)))))
    (pss_one (ps_ret (pe_op op_add_str (pe_op op_add_str (pe_ix ix_str (pe_gc rfl T.c_STEPS) (pv 1) (fun _ _ => rfl)) (pe_c (ok_lean_text T) hr (by decide) rfl (pa_cons (pv 2) pa_nil))) (pe_ix ix_str (pe_gc rfl T.c_OCTAVES) (pv 3) (fun _ _ => rfl)))))), ?_⟩
    walk_at "s"
    refine ⟨_, _, rfl, ht, rfl, _, _, rfl, _, _, rfl, _, _, rfl, rfl, ?_⟩
    walk_at "s"
    refine ⟨_, _, stepC p.step, rfl, rfl, sz (by decide), at_step s0 s1, ?_⟩
    walk_at "s"
    refine ⟨l0, l1, ?_⟩
    refine ⟨_, _, rfl, rfl, sz (by have := S_len' (leanC p.lean); show 1 + (S (leanC p.lean)).length ≤ _; omega), ?_⟩
    walk_at "s"
    refine ⟨_, _, 48 + p.oct.toNat, rfl, rfl, sz (by decide), at_oct o0 o1, ?_⟩
    have e : (⟨#[stepC p.step]⟩ : Str) ++ S (leanC p.lean) = S (stepC p.step :: leanC p.lean) := SX.S_cat [stepC p.step] (leanC p.lean)
    have e2 : S (stepC p.step :: leanC p.lean) ++ (⟨#[48 + p.oct.toNat]⟩ : Str) = S (pitC p) := SX.S_cat (stepC p.step :: leanC p.lean) [48 + p.oct.toNat]
    rw [e]
    refine ⟨_, _, rfl, rfl, sz (by rw [S_len']; show _ + 1 ≤ _; simp; omega), ?_⟩
    rw [e2]
    exact q
def sp_line (K : PySem.W.Frag) : Sp := fun vs H Q _ => ∃ (v : V) (p : Pit), vs = [v] ∧ Dp K H v (pitD p) ∧ Q (.int p.line) H
theorem ok_line (T : Txt w K mg A) : Cal P w K mg base 1 "line" (sp_line K) [] := by
  obtain ⟨f, d⟩ := T.d_line
  refine cal_of d sc_line (fun vs H Q E h => ?_) (fun cdv A' outer s H vs Q E hr h => ?_)
  · obtain ⟨v, p, rfl, _⟩ := h; rfl
  · obtain ⟨v, p, rfl, hp, q⟩ := h
    obtain ⟨a, x, y, z, rfl, ht, rx, ry, rz⟩ := dpT3 hp
    cases dpI rx; cases dpI ry; cases dpI rz
    refine ⟨_, (pss_one (ps_ret (pe_op op_add (pe_op op_mul pe_int (pe_ix ix_tup (pv 0) pe_int (fun _ _ => rfl))) (pe_ix ix_tup (pv 0) pe_int (fun _ _ => rfl))))), ?_⟩
    walk_at "s"
    refine ⟨_, _, _, _, rfl, rfl, ht, atI_2, ?_⟩
    walk_at "s"
    refine ⟨.inl ⟨by decide, by decide⟩, ?_⟩
    walk_at "s"
    refine ⟨_, _, _, _, rfl, rfl, ht, atI_0, ?_⟩
    walk_at "s"
    exact q
def sp_is_key : Sp := fun vs H Q _ => ∃ k : Int, vs = [.int k] ∧ -7 ≤ k ∧ k ≤ 7 ∧ Q (.bl true) H
theorem at_is_key (T : Txt w K mg A) : C8.CalAt P w K mg base 3 A.fis_key sp_is_key := by
  have d := T.d_is_key
  refine calAt_of d sc_is_key (fun vs H Q E h => ?_) (fun cdv A' outer s H vs Q E hr h => ?_)
  · obtain ⟨p, rfl, _⟩ := h; rfl
  · obtain ⟨l, rfl, h0, h1, q⟩ := h
    refine ⟨_, (pss_one (ps_ret (pe_c (ok_is_among T) hr (by decide) rfl (pa_cons (pv 0) (pa_cons (pe_op op_sub pe_int (pe_gc rfl T.c_MOST_KEY)) (pa_cons (pe_gc rfl T.c_MOST_KEY) pa_nil)))))), ?_⟩
    walk_at "o"
    exact q
theorem ok_is_key (T : Txt w K mg A) : Cal P w K mg base 3 "is_key" sp_is_key [] := cal_at T.d_is_key (at_is_key T)
end
end BW
set_option Elab.async false
set_option linter.all false
set_option maxRecDepth 100000
set_option maxHeartbeats 4000000
set_option pp.maxSteps 3000
namespace BW
open PySem PySem.Spec PyProof.Rows L2
open C8 (Cal Met Mak pe_c pe_mk pe_mt pe_mt0 pe_gc sl_txt fnBody fnScope fnArgs)
local macro_rules | `(tactic| walk_at "v") => `(tactic| refine ⟨_, rfl, ?_⟩)
local macro_rules | `(tactic| walk_at "i2") => `(tactic| refine ⟨_, _, rfl, rfl, ?_⟩)
local macro_rules | `(tactic| walk_at "k") => `(tactic| exact (by decide +kernel))
local macro_rules | `(tactic| walk_at "s") => `(tactic| repeat (first | refine ⟨_, rfl, ?_⟩ | refine ⟨_, _, rfl, rfl, ?_⟩ | refine ⟨rfl, ?_⟩ | refine ⟨⟨_, rfl⟩, ?_⟩ | refine iteT ?_ | refine iteF ?_ | refine ⟨_, _, _, _, _, rfl, .ty _, tyI, kit_ty kit_int_int, ?_⟩ | refine ⟨_, _, _, _, _, rfl, .ty _, tyI, kit_ty kit_int_bool, ?_⟩ | refine ⟨_, _, _, _, _, rfl, .ty _, tyS, kit_ty kit_str_str, ?_⟩ | refine ⟨_, _, _, _, _, rfl, .ty _, tyB, kit_ty kit_bool_bool, ?_⟩ | refine ⟨_, _, _, _, _, rfl, by assumption, by assumption, by assumption, rfl, ?_⟩))
local macro_rules | `(tactic| walk_at "o") => `(tactic| repeat (first | refine ⟨_, rfl, ?_⟩ | refine ⟨_, _, rfl, rfl, ?_⟩ | refine ⟨rfl, ?_⟩ | refine ⟨⟨_, rfl⟩, ?_⟩ | refine iteT ?_ | refine iteF ?_ | refine ⟨_, _, _, _, _, rfl, .ty _, tyI, kit_ty kit_int_int, ?_⟩ | refine ⟨_, _, _, _, _, rfl, .ty _, tyI, kit_ty kit_int_bool, ?_⟩ | refine ⟨_, _, _, _, _, rfl, .ty _, tyS, kit_ty kit_str_str, ?_⟩ | refine ⟨_, _, _, _, _, rfl, .ty _, tyB, kit_ty kit_bool_bool, ?_⟩ | refine ⟨_, _, _, _, _, rfl, by assumption, by assumption, by assumption, rfl, ?_⟩ | refine iteDF (by omega) ?_ | refine iteD (by omega) ?_ | refine ⟨_, _, _, rfl, by omega, by omega, ?_⟩ | refine And.intro (by omega) ?_))

open SX (S)
section
variable {P : Program} {w : World} {K : PySem.W.Frag} {mg : Str → Option Value} {base : Heap} {A : Ad}
/-- a metre's parts -/
theorem dpM {G : Hp} {v : V} {m : Met} (h : Dp K G v (metD m)) : ∃ a g, v = .ref a ∧ SqT K G a [.int m.top, .int m.bot, .ref g] ∧ SqT K G g ((m.gs.map fun g : Nat => (g : Int)).map V.int) ∧ Dp K G (.ref g) (.tuple (intsD m.gs)) := by
  obtain ⟨a, x, y, z, rfl, ht, rx, ry, rz⟩ := dpT3 h
  cases dpI rx; cases dpI ry
  obtain ⟨g, xs, rfl, hg, r⟩ := dpT rz
  rw [intsD_eq] at r
  cases DpAll.ints r
  exact ⟨a, g, rfl, ht, hg, rz⟩
def sp_bar_grains (K : PySem.W.Frag) : Sp := fun vs H Q _ => ∃ (v : V) (m : Met), vs = [v] ∧ Dp K H v (metD m) ∧ MetOk m ∧ Q (.int m.bar) H
theorem ok_bar_grains (T : Txt w K mg A) : Cal P w K mg base 1 "bar_grains" (sp_bar_grains K) [] := by
  obtain ⟨f, d⟩ := T.d_bar_grains
  refine cal_of d sc_bar_grains (fun vs H Q E h => ?_) (fun cdv A' outer s H vs Q E hr h => ?_)
  · obtain ⟨v, p, rfl, _⟩ := h; rfl
  · obtain ⟨v, m, rfl, hp, hm, q⟩ := h
    obtain ⟨a, g, rfl, ht, hg, _⟩ := dpM hp
    have hb := hm.b0
    have h1 := hm.t1
    refine ⟨_, (pss_one (ps_ret (pe_op op_fdiv (pe_op op_mul (pe_ix ix_tup (pv 0) pe_int (fun _ _ => rfl)) (pe_gc rfl T.c_GRAINS)) (pe_ix ix_tup (pv 0) pe_int (fun _ _ => rfl))))), ?_⟩
    walk_at "s"
    refine ⟨_, _, _, _, rfl, rfl, ht, atI_0, ?_⟩
    walk_at "s"
    refine ⟨.inr ⟨by decide, by decide⟩, ?_⟩
    walk_at "s"
    refine ⟨_, _, _, _, rfl, rfl, ht, atI_1, ?_⟩
    walk_at "s"
    refine ⟨⟨by omega, by omega⟩, ?_⟩
    have e : ((m.bar : Nat) : Int) = (m.top : Int) * 96 / (m.bot : Int) := by
      unfold Met.bar
      rw [Int.natCast_ediv, Int.natCast_mul]
      rfl
    rw [e] at q
    exact q
def sp_is_metre (K : PySem.W.Frag) : Sp := fun vs H Q _ => ∃ (v : V) (m : Met), vs = [v] ∧ Dp K H v (metD m) ∧ MetOk m ∧ ∀ H', Same H H' → Q (.bl true) H'
theorem at_is_metre (T : Txt w K mg A) : C8.CalAt P w K mg base 3 A.fis_metre (sp_is_metre K) := by
  have d := T.d_is_metre
  refine calAt_of d sc_is_metre (fun vs H Q E h => ?_) (fun cdv A' outer s H vs Q E hr h => ?_)
  · obtain ⟨v, p, rfl, _⟩ := h; rfl
  · obtain ⟨v, m, rfl, hp, hm, q⟩ := h
    obtain ⟨a, g, rfl, ht, hg, hd⟩ := dpM hp
    have hb := hm.b0
    have h0 := hm.t0
    have h1 := hm.t1
    have e8 : (8 : Int) % (m.bot : Int) = 0 := by rcases hb with h | h | h <;> rw [h] <;> rfl
    refine ⟨_, (pss_cons (ps_if (PW.pt (pw_or (pt_not (pt_val (pe_callB call_isi (by rfl) T.n_isinstance boot_isinstance_ (pa_cons (pv 0) (pa_cons (pe_ty (by rfl) T.n_tuple boot_tuple_) pa_nil))))) (pw_or1 (pt_cmpR op_ne (pe_callB call_len_seq (by rfl) T.n_len boot_len_ (pa_cons (pv 0) pa_nil)) pe_int (nomark _))))) (pss_one (ps_ret pe_bl)) pss_nil)
    (pss_cons (ps_asg (pv 0) (pg_tup rfl (pgs_cons (pg_name (i := 1) sc_is_metre.nd rfl (Or.inr rfl)) (pgs_cons (pg_name (i := 2) sc_is_metre.nd rfl (Or.inl rfl)) (pgs_cons (pg_name (i := 3) sc_is_metre.nd rfl (Or.inl rfl)) pgs_nil)))))
    (pss_cons (ps_if (PW.pt (pw_or (pt_not (pt_val (pe_c (ok_is_among T) hr (by decide) rfl (pa_cons (pv 1) (pa_cons pe_int (pa_cons (pe_gc rfl T.c_MOST_TOP) pa_nil)))))) (pw_or (pt_not (pt_val (pe_c (ok_is_among T) hr (by decide) rfl (pa_cons (pv 2) (pa_cons pe_int (pa_cons pe_int pa_nil)))))) (pw_or1 (pt_cmpR op_ne (pe_op op_mod pe_int (pv 2)) pe_int (nomark _)))))) (pss_one (ps_ret pe_bl)) pss_nil)
    (pss_cons (ps_if (PW.pt (pw_or (pt_not (pt_val (pe_callB call_isi (by rfl) T.n_isinstance boot_isinstance_ (pa_cons (pv 3) (pa_cons (pe_ty (by rfl) T.n_tuple boot_tuple_) pa_nil))))) (pw_or1 (pt_not (pt_val (pe_callB (cr_all rfl) (by rfl) T.n_all boot_all_ (pa_cons (pe_lc (own := [("one", 4)]) (g := (gName 4)) (tt := tYes) (by rfl) sc_is_metre.nd (pi_tup (pv 3)) (blkOk_by (N := N_is_metre) (sc := (defScope s_is_metre)) (by decide +kernel)) (fun _ _ _ _ _ => (pg_name (i := 4) sc_is_metre.nd rfl (Or.inl rfl))) (fun _ _ _ _ _ => pts_nil) (fun _ _ _ _ _ => (pe_c (ok_is_among T) hr (by decide) rfl (pa_cons (pv 4) (pa_cons pe_int (pa_cons (pv 1) pa_nil)))))) pa_nil))))))) (pss_one (ps_ret pe_bl)) pss_nil)
    (pss_one (ps_ret (pe_and (pe_cmpR op_le (pe_c (ok_bar_grains T) hr (by decide) rfl (pa_cons (pv 0) pa_nil)) (pe_gc rfl T.c_MOST_BAR) (nomark _)) (pe_one (L2.pe_or (pe_cmpR (op_eqD hr.units) (pv 3) (pe_tup pa_nil) (nomark _)) (pe_one (pe_cmpR op_eq (pe_callB (cr_sumT rfl) (by rfl) T.n_sum boot_sum_ (pa_cons (pv 3) pa_nil)) (pv 1) (nomark _)))))))))))), ?_⟩
    walk_at "s"
    refine ⟨_, _, _, _, _, rfl, .ty _, isT ht, kit_ty kit_tuple_tuple, ?_⟩
    walk_at "s"
    refine ⟨_, _, rfl, .inr ht, ?_⟩
    walk_at "s"
    refine ⟨_, _, rfl, ht, rfl, _, _, rfl, _, _, rfl, _, _, rfl, rfl, ?_⟩
    walk_at "o"
    refine iteN (congrArg V.int e8) ?_
    walk_at "s"
    refine ⟨_, _, _, _, _, rfl, .ty _, isT hg, kit_ty kit_tuple_tuple, ?_⟩
    walk_at "s"
    refine ⟨⟨_, hg⟩, fun D hD => ?_⟩
    have hlen : ((m.gs.map fun g : Nat => (g : Int)).map V.int).length ≤ 100000 := by
      have := hm.g1
      rw [List.length_map, List.length_map]
      omega
    refine lc_pure walk_tup hD (Same.refl H) (fun _ _ v => v = .bl true) hlen (fun _ _ _ _ _ h => h) (fun G1 H1 g1 => sqT_mono g1.same hg) ?_ ?_
    · rintro i v G1 H1 H1' hi g1 ⟨rfl, hv⟩ Q' hq
      obtain ⟨z, hz, rfl⟩ := ints_at hv
      have hz' := hm.g0 z (List.mem_of_getElem? hz)
      refine ⟨rfl, ?_⟩
      walk_at "o"
      exact hq _ _ _ (Grow.refl g1.gh) rfl
    · intro G' H' acc g' gD eD el er
      refine ⟨D, (List.range acc.length).map fun _ => true, rfl, ?_, ?_⟩
      · rw [← bls (f := fun _ => true) er]
        exact sqlU eD
      rw [all_trues]
      walk_at "s"
      refine ⟨_, m, rfl, hp.mono g'.same, hm, ?_⟩
      have hbr := hm.br
      walk_at "o"
      refine ⟨Nat.zero_le _, fun p hp2 => ?_⟩
      have s2 : Same H' (upd H' p (.tup [])) := same_new hp2
      refine ⟨.tuple (intsD m.gs), .tuple [], hd.mono (g'.same.trans s2), .tupU upd_same .nil, by rw [intsD_eq]; exact shaped_ints _, shaped_nil, ?_⟩
      rw [intsD_eq, eqv_tupNil]
      refine ⟨_, rfl, ?_⟩
      by_cases hn : m.gs = []
      · refine iteD (by rw [hn]; rfl) ?_
        exact q _ (g'.same.trans s2)
      · refine iteDF (fun z => hn (List.map_eq_nil_iff.mp z)) ?_
        walk_at "s"
        refine ⟨g, _, rfl, sqT_mono (g'.same.trans s2) hg, ?_⟩
        walk_at "s"
        have e : decide (V.int ((m.gs.map fun g : Nat => (g : Int)).sum) = V.int (m.top : Int)) = true := by
          rw [sum_cast, hm.g2.resolve_left hn]
          exact decide_eq_true rfl
        rw [e]
        exact q _ (g'.same.trans s2)
theorem ok_is_metre (T : Txt w K mg A) : Cal P w K mg base 3 "is_metre" (sp_is_metre K) [] := cal_at T.d_is_metre (at_is_metre T)
def sp_metre_text (K : PySem.W.Frag) : Sp := fun vs H Q _ => ∃ (v : V) (m : Met), vs = [v] ∧ Dp K H v (metD m) ∧ MetOk m ∧ ∀ H', Same H H' → Q (.str (S (metC m))) H'
theorem ok_metre_text (T : Txt w K mg A) : Cal P w K mg base 2 "metre_text" (sp_metre_text K) [] := by
  obtain ⟨f, d⟩ := T.d_metre_text
  refine cal_of d sc_metre_text (fun vs H Q E h => ?_) (fun cdv A' outer s H vs Q E hr h => ?_)
  · obtain ⟨v, p, rfl, _⟩ := h; rfl
  · obtain ⟨v, m, rfl, hp, hm, q⟩ := h
    obtain ⟨a, g, rfl, ht, hg, hd⟩ := dpM hp
    have hb := hm.b0
    have h0 := hm.t0
    have h1 := hm.t1
    have h2 := hm.g1
    have k1 := numL_len4 (n := m.top) (by omega)
    have k2 := numL_len4 (n := m.bot) (by omega)
    have k3 := S_len' (TL.numL m.top)
    have k4 := S_len' (TL.numL m.bot)
    have k5 : (TL.joinL [43] (m.gs.map TL.numL)).length ≤ (4 + 1) * (m.gs.map TL.numL).length := joinL_len fun x hx => by
      obtain ⟨g, hg, rfl⟩ := List.mem_map.mp hx
      exact numL_len4 (by have := (hm.g0 g hg).2; omega)
    rw [List.length_map] at k5
    refine ⟨_, (pss_cons (ps_asg (pv 0) (pg_tup rfl (pgs_cons (pg_name (i := 1) sc_metre_text.nd rfl (Or.inl rfl)) (pgs_cons (pg_name (i := 2) sc_metre_text.nd rfl (Or.inl rfl)) (pgs_cons (pg_name (i := 3) sc_metre_text.nd rfl (Or.inl rfl)) pgs_nil)))))
    (pss_cons (ps_set (i := 4) sc_metre_text.nd rfl (Or.inl rfl) (pe_op op_add_str (pe_op op_add_str (pe_c (ok_number_text T) hr (by decide) rfl (pa_cons (pv 1) pa_nil)) pe_str) (pe_c (ok_number_text T) hr (by decide) rfl (pa_cons (pv 2) pa_nil))))
    (pss_cons (ps_if (pt_cmpR (op_neD hr.units) (pv 3) (pe_tup pa_nil) (nomark _)) (pss_one (ps_aug (i := 4) sc_metre_text.nd rfl (Or.inl rfl) (pe_op op_add_str pe_str (pe_join pe_str (pe_lc (own := [("one", 5)]) (g := (gName 5)) (tt := tYes) (by rfl) sc_metre_text.nd (pi_tup (pv 3)) (blkOk_by (N := N_metre_text) (sc := (defScope s_metre_text)) (by decide +kernel)) (fun _ _ _ _ _ => (pg_name (i := 5) sc_metre_text.nd rfl (Or.inl rfl))) (fun _ _ _ _ _ => pts_nil) (fun _ _ _ _ _ => (pe_c (ok_number_text T) hr (by decide) rfl (pa_cons (pv 5) pa_nil)))))) ip_add_str)) pss_nil)
    (pss_one (ps_ret (pv 4)))))), ?_⟩
    walk_at "s"
    refine ⟨_, _, rfl, ht, rfl, _, _, rfl, _, _, rfl, _, _, rfl, rfl, ?_⟩
    walk_at "o"
    rw [numC_nat, lit_ "/" [47] (by decide +kernel)]
    refine ⟨sz (by rw [S_len', S_len']; simp; omega), ?_⟩
    rw [SX.S_cat]
    walk_at "o"
    rw [numC_nat]
    refine ⟨sz (by rw [S_len', S_len']; simp; omega), ?_⟩
    rw [SX.S_cat]
    walk_at "s"
    refine ⟨Nat.zero_le _, fun p hp2 => ?_⟩
    have s2 : Same H (upd H p (.tup [])) := same_new hp2
    refine ⟨.tuple (intsD m.gs), .tuple [], hd.mono s2, .tupU upd_same .nil, by rw [intsD_eq]; exact shaped_ints _, shaped_nil, ?_⟩
    rw [intsD_eq, eqv_tupNil]
    refine ⟨_, rfl, ?_⟩
    by_cases hn : m.gs = []
    · refine iteN (by rw [hn]; rfl) ?_
      walk_at "s"
      have e : metC m = TL.numL m.top ++ [47] ++ TL.numL m.bot := by
        unfold metC
        rw [if_pos hn, List.append_nil, List.append_assoc]
        rfl
      rw [e] at q
      exact q _ s2
    · refine iteNF (fun z => hn (List.map_eq_nil_iff.mp z)) ?_
      walk_at "s"
      refine ⟨⟨_, sqT_mono s2 hg⟩, fun D hD => ?_⟩
      have hlen : ((m.gs.map fun g : Nat => (g : Int)).map V.int).length ≤ 100000 := by
        rw [List.length_map, List.length_map]
        omega
      refine lc_pure walk_tup hD (Same.refl _) (fun _ i v => ∃ z, m.gs[i]? = some z ∧ v = .str (S (TL.numL z))) hlen (fun _ _ _ _ _ h => h) (fun G1 H1 g1 => sqT_mono (s2.trans g1.same) hg) ?_ ?_
      · rintro i v G1 H1 H1' hi g1 ⟨rfl, hv⟩ Q' hq
        obtain ⟨z, hz, rfl⟩ := ints_at hv
        have hz' := hm.g0 z (List.mem_of_getElem? hz)
        refine ⟨rfl, ?_⟩
        walk_at "o"
        rw [numC_nat]
        exact hq _ _ _ (Grow.refl g1.gh) ⟨z, hz, rfl⟩
      · intro G' H' acc g' gD eD el er
        have eacc : acc = ((m.gs.map TL.numL).map S).map V.str := by
          refine List.ext_getElem? fun i => ?_
          rw [List.length_map, List.length_map] at el
          by_cases hi : i < acc.length
          · obtain ⟨z, hz, e⟩ := er i _ (List.getElem?_eq_getElem hi)
            rw [List.getElem?_eq_getElem hi, e]
            simp [hz]
          · rw [List.getElem?_eq_none (by omega), List.getElem?_eq_none (by simp; omega)]
        rw [eacc] at eD
        refine ⟨_, D, (m.gs.map TL.numL).map S, rfl, rfl, .inl (sqlU eD), ?_, ?_⟩
        · rw [SX.lens, List.length_map]
          have : ((m.gs.map TL.numL).map (·.length)).sum ≤ 4 * (m.gs.map TL.numL).length := sum_le fun x hx => by
            obtain ⟨g, hg, rfl⟩ := List.mem_map.mp hx
            exact numL_len4 (by have := (hm.g0 g hg).2; omega)
          rw [List.length_map] at this ⊢
          have e1 : (Str.ofString "+").length = 1 := by decide +kernel
          rw [e1]
          omega
        rw [lit_ "+" [43] (by decide +kernel), lit_ ":" [58] (by decide +kernel), SX.join_S]
        refine ⟨_, _, rfl, rfl, sz (by rw [S_len', S_len']; simp; omega), ?_⟩
        rw [SX.S_cat]
        refine ⟨_, _, rfl, rfl, sz (by rw [S_len', S_len']; simp; omega), ?_⟩
        rw [SX.S_cat]
        walk_at "s"
        have e : metC m = TL.numL m.top ++ [47] ++ TL.numL m.bot ++ ([58] ++ TL.joinL [43] (m.gs.map TL.numL)) := by
          unfold metC
          rw [if_neg hn]
          simp
        rw [e] at q
        exact q _ (s2.trans g'.same)
def sp_metre_of (K : PySem.W.Frag) : Sp := fun vs H Q _ => ∃ (G : Hp) (m : Met), vs = [.str (S (metC m))] ∧ Same G H ∧ MetOk m ∧ ∀ G' H' v, Grow No G H G' H' → Dp K G' v (metD m) → Q v H'
theorem at_metre_of (T : Txt w K mg A) : C8.CalAt P w K mg base 4 A.fmetre_of (sp_metre_of K) := by
  have d := T.d_metre_of
  refine calAt_of d sc_metre_of (fun vs H Q E h => ?_) (fun cdv A' outer s H vs Q E hr h => ?_)
  · obtain ⟨v, p, rfl, _⟩ := h; rfl
  · obtain ⟨G, m, rfl, sm, hm, q⟩ := h
    have hb := hm.b0
    have h0 := hm.t0
    have h1 := hm.t1
    have h2 := hm.g1
    have hL := metC_len hm
    have k1 := numL_len4 (n := m.top) (by omega)
    have k2 := numL_len4 (n := m.bot) (by omega)
    refine ⟨_, (pss_cons (ps_if (pt_not (pt_val (pe_callB call_isi (by rfl) T.n_isinstance boot_isinstance_ (pa_cons (pv 0) (pa_cons (pe_ty (by rfl) T.n_str boot_str_) pa_nil))))) (pss_one (ps_ret pe_non)) pss_nil)
    (pss_cons (ps_asg (pe_partition (pv 0) pe_str) (pg_tup rfl (pgs_cons (pg_name (i := 1) sc_metre_of.nd rfl (Or.inl rfl)) (pgs_cons (pg_name (i := 2) sc_metre_of.nd rfl (Or.inl rfl)) (pgs_cons (pg_name (i := 3) sc_metre_of.nd rfl (Or.inl rfl)) pgs_nil)))))
    (pss_cons (ps_asg (pe_partition (pv 1) pe_str) (pg_tup rfl (pgs_cons (pg_name (i := 4) sc_metre_of.nd rfl (Or.inl rfl)) (pgs_cons (pg_name (i := 5) sc_metre_of.nd rfl (Or.inl rfl)) (pgs_cons (pg_name (i := 6) sc_metre_of.nd rfl (Or.inl rfl)) pgs_nil)))))
    (pss_cons (ps_set (i := 7) sc_metre_of.nd rfl (Or.inl rfl) (pe_tup pa_nil))
    (pss_cons (ps_if (pt_cmpR op_ne (pv 2) pe_str (nomark _)) (pss_one (ps_set (i := 7) sc_metre_of.nd rfl (Or.inl rfl) (pe_callTy call_tuple_of (by rfl) T.n_tuple boot_tuple_ (pa_cons (pe_lc (own := [("one", 9)]) (g := (gName 9)) (tt := tYes) (by rfl) sc_metre_of.nd (pi_list (pe_split (pv 3) pe_str)) (blkOk_by (N := N_metre_of) (sc := (defScope s_metre_of)) (by decide +kernel)) (fun _ _ _ _ _ => (pg_name (i := 9) sc_metre_of.nd rfl (Or.inl rfl))) (fun _ _ _ _ _ => pts_nil) (fun _ _ _ _ _ => (pe_c (ok_number_of T) hr (by decide) rfl (pa_cons (pv 9) pa_nil)))) pa_nil)))) pss_nil)
    (pss_cons (ps_set (i := 8) sc_metre_of.nd rfl (Or.inl rfl) (pe_tup (pa_cons (pe_c (ok_number_of T) hr (by decide) rfl (pa_cons (pv 4) pa_nil)) (pa_cons (pe_c (ok_number_of T) hr (by decide) rfl (pa_cons (pv 6) pa_nil)) (pa_cons (pv 7) pa_nil)))))
    (pss_cons (ps_if (pt_not (pt_val (pe_c (ok_is_metre T) hr (by decide) rfl (pa_cons (pv 8) pa_nil)))) (pss_one (ps_ret pe_non)) pss_nil)
    (pss_one (ps_ret (pv 8)))))))))), ?_⟩
    walk_at "s"
    by_cases hn : m.gs = []
    · refine ⟨sz (by rw [S_len']; omega), fun p1 hp1 => ?_⟩
      rw [lit_ ":" [58] (by decide +kernel), metC_front0 hn]
      have s1 := same_new (o := .tup [.str (S (TL.numL m.top ++ 47 :: TL.numL m.bot)), .str (S []), .str (S [])]) hp1
      refine ⟨p1, _, rfl, sqtU upd_same, rfl, _, _, rfl, _, _, rfl, _, _, rfl, rfl, ?_⟩
      walk_at "s"
      refine ⟨sz (by rw [S_len']; simp; omega), fun p2 hp2 => ?_⟩
      rw [lit_ "/" [47] (by decide +kernel), par_some 47 _ slash_num]
      have s2 := same_new (o := .tup [.str (S (TL.numL m.top)), .str (S [47]), .str (S (TL.numL m.bot))]) hp2
      refine ⟨p2, _, rfl, sqtU upd_same, rfl, _, _, rfl, _, _, rfl, _, _, rfl, rfl, ?_⟩
      refine ⟨Nat.zero_le _, fun p3 hp3 => ?_⟩
      have s3 := same_new (o := .tup []) hp3
      walk_at "s"
      have sg := (s1.trans s2).trans s3
      have fg := (s1.trans s2).free hp3
      have eg : (upd (upd (upd H p1 (.tup [.str (S (TL.numL m.top ++ 47 :: TL.numL m.bot)), .str (S []), .str (S [])])) p2 (.tup [.str (S (TL.numL m.top)), .str (S [47]), .str (S (TL.numL m.bot))])) p3 (.tup [])) p3 = some (.tup ((m.gs.map fun g : Nat => (g : Int)).map V.int)) := by rw [hn]; exact upd_same
      refine ⟨m.top, by rw [numC_nat]; rfl, by omega, by omega, fun H5 s5 => ?_⟩
      walk_at "s"
      refine ⟨m.bot, by rw [numC_nat]; rfl, by omega, by omega, fun H6 s6 => ?_⟩
      walk_at "s"
      refine ⟨by show 3 ≤ sizeLine; decide, fun p4 hp4 => ?_⟩
      have s7 := same_new (o := .tup [.int m.top, .int m.bot, .ref p3]) hp4
      have f4 : H p4 = none := (sg.trans (s5.trans s6)).free hp4
      have eg6 := (s5.trans s6) _ _ eg
      have ne : p3 ≠ p4 := ne_of_none eg6 hp4
      have eg7 := s7 _ _ eg6
      have gr : Grow No G H (upd (upd G p3 (.tup ((m.gs.map fun g : Nat => (g : Int)).map V.int))) p4 (.tup [.int m.top, .int m.bot, .ref p3])) (upd H6 p4 (.tup [.int m.top, .int m.bot, .ref p3])) :=
        ((Grow.of_same sm (sg.trans ((s5.trans s6).trans s7))).fix eg7 fg (sm.free fg)).fix upd_same f4 (by
          rw [upd_ne ne.symm]
          exact sm.free f4)
      have hd : Dp K (upd (upd G p3 (.tup ((m.gs.map fun g : Nat => (g : Int)).map V.int))) p4 (.tup [.int m.top, .int m.bot, .ref p3])) (.ref p4) (metD m) :=
        .tupU upd_same (.cons (.int _) (.cons (.int _) (.cons (.tupU (by rw [upd_ne ne, upd_same]) (by rw [intsD_eq]; exact .ofInts)) .nil)))
      walk_at "s"
      refine ⟨_, m, rfl, hd.mono gr.gh, hm, fun H8 s8 => ?_⟩
      walk_at "s"
      exact q _ _ _ (gr.tr (Grow.of_same gr.gh s8)) hd
    · refine ⟨sz (by rw [S_len']; omega), fun p1 hp1 => ?_⟩
      rw [lit_ ":" [58] (by decide +kernel), metC_front1 hn]
      have s1 := same_new (o := .tup [.str (S (TL.numL m.top ++ 47 :: TL.numL m.bot)), .str (S [58]), .str (S (TL.joinL [43] (m.gs.map TL.numL)))]) hp1
      refine ⟨p1, _, rfl, sqtU upd_same, rfl, _, _, rfl, _, _, rfl, _, _, rfl, rfl, ?_⟩
      walk_at "s"
      refine ⟨sz (by rw [S_len']; simp; omega), fun p2 hp2 => ?_⟩
      rw [lit_ "/" [47] (by decide +kernel), par_some 47 _ slash_num]
      have s2 := same_new (o := .tup [.str (S (TL.numL m.top)), .str (S [47]), .str (S (TL.numL m.bot))]) hp2
      refine ⟨p2, _, rfl, sqtU upd_same, rfl, _, _, rfl, _, _, rfl, _, _, rfl, rfl, ?_⟩
      refine ⟨Nat.zero_le _, fun p3 hp3 => ?_⟩
      have s3 := same_new (o := .tup []) hp3
      walk_at "s"
      have hrl : (TL.joinL [43] (m.gs.map TL.numL)).length ≤ 60 := by
        have k5 : (TL.joinL [43] (m.gs.map TL.numL)).length ≤ (4 + 1) * (m.gs.map TL.numL).length := joinL_len fun x hx => by
          obtain ⟨g, hg, rfl⟩ := List.mem_map.mp hx
          exact numL_len4 (by have := (hm.g0 g hg).2; omega)
        rw [List.length_map] at k5
        omega
      refine ⟨sz (by rw [S_len']; omega), fun pl hpl => ?_⟩
      rw [lit_ "+" [43] (by decide +kernel), split_join 43 (by decide) (fun z => hn (List.map_eq_nil_iff.mp z)) (fun x hx => by
        obtain ⟨g, hg, rfl⟩ := List.mem_map.mp hx
        exact TL.numL_free (.inl (by decide)))]
      have s4 := same_new (o := .lst (((m.gs.map TL.numL).map S).map V.str)) hpl
      walk_at "s"
      refine ⟨⟨_, sqlU upd_same⟩, fun D hD => ?_⟩
      have hlen : (((m.gs.map TL.numL).map S).map V.str).length ≤ 100000 := by
        rw [List.length_map, List.length_map, List.length_map]
        omega
      refine lc_pure walk_list hD (Same.refl _) (fun _ i v => ∃ z, m.gs[i]? = some z ∧ v = .int (z : Nat)) hlen (fun _ _ _ _ _ h => h) (fun G1 H1 g1 => g1.same.seq (sqlU upd_same)) ?_ ?_
      · rintro i v G1 H1 H1' hi g1 ⟨rfl, hv⟩ Q' hq
        obtain ⟨z, hz, rfl⟩ : ∃ z, m.gs[i]? = some z ∧ v = .str (S (TL.numL z)) := by
          simp only [List.getElem?_map, Option.map_eq_some_iff] at hv
          obtain ⟨_, ⟨_, ⟨z, hz, rfl⟩, rfl⟩, rfl⟩ := hv
          exact ⟨z, hz, rfl⟩
        have hz' := hm.g0 z (List.mem_of_getElem? hz)
        refine ⟨rfl, ?_⟩
        walk_at "s"
        refine ⟨z, by rw [numC_nat]; rfl, by omega, by omega, fun H5 s5 => ?_⟩
        exact hq _ _ _ (Grow.of_same g1.gh s5) ⟨z, hz, rfl⟩
      · intro G' H' acc g' gD eD el er
        have eacc : acc = (m.gs.map fun g : Nat => (g : Int)).map V.int := by
          refine List.ext_getElem? fun i => ?_
          rw [List.length_map, List.length_map, List.length_map] at el
          by_cases hi : i < acc.length
          · obtain ⟨z, hz, e⟩ := er i _ (List.getElem?_eq_getElem hi)
            rw [List.getElem?_eq_getElem hi, e]
            simp [hz]
          · rw [List.getElem?_eq_none (by omega), List.getElem?_eq_none (by simp; omega)]
        rw [eacc] at eD
        refine ⟨D, _, rfl, .inl ⟨sqlU eD, fun pg hpg => ?_⟩⟩
        have sH : Same H H' := ((s1.trans s2).trans s3).trans (s4.trans g'.same)
        have s6 := same_new (o := .tup ((m.gs.map fun g : Nat => (g : Int)).map V.int)) hpg
        have sg := sH.trans s6
        have fg : H pg = none := sH.free hpg
        have eg : (upd H' pg (.tup ((m.gs.map fun g : Nat => (g : Int)).map V.int))) pg = some (.tup ((m.gs.map fun g : Nat => (g : Int)).map V.int)) := upd_same
        walk_at "s"
        refine ⟨m.top, by rw [numC_nat]; rfl, by omega, by omega, fun H5 s5 => ?_⟩
        walk_at "s"
        refine ⟨m.bot, by rw [numC_nat]; rfl, by omega, by omega, fun H6 s6 => ?_⟩
        walk_at "s"
        refine ⟨by show 3 ≤ sizeLine; decide, fun p4 hp4 => ?_⟩
        have s7 := same_new (o := .tup [.int m.top, .int m.bot, .ref pg]) hp4
        have f4 : H p4 = none := (sg.trans (s5.trans s6)).free hp4
        have eg6 := (s5.trans s6) _ _ eg
        have ne : pg ≠ p4 := ne_of_none eg6 hp4
        have eg7 := s7 _ _ eg6
        have gr : Grow No G H (upd (upd G pg (.tup ((m.gs.map fun g : Nat => (g : Int)).map V.int))) p4 (.tup [.int m.top, .int m.bot, .ref pg])) (upd H6 p4 (.tup [.int m.top, .int m.bot, .ref pg])) :=
          ((Grow.of_same sm (sg.trans ((s5.trans s6).trans s7))).fix eg7 fg (sm.free fg)).fix upd_same f4 (by
            rw [upd_ne ne.symm]
            exact sm.free f4)
        have hd : Dp K (upd (upd G pg (.tup ((m.gs.map fun g : Nat => (g : Int)).map V.int))) p4 (.tup [.int m.top, .int m.bot, .ref pg])) (.ref p4) (metD m) :=
          .tupU upd_same (.cons (.int _) (.cons (.int _) (.cons (.tupU (by rw [upd_ne ne, upd_same]) (by rw [intsD_eq]; exact .ofInts)) .nil)))
        walk_at "s"
        refine ⟨_, m, rfl, hd.mono gr.gh, hm, fun H8 s8 => ?_⟩
        walk_at "s"
        exact q _ _ _ (gr.tr (Grow.of_same gr.gh s8)) hd
theorem ok_metre_of (T : Txt w K mg A) : Cal P w K mg base 4 "metre_of" (sp_metre_of K) [] := cal_at T.d_metre_of (at_metre_of T)
end
end BW
set_option Elab.async false
set_option linter.all false
set_option maxRecDepth 100000
set_option maxHeartbeats 4000000
set_option pp.maxSteps 3000
namespace BW
open PySem PySem.Spec PyProof.Rows L2
open C8 (Cal Met Mak pe_c pe_mk pe_mt pe_mt0 pe_gc sl_txt fnBody fnScope fnArgs)
local macro_rules | `(tactic| walk_at "v") => `(tactic| refine ⟨_, rfl, ?_⟩)
local macro_rules | `(tactic| walk_at "i2") => `(tactic| refine ⟨_, _, rfl, rfl, ?_⟩)
local macro_rules | `(tactic| walk_at "k") => `(tactic| exact (by decide +kernel))
local macro_rules | `(tactic| walk_at "s") => `(tactic| repeat (first | refine ⟨_, rfl, ?_⟩ | refine ⟨_, _, rfl, rfl, ?_⟩ | refine ⟨rfl, ?_⟩ | refine ⟨⟨_, rfl⟩, ?_⟩ | refine iteT ?_ | refine iteF ?_ | refine ⟨_, _, _, _, _, rfl, .ty _, tyI, kit_ty kit_int_int, ?_⟩ | refine ⟨_, _, _, _, _, rfl, .ty _, tyI, kit_ty kit_int_bool, ?_⟩ | refine ⟨_, _, _, _, _, rfl, .ty _, tyS, kit_ty kit_str_str, ?_⟩ | refine ⟨_, _, _, _, _, rfl, .ty _, tyB, kit_ty kit_bool_bool, ?_⟩ | refine ⟨_, _, _, _, _, rfl, by assumption, by assumption, by assumption, rfl, ?_⟩))
local macro_rules | `(tactic| walk_at "o") => `(tactic| repeat (first | refine ⟨_, rfl, ?_⟩ | refine ⟨_, _, rfl, rfl, ?_⟩ | refine ⟨rfl, ?_⟩ | refine ⟨⟨_, rfl⟩, ?_⟩ | refine iteT ?_ | refine iteF ?_ | refine ⟨_, _, _, _, _, rfl, .ty _, tyI, kit_ty kit_int_int, ?_⟩ | refine ⟨_, _, _, _, _, rfl, .ty _, tyI, kit_ty kit_int_bool, ?_⟩ | refine ⟨_, _, _, _, _, rfl, .ty _, tyS, kit_ty kit_str_str, ?_⟩ | refine ⟨_, _, _, _, _, rfl, .ty _, tyB, kit_ty kit_bool_bool, ?_⟩ | refine ⟨_, _, _, _, _, rfl, by assumption, by assumption, by assumption, rfl, ?_⟩ | refine iteDF (by omega) ?_ | refine iteD (by omega) ?_ | refine ⟨_, _, _, rfl, by omega, by omega, ?_⟩ | refine And.intro (by omega) ?_))

open SX (S)
section
variable {P : Program} {w : World} {K : PySem.W.Frag} {mg : Str → Option Value} {base : Heap} {A : Ad}
def sp_Sound_init (K : PySem.W.Frag) : Sp := fun vs H Q _ => ∃ (x C dx : Addr) (n : Int), vs = [.ref x, .int n] ∧ H x = some (.ins C dx []) ∧ Cls K C ∧ NoAttr K C "length" ∧ Q .non (upd H x (.ins C dx [("length", .int n)]))
theorem body_Sound_init {f : Addr} {cdv : Value} {A' : Around} {outer : List Env} {s : Shared} {H : Hp} {vs : List V} {Q : VK} {E : XK} (hr : Room 0 (A'.deeper (envOfC "Sound.__init__" (fnScope s_Sound___init__) s.heap.objs.size f cdv))) (h : sp_Sound_init K vs H Q E) :
    ∃ t, PSs (cxOf C8.CX0 P w K mg base N_Sound___init__ "Sound.__init__" (fnScope s_Sound___init__) f cdv A' outer s H E).nox (fnBody s_Sound___init__) t ∧ t { nx := fun _ H' => Q .non H', rt := Q } (start N_Sound___init__ vs) H := by
  obtain ⟨x, C, dx, n, rfl, hx, c, na, q⟩ := h
  refine ⟨_, (pss_one (ps_fld (pv 0) (pv 1) rfl)), ?_⟩
  walk_at "s"
  refine ⟨x, C, dx, _, rfl, hx, c, na, by decide, ?_⟩
  exact q
theorem mk_Rest (T : Txt w K mg A) : Mak P w K mg base 1 "Rest" A.cRest (sp_Sound_init K) [] := by
  refine mak_of T.i_Rest sc_Sound___init__ (fun vs H Q E h => ?_) (fun f cdv A' outer s H vs Q E hr h => body_Sound_init hr h)
  obtain ⟨x, C, dx, n, rfl, _⟩ := h; rfl
theorem cf_Sound (T : Txt w K mg A) : ClsFn P w K mg base 1 A.cSound "__init__" (sp_Sound_init K) := by
  obtain ⟨mc, f, fd, r, cv, kp, F, b⟩ := T.f_Sound
  refine ⟨mc, f, fd, _, r, cv, kp, C8.fn0 F sc_Sound___init__ (fun vs H Q E h => ?_) (fun cdv A' outer s H vs Q E hr h => body_Sound_init hr h), b⟩
  obtain ⟨x, C, dx, n, rfl, _⟩ := h; rfl
def sp_Tones_init (K : PySem.W.Frag) (A : Ad) : Sp := fun vs H Q _ => ∃ (G : Hp) (x dx pz : Addr) (n : Nat) (ps : List V) (wd : List Nat) (o c : Bool), vs = [.ref x, .ref pz, .int n, .str (S wd), .bl o, .bl c] ∧ Same G H ∧ G x = none ∧ H x = some (.ins A.cTones dx []) ∧ SqL K G pz ps ∧
  ∀ p H', H p = none → H' p = some (.lst ps) → H' x = some (.ins A.cTones dx (tonesF n (.ref p) wd o c)) → (∀ b u, b ≠ x → H b = some u → H' b = some u) → Q .non H'
theorem mk_Tones (T : Txt w K mg A) : Mak P w K mg base 2 "Tones" A.cTones (sp_Tones_init K A) [] := by
  refine mak_of T.i_Tones sc_Tones___init__ (fun vs H Q E h => ?_) (fun f cdv A' outer s H vs Q E hr h => ?_)
  · obtain ⟨G, x, dx, pz, n, ps, wd, o, c, rfl, _⟩ := h; rfl
  · obtain ⟨G, x, dx, pz, n, ps, wd, o, c, rfl, sm, gx, hx, hps, q⟩ := h
    have cl := T.o_Tones.cl
    refine ⟨_, (pss_cons (ps_expr (pe_clsfn (cf_Sound T) hr (by decide) (pe_gc rfl T.v_Sound) (pa_cons (pv 0) (pa_cons (pv 2) pa_nil))))
    (pss_cons (ps_fld (pv 0) (pe_callTy call_list_of (by rfl) T.n_list boot_list_ (pa_cons (pv 1) pa_nil)) rfl)
    (pss_cons (ps_fld (pv 0) (pv 3) rfl)
    (pss_cons (ps_fld (pv 0) (pv 4) rfl)
    (pss_one (ps_fld (pv 0) (pv 5) rfl)))))), ?_⟩
    walk_at "s"
    refine ⟨x, A.cTones, dx, n, rfl, hx, cl, T.no_Tones_length, ?_⟩
    walk_at "s"
    refine ⟨_, _, rfl, .inl ((same_mut sm gx).seq hps), fun l hl => ?_⟩
    have nxl : x ≠ l := ne_of_none upd_same hl
    have hl0 : H l = none := by rw [upd_ne nxl.symm] at hl; exact hl
    refine ⟨_, rfl, x, A.cTones, dx, _, rfl, (by rw [upd_ne nxl, upd_same]), cl, T.no_Tones_pitches, by simp, ?_⟩
    rw [putF_cons (by decide +kernel), show putF (Str.ofString "pitches") (V.ref l) [] = [(Str.ofString "pitches", V.ref l)] from rfl]
    refine ⟨_, rfl, _, rfl, x, A.cTones, dx, _, rfl, upd_same, cl, T.no_Tones_word, by simp, ?_⟩
    rw [putF_cons (by decide +kernel), putF_cons (by decide +kernel), show putF (Str.ofString "word") (V.str (S wd)) [] = [(Str.ofString "word", V.str (S wd))] from rfl]
    refine ⟨_, rfl, _, rfl, x, A.cTones, dx, _, rfl, upd_same, cl, T.no_Tones_opens, by simp, ?_⟩
    rw [putF_cons (by decide +kernel), putF_cons (by decide +kernel), putF_cons (by decide +kernel), show putF (Str.ofString "opens") (V.bl o) [] = [(Str.ofString "opens", V.bl o)] from rfl]
    refine ⟨_, rfl, _, rfl, x, A.cTones, dx, _, rfl, upd_same, cl, T.no_Tones_closes, by simp, ?_⟩
    rw [putF_cons (by decide +kernel), putF_cons (by decide +kernel), putF_cons (by decide +kernel), putF_cons (by decide +kernel), show putF (Str.ofString "closes") (V.bl c) [] = [(Str.ofString "closes", V.bl c)] from rfl]
    refine q l _ hl0 ?_ upd_same fun b u nb e => ?_
    · rw [upd_ne nxl.symm, upd_ne nxl.symm, upd_ne nxl.symm, upd_ne nxl.symm, upd_same]
    · rw [upd_ne nb, upd_ne nb, upd_ne nb, upd_ne nb, upd_ne (ne_of_none e hl0), upd_ne nb]
      exact e
/-- told() -/
def sp_told (K : PySem.W.Frag) (A : Ad) (r : Bool) : Sp := fun vs H Q _ => ∃ (G : Hp) (v : V) (x : Snd), vs = [v] ∧ Same G H ∧ SndAt K A G v x ∧ x.isRest = r ∧ ∀ G' H' z, Grow No G H G' H' → Dp K G' z (sndD x) → Q z H'
theorem mt_Rest_told (T : Txt w K mg A) : C8.Met P w K mg base 1 A.cRest "told" (sp_told K A true) [] := by
  refine met_of T.o_Rest T.m_Rest_told sc_Rest_told (fun vs H Q E h => ?_) (fun f cdv A' outer s H vs Q E hr h => ?_)
  · obtain ⟨G, v, x, rfl, _⟩ := h; rfl
  · obtain ⟨G, v, x, rfl, sm, hx, hr', q⟩ := h
    cases x with
    | tones => cases hr'
    | rest n =>
      obtain ⟨a, dx, rfl, ha⟩ := hx
      refine ⟨_, (pss_one (ps_ret (pe_tup (pa_cons pe_str (pa_cons (pe_fld (pv 0) rfl) pa_nil))))), ?_⟩
      walk_at "s"
      refine ⟨a, A.cRest, dx, restF n, .int n, rfl, sm _ _ ha, T.o_Rest.cl, T.no_Rest_length, rfl, ?_⟩
      refine ⟨by show 2 ≤ sizeLine; decide, fun p hp => ?_⟩
      exact q _ _ _ ((Grow.refl sm).immN hp) (.tupU upd_same (.cons (.str _) (.cons (.int _) .nil)))
theorem mt_Tones_told (T : Txt w K mg A) : C8.Met P w K mg base 1 A.cTones "told" (sp_told K A false) [] := by
  refine met_of T.o_Tones T.m_Tones_told sc_Tones_told (fun vs H Q E h => ?_) (fun f cdv A' outer s H vs Q E hr h => ?_)
  · obtain ⟨G, v, x, rfl, _⟩ := h; rfl
  · obtain ⟨G, v, x, rfl, sm, hx, hr', q⟩ := h
    cases x with
    | rest => cases hr'
    | tones ps n wd o c =>
      obtain ⟨a, dx, pl, rfl, ha, hpl⟩ := hx
      have cl := T.o_Tones.cl
      obtain ⟨pa, vs, rfl, hvs, hdp⟩ := dpL hpl
      refine ⟨_, (pss_one (ps_ret (pe_tup (pa_cons pe_str (pa_cons (pe_callTy call_list_of (by rfl) T.n_list boot_list_ (pa_cons (pe_fld (pv 0) rfl) pa_nil)) (pa_cons (pe_fld (pv 0) rfl) (pa_cons (pe_fld (pv 0) rfl) (pa_cons (pe_fld (pv 0) rfl) (pa_cons (pe_fld (pv 0) rfl) pa_nil))))))))), ?_⟩
      walk_at "s"
      refine ⟨a, A.cTones, dx, _, _, rfl, sm _ _ ha, cl, T.no_Tones_pitches, rfl, ?_⟩
      walk_at "s"
      refine ⟨_, _, rfl, .inl (sm.seq hvs), fun l hl => ?_⟩
      have sl := same_new (o := .lst vs) hl
      walk_at "s"
      refine ⟨a, A.cTones, dx, _, _, rfl, sl _ _ (sm _ _ ha), cl, T.no_Tones_length, rfl, ?_⟩
      walk_at "s"
      refine ⟨a, A.cTones, dx, _, _, rfl, sl _ _ (sm _ _ ha), cl, T.no_Tones_word, rfl, ?_⟩
      walk_at "s"
      refine ⟨a, A.cTones, dx, _, _, rfl, sl _ _ (sm _ _ ha), cl, T.no_Tones_opens, rfl, ?_⟩
      walk_at "s"
      refine ⟨a, A.cTones, dx, _, _, rfl, sl _ _ (sm _ _ ha), cl, T.no_Tones_closes, rfl, ?_⟩
      refine ⟨by show 6 ≤ sizeLine; decide, fun p hp => ?_⟩
      have g1 : Grow No G H (upd G l (.lst vs)) (upd H l (.lst vs)) := (Grow.refl sm).immN hl
      have g2 := g1.immN (o := .tup [.str (Str.ofString "tones"), .ref l, .int n, .str (S wd), .bl o, .bl c]) hp
      refine q _ _ _ g2 (.tupU upd_same (.cons (.str _) (.cons ?_ (.cons (.int _) (.cons (.str _) (.cons (.bl _) (.cons (.bl _) .nil)))))))
      have e : (upd (upd G l (.lst vs)) p (.tup [.str (Str.ofString "tones"), .ref l, .int n, .str (S wd), .bl o, .bl c])) l = some (.lst vs) := by
        rw [upd_ne (ne_of_none upd_same hp), upd_same]
      exact .lstU e (hdp.mono g2.gg)
def sp_is_rest (K : PySem.W.Frag) : Sp := fun vs H Q _ => ∃ (v : V) (x : Snd), vs = [v] ∧ Dp K H v (sndD x) ∧ SndOk x ∧ Q (.bl x.isRest) H
theorem ok_is_rest (T : Txt w K mg A) : Cal P w K mg base 3 "is_rest" (sp_is_rest K) [] := by
  obtain ⟨f, d⟩ := T.d_is_rest
  refine cal_of d sc_is_rest (fun vs H Q E h => ?_) (fun cdv A' outer s H vs Q E hr h => ?_)
  · obtain ⟨v, p, rfl, _⟩ := h; rfl
  · obtain ⟨v, x, rfl, hv, ok, q⟩ := h
    refine ⟨_, (pss_cons (ps_if (PW.pt (pw_or (pt_not (pt_val (pe_callB call_isi (by rfl) T.n_isinstance boot_isinstance_ (pa_cons (pv 0) (pa_cons (pe_ty (by rfl) T.n_tuple boot_tuple_) pa_nil))))) (pw_or1 (pt_cmpR op_ne (pe_callB call_len_seq (by rfl) T.n_len boot_len_ (pa_cons (pv 0) pa_nil)) pe_int (nomark _))))) (pss_one (ps_ret pe_bl)) pss_nil)
    (pss_one (ps_ret (pe_and (pe_cmpR op_eq (pe_ix ix_tup (pv 0) pe_int (fun _ _ => rfl)) pe_str (nomark _)) (pe_one (pe_c (ok_is_among T) hr (by decide) rfl (pa_cons (pe_ix ix_tup (pv 0) pe_int (fun _ _ => rfl)) (pa_cons (pe_gc rfl T.c_LEAST_LENGTH) (pa_cons (pe_gc rfl T.c_MOST_REST) pa_nil))))))))), ?_⟩
    walk_at "s"
    cases x with
    | rest n =>
      obtain ⟨a, y, z, rfl, ht, ry, rz⟩ := dpT2 hv
      cases dpS ry; cases dpI rz
      obtain ⟨o1, o2⟩ := ok
      refine ⟨_, _, _, _, _, rfl, .ty _, isT ht, kit_ty kit_tuple_tuple, ?_⟩
      walk_at "s"
      refine ⟨_, _, rfl, .inr ht, ?_⟩
      walk_at "s"
      refine ⟨_, _, _, _, rfl, rfl, ht, atI_0, ?_⟩
      walk_at "s"
      refine ⟨_, _, _, _, rfl, rfl, ht, atI_1, ?_⟩
      walk_at "o"
      exact q
    | tones ps n wd o c =>
      obtain ⟨a, xs, rfl, ht, r⟩ := dpT hv
      have hlen := r.len
      refine ⟨_, _, _, _, _, rfl, .ty _, isT ht, kit_ty kit_tuple_tuple, ?_⟩
      walk_at "s"
      refine ⟨_, _, rfl, .inr ht, ?_⟩
      rw [hlen]
      walk_at "s"
      exact q
end
end BW
set_option Elab.async false
set_option linter.all false
set_option maxRecDepth 100000
set_option maxHeartbeats 4000000
set_option pp.maxSteps 3000
namespace BW
open PySem PySem.Spec PyProof.Rows L2
open C8 (Cal Met Mak pe_c pe_mk pe_mt pe_mt0 pe_gc sl_txt fnBody fnScope fnArgs)
local macro_rules | `(tactic| walk_at "v") => `(tactic| refine ⟨_, rfl, ?_⟩)
local macro_rules | `(tactic| walk_at "i2") => `(tactic| refine ⟨_, _, rfl, rfl, ?_⟩)
local macro_rules | `(tactic| walk_at "k") => `(tactic| exact (by decide +kernel))
local macro_rules | `(tactic| walk_at "s") => `(tactic| repeat (first | refine ⟨_, rfl, ?_⟩ | refine ⟨_, _, rfl, rfl, ?_⟩ | refine ⟨rfl, ?_⟩ | refine ⟨⟨_, rfl⟩, ?_⟩ | refine iteT ?_ | refine iteF ?_ | refine ⟨_, _, _, _, _, rfl, .ty _, tyI, kit_ty kit_int_int, ?_⟩ | refine ⟨_, _, _, _, _, rfl, .ty _, tyI, kit_ty kit_int_bool, ?_⟩ | refine ⟨_, _, _, _, _, rfl, .ty _, tyS, kit_ty kit_str_str, ?_⟩ | refine ⟨_, _, _, _, _, rfl, .ty _, tyB, kit_ty kit_bool_bool, ?_⟩ | refine ⟨_, _, _, _, _, rfl, by assumption, by assumption, by assumption, rfl, ?_⟩))
local macro_rules | `(tactic| walk_at "o") => `(tactic| repeat (first | refine ⟨_, rfl, ?_⟩ | refine ⟨_, _, rfl, rfl, ?_⟩ | refine ⟨rfl, ?_⟩ | refine ⟨⟨_, rfl⟩, ?_⟩ | refine iteT ?_ | refine iteF ?_ | refine ⟨_, _, _, _, _, rfl, .ty _, tyI, kit_ty kit_int_int, ?_⟩ | refine ⟨_, _, _, _, _, rfl, .ty _, tyI, kit_ty kit_int_bool, ?_⟩ | refine ⟨_, _, _, _, _, rfl, .ty _, tyS, kit_ty kit_str_str, ?_⟩ | refine ⟨_, _, _, _, _, rfl, .ty _, tyB, kit_ty kit_bool_bool, ?_⟩ | refine ⟨_, _, _, _, _, rfl, by assumption, by assumption, by assumption, rfl, ?_⟩ | refine iteDF (by omega) ?_ | refine iteD (by omega) ?_ | refine ⟨_, _, _, rfl, by omega, by omega, ?_⟩ | refine And.intro (by omega) ?_))

open SX (S)
section
variable {P : Program} {w : World} {K : PySem.W.Frag} {mg : Str → Option Value} {base : Heap} {A : Ad}
theorem rise_at : ∀ {ps : List Pit} {i : Nat} {p q : Pit}, Rise ps → ps[i]? = some p → ps[i + 1]? = some q → p.line < q.line
  | [], _, _, _, _, h, _ => by simp at h
  | [_], 0, _, _, _, _, h => by simp at h
  | [_], i + 1, _, _, _, h, _ => by simp at h
  | a :: b :: r, 0, p, q, ⟨h, _⟩, h1, h2 => by
    cases (Option.some.inj h1)
    cases (Option.some.inj h2)
    exact h
  | a :: b :: r, i + 1, p, q, ⟨_, h⟩, h1, h2 => rise_at (i := i) h h1 h2
theorem ps_at {G : Hp} {xs : List V} {ps : List Pit} {i : Nat} {v : V} (h : DpAll K G xs (ps.map pitD)) (hv : xs[i]? = some v) : ∃ p, ps[i]? = some p ∧ Dp K G v (pitD p) := by
  obtain ⟨d, e, q⟩ := h.get hv
  rw [List.getElem?_map] at e
  cases hp : ps[i]? with
  | none => rw [hp] at e; cases e
  | some p => rw [hp] at e; cases e; exact ⟨p, rfl, q⟩
def sp_are_pitches (K : PySem.W.Frag) : Sp := fun vs H Q _ => ∃ (v : V) (ps : List Pit), vs = [v] ∧ Dp K H v (psD ps) ∧ 1 ≤ ps.length ∧ ps.length ≤ 4 ∧ (∀ p ∈ ps, PitOk p) ∧ Rise ps ∧ ∀ H', Same H H' → Q (.bl true) H'
theorem ok_are_pitches (T : Txt w K mg A) : Cal P w K mg base 4 "are_pitches" (sp_are_pitches K) [] := by
  obtain ⟨f, d⟩ := T.d_are_pitches
  refine cal_of d sc_are_pitches (fun vs H Q E h => ?_) (fun cdv A' outer s H vs Q E hr h => ?_)
  · obtain ⟨v, p, rfl, _⟩ := h; rfl
  · obtain ⟨v, ps, rfl, hv, h1, h2, hp, hri, q⟩ := h
    obtain ⟨a, xs, rfl, hl, r⟩ := dpL hv
    have hlen := r.len
    rw [List.length_map] at hlen
    refine ⟨_, (pss_cons (ps_if (PW.pt (pw_or (pt_not (pt_val (pe_callB call_isi (by rfl) T.n_isinstance boot_isinstance_ (pa_cons (pv 0) (pa_cons (pe_ty (by rfl) T.n_list boot_list_) pa_nil))))) (pw_or1 (pt_not (pt_chain op_le op_le pe_int (pe_callB call_len_seq (by rfl) T.n_len boot_len_ (pa_cons (pv 0) pa_nil)) (pe_gc rfl T.c_MOST_PITCHES)))))) (pss_one (ps_ret pe_bl)) pss_nil)
    (pss_cons (ps_if (pt_not (pt_val (pe_callB (cr_all rfl) (by rfl) T.n_all boot_all_ (pa_cons (pe_lc (own := [("one", 1)]) (g := (gName 1)) (tt := tYes) (by rfl) sc_are_pitches.nd (pi_list (pv 0)) (blkOk_by (N := N_are_pitches) (sc := (defScope s_are_pitches)) (by decide +kernel)) (fun _ _ _ _ _ => (pg_name (i := 1) sc_are_pitches.nd rfl (Or.inl rfl))) (fun _ _ _ _ _ => pts_nil) (fun _ _ _ _ _ => (pe_c (ok_is_pitch T) hr (by decide) rfl (pa_cons (pv 1) pa_nil)))) pa_nil)))) (pss_one (ps_ret pe_bl)) pss_nil)
    (pss_one (ps_ret (pe_callB (cr_all rfl) (by rfl) T.n_all boot_all_ (pa_cons (pe_lc (own := [("one", 1), ("other", 2)]) (g := (gTup K 2 (gCons (gName 1) (gCons (gName 2) gNil)))) (tt := tYes) (by rfl) sc_are_pitches.nd (pi_zip (by rfl) T.n_zip (pa_cons (pv 0) (pa_cons (pe_slice sl_list (pv 0) (po_some pe_int) po_none) pa_nil))) (blkOk_by (N := N_are_pitches) (sc := (defScope s_are_pitches)) (by decide +kernel)) (fun _ _ _ _ _ => (pg_tup rfl (pgs_cons (pg_name (i := 1) sc_are_pitches.nd rfl (Or.inl rfl)) (pgs_cons (pg_name (i := 2) sc_are_pitches.nd rfl (Or.inl rfl)) pgs_nil)))) (fun _ _ _ _ _ => pts_nil) (fun _ _ _ _ _ => (pe_cmpR op_lt (pe_c (ok_line T) hr (by decide) rfl (pa_cons (pv 1) pa_nil)) (pe_c (ok_line T) hr (by decide) rfl (pa_cons (pv 2) pa_nil)) (nomark _)))) pa_nil)))))), ?_⟩
    walk_at "s"
    refine ⟨_, _, _, _, _, rfl, .ty _, isL hl, kit_ty kit_list_list, ?_⟩
    walk_at "s"
    refine ⟨_, _, rfl, .inl hl, ?_⟩
    walk_at "o"
    rw [decide_eq_true (show (xs.length : Int) ≤ 4 by omega)]
    walk_at "s"
    refine ⟨⟨_, hl⟩, fun D hD => ?_⟩
    refine lc_pure walk_list hD (Same.refl H) (fun _ _ v => v = .bl true) (by omega) (fun _ _ _ _ _ h => h) (fun G1 H1 g1 => g1.same.seq hl) ?_ ?_
    · rintro i v G1 H1 H1' hi g1 ⟨rfl, hx⟩ Q' hq
      obtain ⟨p, hpi, dp⟩ := ps_at r hx
      refine ⟨rfl, ?_⟩
      walk_at "s"
      refine ⟨_, p, rfl, dp.mono g1.same, hp p (List.mem_of_getElem? hpi), ?_⟩
      exact hq _ _ _ (Grow.refl g1.gh) rfl
    · intro G' H' acc g' gD eD el er
      refine ⟨D, (List.range acc.length).map fun _ => true, rfl, ?_, ?_⟩
      · rw [← bls (f := fun _ => true) er]
        exact sqlU eD
      rw [all_trues]
      walk_at "s"
      refine ⟨a, xs, rfl, g'.same.seq hl, fun c hc => ?_⟩
      have s2 := same_new (o := .lst (cutV xs (some 1) none)) hc
      have ecut : cutV xs (some 1) none = xs.drop 1 := by
        unfold cutV
        rw [show HT.sIx xs.length 0 (some 1) = min 1 xs.length from HT.sIx_nat xs.length 0 1, HT.sIx_none, show min 1 xs.length = 1 by omega]
        exact List.take_of_length_le (by rw [List.length_drop]; omega)
      refine ⟨a, c, xs, xs.drop 1, rfl, (g'.same.trans s2).seq hl, sqlU (by rw [upd_same, ecut]), fun D2 hD2 => ?_⟩
      refine lc_pure (walk_zip (n := xs.length - 1) (xs := xs) (ys := xs.drop 1) (by rw [List.length_drop]; omega)) hD2 (Same.refl _) (fun _ _ v => v = .bl true) (by omega) (fun _ _ _ _ _ h => h) (fun G1 H1 g1 => ⟨((g'.same.trans s2).trans g1.same).seq hl, g1.same.seq (sqlU (by rw [upd_same, ecut]))⟩) ?_ ?_
      · rintro i v G1 H1 H1' hi g1 ⟨t, x, y, rfl, ht, rfl, hx, hy⟩ Q' hq
        have hy : (xs.drop 1)[i]? = some y := hy
        rw [List.getElem?_drop, Nat.add_comm 1 i] at hy
        obtain ⟨p, hpi, dp⟩ := ps_at r hx
        obtain ⟨p2, hpi2, dp2⟩ := ps_at r hy
        have s3 := same_new (o := .tup [x, y]) ht
        have sA := ((g'.same.trans s2).trans g1.same).trans s3
        refine ⟨t, _, rfl, sqtU upd_same, rfl, _, _, rfl, _, _, rfl, rfl, ?_⟩
        refine ⟨rfl, ?_⟩
        walk_at "s"
        refine ⟨_, p, rfl, dp.mono sA, ?_⟩
        walk_at "s"
        refine ⟨_, p2, rfl, dp2.mono sA, ?_⟩
        walk_at "s"
        refine hq _ _ _ (Grow.of_same g1.gh s3) ?_
        exact congrArg V.bl (decide_eq_true (rise_at hri hpi hpi2))
      · intro G3 H3 acc3 g3 gD3 eD3 el3 er3
        refine ⟨D2, (List.range acc3.length).map fun _ => true, rfl, ?_, ?_⟩
        · rw [← bls (f := fun _ => true) er3]
          exact sqlU eD3
        rw [all_trues]
        exact q _ ((g'.same.trans s2).trans g3.same)
theorem dpTones {G : Hp} {v : V} {ps : List Pit} {n : Nat} {wd : List Nat} {o c : Bool} (h : Dp K G v (sndD (.tones ps n wd o c))) : ∃ a pl, v = .ref a ∧ SqT K G a [.str (Str.ofString "tones"), pl, .int n, .str (S wd), .bl o, .bl c] ∧ Dp K G pl (psD ps) := by
  obtain ⟨a, xs, e, h, r⟩ := dpT h
  cases r with
  | cons r1 r => cases r with
    | cons r2 r => cases r with
      | cons r3 r => cases r with
        | cons r4 r => cases r with
          | cons r5 r => cases r with
            | cons r6 r =>
              cases r
              cases dpS r1; cases dpI r3; cases dpS r4; cases dpB r5; cases dpB r6
              exact ⟨a, _, e, h, r2⟩
theorem dpRest {G : Hp} {v : V} {n : Nat} (h : Dp K G v (sndD (.rest n))) : ∃ a, v = .ref a ∧ SqT K G a [.str (Str.ofString "rest"), .int n] := by
  obtain ⟨a, y, z, rfl, ht, ry, rz⟩ := dpT2 h
  cases dpS ry; cases dpI rz
  exact ⟨a, rfl, ht⟩
def sp_is_tones (K : PySem.W.Frag) : Sp := fun vs H Q _ => ∃ (v : V) (ps : List Pit) (n : Nat) (wd : List Nat) (o c : Bool), vs = [v] ∧ Dp K H v (sndD (.tones ps n wd o c)) ∧ TonesOk ps n wd ∧ ∀ H', Same H H' → Q (.bl true) H'
theorem ok_is_tones (T : Txt w K mg A) : Cal P w K mg base 5 "is_tones" (sp_is_tones K) [] := by
  obtain ⟨f, d⟩ := T.d_is_tones
  refine cal_of d sc_is_tones (fun vs H Q E h => ?_) (fun cdv A' outer s H vs Q E hr h => ?_)
  · obtain ⟨v, ps, n, wd, o, c, rfl, _⟩ := h; rfl
  · obtain ⟨v, ps, n, wd, o, c, rfl, hv, ok, q⟩ := h
    obtain ⟨a, pl, rfl, ht, hpl⟩ := dpTones hv
    have n0 := ok.n0
    have n1 := ok.n1
    refine ⟨_, (pss_cons (ps_if (PW.pt (pw_or (pt_not (pt_val (pe_callB call_isi (by rfl) T.n_isinstance boot_isinstance_ (pa_cons (pv 0) (pa_cons (pe_ty (by rfl) T.n_tuple boot_tuple_) pa_nil))))) (pw_or (pt_cmpR op_ne (pe_callB call_len_seq (by rfl) T.n_len boot_len_ (pa_cons (pv 0) pa_nil)) pe_int (nomark _)) (pw_or1 (pt_cmpR op_ne (pe_ix ix_tup (pv 0) pe_int (fun _ _ => rfl)) pe_str (nomark _)))))) (pss_one (ps_ret pe_bl)) pss_nil)
    (pss_cons (ps_if (PW.pt (pw_or (pt_not (pt_val (pe_c (ok_are_pitches T) hr (by decide) rfl (pa_cons (pe_ix ix_tup (pv 0) pe_int (fun _ _ => rfl)) pa_nil)))) (pw_or1 (pt_not (pt_val (pe_c (ok_is_among T) hr (by decide) rfl (pa_cons (pe_ix ix_tup (pv 0) pe_int (fun _ _ => rfl)) (pa_cons (pe_gc rfl T.c_LEAST_LENGTH) (pa_cons (pe_gc rfl T.c_MOST_TONE) pa_nil))))))))) (pss_one (ps_ret pe_bl)) pss_nil)
    (pss_cons (ps_if (PW.pt (pw_and (pt_cmpR op_ne (pe_ix ix_tup (pv 0) pe_int (fun _ _ => rfl)) pe_str (nomark _)) (pw_and1 (pt_not (pt_val (pe_c (ok_is_syllable T) hr (by decide) rfl (pa_cons (pe_ix ix_tup (pv 0) pe_int (fun _ _ => rfl)) pa_nil))))))) (pss_one (ps_ret pe_bl)) pss_nil)
    (pss_one (ps_ret (pe_and (pe_callB call_isi (by rfl) T.n_isinstance boot_isinstance_ (pa_cons (pe_ix ix_tup (pv 0) pe_int (fun _ _ => rfl)) (pa_cons (pe_ty (by rfl) T.n_bool boot_bool_) pa_nil))) (pe_one (pe_callB call_isi (by rfl) T.n_isinstance boot_isinstance_ (pa_cons (pe_ix ix_tup (pv 0) pe_int (fun _ _ => rfl)) (pa_cons (pe_ty (by rfl) T.n_bool boot_bool_) pa_nil)))))))))), ?_⟩
    walk_at "s"
    refine ⟨_, _, _, _, _, rfl, .ty _, isT ht, kit_ty kit_tuple_tuple, ?_⟩
    walk_at "s"
    refine ⟨_, _, rfl, .inr ht, ?_⟩
    walk_at "s"
    refine ⟨_, _, _, _, rfl, rfl, ht, atI_0, ?_⟩
    walk_at "s"
    refine ⟨_, _, _, _, rfl, rfl, ht, atI_1, ?_⟩
    walk_at "s"
    refine ⟨_, ps, rfl, hpl, ok.p0, ok.p1, ok.p2, ok.p3, fun H1 s1 => ?_⟩
    walk_at "s"
    refine ⟨_, _, _, _, rfl, rfl, sqT_mono s1 ht, atI_2, ?_⟩
    walk_at "o"
    refine ⟨_, _, _, _, rfl, rfl, sqT_mono s1 ht, atI_3, ?_⟩
    walk_at "s"
    rcases ok.w0 with rfl | hw
    · refine iteN (by rw [lit_ "" [] (by decide +kernel)]) ?_
      walk_at "s"
      refine ⟨_, _, _, _, rfl, rfl, sqT_mono s1 ht, atI_4, ?_⟩
      walk_at "s"
      refine ⟨_, _, _, _, rfl, rfl, sqT_mono s1 ht, atI_5, ?_⟩
      walk_at "s"
      exact q _ s1
    · refine iteNF (fun z => ?_) ?_
      · rw [lit_ "" [] (by decide +kernel)] at z
        have := SX.S_inj (V.str.inj z)
        have h1 := hw.1
        rw [this] at h1
        exact absurd h1 (by decide)
      walk_at "s"
      refine ⟨_, _, _, _, rfl, rfl, sqT_mono s1 ht, atI_3, ?_⟩
      walk_at "s"
      refine ⟨hw, fun H2 s2 => ?_⟩
      walk_at "s"
      refine ⟨_, _, _, _, rfl, rfl, sqT_mono (s1.trans s2) ht, atI_4, ?_⟩
      walk_at "s"
      refine ⟨_, _, _, _, rfl, rfl, sqT_mono (s1.trans s2) ht, atI_5, ?_⟩
      walk_at "s"
      exact q _ (s1.trans s2)
def sp_sound_of (K : PySem.W.Frag) (A : Ad) : Sp := fun vs H Q _ => ∃ (G : Hp) (v : V) (x : Snd), vs = [v] ∧ Same G H ∧ Dp K G v (sndD x) ∧ SndOk x ∧ ∀ G' H' z, Grow No G H G' H' → SndAt K A G' z x → Q z H'
theorem ok_sound_of (T : Txt w K mg A) : Cal P w K mg base 6 "sound_of" (sp_sound_of K A) [] := by
  obtain ⟨f, d⟩ := T.d_sound_of
  refine cal_of d sc_sound_of (fun vs H Q E h => ?_) (fun cdv A' outer s H vs Q E hr h => ?_)
  · obtain ⟨G, v, x, rfl, _⟩ := h; rfl
  · obtain ⟨G, v, x, rfl, sm, hv, ok, q⟩ := h
    refine ⟨_, (pss_cons (ps_if (pt_val (pe_c (ok_is_rest T) hr (by decide) rfl (pa_cons (pv 0) pa_nil))) (pss_one (ps_ret (pe_mk (mk_Rest T) hr (by decide) rfl (pa_cons (pe_ix ix_tup (pv 0) pe_int (fun _ _ => rfl)) pa_nil)))) pss_nil)
    (pss_cons (ps_if (pt_not (pt_val (pe_c (ok_is_tones T) hr (by decide) rfl (pa_cons (pv 0) pa_nil)))) (pss_one ps_never) pss_nil)
    (pss_one (ps_ret (pe_mk (mk_Tones T) hr (by decide) rfl (pa_cons (pe_ix ix_tup (pv 0) pe_int (fun _ _ => rfl)) (pa_cons (pe_ix ix_tup (pv 0) pe_int (fun _ _ => rfl)) (pa_cons (pe_ix ix_tup (pv 0) pe_int (fun _ _ => rfl)) (pa_cons (pe_ix ix_tup (pv 0) pe_int (fun _ _ => rfl)) (pa_cons (pe_ix ix_tup (pv 0) pe_int (fun _ _ => rfl)) pa_nil)))))))))), ?_⟩
    walk_at "s"
    refine ⟨_, x, rfl, hv.mono sm, ok, ?_⟩
    walk_at "s"
    cases x with
    | rest n =>
      obtain ⟨a, rfl, ht⟩ := dpRest hv
      refine iteT ?_
      walk_at "s"
      refine ⟨_, _, _, _, rfl, rfl, sqT_mono sm ht, atI_1, ?_⟩
      intro x dx nx ndx ne
      have nxd : x ≠ dx := fun z => ne z.symm
      refine ⟨x, A.cRest, dx, n, rfl, upd_same, T.o_Rest.cl, T.no_Rest_length, ?_⟩
      refine ⟨rfl, ?_⟩
      have g1 : Grow No G H G (upd H dx (.own x)) := (Grow.refl sm).put (sm.free ndx) (.inl ndx)
      have nx' : (upd H dx (.own x)) x = none := by rw [upd_ne nxd]; exact nx
      have g2 := g1.put (o := .ins A.cRest dx []) (sm.free nx) (.inl nx)
      have g3 := g2.put (o := .ins A.cRest dx [("length", .int n)]) (sm.free nx) (.inl nx)
      have g4 := g3.fix upd_same nx (sm.free nx)
      exact q _ _ _ g4 ⟨x, dx, rfl, upd_same⟩
    | tones ps n wd o c =>
      obtain ⟨a, pl, rfl, ht, hpl⟩ := dpTones hv
      refine iteF ?_
      walk_at "s"
      refine ⟨_, ps, n, wd, o, c, rfl, hv.mono sm, ok, fun H1 s1 => ?_⟩
      have sm1 := sm.trans s1
      walk_at "s"
      refine ⟨_, _, _, _, rfl, rfl, sqT_mono sm1 ht, atI_1, ?_⟩
      walk_at "s"
      refine ⟨_, _, _, _, rfl, rfl, sqT_mono sm1 ht, atI_2, ?_⟩
      walk_at "s"
      refine ⟨_, _, _, _, rfl, rfl, sqT_mono sm1 ht, atI_3, ?_⟩
      walk_at "s"
      refine ⟨_, _, _, _, rfl, rfl, sqT_mono sm1 ht, atI_4, ?_⟩
      walk_at "s"
      refine ⟨_, _, _, _, rfl, rfl, sqT_mono sm1 ht, atI_5, ?_⟩
      intro x dx nx ndx ne
      have nxd : x ≠ dx := fun z => ne z.symm
      obtain ⟨pz, pvs, rfl, hvs, hdp⟩ := dpL hpl
      have g1 : Grow No G H G (upd H1 dx (.own x)) := (Grow.of_same sm s1).put (sm1.free ndx) (.inl (s1.free ndx))
      have g2 := g1.put (o := .ins A.cTones dx []) (sm1.free nx) (.inl (s1.free nx))
      refine ⟨G, x, dx, pz, n, pvs, wd, o, c, rfl, g2.gh, sm1.free nx, upd_same, hvs, fun p H2 hp e1 e2 e3 => ⟨rfl, ?_⟩⟩
      have px : p ≠ x := fun z => by rw [z, upd_same] at hp; cases hp
      have fp : H p = none := g2.free0 hp
      have g3 : Grow No G H G H2 := ⟨Same.refl _, fun b u e => e3 b u (ne_of_none e (sm1.free nx)) (g2.gh _ _ e), fun b u _ e => e3 b u (ne_of_none e (s1.free nx)) (g2.hh _ _ (fun m => m) e), fun _ _ _ e => e⟩
      have g4 := g3.fix e1 fp (sm.free fp)
      have g5 := g4.fix e2 (s1.free nx) (by rw [upd_ne px.symm]; exact sm1.free nx)
      refine q _ _ _ g5 ⟨x, dx, .ref p, rfl, upd_same, ?_⟩
      exact .lstU (by rw [upd_ne px, upd_same]) (hdp.mono g5.gg)
end
end BW
set_option Elab.async false
set_option linter.all false
set_option maxRecDepth 100000
set_option maxHeartbeats 4000000
set_option pp.maxSteps 3000
namespace BW
open PySem PySem.Spec PyProof.Rows L2
open C8 (Cal Met Mak pe_c pe_mk pe_mt pe_mt0 pe_gc sl_txt fnBody fnScope fnArgs)
local macro_rules | `(tactic| walk_at "v") => `(tactic| refine ⟨_, rfl, ?_⟩)
local macro_rules | `(tactic| walk_at "i2") => `(tactic| refine ⟨_, _, rfl, rfl, ?_⟩)
local macro_rules | `(tactic| walk_at "k") => `(tactic| exact (by decide +kernel))
local macro_rules | `(tactic| walk_at "s") => `(tactic| repeat (first | refine ⟨_, rfl, ?_⟩ | refine ⟨_, _, rfl, rfl, ?_⟩ | refine ⟨rfl, ?_⟩ | refine ⟨⟨_, rfl⟩, ?_⟩ | refine iteT ?_ | refine iteF ?_ | refine ⟨_, _, _, _, _, rfl, .ty _, tyI, kit_ty kit_int_int, ?_⟩ | refine ⟨_, _, _, _, _, rfl, .ty _, tyI, kit_ty kit_int_bool, ?_⟩ | refine ⟨_, _, _, _, _, rfl, .ty _, tyS, kit_ty kit_str_str, ?_⟩ | refine ⟨_, _, _, _, _, rfl, .ty _, tyB, kit_ty kit_bool_bool, ?_⟩ | refine ⟨_, _, _, _, _, rfl, by assumption, by assumption, by assumption, rfl, ?_⟩))
local macro_rules | `(tactic| walk_at "o") => `(tactic| repeat (first | refine ⟨_, rfl, ?_⟩ | refine ⟨_, _, rfl, rfl, ?_⟩ | refine ⟨rfl, ?_⟩ | refine ⟨⟨_, rfl⟩, ?_⟩ | refine iteT ?_ | refine iteF ?_ | refine ⟨_, _, _, _, _, rfl, .ty _, tyI, kit_ty kit_int_int, ?_⟩ | refine ⟨_, _, _, _, _, rfl, .ty _, tyI, kit_ty kit_int_bool, ?_⟩ | refine ⟨_, _, _, _, _, rfl, .ty _, tyS, kit_ty kit_str_str, ?_⟩ | refine ⟨_, _, _, _, _, rfl, .ty _, tyB, kit_ty kit_bool_bool, ?_⟩ | refine ⟨_, _, _, _, _, rfl, by assumption, by assumption, by assumption, rfl, ?_⟩ | refine iteDF (by omega) ?_ | refine iteD (by omega) ?_ | refine ⟨_, _, _, rfl, by omega, by omega, ?_⟩ | refine And.intro (by omega) ?_))

open SX (S)
section
variable {P : Program} {w : World} {K : PySem.W.Frag} {mg : Str → Option Value} {base : Heap} {A : Ad}
theorem SndsAt.mk {G : Hp} {a : Addr} {vs : List V} {ss : List Snd} (h : SqL K G a vs) (i : SndsIn K A G vs ss) : SndsAt K A G (.ref a) ss := ⟨a, vs, rfl, h, i.1, i.2⟩
theorem SndsAt.out {G : Hp} {v : V} {ss : List Snd} (h : SndsAt K A G v ss) : ∃ a vs, v = .ref a ∧ SqL K G a vs ∧ SndsIn K A G vs ss := let ⟨a, vs, h1, h2, h3, h4⟩ := h; ⟨a, vs, h1, h2, h3, h4⟩
def sp_need_slurs (K : PySem.W.Frag) (A : Ad) : Sp := fun vs H Q _ => ∃ (v : V) (ss : List Snd), vs = [v] ∧ SndsAt K A H v ss ∧ slurs false ss ∧ Q .non H
theorem ok_need_slurs (T : Txt w K mg A) : Cal P w K mg base 1 "need_slurs" (sp_need_slurs K A) [] := by
  obtain ⟨f, d⟩ := T.d_need_slurs
  refine cal_of d sc_need_slurs (fun vs H Q E h => ?_) (fun cdv A' outer s H vs Q E hr h => ?_)
  · obtain ⟨v, ss, rfl, _⟩ := h; rfl
  · obtain ⟨v, ss, rfl, hv, hs, q⟩ := h
    obtain ⟨a, vs, rfl, hl, hin⟩ := hv.out
    have cl := T.o_Tones.cl
    refine ⟨_, (pss_cons (ps_set (i := 1) sc_need_slurs.nd rfl (Or.inl rfl) pe_bl)
    (pss_cons (ps_for PassesOwn.never rfl (pi_list (pv 0)) (pg_name (i := 2) sc_need_slurs.nd rfl (Or.inl rfl)) (pss_one (ps_if (pt_val (pe_callB call_isi (by rfl) T.n_isinstance boot_isinstance_ (pa_cons (pv 2) (pa_cons (pe_gc rfl T.v_Tones) pa_nil)))) (pss_cons (ps_if (PW.pt (pw_and (pt_val (pe_fld (pv 2) rfl)) (pw_and1 (pt_not (pt_val (pv 1)))))) (pss_one ps_never) pss_nil)
        (pss_cons (ps_if (PW.pt (pw_and (pt_val (pe_fld (pv 2) rfl)) (pw_and (pt_val (pv 1)) (pw_and1 (pt_not (pt_val (pe_fld (pv 2) rfl))))))) (pss_one ps_never) pss_nil)
        (pss_one (ps_set (i := 1) sc_need_slurs.nd rfl (Or.inl rfl) (L2.pe_or (pe_fld (pv 2) rfl) (pe_one (pe_and (pv 1) (pe_one (pe_not (pe_fld (pv 2) rfl)))))))))) pss_nil)))
    (pss_one (ps_if (pt_val (pv 1)) (pss_one ps_never) pss_nil)))), ?_⟩
    walk_at "s"
    refine ⟨⟨_, hl⟩, ?_⟩
    refine for_it walk_list (fun i σ H' => ∃ b y, σ = [some (.ref a), some (.bl b), y] ∧ slurs b (ss.drop i) ∧ H' = H) ⟨false, none, rfl, hs, rfl⟩ (fun i σ H' _ ⟨_, _, _, _, e⟩ => by rw [e]; exact hl) ?_ ?_
    · rintro i x σ H' H'' hi ⟨b, y, rfl, hsl, rfl⟩ ⟨rfl, hx⟩
      obtain ⟨t, ht, ha⟩ := hin.2 i x hx
      have ed : ss.drop i = t :: ss.drop (i + 1) := by
        have h1 := (List.getElem?_eq_some_iff.mp ht).1
        rw [List.drop_eq_getElem_cons h1]
        rw [(List.getElem?_eq_some_iff.mp ht).2]
      rw [ed] at hsl
      walk_at "s"
      cases t with
      | rest n =>
        obtain ⟨z, dx, rfl, hz⟩ := ha
        refine ⟨_, _, _, _, _, rfl, .own _, T.o_Rest.ty hz, T.k_Rest_Tones, ?_⟩
        walk_at "s"
        exact ⟨b, _, rfl, hsl, rfl⟩
      | tones ps n wd o c =>
        obtain ⟨z, dx, pl, rfl, hz, _⟩ := ha
        obtain ⟨h1, h2, h3⟩ := hsl
        refine ⟨_, _, _, _, _, rfl, .own _, T.o_Tones.ty hz, T.k_Tones_Tones, ?_⟩
        walk_at "s"
        have n1 := T.no_Tones_closes
        have n2 := T.no_Tones_opens
        cases b <;> cases c <;> cases o
        · walk_at "s"; exact ⟨_, _, rfl, h3, rfl⟩
        · walk_at "s"; exact ⟨_, _, rfl, h3, rfl⟩
        · exact absurd (h1 rfl) (by decide)
        · exact absurd (h1 rfl) (by decide)
        · walk_at "s"; exact ⟨_, _, rfl, h3, rfl⟩
        · exact absurd (h2 rfl rfl) (by decide)
        · walk_at "s"; exact ⟨_, _, rfl, h3, rfl⟩
        · walk_at "s"; exact ⟨_, _, rfl, h3, rfl⟩
    · rintro σ H' ⟨b, y, rfl, hsl, rfl⟩
      rw [hin.1, List.drop_length] at hsl
      have hb : b = false := hsl
      subst hb
      walk_at "s"
      exact q
def sp_tidied (K : PySem.W.Frag) (A : Ad) : Sp := fun vs H Q _ => ∃ (G : Hp) (v : V) (ss : List Snd), vs = [v] ∧ Same G H ∧ SndsAt K A G v ss ∧ ss ≠ [] ∧ ss.length ≤ 96 ∧ tidyL ss ≠ [] ∧ BW.lens ss ≤ 4608 ∧ ∀ G' H' z, Grow No G H G' H' → SndsAt K A G' z (tidyL ss) → Q z H'
theorem ok_tidied (T : Txt w K mg A) : Cal P w K mg base 3 "tidied" (sp_tidied K A) [] := by
  obtain ⟨f, d⟩ := T.d_tidied
  refine cal_of d sc_tidied (fun vs H Q E h => ?_) (fun cdv A' outer s H vs Q E hr h => ?_)
  · obtain ⟨G, v, ss, rfl, _⟩ := h; rfl
  · obtain ⟨G, v, ss, rfl, sm, hv, hne, h96, htn, hb, q⟩ := h
    obtain ⟨a, vs, rfl, hl, hin⟩ := hv.out
    have clR := T.o_Rest.cl
    have nR := T.no_Rest_length
    refine ⟨_, (pss_cons (ps_set (i := 1) sc_tidied.nd rfl (Or.inl rfl) (pe_lst pa_nil))
    (pss_cons (ps_for PassesOwn.never rfl (pi_list (pv 0)) (pg_name (i := 2) sc_tidied.nd rfl (Or.inl rfl)) (pss_one (ps_if (PW.pt (pw_and (pt_val (pe_callB call_isi (by rfl) T.n_isinstance boot_isinstance_ (pa_cons (pv 2) (pa_cons (pe_gc rfl T.v_Rest) pa_nil)))) (pw_and (pt_cmpR (op_neNil hr.units) (pv 1) (pe_lst pa_nil) (nomark _)) (pw_and1 (pt_val (pe_callB call_isi (by rfl) T.n_isinstance boot_isinstance_ (pa_cons (pe_ix ix_list (pv 1) (pe_un un_neg pe_int) (fun _ _ => rfl)) (pa_cons (pe_gc rfl T.v_Rest) pa_nil)))))))) (pss_cons (ps_asg (pe_mk (mk_Rest T) hr (by decide) rfl (pa_cons (pe_op op_add (pe_fld (pe_ix ix_list (pv 1) (pe_un un_neg pe_int) (fun _ _ => rfl)) rfl) (pe_fld (pv 2) rfl)) pa_nil)) (pg_sub (pv 1) (pe_un un_neg pe_int) set_list))
        (pss_one (ps_if (pt_cmpR op_gt (pe_fld (pe_ix ix_list (pv 1) (pe_un un_neg pe_int) (fun _ _ => rfl)) rfl) (pe_gc rfl T.c_MOST_REST) (nomark _)) (pss_one ps_never) pss_nil))) (pss_one (ps_expr (pe_bm PySem.F.plainAttrs_list PySem.F.slot_list_append PySem.F.type_list_append mt_append (pv 1) (pa_cons (pv 2) pa_nil)))))))
    (pss_cons (ps_if (pt_val (pe_callB call_isi (by rfl) T.n_isinstance boot_isinstance_ (pa_cons (pe_ix ix_list (pv 1) (pe_un un_neg pe_int) (fun _ _ => rfl)) (pa_cons (pe_gc rfl T.v_Rest) pa_nil)))) (pss_one (ps_expr (pe_bm0 PySem.F.plainAttrs_list PySem.F.slot_list_pop PySem.F.type_list_pop mt_pop (pv 1)))) pss_nil)
    (pss_cons (ps_if (pt_cmpR (op_eqNil hr.units) (pv 1) (pe_lst pa_nil) (nomark _)) (pss_one ps_never) pss_nil)
    (pss_one (ps_ret (pv 1))))))), ?_⟩
    refine ⟨Nat.zero_le _, fun fo hfo => ?_⟩
    have gfo := sm.free hfo
    walk_at "s"
    refine ⟨⟨_, (same_new hfo).seq (sm.seq hl)⟩, ?_⟩
    refine for_it walk_list (fun i σ H' => ∃ G1 acc y, σ = [some (.ref a), some (.ref fo), y] ∧ Grow No G H G1 H' ∧ G1 fo = none ∧ H' fo = some (.lst acc) ∧ SndsIn K A G1 acc (fold (ss.take i))) ⟨G, [], none, rfl, (Grow.refl sm).put gfo (.inl hfo), gfo, upd_same, rfl, fun i x h => by simp at h⟩ (fun i σ H' _ ⟨_, _, _, _, g, _⟩ => g.s0.seq hl) ?_ ?_
    · rintro i x σ H' H'' hi ⟨G1, acc, y, rfl, g1, gf1, ef1, hacc⟩ ⟨rfl, hx⟩
      obtain ⟨t, ht, ha⟩ := hin.2 i x hx
      have ha1 := ha.mono g1.s0
      have hG1 := ha.mono g1.gg
      have hlen96 : acc.length ≤ 96 := by
        rw [hacc.1]
        have := fold_len (ss := ss.take i)
        rw [List.length_take] at this
        omega
      have hsum : BW.lens (fold (ss.take (i + 1))) ≤ 4608 := by
        rw [fold_lens]
        have : BW.lens (ss.take (i + 1)) + BW.lens (ss.drop (i + 1)) = BW.lens ss := by rw [← lens_append, List.take_append_drop]
        omega
      rw [fold_take ht] at hsum
      have step : ∀ {G2 H2}, Grow No G1 H'' G2 H2 → fold (ss.take (i + 1)) = fold (ss.take i) ++ [t] → ∃ G3 acc' y, [some (V.ref a), some (V.ref fo), some x] = [some (.ref a), some (.ref fo), y] ∧ Grow No G H G3 (upd H2 fo (.lst (acc ++ [x]))) ∧ G3 fo = none ∧ (upd H2 fo (.lst (acc ++ [x]))) fo = some (.lst acc') ∧ SndsIn K A G3 acc' (fold (ss.take (i + 1))) := fun {G2 H2} g2 e => by
        have gf2 := g2.fr _ _ ef1 gf1
        exact ⟨G2, acc ++ [x], _, rfl, (g1.tr g2).put gf2 (.inl hfo), gf2, upd_same, by rw [e]; exact (hacc.mono g2.gg).snoc (hG1.mono g2.gg)⟩
      walk_at "s"
      cases t with
      | tones ps n wd o c =>
        obtain ⟨z, dx, pl, rfl, hz, _⟩ := ha1
        refine ⟨_, _, _, _, _, rfl, .own _, T.o_Tones.ty hz, T.k_Tones_Rest, ?_⟩
        walk_at "s"
        refine ⟨.inl ⟨rfl, _, sqlU ef1⟩, ?_⟩
        walk_at "s"
        refine ⟨fo, acc, _, rfl, rfl, ef1, szl (by omega), ?_⟩
        exact step (Grow.refl g1.gh) (by rw [fold_take ht, tidyStep_tones])
      | rest n =>
        obtain ⟨z, dx, rfl, hz⟩ := ha1
        refine ⟨_, _, _, _, _, rfl, .own _, T.o_Rest.ty hz, T.k_Rest_Rest, ?_⟩
        walk_at "s"
        refine ⟨Nat.zero_le _, fun ne hne' => ?_⟩
        have sne := same_new (o := .lst []) hne'
        have g2 : Grow No G1 H'' G1 (upd H'' ne (.lst [])) := (Grow.refl g1.gh).put (g1.gh.free hne') (.inl hne')
        refine ⟨fo, ne, acc, rfl, rfl, sqlU (sne _ _ ef1), sqlU upd_same, ?_⟩
        rcases List.eq_nil_or_concat (fold (ss.take i)) with e0 | ⟨init, l, e0⟩
        · have ea : acc = [] := List.eq_nil_of_length_eq_zero (by rw [hacc.1, e0]; rfl)
          subst ea
          walk_at "s"
          refine ⟨.inl ⟨rfl, _, sqlU (sne _ _ ef1)⟩, ?_⟩
          walk_at "s"
          refine ⟨fo, [], _, rfl, rfl, sne _ _ ef1, szl (by decide), ?_⟩
          exact step g2 (by rw [fold_take ht, e0, tidyStep_nil]; rfl)
        · rw [List.concat_eq_append] at e0
          rw [e0] at hacc
          obtain ⟨us, u, rfl, hus, hu⟩ := hacc.unsnoc
          have hu1 := hu.mono g1.gh
          walk_at "s"
          refine iteET (by simp) ?_
          walk_at "s"
          refine ⟨_, _, _, _, rfl, rfl, sqlU (sne _ _ ef1), atI_last _ _, ?_⟩
          walk_at "s"
          have hz2 := sne _ _ hz
          cases l with
          | tones ps n' wd o c =>
            obtain ⟨z', dx', pl', rfl, hz', _⟩ := hu1
            refine ⟨_, _, _, _, _, rfl, .own _, T.o_Tones.ty (sne _ _ hz'), T.k_Tones_Rest, ?_⟩
            walk_at "s"
            refine ⟨.inl ⟨rfl, _, sqlU (sne _ _ ef1)⟩, ?_⟩
            walk_at "s"
            refine ⟨fo, _, _, rfl, rfl, sne _ _ ef1, szl (by omega), ?_⟩
            exact step g2 (by rw [fold_take ht, e0, tidyStep_snoc])
          | rest m =>
            obtain ⟨z', dx', rfl, hz'⟩ := hu1
            have hz'2 := sne _ _ hz'
            refine ⟨_, _, _, _, _, rfl, .own _, T.o_Rest.ty hz'2, T.k_Rest_Rest, ?_⟩
            walk_at "s"
            refine ⟨_, _, _, _, rfl, rfl, sqlU (sne _ _ ef1), atI_last _ _, ?_⟩
            refine ⟨z', A.cRest, dx', _, .int m, rfl, hz'2, clR, nR, rfl, ?_⟩
            refine ⟨_, rfl, z, A.cRest, dx, _, .int n, rfl, hz2, clR, nR, rfl, ?_⟩
            refine ⟨_, _, rfl, rfl, ?_⟩
            intro x dxx nx ndx nxx
            have nxd : x ≠ dxx := fun z => nxx z.symm
            refine ⟨x, A.cRest, dxx, _, rfl, upd_same, clR, nR, ?_⟩
            refine ⟨rfl, ?_⟩
            have fx1 : H'' x = none := g2.free0 nx
            have fx0 : G1 x = none := g1.gh.free fx1
            have g3 : Grow No G1 H'' G1 (upd (upd H'' ne (.lst [])) dxx (.own x)) := g2.put (g1.gh.free (g2.free0 ndx)) (.inl (g2.free0 ndx))
            have g4 := g3.put (o := .ins A.cRest dxx []) fx0 (.inl fx1)
            have g5 := g4.put (o := .ins A.cRest dxx (restF (m + n))) fx0 (.inl fx1)
            have ef5 := g5.same _ _ ef1
            have nfx : fo ≠ x := ne_of_none ef1 fx1
            walk_at "s"
            have ecast : ((m : Int) + (n : Int)) = ((m + n : Nat) : Int) := by omega
            rw [ecast]
            refine ⟨fo, _, _, us.length, rfl, rfl, ef5, ixN_last us _, ?_⟩
            rw [set_last]
            have g6 : Grow No G H G1 (upd _ fo (.lst (us ++ [.ref x]))) := (g1.tr g5).put gf1 (.inl hfo)
            have ex6 : (upd (upd (upd (upd (upd H'' ne (.lst [])) dxx (.own x)) x (.ins A.cRest dxx [])) x (.ins A.cRest dxx (restF (m + n)))) fo (.lst (us ++ [.ref x]))) x = some (.ins A.cRest dxx (restF (m + n))) := by
              rw [upd_ne nfx.symm, upd_same]
            have g7 := g6.fix ex6 (g1.free0 fx1) fx0
            walk_at "s"
            refine ⟨_, _, _, _, rfl, rfl, sqlU upd_same, atI_last _ _, ?_⟩
            refine ⟨x, A.cRest, dxx, _, .int ((m + n : Nat) : Int), rfl, ex6, clR, nR, rfl, ?_⟩
            walk_at "s"
            rw [e0, tidyStep_snoc] at hsum
            have hmn : m + n ≤ 4608 := by
              have : BW.lens (init ++ [Snd.rest (m + n)]) = BW.lens init + (m + n) := by rw [lens_append, lens_one]; rfl
              have h2 : BW.lens (init ++ [Snd.rest (m + n)]) ≤ 4608 := hsum
              omega
            walk_at "o"
            refine ⟨_, us ++ [.ref x], _, rfl, g7, ?_, upd_same, ?_⟩
            · rw [upd_ne nfx]
              exact gf1
            · rw [fold_take ht, e0, tidyStep_snoc]
              exact (hus.mono (fun b u e => by rw [upd_ne (ne_of_none e fx0)]; exact e)).snoc ⟨x, dxx, rfl, upd_same⟩
    · rintro σ H' ⟨G1, acc, y, rfl, g1, gf1, ef1, hacc⟩
      rw [hin.1, List.take_length] at hacc
      have hlen96 : acc.length ≤ 96 := by
        rw [hacc.1]
        have := fold_len (ss := ss)
        omega
      rcases List.eq_nil_or_concat (fold ss) with e0 | ⟨init, l, e0⟩
      · exact absurd e0 (fold_ne hne)
      rw [List.concat_eq_append] at e0
      rw [tidyL_eq, e0, tidyCut_snoc] at htn
      have etl : tidyL ss = if l.isRest = true then init else init ++ [l] := by rw [tidyL_eq, e0, tidyCut_snoc]
      rw [etl] at q
      rw [e0] at hacc
      obtain ⟨us, u, rfl, hus, hu⟩ := hacc.unsnoc
      have hu1 := hu.mono g1.gh
      walk_at "s"
      refine ⟨_, _, _, _, rfl, rfl, sqlU ef1, atI_last _ _, ?_⟩
      walk_at "s"
      cases l with
      | rest m =>
        obtain ⟨z', dx', rfl, hz'⟩ := hu1
        have htn' : init ≠ [] := htn
        have huse : us ≠ [] := fun e => by
          rw [e] at hus
          exact htn' (List.eq_nil_of_length_eq_zero hus.1.symm)
        refine ⟨_, _, _, _, _, rfl, .own _, T.o_Rest.ty hz', T.k_Rest_Rest, ?_⟩
        walk_at "s"
        refine ⟨.inl ⟨rfl, _, sqlU ef1⟩, ?_⟩
        refine ⟨fo, _, _, rfl, rfl, ef1, last_app us _, ?_⟩
        rw [List.dropLast_concat]
        refine ⟨_, rfl, Nat.zero_le _, fun ne hne' => ?_⟩
        have g2 : Grow No G H G1 (upd H' fo (.lst us)) := g1.put gf1 (.inl hfo)
        have fne : H ne = none := g2.free0 hne'
        have g3 : Grow No G H G1 (upd (upd H' fo (.lst us)) ne (.lst [])) := g2.put (g2.gh.free hne') (.inl fne)
        have nfn : fo ≠ ne := ne_of_none upd_same hne'
        have ef3 : (upd (upd H' fo (.lst us)) ne (.lst [])) fo = some (.lst us) := by rw [upd_ne nfn, upd_same]
        refine ⟨fo, ne, us, rfl, rfl, sqlU ef3, sqlU upd_same, ?_⟩
        walk_at "s"
        refine iteEF (by simpa using huse) ?_
        walk_at "s"
        have g4 := g3.fix ef3 hfo gf1
        exact q _ _ _ g4 (SndsAt.mk (sqlU upd_same) (hus.mono (fun b w e => by rw [upd_ne (ne_of_none e gf1)]; exact e)))
      | tones ps n wd o c =>
        obtain ⟨z', dx', pl', rfl, hz', hpl'⟩ := hu1
        refine ⟨_, _, _, _, _, rfl, .own _, T.o_Tones.ty hz', T.k_Tones_Rest, ?_⟩
        walk_at "s"
        refine ⟨Nat.zero_le _, fun ne hne' => ?_⟩
        have fne : H ne = none := g1.free0 hne'
        have g3 : Grow No G H G1 (upd H' ne (.lst [])) := g1.put (g1.gh.free hne') (.inl fne)
        have nfn : fo ≠ ne := ne_of_none ef1 hne'
        have ef3 : (upd H' ne (.lst [])) fo = some (.lst (us ++ [.ref z'])) := by rw [upd_ne nfn]; exact ef1
        refine ⟨fo, ne, _, rfl, rfl, sqlU ef3, sqlU upd_same, ?_⟩
        walk_at "s"
        refine iteEF (by simp) ?_
        walk_at "s"
        have g4 := g3.fix ef3 hfo gf1
        exact q _ _ _ g4 (SndsAt.mk (sqlU upd_same) ((hus.snoc hu).mono (fun b w e => by rw [upd_ne (ne_of_none e gf1)]; exact e)))
end
end BW
set_option Elab.async false
set_option linter.all false
set_option maxRecDepth 100000
set_option maxHeartbeats 4000000
set_option pp.maxSteps 3000
namespace BW
open PySem PySem.Spec PyProof.Rows L2
open C8 (Cal Met Mak pe_c pe_mk pe_mt pe_mt0 pe_gc sl_txt fnBody fnScope fnArgs)
local macro_rules | `(tactic| walk_at "v") => `(tactic| refine ⟨_, rfl, ?_⟩)
local macro_rules | `(tactic| walk_at "i2") => `(tactic| refine ⟨_, _, rfl, rfl, ?_⟩)
local macro_rules | `(tactic| walk_at "k") => `(tactic| exact (by decide +kernel))
local macro_rules | `(tactic| walk_at "s") => `(tactic| repeat (first | refine ⟨_, rfl, ?_⟩ | refine ⟨_, _, rfl, rfl, ?_⟩ | refine ⟨rfl, ?_⟩ | refine ⟨⟨_, rfl⟩, ?_⟩ | refine iteT ?_ | refine iteF ?_ | refine ⟨_, _, _, _, _, rfl, .ty _, tyI, kit_ty kit_int_int, ?_⟩ | refine ⟨_, _, _, _, _, rfl, .ty _, tyI, kit_ty kit_int_bool, ?_⟩ | refine ⟨_, _, _, _, _, rfl, .ty _, tyS, kit_ty kit_str_str, ?_⟩ | refine ⟨_, _, _, _, _, rfl, .ty _, tyB, kit_ty kit_bool_bool, ?_⟩ | refine ⟨_, _, _, _, _, rfl, by assumption, by assumption, by assumption, rfl, ?_⟩))
local macro_rules | `(tactic| walk_at "o") => `(tactic| repeat (first | refine ⟨_, rfl, ?_⟩ | refine ⟨_, _, rfl, rfl, ?_⟩ | refine ⟨rfl, ?_⟩ | refine ⟨⟨_, rfl⟩, ?_⟩ | refine iteT ?_ | refine iteF ?_ | refine ⟨_, _, _, _, _, rfl, .ty _, tyI, kit_ty kit_int_int, ?_⟩ | refine ⟨_, _, _, _, _, rfl, .ty _, tyI, kit_ty kit_int_bool, ?_⟩ | refine ⟨_, _, _, _, _, rfl, .ty _, tyS, kit_ty kit_str_str, ?_⟩ | refine ⟨_, _, _, _, _, rfl, .ty _, tyB, kit_ty kit_bool_bool, ?_⟩ | refine ⟨_, _, _, _, _, rfl, by assumption, by assumption, by assumption, rfl, ?_⟩ | refine iteDF (by omega) ?_ | refine iteD (by omega) ?_ | refine ⟨_, _, _, rfl, by omega, by omega, ?_⟩ | refine And.intro (by omega) ?_))

open SX (S)
section
variable {P : Program} {w : World} {K : PySem.W.Frag} {mg : Str → Option Value} {base : Heap} {A : Ad}
def sp_voice_of (K : PySem.W.Frag) (A : Ad) : Sp := fun vs H Q _ => ∃ (G : Hp) (v : V) (ss : List Snd), vs = [v] ∧ Same G H ∧ Dp K G v (.list (ss.map sndD)) ∧ 1 ≤ ss.length ∧ ss.length ≤ 96 ∧ (∀ s ∈ ss, SndOk s) ∧ slurs false ss ∧ tidyL ss ≠ [] ∧ BW.lens ss ≤ 4608 ∧ ∀ G' H' z, Grow No G H G' H' → SndsAt K A G' z (tidyL ss) → Q z H'
theorem ok_voice_of (T : Txt w K mg A) : Cal P w K mg base 7 "voice_of" (sp_voice_of K A) [] := by
  obtain ⟨f, d⟩ := T.d_voice_of
  refine cal_of d sc_voice_of (fun vs H Q E h => ?_) (fun cdv A' outer s H vs Q E hr h => ?_)
  · obtain ⟨G, v, ss, rfl, _⟩ := h; rfl
  · obtain ⟨G, v, ss, rfl, sm, hv, h1, h2, hok, hsl, htn, hb, q⟩ := h
    obtain ⟨a, xs, rfl, hl, r⟩ := dpL hv
    have hlen := r.len
    rw [List.length_map] at hlen
    refine ⟨_, (pss_cons (ps_if (PW.pt (pw_or (pt_not (pt_val (pe_callB call_isi (by rfl) T.n_isinstance boot_isinstance_ (pa_cons (pv 0) (pa_cons (pe_ty (by rfl) T.n_list boot_list_) pa_nil))))) (pw_or1 (pt_not (pt_chain op_le op_le pe_int (pe_callB call_len_seq (by rfl) T.n_len boot_len_ (pa_cons (pv 0) pa_nil)) (pe_gc rfl T.c_MOST_SOUNDS)))))) (pss_one ps_never) pss_nil)
    (pss_cons (ps_setLc (i := 1) (own := [("one", 2)]) (g := (gName 2)) (tt := tYes) (by rfl) sc_voice_of.nd rfl rfl (sw_true rfl rfl rfl (by decide +kernel)) (pi_list (pv 0)) (blkOk_by (N := N_voice_of) (sc := (defScope s_voice_of)) (by decide +kernel)) (fun _ _ _ _ _ => (pg_name (i := 2) sc_voice_of.nd rfl (Or.inl rfl))) (fun _ _ _ _ _ => pts_nil) (fun _ _ _ _ _ => (pe_c (ok_sound_of T) hr (by decide) rfl (pa_cons (pv 2) pa_nil))))
    (pss_cons (ps_expr (pe_c (ok_need_slurs T) hr (by decide) rfl (pa_cons (pv 1) pa_nil)))
    (pss_one (ps_ret (pe_c (ok_tidied T) hr (by decide) rfl (pa_cons (pv 1) pa_nil))))))), ?_⟩
    walk_at "s"
    refine ⟨_, _, _, _, _, rfl, .ty _, isL (sm.seq hl), kit_ty kit_list_list, ?_⟩
    walk_at "s"
    refine ⟨_, _, rfl, .inl (sm.seq hl), ?_⟩
    walk_at "o"
    rw [decide_eq_true (show (xs.length : Int) ≤ 96 by omega)]
    walk_at "s"
    refine ⟨⟨_, sm.seq hl⟩, fun D hD => ?_⟩
    refine lc_pure walk_list hD sm (fun G i v => ∃ s, ss[i]? = some s ∧ SndAt K A G v s) (by omega) (fun _ _ _ _ e ⟨s, h1, h2⟩ => ⟨s, h1, h2.mono e⟩) (fun G1 H1 g1 => g1.s0.seq hl) ?_ ?_
    · rintro i v G1 H1 H1' hi g1 ⟨rfl, hx⟩ Q' hq
      obtain ⟨dd, hd, dp⟩ := r.get hx
      rw [List.getElem?_map] at hd
      cases hs : ss[i]? with
      | none => rw [hs] at hd; cases hd
      | some s =>
        rw [hs] at hd
        cases hd
        refine ⟨rfl, ?_⟩
        walk_at "s"
        exact ⟨G1, _, s, rfl, g1.gh, dp.mono g1.gg, hok s (List.mem_of_getElem? hs), fun G2 H2 z g2 hz => hq _ _ _ g2 ⟨s, hs, hz⟩⟩
    · intro G' H' acc g' gD eD el er
      have hin : SndsIn K A G' acc ss := ⟨by omega, er⟩
      walk_at "s"
      refine ⟨_, ss, rfl, SndsAt.mk (sqlU eD) (hin.mono g'.gh), hsl, ?_⟩
      walk_at "s"
      have g2 := g'.fix eD hD gD
      refine ⟨_, _, ss, rfl, g2.gh, SndsAt.mk (sqlU upd_same) (hin.mono fun b u e => by rw [upd_ne (ne_of_none e gD)]; exact e), by (intro e; rw [e] at h1; exact absurd h1 (by decide)), h2, htn, hb, fun G3 H3 z g3 hz => ?_⟩
      exact q _ _ _ (g2.tr g3) hz
def sp_last_at (K : PySem.W.Frag) : Sp := fun vs H Q _ => ∃ (G : Hp) (α : Type) (enc : α → PyData) (rows : List (Nat × α)) (v : V) (bar : Nat) (x : α), vs = [v, .int bar] ∧ Same G H ∧ Dp K G v (chgsD enc rows) ∧ rows.length ≤ 1000 ∧ LastAt rows bar x ∧ ∀ H' z, Same H H' → Dp K G z (enc x) → Q z H'
theorem ok_last_at (T : Txt w K mg A) : Cal P w K mg base 1 "last_at" (sp_last_at K) [] := by
  obtain ⟨f, d⟩ := T.d_last_at
  refine cal_of d sc_last_at (fun vs H Q E h => ?_) (fun cdv A' outer s H vs Q E hr h => ?_)
  · obtain ⟨G, α, enc, rows, v, bar, x, rfl, _⟩ := h; rfl
  · obtain ⟨G, α, enc, rows, v, bar, x, rfl, sm, hv, hn, ⟨b, hx⟩, q⟩ := h
    obtain ⟨a, xs, rfl, hl, r⟩ := dpL hv
    have hlen := r.len
    rw [List.length_map] at hlen
    refine ⟨_, (pss_one (ps_ret (pe_ix ix_list (pe_lc (own := [("row", 2)]) (g := (gName 2)) (by rfl) sc_last_at.nd (pi_list (pv 0)) (blkOk_by (N := N_last_at) (sc := (defScope s_last_at)) (by decide +kernel)) (fun _ _ _ _ _ => (pg_name (i := 2) sc_last_at.nd rfl (Or.inl rfl))) (fun _ _ _ _ _ => (pts_one (pt_cmpR op_le (pe_ix (ixT K) (pv 2) pe_int (fun _ _ => rfl)) (pv 1) (nomark _)))) (fun _ _ _ _ _ => (pe_ix (ixT K) (pv 2) pe_int (fun _ _ => rfl)))) (pe_un un_neg pe_int) (fun _ _ => rfl)))), ?_⟩
    walk_at "s"
    refine ⟨⟨_, sm.seq hl⟩, fun D hD => ?_⟩
    refine lc_fil walk_list hD sm (fun i => match rows[i]? with | some p => decide (p.1 ≤ bar) | none => false) (fun _ i v => ∃ p, rows[i]? = some p ∧ Dp K G v (enc p.2)) (by omega) (fun _ _ _ _ _ h => h) (fun G1 H1 g1 => g1.s0.seq hl) ?_ ?_
    · rintro i v G1 H1 H1' hi g1 ⟨rfl, hx⟩ Qy Qn hy hnn
      obtain ⟨p, hp, t, y, rfl, ht, hy'⟩ := chg_at r hx
      refine ⟨rfl, ?_⟩
      walk_at "s"
      refine ⟨_, _, _, _, rfl, rfl, sqT_mono g1.s0 ht, atI_0, ?_⟩
      walk_at "s"
      have ef : (match rows[i]? with | some p => decide (p.1 ≤ bar) | none => false) = decide (p.1 ≤ bar) := by rw [hp]
      rw [ef] at hy hnn
      by_cases hle : p.1 ≤ bar
      · rw [decide_eq_true hle] at hy
        refine iteD (by omega) ?_
        walk_at "s"
        refine ⟨_, _, _, _, rfl, rfl, sqT_mono g1.s0 ht, atI_1, ?_⟩
        exact hy rfl _ _ _ (Grow.refl g1.gh) ⟨p, hp, hy'⟩
      · rw [decide_eq_false hle] at hnn
        refine iteDF (by omega) ?_
        exact hnn rfl _ _ (Grow.refl g1.gh)
    · intro G' H' acc g' gD eD el er
      have efil := fil_range rows (fun p => decide (p.1 ≤ bar)) (fun i => match rows[i]? with | some p => decide (p.1 ≤ bar) | none => false) (fun i p h => by rw [h])
      rw [hlen] at el er
      have elen : acc.length = (rows.filter fun p => decide (p.1 ≤ bar)).length := by
        have := congrArg List.length efil
        rw [List.length_map, List.length_map] at this
        omega
      obtain ⟨init, hin⟩ := List.getLast?_eq_some_iff.mp hx
      rcases List.eq_nil_or_concat acc with rfl | ⟨ai, al, rfl⟩
      · rw [hin] at elen
        simp at elen
      rw [List.concat_eq_append] at *
      obtain ⟨k, hk, p, hp, hdp⟩ := er ai.length al (by rw [List.getElem?_append_right (Nat.le_refl _), Nat.sub_self]; rfl)
      have e1 : (((List.range rows.length).filter fun i => match rows[i]? with | some p => decide (p.1 ≤ bar) | none => false).map (fun i => rows[i]?))[ai.length]? = some (some p) := by
        rw [List.getElem?_map, hk]
        exact congrArg some hp
      rw [efil, hin, List.getElem?_map] at e1
      have e2 : ai.length = init.length := by
        rw [hin] at elen
        simp at elen
        exact elen
      rw [e2, List.getElem?_append_right (Nat.le_refl _), Nat.sub_self] at e1
      cases (Option.some.inj (Option.some.inj e1))
      walk_at "s"
      refine ⟨_, _, _, _, rfl, rfl, sqlU eD, atI_last _ _, ?_⟩
      exact q _ _ g'.same hdp
end
end BW
set_option Elab.async false
set_option linter.all false
set_option maxRecDepth 100000
set_option maxHeartbeats 4000000
set_option pp.maxSteps 3000
namespace BW
open PySem PySem.Spec PyProof.Rows L2
open C8 (Cal Met Mak pe_c pe_mk pe_mt pe_mt0 pe_gc sl_txt fnBody fnScope fnArgs)
local macro_rules | `(tactic| walk_at "v") => `(tactic| refine ⟨_, rfl, ?_⟩)
local macro_rules | `(tactic| walk_at "i2") => `(tactic| refine ⟨_, _, rfl, rfl, ?_⟩)
local macro_rules | `(tactic| walk_at "k") => `(tactic| exact (by decide +kernel))
local macro_rules | `(tactic| walk_at "s") => `(tactic| repeat (first | refine ⟨_, rfl, ?_⟩ | refine ⟨_, _, rfl, rfl, ?_⟩ | refine ⟨rfl, ?_⟩ | refine ⟨⟨_, rfl⟩, ?_⟩ | refine iteT ?_ | refine iteF ?_ | refine ⟨_, _, _, _, _, rfl, .ty _, tyI, kit_ty kit_int_int, ?_⟩ | refine ⟨_, _, _, _, _, rfl, .ty _, tyI, kit_ty kit_int_bool, ?_⟩ | refine ⟨_, _, _, _, _, rfl, .ty _, tyS, kit_ty kit_str_str, ?_⟩ | refine ⟨_, _, _, _, _, rfl, .ty _, tyB, kit_ty kit_bool_bool, ?_⟩ | refine ⟨_, _, _, _, _, rfl, by assumption, by assumption, by assumption, rfl, ?_⟩))
local macro_rules | `(tactic| walk_at "o") => `(tactic| repeat (first | refine ⟨_, rfl, ?_⟩ | refine ⟨_, _, rfl, rfl, ?_⟩ | refine ⟨rfl, ?_⟩ | refine ⟨⟨_, rfl⟩, ?_⟩ | refine iteT ?_ | refine iteF ?_ | refine ⟨_, _, _, _, _, rfl, .ty _, tyI, kit_ty kit_int_int, ?_⟩ | refine ⟨_, _, _, _, _, rfl, .ty _, tyI, kit_ty kit_int_bool, ?_⟩ | refine ⟨_, _, _, _, _, rfl, .ty _, tyS, kit_ty kit_str_str, ?_⟩ | refine ⟨_, _, _, _, _, rfl, .ty _, tyB, kit_ty kit_bool_bool, ?_⟩ | refine ⟨_, _, _, _, _, rfl, by assumption, by assumption, by assumption, rfl, ?_⟩ | refine iteDF (by omega) ?_ | refine iteD (by omega) ?_ | refine ⟨_, _, _, rfl, by omega, by omega, ?_⟩ | refine And.intro (by omega) ?_))

open SX (S)
section
variable {P : Program} {w : World} {K : PySem.W.Frag} {mg : Str → Option Value} {base : Heap} {A : Ad}
def sp_need_changes (P : Program) (w : World) (K : PySem.W.Frag) (mg : Str → Option Value) (base : Heap) : Sp := fun vs H Q _ => ∃ (α : Type) (enc : α → PyData) (rows : List (Nat × α)) (v : V) (fa : Addr) (spg : Sp), vs = [v, .ref fa] ∧ C8.CalAt P w K mg base 3 fa spg ∧
  (∀ r ∈ rows, ∀ x H1 Q1, Dp K H1 x (enc r.2) → (∀ H2, Same H1 H2 → Q1 (.bl true) H2) → spg [x] H1 Q1 C8.E0) ∧ Dp K H v (chgsD enc rows) ∧ Chg enc rows ∧ ∀ H', Same H H' → Q .non H'
theorem ok_need_changes (T : Txt w K mg A) : Cal P w K mg base 4 "need_changes" (sp_need_changes P w K mg base) [] := by
  obtain ⟨f, d⟩ := T.d_need_changes
  refine cal_of d sc_need_changes (fun vs H Q E h => ?_) (fun cdv A' outer s H vs Q E hr h => ?_)
  · obtain ⟨α, enc, rows, v, fa, spg, rfl, _⟩ := h; rfl
  · obtain ⟨α, enc, rows, v, fa, spg, rfl, cal, hspg, hv, hc, q⟩ := h
    obtain ⟨fd_, ps_, F_, kp_, b_⟩ := cal.ex
    obtain ⟨a, xs, rfl, hl, r⟩ := dpL hv
    have hlen := r.len
    have hn := hc.len
    rw [List.length_map] at hlen
    obtain ⟨x1, hx1⟩ := hc.first
    have hpos : 0 < rows.length := (List.getElem?_eq_some_iff.mp hx1).1
    refine ⟨_, (pss_cons (ps_if (PW.pt (pw_or (pt_not (pt_val (pe_callB call_isi (by rfl) T.n_isinstance boot_isinstance_ (pa_cons (pv 0) (pa_cons (pe_ty (by rfl) T.n_list boot_list_) pa_nil))))) (pw_or1 (pt_cmpR (op_eqD hr.units) (pv 0) (pe_lst pa_nil) (nomark _))))) (pss_one ps_never) pss_nil)
    (pss_cons (ps_for PassesOwn.never rfl (pi_list (pv 0)) (pg_name (i := 2) sc_need_changes.nd rfl (Or.inl rfl)) (pss_one (ps_if (PW.pt (pw_or (pt_not (pt_val (pe_callB call_isi (by rfl) T.n_isinstance boot_isinstance_ (pa_cons (pv 2) (pa_cons (pe_ty (by rfl) T.n_tuple boot_tuple_) pa_nil))))) (pw_or (pt_cmpR op_ne (pe_callB call_len_seq (by rfl) T.n_len boot_len_ (pa_cons (pv 2) pa_nil)) pe_int (nomark _)) (pw_or (pt_not (pt_val (pe_c (ok_is_whole T) hr (by decide) rfl (pa_cons (pe_ix ix_tup (pv 2) pe_int (fun _ _ => rfl)) pa_nil)))) (pw_or1 (pt_not (pt_val (pe_callL (i := 1) (E := C8.E0) F_ (hr.mono (by decide)) rfl (Or.inl rfl) kp_ b_ .nil C8.pass0 (pa_cons (pe_ix ix_tup (pv 2) pe_int (fun _ _ => rfl)) pa_nil))))))))) (pss_one ps_never) pss_nil)))
    (pss_cons (ps_for PassesOwn.never rfl (pi_zip (by rfl) T.n_zip (pa_cons (pv 0) (pa_cons (pe_slice sl_list (pv 0) (po_some pe_int) po_none) pa_nil))) (pg_tup rfl (pgs_cons (pg_name (i := 3) sc_need_changes.nd rfl (Or.inl rfl)) (pgs_cons (pg_name (i := 4) sc_need_changes.nd rfl (Or.inl rfl)) pgs_nil))) (pss_one (ps_if (PW.pt (pw_or (pt_cmpR op_ge (pe_ix ix_tup (pv 3) pe_int (fun _ _ => rfl)) (pe_ix ix_tup (pv 4) pe_int (fun _ _ => rfl)) (nomark _)) (pw_or1 (pt_cmpR (op_eqD hr.units) (pe_ix ix_tup (pv 3) pe_int (fun _ _ => rfl)) (pe_ix ix_tup (pv 4) pe_int (fun _ _ => rfl)) (nomark _))))) (pss_one ps_never) pss_nil)))
    (pss_one (ps_if (pt_cmpR op_ne (pe_ix ix_tup (pe_ix ix_list (pv 0) pe_int (fun _ _ => rfl)) pe_int (fun _ _ => rfl)) pe_int (nomark _)) (pss_one ps_never) pss_nil))))), ?_⟩
    walk_at "s"
    refine ⟨_, _, _, _, _, rfl, .ty _, isL hl, kit_ty kit_list_list, ?_⟩
    walk_at "s"
    refine ⟨Nat.zero_le _, fun e0 he0 => ?_⟩
    have s0 := same_new (o := .lst []) he0
    refine ⟨chgsD enc rows, .list [], hv.mono s0, .lstU upd_same .nil, (ly_chgs hc.ly).shaped (by decide), rfl, ?_⟩
    have eemp : PyData.eqv (chgsD enc rows) (.list []) = false := by
      cases hr' : rows with
      | nil => rw [hr'] at hpos; exact absurd hpos (Nat.lt_irrefl 0)
      | cons p ps =>
        unfold chgsD
        rw [PyData.eqv, List.map_cons, PyData.eqvAll]
    rw [eemp]
    walk_at "s"
    refine ⟨⟨_, s0.seq hl⟩, ?_⟩
    refine for_it walk_list (fun i σ H' => ∃ y3 y4 y5, σ = [some (.ref a), some (.ref fa), y3, y4, y5] ∧ Same H H') ⟨none, none, none, rfl, s0⟩ (fun i σ H' _ ⟨_, _, _, _, e⟩ => e.seq hl) ?_ ?_
    · rintro i x σ H' H'' hi ⟨y3, y4, y5, rfl, s1⟩ ⟨rfl, hx⟩
      obtain ⟨p, hp, t, y, rfl, ht, hy⟩ := chg_at r hx
      have ht1 := sqT_mono s1 ht
      walk_at "s"
      refine ⟨_, _, _, _, _, rfl, .ty _, isT ht1, kit_ty kit_tuple_tuple, ?_⟩
      walk_at "s"
      refine ⟨_, _, rfl, .inr ht1, ?_⟩
      walk_at "s"
      refine ⟨_, _, _, _, rfl, rfl, ht1, atI_0, ?_⟩
      walk_at "s"
      refine ⟨_, _, _, _, rfl, rfl, ht1, atI_1, ?_⟩
      refine hspg p (List.mem_of_getElem? hp) _ _ _ (hy.mono s1) fun H2 s2 => ?_
      walk_at "s"
      exact ⟨_, _, _, rfl, s1.trans s2⟩
    · rintro σ H' ⟨y3, y4, y5, rfl, s1⟩
      walk_at "s"
      refine ⟨a, xs, rfl, s1.seq hl, fun c hcn => ?_⟩
      have s2 := same_new (o := .lst (cutV xs (some 1) none)) hcn
      have ecut : cutV xs (some 1) none = xs.drop 1 := by
        unfold cutV
        rw [show HT.sIx xs.length 0 (some 1) = min 1 xs.length from HT.sIx_nat xs.length 0 1, HT.sIx_none, show min 1 xs.length = 1 by omega]
        exact List.take_of_length_le (by rw [List.length_drop]; omega)
      refine ⟨a, c, xs, xs.drop 1, rfl, (s1.trans s2).seq hl, sqlU (by rw [upd_same, ecut]), ?_⟩
      refine for_it (walk_zip (n := xs.length - 1) (xs := xs) (ys := xs.drop 1) (by rw [List.length_drop]; omega)) (fun i σ H3 => ∃ y3 y4 y5, σ = [some (.ref a), some (.ref fa), y3, y4, y5] ∧ Same H H3 ∧ H3 c = some (.lst (xs.drop 1))) ⟨_, _, _, rfl, s1.trans s2, by rw [upd_same, ecut]⟩ (fun i σ H' _ ⟨_, _, _, _, e, e2⟩ => ⟨e.seq hl, sqlU e2⟩) ?_ ?_
      · rintro i v σ H3 H4 hi ⟨y3, y4, y5, rfl, s3, ec⟩ ⟨t, x, y, rfl, htn, rfl, hx, hy⟩
        have hy : (xs.drop 1)[i]? = some y := hy
        rw [List.getElem?_drop, Nat.add_comm 1 i] at hy
        obtain ⟨p, hp, t1, z1, rfl, ht1, hz1⟩ := chg_at r hx
        obtain ⟨p2, hp2, t2, z2, rfl, ht2, hz2⟩ := chg_at r hy
        obtain ⟨hri1, hri2⟩ := hc.rise i p p2 hp hp2
        have s4 := same_new (o := .tup [.ref t1, .ref t2]) htn
        have sA := s3.trans s4
        refine ⟨t, _, rfl, sqtU upd_same, rfl, _, _, rfl, _, _, rfl, rfl, ?_⟩
        walk_at "s"
        refine ⟨_, _, _, _, rfl, rfl, sqT_mono sA ht1, atI_0, ?_⟩
        walk_at "s"
        refine ⟨_, _, _, _, rfl, rfl, sqT_mono sA ht2, atI_0, ?_⟩
        walk_at "o"
        refine ⟨_, _, _, _, rfl, rfl, sqT_mono sA ht1, atI_1, ?_⟩
        walk_at "s"
        refine ⟨_, _, _, _, rfl, rfl, sqT_mono sA ht2, atI_1, ?_⟩
        refine ⟨enc p.2, enc p2.2, hz1.mono sA, hz2.mono sA, (hc.ly p (List.mem_of_getElem? hp)).shaped (by decide), (hc.ly p2 (List.mem_of_getElem? hp2)).shaped (by decide), ?_⟩
        rw [hri2]
        walk_at "s"
        exact ⟨_, _, _, rfl, sA, s4 _ _ ec⟩
      · rintro σ H3 ⟨y3, y4, y5, rfl, s3, ec⟩
        obtain ⟨v0, hv0⟩ : ∃ v0, xs[0]? = some v0 := ⟨xs[0]'(by omega), List.getElem?_eq_getElem _⟩
        obtain ⟨p, hp, t, y, rfl, ht, hy⟩ := chg_at r hv0
        rw [hx1] at hp
        cases (Option.some.inj hp)
        walk_at "s"
        refine ⟨_, _, _, _, rfl, rfl, s3.seq hl, atI_nat (j := 0) hv0, ?_⟩
        walk_at "s"
        refine ⟨_, _, _, _, rfl, rfl, sqT_mono s3 ht, atI_0, ?_⟩
        walk_at "s"
        exact q _ s3
def sp_laid (K : PySem.W.Frag) : Sp := fun vs H Q _ => ∃ (G : Hp) (ms : List (Nat × Met)) (ks : List (Nat × Int)) (fs : List Frm) (lasts : Nat) (vm vk : V), vs = [vm, vk, .int lasts] ∧ Same G H ∧ Dp K G vm (chgsD metD ms) ∧ Dp K G vk (chgsD PyData.int ks) ∧ ms ≠ [] ∧ ks ≠ [] ∧ ms.length ≤ 1000 ∧ ks.length ≤ 1000 ∧ Laid ms ks fs lasts ∧
  ∀ G' H' z, Grow No G H G' H' → Dp K G' z (.list (fs.map frmD)) → Q z H'
theorem last_of {α : Type} {l : List α} (h : l ≠ []) : ∃ x, l.getLast? = some x := by
  cases e : l.getLast? with
  | none => exact absurd (List.getLast?_eq_none_iff.mp e) h
  | some x => exact ⟨x, rfl⟩
theorem last_at' {G : Hp} {α : Type} {enc : α → PyData} {xs : List V} {rows : List (Nat × α)} {p : Nat × α} (h : DpAll K G xs (rows.map (chgD enc))) (hp : rows.getLast? = some p) : ∃ a y, atI xs (-1) = some (.ref a) ∧ SqT K G a [.int p.1, y] := by
  have hlen := h.len
  rw [List.length_map] at hlen
  obtain ⟨init, e⟩ := List.getLast?_eq_some_iff.mp hp
  rcases List.eq_nil_or_concat xs with rfl | ⟨us, u, rfl⟩
  · rw [e] at hlen; simp at hlen
  rw [List.concat_eq_append] at *
  have hl2 : us.length = init.length := by rw [e] at hlen; simp at hlen; exact hlen
  obtain ⟨p', hp', a, y, rfl, ht, _⟩ := chg_at h (i := us.length) (v := u) (by rw [List.getElem?_append_right (Nat.le_refl _), Nat.sub_self]; rfl)
  rw [e, hl2, List.getElem?_append_right (Nat.le_refl _), Nat.sub_self] at hp'
  cases (Option.some.inj hp')
  exact ⟨a, y, atI_last _ _, ht⟩
theorem ok_laid (T : Txt w K mg A) : Cal P w K mg base 2 "laid" (sp_laid K) [] := by
  obtain ⟨f, d⟩ := T.d_laid
  refine cal_of d sc_laid (fun vs H Q E h => ?_) (fun cdv A' outer s H vs Q E hr h => ?_)
  · obtain ⟨G, ms, ks, fs, lasts, vm, vk, rfl, _⟩ := h; rfl
  · obtain ⟨G, ms, ks, fs, lasts, vm, vk, rfl, sm, hvm, hvk, hm0, hk0, hmn, hkn, L, q⟩ := h
    have hL := L.len
    refine ⟨_, (pss_cons (ps_set (i := 3) sc_laid.nd rfl (Or.inl rfl) (pe_lst pa_nil))
    (pss_cons (ps_set (i := 4) sc_laid.nd rfl (Or.inl rfl) pe_int)
    (pss_cons (ps_while PassesOwn.never (pt_cmpR op_lt (pv 4) (pv 2) (nomark _)) (pss_cons (ps_if (pt_cmpR op_eq (pe_callB call_len_seq (by rfl) T.n_len boot_len_ (pa_cons (pv 3) pa_nil)) (pe_gc rfl T.c_MOST_BARS) (nomark _)) (pss_one ps_never) pss_nil)
      (pss_cons (ps_set (i := 5) sc_laid.nd rfl (Or.inl rfl) (pe_op op_add (pe_callB call_len_seq (by rfl) T.n_len boot_len_ (pa_cons (pv 3) pa_nil)) pe_int))
      (pss_cons (ps_set (i := 6) sc_laid.nd rfl (Or.inl rfl) (pe_c (ok_last_at T) hr (by decide) rfl (pa_cons (pv 0) (pa_cons (pv 5) pa_nil))))
      (pss_cons (ps_expr (pe_bm PySem.F.plainAttrs_list PySem.F.slot_list_append PySem.F.type_list_append mt_append (pv 3) (pa_cons (pe_tup (pa_cons (pv 4) (pa_cons (pv 6) (pa_cons (pe_c (ok_last_at T) hr (by decide) rfl (pa_cons (pv 1) (pa_cons (pv 5) pa_nil))) pa_nil)))) pa_nil)))
      (pss_one (ps_aug (i := 4) sc_laid.nd rfl (Or.inl rfl) (pe_c (ok_bar_grains T) hr (by decide) rfl (pa_cons (pv 6) pa_nil)) ip_add)))))))
    (pss_cons (ps_if (PW.pt (pw_or (pt_cmpR op_gt (pe_ix ix_tup (pe_ix ix_list (pv 0) (pe_un un_neg pe_int) (fun _ _ => rfl)) pe_int (fun _ _ => rfl)) (pe_callB call_len_seq (by rfl) T.n_len boot_len_ (pa_cons (pv 3) pa_nil)) (nomark _)) (pw_or1 (pt_cmpR op_gt (pe_ix ix_tup (pe_ix ix_list (pv 1) (pe_un un_neg pe_int) (fun _ _ => rfl)) pe_int (fun _ _ => rfl)) (pe_callB call_len_seq (by rfl) T.n_len boot_len_ (pa_cons (pv 3) pa_nil)) (nomark _))))) (pss_one ps_never) pss_nil)
    (pss_one (ps_ret (pv 3))))))), ?_⟩
    refine ⟨Nat.zero_le _, fun fo hfo => ?_⟩
    have gfo := sm.free hfo
    refine ⟨fun m σ H1 => ∃ i G1 acc y5 y6, m = fs.length - i ∧ i ≤ fs.length ∧ σ = [some vm, some vk, some (.int lasts), some (.ref fo), some (.int (begs fs i)), y5, y6] ∧ Grow No G H G1 H1 ∧ G1 fo = none ∧ H1 fo = some (.lst acc) ∧ DpAll K G1 acc ((fs.take i).map frmD),
      ⟨fs.length, 0, G, [], none, none, rfl, Nat.zero_le _, rfl, (Grow.refl sm).put gfo (.inl hfo), gfo, upd_same, .nil⟩, ?_⟩
    rintro m σ H1 ⟨i, G1, acc, y5, y6, rfl, hi, rfl, g1, gf1, ef1, hacc⟩
    have hal := hacc.len
    rw [List.length_map, List.length_take] at hal
    walk_at "s"
    by_cases hlt : i < fs.length
    · obtain ⟨fr, hfr⟩ : ∃ fr, fs[i]? = some fr := ⟨fs[i], List.getElem?_eq_getElem hlt⟩
      obtain ⟨a1, a2, a3, a4, a5⟩ := L.at_ i fr hfr
      refine iteD (by omega) ?_
      refine ⟨fun σ H2 => ∃ m', m' < fs.length - i ∧ ∃ i G1 acc y5 y6, m' = fs.length - i ∧ i ≤ fs.length ∧ σ = [some vm, some vk, some (.int lasts), some (.ref fo), some (.int (begs fs i)), y5, y6] ∧ Grow No G H G1 H2 ∧ G1 fo = none ∧ H2 fo = some (.lst acc) ∧ DpAll K G1 acc ((fs.take i).map frmD), fun σ' H' h => h, ?_⟩
      walk_at "s"
      refine ⟨fo, acc, rfl, .inl (sqlU ef1), ?_⟩
      walk_at "s"
      refine iteDF (fun z => by injection z with z; omega) ?_
      walk_at "s"
      refine ⟨fo, acc, rfl, .inl (sqlU ef1), ?_⟩
      walk_at "s"
      have ebar : (acc.length : Int) + 1 = ((i + 1 : Nat) : Int) := by omega
      refine ⟨G, Met, metD, ms, vm, i + 1, fr.met, (by rw [← ebar]; rfl), g1.s0, hvm, hmn, a3, fun H2 z2 s2 hz2 => ?_⟩
      walk_at "s"
      have ef2 := s2 _ _ ef1
      refine ⟨.inl ⟨rfl, _, sqlU ef2⟩, ?_⟩
      walk_at "s"
      refine ⟨G, Int, PyData.int, ks, vk, i + 1, fr.key, (by rw [← ebar]; rfl), g1.s0.trans s2, hvk, hkn, a4, fun H3 z3 s3 hz3 => ?_⟩
      have ef3 := s3 _ _ ef2
      refine ⟨by show 3 ≤ sizeLine; decide, fun p hp => ?_⟩
      have s4 := same_new (o := .tup [.int (begs fs i), z2, z3]) hp
      refine ⟨fo, acc, _, rfl, rfl, s4 _ _ ef3, szl (by omega), ?_⟩
      have g4 : Grow No G H (upd G1 p (.tup [.int (begs fs i), z2, z3])) (upd H3 p (.tup [.int (begs fs i), z2, z3])) := (g1.tr (Grow.of_same g1.gh (s2.trans s3))).immN hp
      have nfp : fo ≠ p := ne_of_none ef3 hp
      have gf4 : (upd G1 p (.tup [.int (begs fs i), z2, z3])) fo = none := by rw [upd_ne nfp]; exact gf1
      have g5 := g4.put (o := .lst (acc ++ [.ref p])) gf4 (.inl hfo)
      walk_at "s"
      refine ⟨_, fr.met, rfl, hz2.mono g5.s0, a5, ?_⟩
      walk_at "s"
      refine ⟨fs.length - (i + 1), by omega, i + 1, _, _, some (.int ((acc.length : Int) + 1)), some z2, rfl, hlt, ?_, g5, gf4, upd_same, ?_⟩
      · rw [begs_succ hfr]
        rfl
      · rw [List.take_add_one, hfr, List.map_append]
        refine (hacc.mono ?_).snoc (.tupU upd_same ?_)
        · intro b u e
          rw [upd_ne (ne_of_none (g1.gh _ _ e |> (s2.trans s3) _ _) hp)]
          exact e
        · rw [a1]
          exact .cons (.int _) (.cons (hz2.mono g4.gg) (.cons (hz3.mono g4.gg) .nil))
    · have ei : i = fs.length := by omega
      subst ei
      have ht := L.tot
      refine iteDF (by omega) ?_
      obtain ⟨am, xm, rfl, hlm, rm⟩ := dpL hvm
      obtain ⟨ak, xk, rfl, hlk, rk⟩ := dpL hvk
      obtain ⟨pm, hpm⟩ := last_of hm0
      obtain ⟨pk, hpk⟩ := last_of hk0
      obtain ⟨tm, ym, em, htm⟩ := last_at' rm hpm
      obtain ⟨tk, yk, ek, htk⟩ := last_at' rk hpk
      have l1 := L.lm pm hpm
      have l2 := L.lk pk hpk
      rw [Nat.min_self] at hal
      walk_at "s"
      refine ⟨_, _, _, _, rfl, rfl, g1.s0.seq hlm, em, ?_⟩
      walk_at "s"
      refine ⟨_, _, _, _, rfl, rfl, sqT_mono g1.s0 htm, atI_0, ?_⟩
      walk_at "s"
      refine ⟨fo, acc, rfl, .inl (sqlU ef1), ?_⟩
      walk_at "o"
      refine ⟨_, _, _, _, rfl, rfl, g1.s0.seq hlk, ek, ?_⟩
      walk_at "s"
      refine ⟨_, _, _, _, rfl, rfl, sqT_mono g1.s0 htk, atI_0, ?_⟩
      walk_at "s"
      refine ⟨fo, acc, rfl, .inl (sqlU ef1), ?_⟩
      walk_at "o"
      rw [List.take_length] at hacc
      exact q _ _ _ (g1.fix ef1 hfo gf1) (.lstU upd_same (hacc.mono fun b u e => by rw [upd_ne (ne_of_none e gf1)]; exact e))
end
end BW
set_option Elab.async false
set_option linter.all false
set_option maxRecDepth 100000
set_option maxHeartbeats 4000000
set_option pp.maxSteps 3000
namespace BW
open PySem PySem.Spec PyProof.Rows L2
open C8 (Cal Met Mak pe_c pe_mk pe_mt pe_mt0 pe_gc sl_txt fnBody fnScope fnArgs)
local macro_rules | `(tactic| walk_at "v") => `(tactic| refine ⟨_, rfl, ?_⟩)
local macro_rules | `(tactic| walk_at "i2") => `(tactic| refine ⟨_, _, rfl, rfl, ?_⟩)
local macro_rules | `(tactic| walk_at "k") => `(tactic| exact (by decide +kernel))
local macro_rules | `(tactic| walk_at "s") => `(tactic| repeat (first | refine ⟨_, rfl, ?_⟩ | refine ⟨_, _, rfl, rfl, ?_⟩ | refine ⟨rfl, ?_⟩ | refine ⟨⟨_, rfl⟩, ?_⟩ | refine iteT ?_ | refine iteF ?_ | refine ⟨_, _, _, _, _, rfl, .ty _, tyI, kit_ty kit_int_int, ?_⟩ | refine ⟨_, _, _, _, _, rfl, .ty _, tyI, kit_ty kit_int_bool, ?_⟩ | refine ⟨_, _, _, _, _, rfl, .ty _, tyS, kit_ty kit_str_str, ?_⟩ | refine ⟨_, _, _, _, _, rfl, .ty _, tyB, kit_ty kit_bool_bool, ?_⟩ | refine ⟨_, _, _, _, _, rfl, by assumption, by assumption, by assumption, rfl, ?_⟩))
local macro_rules | `(tactic| walk_at "o") => `(tactic| repeat (first | refine ⟨_, rfl, ?_⟩ | refine ⟨_, _, rfl, rfl, ?_⟩ | refine ⟨rfl, ?_⟩ | refine ⟨⟨_, rfl⟩, ?_⟩ | refine iteT ?_ | refine iteF ?_ | refine ⟨_, _, _, _, _, rfl, .ty _, tyI, kit_ty kit_int_int, ?_⟩ | refine ⟨_, _, _, _, _, rfl, .ty _, tyI, kit_ty kit_int_bool, ?_⟩ | refine ⟨_, _, _, _, _, rfl, .ty _, tyS, kit_ty kit_str_str, ?_⟩ | refine ⟨_, _, _, _, _, rfl, .ty _, tyB, kit_ty kit_bool_bool, ?_⟩ | refine ⟨_, _, _, _, _, rfl, by assumption, by assumption, by assumption, rfl, ?_⟩ | refine iteDF (by omega) ?_ | refine iteD (by omega) ?_ | refine ⟨_, _, _, rfl, by omega, by omega, ?_⟩ | refine And.intro (by omega) ?_))

open SX (S)
section
variable {P : Program} {w : World} {K : PySem.W.Frag} {mg : Str → Option Value} {base : Heap} {A : Ad}
theorem piL (K : PySem.W.Frag) {X : Cx} {tg l : Expr} {tl : TE} (hl : PE X l tl) (h : X.K = K := by rfl) : PI X tg l (iList K tl) := by subst h; exact pi_list hl
def tOr2 (t t' : TE) : TE := fun σ H Q => t σ H Q ∨ t' σ H Q
theorem pe_or {X : Cx} {e : Expr} {t t' : TE} (h : PE X e t) (h' : PE X e t') : PE X e (tOr2 t t') := pe_or2 h h'
/-- voices' objects -/
def VoicesAt (K : PySem.W.Frag) (A : Ad) (G : Hp) (v : V) (vss : List (List Snd)) : Prop := ∃ a vs, v = .ref a ∧ SqL K G a vs ∧ vs.length = vss.length ∧ ∀ (i : Nat) (x : V), vs[i]? = some x → ∃ s, vss[i]? = some s ∧ SndsAt K A G x s
theorem VoicesAt.mono {G G' : Hp} {v : V} {ss : List (List Snd)} (e : Same G G') : VoicesAt K A G v ss → VoicesAt K A G' v ss
  | ⟨a, vs, h1, h2, h3, h4⟩ => ⟨a, vs, h1, e.seq h2, h3, fun i x h => let ⟨s, a, b⟩ := h4 i x h; ⟨s, a, b.mono e⟩⟩
def maxL : List Nat → Nat
  | [] => 0
  | n :: r => max n (maxL r)
theorem maxL_le : ∀ {l : List Nat} {n : Nat}, n ∈ l → n ≤ maxL l
  | _ :: r, n, h => by
    rcases List.mem_cons.mp h with rfl | h
    · exact Nat.le_max_left _ _
    · exact Nat.le_trans (maxL_le h) (Nat.le_max_right _ _)
theorem maxL_mem : ∀ {l : List Nat}, l ≠ [] → maxL l ∈ l
  | [], h => absurd rfl h
  | [n], _ => by show max n 0 ∈ [n]; rw [Nat.max_zero]; exact List.mem_cons_self
  | n :: m :: r, _ => by
    have ih := maxL_mem (l := m :: r) (List.cons_ne_nil _ _)
    show max n (maxL (m :: r)) ∈ _
    rcases Nat.le_total n (maxL (m :: r)) with h | h
    · rw [Nat.max_eq_right h]
      exact List.mem_cons_of_mem _ ih
    · rw [Nat.max_eq_left h]
      exact List.mem_cons_self
def lastsL (vss : List (List Snd)) : Nat := maxL (vss.map lens)
structure Tn where
  (ms : List (Nat × Met)) (ks : List (Nat × Int)) (vss : List (List Snd)) (fs : List Frm)
def tunF (vm vk vv vb : V) : List (Str × V) := [("by_metre", vm), ("by_key", vk), ("voices", vv), ("bars", vb)]
def TuneAt (K : PySem.W.Frag) (A : Ad) (G : Hp) (v : V) (t : Tn) : Prop := ∃ a dx vm vk vv vb, v = .ref a ∧ G a = some (.ins A.cTune dx (tunF vm vk vv vb)) ∧ Dp K G vm (chgsD metD t.ms) ∧ Dp K G vk (chgsD PyData.int t.ks) ∧ VoicesAt K A G vv t.vss ∧ Dp K G vb (.list (t.fs.map frmD))
theorem TuneAt.mono {G G' : Hp} {v : V} {t : Tn} (e : Same G G') : TuneAt K A G v t → TuneAt K A G' v t
  | ⟨a, dx, vm, vk, vv, vb, h1, h2, h3, h4, h5, h6⟩ => ⟨a, dx, vm, vk, vv, vb, h1, e _ _ h2, h3.mono e, h4.mono e, h5.mono e, h6.mono e⟩
def lastsOuter : Scope := match fnBody s_Tune_lasts with
  | [.Return (some (.Call _ [.ListComp _ _ sc _] _ _)) _] => sc
  | _ => fnScope s_Tune_lasts
def sp_lasts (K : PySem.W.Frag) (A : Ad) : Sp := fun vs H Q _ => ∃ (G : Hp) (x dx : Addr) (vm vk vv : V) (vss : List (List Snd)), vs = [.ref x] ∧ Same G H ∧ H x = some (.ins A.cTune dx [("by_metre", vm), ("by_key", vk), ("voices", vv)]) ∧ VoicesAt K A G vv vss ∧ vss ≠ [] ∧ vss.length ≤ 2 ∧ (∀ ss ∈ vss, ss.length ≤ 96) ∧
  ∀ H', Same H H' → Q (.int (lastsL vss)) H'
theorem mt_Tune_lasts (T : Txt w K mg A) : C8.Met P w K mg base 1 A.cTune "lasts" (sp_lasts K A) [] := by
  refine met_of T.o_Tune T.m_Tune_lasts sc_Tune_lasts (fun vs H Q E h => ?_) (fun f cdv A' outer s H vs Q E hr h => ?_)
  · obtain ⟨G, x, dx, vm, vk, vv, vss, rfl, _⟩ := h; rfl
  · obtain ⟨G, x, dx, vm, vk, vv, vss, rfl, sm, hx, hvv, hne, h2, h96, q⟩ := h
    obtain ⟨a, ws, rfl, hws, hwl, hwi⟩ := hvv
    refine ⟨_, (pss_one (ps_ret (pe_callB (cr_max rfl) (by rfl) T.n_max boot_max_ (pa_cons (pe_lc (own := [("voice", 1)]) (g := (gName 1)) (tt := tYes) (by rfl) sc_Tune_lasts.nd (pi_list (pe_fld (pv 0) rfl)) (blkOk_by (N := N_Tune_lasts) (sc := (defScope s_Tune_lasts)) (by decide +kernel)) (fun _ _ _ _ _ => (pg_name (i := 1) sc_Tune_lasts.nd rfl (Or.inl rfl))) (fun _ _ _ _ _ => pts_nil) (fun _ _ _ _ _ => (pe_callB (crSum K (by rfl)) (by rfl) T.n_sum boot_sum_ (pa_cons (pe_lc (own := [("sound", 2)]) (g := (gName 2)) (tt := tYes) (by rfl) sc_Tune_lasts.nd (piL K (pv 1)) (blkOk_by (N := N_Tune_lasts) (sc := lastsOuter) (by decide +kernel)) (fun _ _ _ _ _ => (pg_name (i := 2) sc_Tune_lasts.nd rfl (Or.inl rfl))) (fun _ _ _ _ _ => pts_nil) (fun _ _ _ _ _ => (peFld K (pv 2) rfl))) pa_nil)))) pa_nil)))), ?_⟩
    walk_at "s"
    refine ⟨x, A.cTune, dx, _, _, rfl, hx, T.o_Tune.cl, T.no_Tune_voices, rfl, ?_⟩
    walk_at "s"
    refine ⟨⟨_, sm.seq hws⟩, fun D hD => ?_⟩
    refine lc_pure walk_list hD sm (fun _ i v => ∃ ss, vss[i]? = some ss ∧ v = .int (lens ss : Nat)) (by omega) (fun _ _ _ _ _ h => h) (fun G1 H1 g1 => g1.s0.seq hws) ?_ ?_
    · rintro i v G1 H1 H1' hi g1 ⟨rfl, hx1⟩ Q' hq
      obtain ⟨ss, hss, b, us, rfl, hus, hul, hui⟩ := hwi i v hx1
      have hsl := h96 ss (List.mem_of_getElem? hss)
      refine ⟨rfl, ?_⟩
      walk_at "s"
      refine ⟨⟨_, g1.s0.seq hus⟩, fun D2 hD2 => ?_⟩
      refine lc_pure walk_list hD2 g1.gh (fun _ j v => ∃ s, ss[j]? = some s ∧ v = .int (s.len : Nat)) (by omega) (fun _ _ _ _ _ h => h) (fun G2 H2 g2 => (g1.tr g2).s0.seq hus) ?_ ?_
      · rintro j u G2 H2 H2' hj g2 ⟨rfl, hu1⟩ Q2 hq2
        obtain ⟨s, hs, hsa⟩ := hui j u hu1
        refine ⟨rfl, ?_⟩
        have hsa := hsa.mono (g1.tr g2).s0
        walk_at "s"
        cases s with
        | rest n =>
          obtain ⟨c, dc, rfl, hc⟩ := hsa
          refine ⟨c, A.cRest, dc, _, _, rfl, hc, T.o_Rest.cl, T.no_Rest_length, rfl, ?_⟩
          exact hq2 _ _ _ (Grow.refl g2.gh) ⟨_, hs, rfl⟩
        | tones ps n wd o c' =>
          obtain ⟨c, dc, pl, rfl, hc, _⟩ := hsa
          refine ⟨c, A.cTones, dc, _, _, rfl, hc, T.o_Tones.cl, T.no_Tones_length, rfl, ?_⟩
          exact hq2 _ _ _ (Grow.refl g2.gh) ⟨_, hs, rfl⟩
      · intro G3 H3 acc g3 gD eD el er
        have eacc : acc = (ss.map fun s => ((s.len : Nat) : Int)).map V.int := by
          refine List.ext_getElem? fun j => ?_
          rw [List.getElem?_map, List.getElem?_map]
          by_cases hj : j < acc.length
          · obtain ⟨s, hs, e⟩ := er j _ (List.getElem?_eq_getElem hj)
            rw [List.getElem?_eq_getElem hj, hs, e]
            rfl
          · rw [List.getElem?_eq_none (by omega), List.getElem?_eq_none (by omega)]
            rfl
        refine ⟨D2, _, rfl, sqlU (by rw [← eacc]; exact eD), ?_⟩
        refine hq _ _ _ (g3.fix eD hD2 gD) ⟨ss, hss, ?_⟩
        have := sum_cast (ss.map Snd.len)
        rw [List.map_map] at this
        exact congrArg V.int this
    · intro G3 H3 acc g3 gD eD el er
      have eacc : acc = (vss.map fun s => ((lens s : Nat) : Int)).map V.int := by
        refine List.ext_getElem? fun j => ?_
        rw [List.getElem?_map, List.getElem?_map]
        by_cases hj : j < acc.length
        · obtain ⟨s, hs, e⟩ := er j _ (List.getElem?_eq_getElem hj)
          rw [List.getElem?_eq_getElem hj, hs, e]
          rfl
        · rw [List.getElem?_eq_none (by omega), List.getElem?_eq_none (by omega)]
          rfl
      refine ⟨D, _, rfl, sqlU (by rw [← eacc]; exact eD), by rw [List.length_map]; exact List.length_pos_iff.mpr hne, fun m hm hmax => ?_⟩
      obtain ⟨s0, hs0, rfl⟩ := List.mem_map.mp hm
      have h1 : lens s0 ≤ lastsL vss := maxL_le (List.mem_map.mpr ⟨s0, hs0, rfl⟩)
      obtain ⟨s1, hs1, e1⟩ := List.mem_map.mp (maxL_mem (l := vss.map lens) (by simpa using hne))
      have h2 := hmax _ (List.mem_map.mpr ⟨s1, hs1, rfl⟩)
      have h3 : lens s0 = lastsL vss := by
        have : lens s1 = lastsL vss := e1
        omega
      rw [h3]
      exact q _ g3.same
def sp_told3 (K : PySem.W.Frag) (A : Ad) (d : Tn → PyData) : Sp := fun vs H Q _ => ∃ (G : Hp) (v : V) (t : Tn), vs = [v] ∧ Same G H ∧ TuneAt K A G v t ∧ ∀ G' H' z, Grow No G H G' H' → Dp K G' z (d t) → Q z H'
theorem mt_Tune_metres_told (T : Txt w K mg A) : C8.Met P w K mg base 1 A.cTune "metres_told" (sp_told3 K A fun t => chgsD metD t.ms) [] := by
  refine met_of T.o_Tune T.m_Tune_metres_told sc_Tune_metres_told (fun vs H Q E h => ?_) (fun f cdv A' outer s H vs Q E hr h => ?_)
  · obtain ⟨G, v, t, rfl, _⟩ := h; rfl
  · obtain ⟨G, v, t, rfl, sm, ⟨a, dx, vm, vk, vv, vb, rfl, ha, hm, hk, hv, hb⟩, q⟩ := h
    refine ⟨_, (pss_one (ps_ret (pe_callTy call_list_of (by rfl) T.n_list boot_list_ (pa_cons (pe_fld (pv 0) rfl) pa_nil)))), ?_⟩
    walk_at "s"
    refine ⟨a, A.cTune, dx, _, _, rfl, sm _ _ ha, T.o_Tune.cl, T.no_Tune_by_metre, rfl, ?_⟩
    obtain ⟨b, xs, rfl, hl, r⟩ := dpL hm
    refine ⟨b, xs, rfl, .inl (sm.seq hl), fun l hlf => ?_⟩
    have g1 := (Grow.refl (M := No) sm).immN (o := .lst xs) hlf
    exact q _ _ _ g1 (.lstU upd_same (r.mono g1.gg))
theorem mt_Tune_keys_told (T : Txt w K mg A) : C8.Met P w K mg base 1 A.cTune "keys_told" (sp_told3 K A fun t => chgsD PyData.int t.ks) [] := by
  refine met_of T.o_Tune T.m_Tune_keys_told sc_Tune_keys_told (fun vs H Q E h => ?_) (fun f cdv A' outer s H vs Q E hr h => ?_)
  · obtain ⟨G, v, t, rfl, _⟩ := h; rfl
  · obtain ⟨G, v, t, rfl, sm, ⟨a, dx, vm, vk, vv, vb, rfl, ha, hm, hk, hv, hb⟩, q⟩ := h
    refine ⟨_, (pss_one (ps_ret (pe_callTy call_list_of (by rfl) T.n_list boot_list_ (pa_cons (pe_fld (pv 0) rfl) pa_nil)))), ?_⟩
    walk_at "s"
    refine ⟨a, A.cTune, dx, _, _, rfl, sm _ _ ha, T.o_Tune.cl, T.no_Tune_by_key, rfl, ?_⟩
    obtain ⟨b, xs, rfl, hl, r⟩ := dpL hk
    refine ⟨b, xs, rfl, .inl (sm.seq hl), fun l hlf => ?_⟩
    have g1 := (Grow.refl (M := No) sm).immN (o := .lst xs) hlf
    exact q _ _ _ g1 (.lstU upd_same (r.mono g1.gg))
theorem mt_Tune_frames (T : Txt w K mg A) : C8.Met P w K mg base 1 A.cTune "frames" (sp_told3 K A fun t => .list (t.fs.map frmD)) [] := by
  refine met_of T.o_Tune T.m_Tune_frames sc_Tune_frames (fun vs H Q E h => ?_) (fun f cdv A' outer s H vs Q E hr h => ?_)
  · obtain ⟨G, v, t, rfl, _⟩ := h; rfl
  · obtain ⟨G, v, t, rfl, sm, ⟨a, dx, vm, vk, vv, vb, rfl, ha, hm, hk, hv, hb⟩, q⟩ := h
    refine ⟨_, (pss_one (ps_ret (pe_callTy call_list_of (by rfl) T.n_list boot_list_ (pa_cons (pe_fld (pv 0) rfl) pa_nil)))), ?_⟩
    walk_at "s"
    refine ⟨a, A.cTune, dx, _, _, rfl, sm _ _ ha, T.o_Tune.cl, T.no_Tune_bars, rfl, ?_⟩
    obtain ⟨b, xs, rfl, hl, r⟩ := dpL hb
    refine ⟨b, xs, rfl, .inl (sm.seq hl), fun l hlf => ?_⟩
    have g1 := (Grow.refl (M := No) sm).immN (o := .lst xs) hlf
    exact q _ _ _ g1 (.lstU upd_same (r.mono g1.gg))
def sp_many (K : PySem.W.Frag) (A : Ad) : Sp := fun vs H Q _ => ∃ (v : V) (t : Tn), vs = [v] ∧ TuneAt K A H v t ∧ Q (.int (t.vss.length : Nat)) H
theorem mt_Tune_many (T : Txt w K mg A) : C8.Met P w K mg base 1 A.cTune "many" (sp_many K A) [] := by
  refine met_of T.o_Tune T.m_Tune_many sc_Tune_many (fun vs H Q E h => ?_) (fun f cdv A' outer s H vs Q E hr h => ?_)
  · obtain ⟨v, t, rfl, _⟩ := h; rfl
  · obtain ⟨v, t, rfl, ⟨a, dx, vm, vk, vv, vb, rfl, ha, hm, hk, ⟨b, us, rfl, hus, hul, _⟩, hb⟩, q⟩ := h
    refine ⟨_, (pss_one (ps_ret (pe_callB call_len_seq (by rfl) T.n_len boot_len_ (pa_cons (pe_fld (pv 0) rfl) pa_nil)))), ?_⟩
    walk_at "s"
    refine ⟨a, A.cTune, dx, _, _, rfl, ha, T.o_Tune.cl, T.no_Tune_voices, rfl, ?_⟩
    refine ⟨b, us, rfl, .inl hus, ?_⟩
    rw [hul]
    exact q
def sp_sounds_told (K : PySem.W.Frag) (A : Ad) : Sp := fun vs H Q _ => ∃ (G : Hp) (v : V) (t : Tn) (j : Nat) (ss : List Snd), vs = [v, .int ((j : Int) + 1)] ∧ Same G H ∧ TuneAt K A G v t ∧ t.vss[j]? = some ss ∧ ss.length ≤ 96 ∧ ∀ G' H' z, Grow No G H G' H' → Dp K G' z (.list (ss.map sndD)) → Q z H'
theorem mt_Tune_sounds_told (T : Txt w K mg A) : C8.Met P w K mg base 2 A.cTune "sounds_told" (sp_sounds_told K A) [] := by
  refine met_of T.o_Tune T.m_Tune_sounds_told sc_Tune_sounds_told (fun vs H Q E h => ?_) (fun f cdv A' outer s H vs Q E hr h => ?_)
  · obtain ⟨G, v, t, j, ss, rfl, _⟩ := h; rfl
  · obtain ⟨G, v, t, j, ss, rfl, sm, ⟨a, dx, vm, vk, vv, vb, rfl, ha, hm, hk, ⟨b, us, rfl, hus, hul, hui⟩, hb⟩, hj, h96, q⟩ := h
    have hjl : j < t.vss.length := (List.getElem?_eq_some_iff.mp hj).1
    obtain ⟨u, hu⟩ : ∃ u, us[j]? = some u := ⟨us[j]'(by omega), List.getElem?_eq_getElem _⟩
    obtain ⟨ss', hss', c, xs, rfl, hxs, hxl, hxi⟩ := hui j u hu
    rw [hj] at hss'
    cases (Option.some.inj hss')
    refine ⟨_, (pss_one (ps_ret (pe_lc (own := [("sound", 2)]) (g := (gName 2)) (tt := tYes) (by rfl) sc_Tune_sounds_told.nd (pi_list (pe_ix ix_list (pe_fld (pv 0) rfl) (pe_op op_sub (pv 1) pe_int) (fun _ _ => rfl))) (blkOk_by (N := N_Tune_sounds_told) (sc := (defScope s_Tune_sounds_told)) (by decide +kernel)) (fun _ _ _ _ _ => (pg_name (i := 2) sc_Tune_sounds_told.nd rfl (Or.inl rfl))) (fun _ _ _ _ _ => pts_nil) (fun _ _ _ _ _ => (pe_or (pe_mt0 (mt_Rest_told T) hr (by decide) (pv 2)) (pe_mt0 (mt_Tones_told T) hr (by decide) (pv 2))))))), ?_⟩
    walk_at "s"
    refine ⟨a, A.cTune, dx, _, _, rfl, sm _ _ ha, T.o_Tune.cl, T.no_Tune_voices, rfl, ?_⟩
    walk_at "s"
    refine ⟨_, _, _, _, rfl, rfl, sm.seq hus, (by rw [show (j : Int) + 1 - 1 = (j : Int) by omega]; exact atI_nat hu), ?_⟩
    walk_at "s"
    refine ⟨⟨_, sm.seq hxs⟩, fun D hD => ?_⟩
    refine lc_pure walk_list hD sm (fun G i v => ∃ s, ss[i]? = some s ∧ Dp K G v (sndD s)) (by omega) (fun _ _ _ _ e ⟨s, h1, h2⟩ => ⟨s, h1, h2.mono e⟩) (fun G1 H1 g1 => g1.s0.seq hxs) ?_ ?_
    · rintro i v G1 H1 H1' hi g1 ⟨rfl, hx⟩ Q' hq
      obtain ⟨s, hs, hsa⟩ := hxi i v hx
      refine ⟨rfl, ?_⟩
      have hsa := hsa.mono g1.gg
      cases hrs : s.isRest with
      | true =>
        refine Or.inl ?_
        obtain ⟨c, dc, rfl, hc⟩ : ∃ c dc, v = .ref c ∧ ∃ n, G1 c = some (.ins A.cRest dc (restF n)) := by
          cases s with
          | rest n => obtain ⟨c, dc, h1, h2⟩ := hsa; exact ⟨c, dc, h1, n, h2⟩
          | tones => cases hrs
        obtain ⟨n, hc⟩ := hc
        walk_at "s"
        refine ⟨c, dc, _, rfl, g1.gh _ _ hc, rfl, ?_⟩
        exact ⟨G1, _, s, rfl, g1.gh, hsa, hrs, fun G2 H2 z g2 hz => hq _ _ _ g2 ⟨s, hs, hz⟩⟩
      | false =>
        refine Or.inr ?_
        obtain ⟨c, dc, rfl, n, pl, w', o', c', hc⟩ : ∃ c dc, v = .ref c ∧ ∃ n pl w o c', G1 c = some (.ins A.cTones dc (tonesF n pl w o c')) := by
          cases s with
          | tones ps n wd o c' => obtain ⟨c, dc, pl, h1, h2, _⟩ := hsa; exact ⟨c, dc, h1, _, _, _, _, _, h2⟩
          | rest => cases hrs
        walk_at "s"
        refine ⟨c, dc, _, rfl, g1.gh _ _ hc, rfl, ?_⟩
        exact ⟨G1, _, s, rfl, g1.gh, hsa, hrs, fun G2 H2 z g2 hz => hq _ _ _ g2 ⟨s, hs, hz⟩⟩
    · intro G3 H3 acc g3 gD eD el er
      have g4 := g3.fix eD hD gD
      refine q _ _ _ g4 (.lstU upd_same (DpAll.of (by rw [List.length_map]; omega) fun i v hv => ?_))
      obtain ⟨s, hs, hd⟩ := er i v hv
      exact ⟨sndD s, by rw [List.getElem?_map, hs]; rfl, hd.mono fun b u e => by rw [upd_ne (ne_of_none e gD)]; exact e⟩
end
end BW
set_option Elab.async false
set_option linter.all false
set_option maxRecDepth 100000
set_option maxHeartbeats 4000000
set_option pp.maxSteps 3000
namespace BW
open PySem PySem.Spec PyProof.Rows L2
open C8 (Cal Met Mak pe_c pe_mk pe_mt pe_mt0 pe_gc sl_txt fnBody fnScope fnArgs)
local macro_rules | `(tactic| walk_at "v") => `(tactic| refine ⟨_, rfl, ?_⟩)
local macro_rules | `(tactic| walk_at "i2") => `(tactic| refine ⟨_, _, rfl, rfl, ?_⟩)
local macro_rules | `(tactic| walk_at "k") => `(tactic| exact (by decide +kernel))
local macro_rules | `(tactic| walk_at "s") => `(tactic| repeat (first | refine ⟨_, rfl, ?_⟩ | refine ⟨_, _, rfl, rfl, ?_⟩ | refine ⟨rfl, ?_⟩ | refine ⟨⟨_, rfl⟩, ?_⟩ | refine iteT ?_ | refine iteF ?_ | refine ⟨_, _, _, _, _, rfl, .ty _, tyI, kit_ty kit_int_int, ?_⟩ | refine ⟨_, _, _, _, _, rfl, .ty _, tyI, kit_ty kit_int_bool, ?_⟩ | refine ⟨_, _, _, _, _, rfl, .ty _, tyS, kit_ty kit_str_str, ?_⟩ | refine ⟨_, _, _, _, _, rfl, .ty _, tyB, kit_ty kit_bool_bool, ?_⟩ | refine ⟨_, _, _, _, _, rfl, by assumption, by assumption, by assumption, rfl, ?_⟩))
local macro_rules | `(tactic| walk_at "o") => `(tactic| repeat (first | refine ⟨_, rfl, ?_⟩ | refine ⟨_, _, rfl, rfl, ?_⟩ | refine ⟨rfl, ?_⟩ | refine ⟨⟨_, rfl⟩, ?_⟩ | refine iteT ?_ | refine iteF ?_ | refine ⟨_, _, _, _, _, rfl, .ty _, tyI, kit_ty kit_int_int, ?_⟩ | refine ⟨_, _, _, _, _, rfl, .ty _, tyI, kit_ty kit_int_bool, ?_⟩ | refine ⟨_, _, _, _, _, rfl, .ty _, tyS, kit_ty kit_str_str, ?_⟩ | refine ⟨_, _, _, _, _, rfl, .ty _, tyB, kit_ty kit_bool_bool, ?_⟩ | refine ⟨_, _, _, _, _, rfl, by assumption, by assumption, by assumption, rfl, ?_⟩ | refine iteDF (by omega) ?_ | refine iteD (by omega) ?_ | refine ⟨_, _, _, rfl, by omega, by omega, ?_⟩ | refine And.intro (by omega) ?_))

open SX (S)
theorem Grow.drop {x : Addr} {G H G' H' : Hp} (g : Grow (At x) G H G' H') (h : H x = none) : Grow No G H G' H' := ⟨g.gg, g.gh, fun b o _ e => g.hh b o (fun m => by cases m; rw [h] at e; cases e) e, g.fr⟩
structure VoiceOk (ss : List Snd) : Prop where
  l0 : 1 ≤ ss.length
  l1 : ss.length ≤ 96
  ok : ∀ s ∈ ss, SndOk s
  sl : slurs false ss
  ne : tidyL ss ≠ []
  ls : BW.lens ss ≤ 4608
structure TnOk (ms : List (Nat × Met)) (ks : List (Nat × Int)) (vss : List (List Snd)) (fs : List Frm) : Prop where
  cm : Chg metD ms
  ck : Chg PyData.int ks
  mok : ∀ r ∈ ms, MetOk r.2
  kok : ∀ r ∈ ks, -7 ≤ r.2 ∧ r.2 ≤ 7
  v0 : 1 ≤ vss.length
  v1 : vss.length ≤ 2
  vok : ∀ ss ∈ vss, VoiceOk ss
  laid : Laid ms ks fs (lastsL (vss.map tidyL))
def vossD (vss : List (List Snd)) : PyData := .list (vss.map fun ss => .list (ss.map sndD))
theorem tidyL_len (ss : List Snd) : (tidyL ss).length ≤ ss.length := by
  rw [tidyL_eq]
  refine Nat.le_trans ?_ (fold_len (ss := ss))
  rcases List.eq_nil_or_concat (fold ss) with e | ⟨init, x, e⟩
  · rw [e]; exact Nat.le_refl _
  · rw [e, List.concat_eq_append, tidyCut_snoc]
    split <;> simp
section
variable {P : Program} {w : World} {K : PySem.W.Frag} {mg : Str → Option Value} {base : Heap} {A : Ad}
def sp_Tune_init (K : PySem.W.Frag) (A : Ad) : Sp := fun vs H Q _ => ∃ (G : Hp) (x dx : Addr) (vm vk vv : V) (ms : List (Nat × Met)) (ks : List (Nat × Int)) (vss : List (List Snd)) (fs : List Frm), vs = [.ref x, vm, vk, vv] ∧ Same G H ∧ G x = none ∧ H x = some (.ins A.cTune dx []) ∧
  Dp K G vm (chgsD metD ms) ∧ Dp K G vk (chgsD PyData.int ks) ∧ Dp K G vv (vossD vss) ∧ TnOk ms ks vss fs ∧
  ∀ G' H' vm' vk' vv' vb, Grow (At x) G H G' H' → G' x = none → H' x = some (.ins A.cTune dx (tunF vm' vk' vv' vb)) → Dp K G' vm' (chgsD metD ms) → Dp K G' vk' (chgsD PyData.int ks) → VoicesAt K A G' vv' (vss.map tidyL) → Dp K G' vb (.list (fs.map frmD)) → Q .non H'
theorem mk_Tune (T : Txt w K mg A) : Mak P w K mg base 8 "Tune" A.cTune (sp_Tune_init K A) [] := by
  refine mak_of T.i_Tune sc_Tune___init__ (fun vs H Q E h => ?_) (fun f cdv A' outer s H vs Q E hr h => ?_)
  · obtain ⟨G, x, dx, vm, vk, vv, ms, ks, vss, fs, rfl, _⟩ := h; rfl
  · obtain ⟨G, x, dx, vm, vk, vv, ms, ks, vss, fs, rfl, sm, gx, hx, hvm, hvk, hvv, ok, q⟩ := h
    have cl := T.o_Tune.cl
    obtain ⟨v0, v1⟩ := And.intro ok.v0 ok.v1
    refine ⟨_, (pss_cons (ps_expr (pe_c (ok_need_changes T) hr (by decide) rfl (pa_cons (pv 1) (pa_cons (pe_gc rfl T.v_is_metre) pa_nil))))
    (pss_cons (ps_expr (pe_c (ok_need_changes T) hr (by decide) rfl (pa_cons (pv 2) (pa_cons (pe_gc rfl T.v_is_key) pa_nil))))
    (pss_cons (ps_if (PW.pt (pw_or (pt_not (pt_val (pe_callB call_isi (by rfl) T.n_isinstance boot_isinstance_ (pa_cons (pv 3) (pa_cons (pe_ty (by rfl) T.n_list boot_list_) pa_nil))))) (pw_or1 (pt_not (pt_chain op_le op_le pe_int (pe_callB call_len_seq (by rfl) T.n_len boot_len_ (pa_cons (pv 3) pa_nil)) pe_int))))) (pss_one ps_never) pss_nil)
    (pss_cons (ps_fld (pv 0) (pe_callTy call_list_of (by rfl) T.n_list boot_list_ (pa_cons (pv 1) pa_nil)) rfl)
    (pss_cons (ps_fld (pv 0) (pe_callTy call_list_of (by rfl) T.n_list boot_list_ (pa_cons (pv 2) pa_nil)) rfl)
    (pss_cons (ps_fld (pv 0) (pe_lc (own := [("one", 4)]) (g := (gName 4)) (tt := tYes) (by rfl) sc_Tune___init__.nd (pi_list (pv 3)) (blkOk_by (N := N_Tune___init__) (sc := (defScope s_Tune___init__)) (by decide +kernel)) (fun _ _ _ _ _ => (pg_name (i := 4) sc_Tune___init__.nd rfl (Or.inl rfl))) (fun _ _ _ _ _ => pts_nil) (fun _ _ _ _ _ => (pe_c (ok_voice_of T) hr (by decide) rfl (pa_cons (pv 4) pa_nil)))) rfl)
    (pss_one (ps_fld (pv 0) (pe_c (ok_laid T) hr (by decide) rfl (pa_cons (pe_fld (pv 0) rfl) (pa_cons (pe_fld (pv 0) rfl) (pa_cons (pe_mt0 (mt_Tune_lasts T) hr (by decide) (pv 0)) pa_nil)))) rfl)))))))), ?_⟩
    walk_at "s"
    refine ⟨Met, metD, ms, vm, A.fis_metre, sp_is_metre K, rfl, at_is_metre T, fun r hr x1 H1 Q1 hd hq => ⟨_, r.2, rfl, hd, ok.mok r hr, hq⟩, hvm.mono sm, ok.cm, fun H1 s1 => ?_⟩
    walk_at "s"
    refine ⟨Int, PyData.int, ks, vk, A.fis_key, sp_is_key, rfl, at_is_key T, fun r hr x1 H1 Q1 hd hq => (by cases dpI hd; exact ⟨r.2, rfl, (ok.kok r hr).1, (ok.kok r hr).2, hq _ (Same.refl _)⟩), hvk.mono (sm.trans s1), ok.ck, fun H2 s2 => ?_⟩
    have s12 := s1.trans s2
    have g2 : Grow (At x) G H G H2 := Grow.of_same sm s12
    have hx2 : H2 x = some (.ins A.cTune dx []) := s12 _ _ hx
    obtain ⟨av, xv, rfl, hlv, rv⟩ := dpL hvv
    have hlenv := rv.len
    rw [List.length_map] at hlenv
    walk_at "s"
    refine ⟨_, _, _, _, _, rfl, .ty _, isL (g2.s0.seq hlv), kit_ty kit_list_list, ?_⟩
    walk_at "s"
    refine ⟨_, _, rfl, .inl (g2.s0.seq hlv), ?_⟩
    walk_at "o"
    rw [decide_eq_true (show (xv.length : Int) ≤ 2 by omega)]
    walk_at "s"
    obtain ⟨am, xm, rfl, hlm, rm⟩ := dpL hvm
    obtain ⟨ak, xk, rfl, hlk, rk⟩ := dpL hvk
    refine ⟨_, _, rfl, .inl (g2.s0.seq hlm), fun l hl => ?_⟩
    have nxl : x ≠ l := ne_of_none hx2 hl
    have g3 : Grow (At x) G H (upd G l (.lst xm)) (upd H2 l (.lst xm)) := g2.imm hl fun o _ m => nxl m.symm
    have gx3 : (upd G l (.lst xm)) x = none := by rw [upd_ne nxl]; exact gx
    refine ⟨_, rfl, x, A.cTune, dx, _, rfl, (by rw [upd_ne nxl]; exact hx2), cl, T.no_Tune_by_metre, by simp, ?_⟩
    rw [show putF (Str.ofString "by_metre") (V.ref l) [] = [(Str.ofString "by_metre", V.ref l)] from rfl]
    have g4 := g3.put (o := .ins A.cTune dx [("by_metre", .ref l)]) gx3 (.inr rfl)
    walk_at "s"
    refine ⟨_, _, rfl, .inl (g4.s0.seq hlk), fun l2 hl2 => ?_⟩
    have nxl2 : x ≠ l2 := ne_of_none upd_same hl2
    have g5 := g4.imm (o := .lst xk) hl2 fun o _ m => nxl2 m.symm
    have gx5 : (upd (upd G l (.lst xm)) l2 (.lst xk)) x = none := by rw [upd_ne nxl2]; exact gx3
    refine ⟨_, rfl, x, A.cTune, dx, _, rfl, (by rw [upd_ne nxl2]; exact upd_same), cl, T.no_Tune_by_key, by simp, ?_⟩
    rw [putF_cons (by decide +kernel), show putF (Str.ofString "by_key") (V.ref l2) [] = [(Str.ofString "by_key", V.ref l2)] from rfl]
    have g6 := g5.put (o := .ins A.cTune dx [("by_metre", .ref l), ("by_key", .ref l2)]) gx5 (.inr rfl)
    walk_at "s"
    refine ⟨⟨_, g6.s0.seq hlv⟩, fun D hD => ?_⟩
    have nxD : x ≠ D := ne_of_none upd_same hD
    refine lc_pure walk_list hD g6.gh (fun G i v => ∃ ss, vss[i]? = some ss ∧ SndsAt K A G v (tidyL ss)) (by omega) (fun _ _ _ _ e ⟨s, h1, h2⟩ => ⟨s, h1, h2.mono e⟩) (fun G1 H1 g1 => (g6.gg.trans g1.s0).seq hlv) ?_ ?_
    · rintro i v G1 H1 H1' hi g1 ⟨rfl, hxi⟩ Q' hq
      obtain ⟨d, ed, dp⟩ := rv.get hxi
      rw [List.getElem?_map] at ed
      cases hs : vss[i]? with
      | none => rw [hs] at ed; cases ed
      | some ss =>
        rw [hs] at ed
        cases ed
        have vo := ok.vok ss (List.mem_of_getElem? hs)
        refine ⟨rfl, ?_⟩
        walk_at "s"
        exact ⟨G1, _, ss, rfl, g1.gh, dp.mono (g6.gg.trans g1.gg), vo.l0, vo.l1, vo.ok, vo.sl, vo.ne, vo.ls, fun G2 H2 z g2 hz => hq _ _ _ g2 ⟨ss, hs, hz⟩⟩
    · intro G7 H7 acc g7 gD eD el er
      have g7' := g7.fix eD hD gD
      have g8 := g6.trA (g7'.no (M := At x)) ⟨_, upd_same⟩
      have hx8 : H7 x = some (.ins A.cTune dx [("by_metre", .ref l), ("by_key", .ref l2)]) := g7.same _ _ upd_same
      have gx8 : (upd G7 D (.lst acc)) x = none := by
        rw [upd_ne nxD]
        exact g7.fr _ _ upd_same gx5
      refine ⟨_, rfl, x, A.cTune, dx, _, rfl, hx8, cl, T.no_Tune_voices, by simp, ?_⟩
      rw [putF_cons (by decide +kernel), putF_cons (by decide +kernel), show putF (Str.ofString "voices") (V.ref D) [] = [(Str.ofString "voices", V.ref D)] from rfl]
      have g9 := g8.put (o := .ins A.cTune dx [("by_metre", .ref l), ("by_key", .ref l2), ("voices", .ref D)]) gx8 (.inr rfl)
      have hva : VoicesAt K A (upd G7 D (.lst acc)) (.ref D) (vss.map tidyL) := ⟨D, acc, rfl, sqlU upd_same, by rw [List.length_map]; omega, fun i v hv => by
        obtain ⟨ss, hs, ha⟩ := er i v hv
        exact ⟨tidyL ss, by rw [List.getElem?_map, hs]; rfl, ha.mono fun b u e => by rw [upd_ne (ne_of_none e gD)]; exact e⟩⟩
      walk_at "s"
      refine ⟨x, A.cTune, dx, _, _, rfl, upd_same, cl, T.no_Tune_by_metre, rfl, ?_⟩
      walk_at "s"
      refine ⟨x, A.cTune, dx, _, _, rfl, upd_same, cl, T.no_Tune_by_key, rfl, ?_⟩
      walk_at "s"
      refine ⟨x, dx, _, rfl, upd_same, rfl, ?_⟩
      refine ⟨_, x, dx, _, _, _, vss.map tidyL, rfl, g9.gh, upd_same, hva, (fun e => by rw [← List.length_eq_zero_iff, List.length_map] at e; omega), by rw [List.length_map]; exact v1, fun ss hss => ?_, fun H9 s9 => ?_⟩
      · obtain ⟨s', hs', rfl⟩ := List.mem_map.mp hss
        exact Nat.le_trans (tidyL_len s') (ok.vok s' hs').l1
      have g10 : Grow (At x) G H (upd G7 D (.lst acc)) H9 := g9.trA (Grow.of_same g9.gh s9) ⟨_, upd_same⟩
      have gg3 : Same (upd G l (.lst xm)) (upd G7 D (.lst acc)) := fun b u e => by
        have n1 : b ≠ D := fun z => by
          subst z
          have : (upd (upd G l (.lst xm)) l2 (.lst xk)) b = some u := by
            rw [upd_ne (ne_of_none (g4.gh _ _ e) hl2)]; exact e
          have := g6.gh _ _ this
          rw [hD] at this
          cases this
        rw [upd_ne n1]
        refine g7.gg _ _ ?_
        rw [upd_ne (ne_of_none (g4.gh _ _ e) hl2)]; exact e
      have gg5 : Same (upd (upd G l (.lst xm)) l2 (.lst xk)) (upd G7 D (.lst acc)) := fun b u e => by
        rw [upd_ne (ne_of_none (g6.gh _ _ e) hD)]
        exact g7.gg _ _ e
      have dm : Dp K (upd G7 D (.lst acc)) (.ref l) (chgsD metD ms) := (Dp.lstU (upd_same (H := G)) (rm.mono g3.gg)).mono gg3
      have dk : Dp K (upd G7 D (.lst acc)) (.ref l2) (chgsD PyData.int ks) := (Dp.lstU upd_same (rk.mono g5.gg)).mono gg5
      have hm0 : ms ≠ [] := fun e => by obtain ⟨y, hy⟩ := ok.cm.first; rw [e] at hy; cases hy
      have hk0 : ks ≠ [] := fun e => by obtain ⟨y, hy⟩ := ok.ck.first; rw [e] at hy; cases hy
      refine ⟨_, ms, ks, fs, lastsL (vss.map tidyL), _, _, rfl, g10.gh, dm, dk, hm0, hk0, ok.cm.len, ok.ck.len, ok.laid, fun G11 H11 z g11 hz => ?_⟩
      have g12 := g10.trA (g11.no (M := At x)) ⟨_, s9 _ _ upd_same⟩
      have gx12 : G11 x = none := g11.fr _ _ (s9 _ _ upd_same) gx8
      refine ⟨_, rfl, x, A.cTune, dx, _, rfl, g11.same _ _ (s9 _ _ upd_same), cl, T.no_Tune_bars, by simp, ?_⟩
      rw [putF_cons (by decide +kernel), putF_cons (by decide +kernel), putF_cons (by decide +kernel), show putF (Str.ofString "bars") z [] = [(Str.ofString "bars", z)] from rfl]
      have g13 := g12.put (o := .ins A.cTune dx (tunF (.ref l) (.ref l2) (.ref D) z)) gx12 (.inr rfl)
      exact q _ _ _ _ _ _ g13 gx12 upd_same (dm.mono g11.gg) (dk.mono g11.gg) (hva.mono g11.gg) hz
/-- Tune(..): the call of the class -/
theorem TuneAt.mk {G H G' H' : Hp} {x dx : Addr} {vm vk vv vb : V} {t : Tn} (g : Grow No G H G' H') (hx : H x = none) (gx : G' x = none) (e : H' x = some (.ins A.cTune dx (tunF vm vk vv vb))) (h1 : Dp K G' vm (chgsD metD t.ms)) (h2 : Dp K G' vk (chgsD PyData.int t.ks)) (h3 : VoicesAt K A G' vv t.vss) (h4 : Dp K G' vb (.list (t.fs.map frmD))) :
    Grow No G H (upd G' x (.ins A.cTune dx (tunF vm vk vv vb))) H' ∧ TuneAt K A (upd G' x (.ins A.cTune dx (tunF vm vk vv vb))) (.ref x) t := by
  have s : Same G' (upd G' x (.ins A.cTune dx (tunF vm vk vv vb))) := fun b u e => by rw [upd_ne (ne_of_none e gx)]; exact e
  exact ⟨g.fix e hx gx, x, dx, vm, vk, vv, vb, rfl, upd_same, h1.mono s, h2.mono s, h3.mono s, h4.mono s⟩
end
end BW
set_option Elab.async false
set_option linter.all false
set_option maxRecDepth 100000
set_option maxHeartbeats 4000000
set_option pp.maxSteps 3000
namespace BW
open PySem PySem.Spec PyProof.Rows L2
open C8 (Cal Met Mak pe_c pe_mk pe_mt pe_mt0 pe_gc sl_txt fnBody fnScope fnArgs)
local macro_rules | `(tactic| walk_at "v") => `(tactic| refine ⟨_, rfl, ?_⟩)
local macro_rules | `(tactic| walk_at "i2") => `(tactic| refine ⟨_, _, rfl, rfl, ?_⟩)
local macro_rules | `(tactic| walk_at "k") => `(tactic| exact (by decide +kernel))
local macro_rules | `(tactic| walk_at "s") => `(tactic| repeat (first | refine ⟨_, rfl, ?_⟩ | refine ⟨_, _, rfl, rfl, ?_⟩ | refine ⟨rfl, ?_⟩ | refine ⟨⟨_, rfl⟩, ?_⟩ | refine iteT ?_ | refine iteF ?_ | refine ⟨_, _, _, _, _, rfl, .ty _, tyI, kit_ty kit_int_int, ?_⟩ | refine ⟨_, _, _, _, _, rfl, .ty _, tyI, kit_ty kit_int_bool, ?_⟩ | refine ⟨_, _, _, _, _, rfl, .ty _, tyS, kit_ty kit_str_str, ?_⟩ | refine ⟨_, _, _, _, _, rfl, .ty _, tyB, kit_ty kit_bool_bool, ?_⟩ | refine ⟨_, _, _, _, _, rfl, by assumption, by assumption, by assumption, rfl, ?_⟩))
local macro_rules | `(tactic| walk_at "o") => `(tactic| repeat (first | refine ⟨_, rfl, ?_⟩ | refine ⟨_, _, rfl, rfl, ?_⟩ | refine ⟨rfl, ?_⟩ | refine ⟨⟨_, rfl⟩, ?_⟩ | refine iteT ?_ | refine iteF ?_ | refine ⟨_, _, _, _, _, rfl, .ty _, tyI, kit_ty kit_int_int, ?_⟩ | refine ⟨_, _, _, _, _, rfl, .ty _, tyI, kit_ty kit_int_bool, ?_⟩ | refine ⟨_, _, _, _, _, rfl, .ty _, tyS, kit_ty kit_str_str, ?_⟩ | refine ⟨_, _, _, _, _, rfl, .ty _, tyB, kit_ty kit_bool_bool, ?_⟩ | refine ⟨_, _, _, _, _, rfl, by assumption, by assumption, by assumption, rfl, ?_⟩ | refine iteDF (by omega) ?_ | refine iteD (by omega) ?_ | refine ⟨_, _, _, rfl, by omega, by omega, ?_⟩ | refine And.intro (by omega) ?_))

open SX (S)
def rowD (ws : List (List Nat)) : PyData := .list ((ws.map S).map .str)
def rowsD (rws : List (List (List Nat))) : PyData := .list (rws.map rowD)
def textC (rws : List (List (List Nat))) : List Nat := TL.joinL [10] (rws.map (TL.joinL [32]))
structure RowOk (ws : List (List Nat)) : Prop where
  ne : ws ≠ []
  wd : ∀ z ∈ ws, z ≠ [] ∧ 32 ∉ z ∧ 10 ∉ z
  ln : (TL.joinL [32] ws).length ≤ 1000
structure RowsOk (rws : List (List (List Nat))) : Prop where
  ne : rws ≠ []
  ok : ∀ ws ∈ rws, RowOk ws
  ln : rws.length ≤ 1000
theorem textC_len {rws : List (List (List Nat))} (h : RowsOk rws) : (textC rws).length ≤ 2000000 := by
  have := joinL_len (s := [10]) (B := 1000) (l := rws.map (TL.joinL [32])) fun x hx => by
    obtain ⟨ws, hw, rfl⟩ := List.mem_map.mp hx
    exact (h.ok ws hw).ln
  rw [List.length_map] at this
  have h2 := h.ln
  unfold textC
  simp only [List.length_singleton] at this
  calc _ ≤ 1001 * rws.length := this
    _ ≤ 1001 * 1000 := Nat.mul_le_mul_left _ h2
    _ ≤ _ := by decide
theorem row_free {ws : List (List Nat)} (h : RowOk ws) : 10 ∉ TL.joinL [32] ws := fun hm => by
  rcases mem_joinL hm with h1 | ⟨x, hx, h1⟩
  · exact absurd h1 (by decide)
  · exact (h.wd x hx).2.2 h1
def rowsF (rl : V) (p : Nat) : List (Str × V) := [("rows", rl), ("place", .int p)]
structure RowsAt (K : PySem.W.Frag) (A : Ad) (G H : Hp) (r dx : Addr) (rl : V) (rws : List (List (List Nat))) (p : Nat) : Prop where
  gr : G r = none
  hr : H r = some (.ins A.cRows dx (rowsF rl p))
  dp : Dp K G rl (rowsD rws)
def beginsB (rws : List (List (List Nat))) (p : Nat) (wd : List Nat) : Bool := match rws[p]? with
  | some (w :: _) => decide (w = wd)
  | _ => false
theorem row_at {K : PySem.W.Frag} {G : Hp} {xs : List V} {rws : List (List (List Nat))} {p : Nat} {ws : List (List Nat)} (h : DpAll K G xs (rws.map rowD)) (hp : rws[p]? = some ws) : ∃ b, xs[p]? = some (.ref b) ∧ SqL K G b ((ws.map S).map V.str) := by
  obtain ⟨v, hv, d⟩ := h.getD (i := p) (d := rowD ws) (by rw [List.getElem?_map, hp]; rfl)
  obtain ⟨b, us, rfl, hb, r⟩ := dpL d
  cases r.strs
  exact ⟨b, hv, hb⟩
section
variable {P : Program} {w : World} {K : PySem.W.Frag} {mg : Str → Option Value} {base : Heap} {A : Ad}
def sp_Rows_init (K : PySem.W.Frag) (A : Ad) : Sp := fun vs H Q _ => ∃ (G : Hp) (x dx : Addr) (rws : List (List (List Nat))), vs = [.ref x, .str (S (textC rws))] ∧ Same G H ∧ G x = none ∧ H x = some (.ins A.cRows dx []) ∧ RowsOk rws ∧
  ∀ G' H' rl, Grow (At x) G H G' H' → RowsAt K A G' H' x dx rl rws 0 → Q .non H'
theorem mk_Rows (T : Txt w K mg A) : Mak P w K mg base 2 "Rows" A.cRows (sp_Rows_init K A) [] := by
  refine mak_of T.i_Rows sc_Rows___init__ (fun vs H Q E h => ?_) (fun f cdv A' outer s H vs Q E hr h => ?_)
  · obtain ⟨G, x, dx, rws, rfl, _⟩ := h; rfl
  · obtain ⟨G, x, dx, rws, rfl, sm, gx, hx, ok, q⟩ := h
    have cl := T.o_Rows.cl
    have htl := textC_len ok
    have hln := ok.ln
    refine ⟨_, (pss_cons (ps_fld (pv 0) (pe_lc (own := [("row", 2)]) (g := (gName 2)) (tt := tYes) (by rfl) sc_Rows___init__.nd (pi_list (pe_split (pv 1) pe_str)) (blkOk_by (N := N_Rows___init__) (sc := (defScope s_Rows___init__)) (by decide +kernel)) (fun _ _ _ _ _ => (pg_name (i := 2) sc_Rows___init__.nd rfl (Or.inl rfl))) (fun _ _ _ _ _ => pts_nil) (fun _ _ _ _ _ => (pe_c (ok_words_of T) hr (by decide) rfl (pa_cons (pv 2) pa_nil)))) rfl)
    (pss_one (ps_fld (pv 0) pe_int rfl))), ?_⟩
    walk_at "s"
    refine ⟨Nat.le_trans (by rw [S_len']; omega) (show 4000000 ≤ sizeLine by decide), fun p hp => ?_⟩
    have nxp : x ≠ p := ne_of_none hx hp
    unfold textC
    rw [lit_ "\n" [10] (by decide +kernel), split_join 10 (by decide) (fun z => ok.ne (List.map_eq_nil_iff.mp z)) (fun z hz => by
      obtain ⟨ws, hws, rfl⟩ := List.mem_map.mp hz
      exact row_free (ok.ok ws hws))]
    have g1 : Grow (At x) G H (upd G p (.lst (((rws.map (TL.joinL [32])).map S).map V.str))) (upd H p (.lst (((rws.map (TL.joinL [32])).map S).map V.str))) := (Grow.refl sm).imm hp fun o _ m => nxp m.symm
    have gx1 : (upd G p (.lst (((rws.map (TL.joinL [32])).map S).map V.str))) x = none := by rw [upd_ne nxp]; exact gx
    walk_at "s"
    refine ⟨⟨_, sqlU upd_same⟩, fun D hD => ?_⟩
    have hlen : (((rws.map (TL.joinL [32])).map S).map V.str).length ≤ 100000 := by
      rw [List.length_map, List.length_map, List.length_map]
      omega
    have nxD : x ≠ D := ne_of_none (show (upd H p _) x = some _ by rw [upd_ne nxp]; exact hx) hD
    refine lc_pure walk_list hD g1.gh (fun G i v => ∃ ws, rws[i]? = some ws ∧ Dp K G v (rowD ws)) hlen (fun _ _ _ _ e ⟨s, h1, h2⟩ => ⟨s, h1, h2.mono e⟩) (fun G1 H1 g1 => g1.same.seq (sqlU upd_same)) ?_ ?_
    · rintro i v G1 H1 H1' hi g1 ⟨rfl, hv⟩ Q' hq
      obtain ⟨z, hz, rfl⟩ : ∃ z, rws[i]? = some z ∧ v = .str (S (TL.joinL [32] z)) := by
        simp only [List.getElem?_map, Option.map_eq_some_iff] at hv
        obtain ⟨_, ⟨_, ⟨z, hz, rfl⟩, rfl⟩, rfl⟩ := hv
        exact ⟨z, hz, rfl⟩
      have ro := ok.ok z (List.mem_of_getElem? hz)
      refine ⟨rfl, ?_⟩
      walk_at "s"
      refine ⟨ro.ne, fun y hy => ⟨(ro.wd y hy).1, (ro.wd y hy).2.1⟩, by have := ro.ln; omega, fun H2 p2 s2 f2 e2 => ?_⟩
      refine hq _ _ _ ((Grow.of_same g1.gh s2).fix e2 f2 (g1.gh.free f2)) ⟨z, hz, .lstU upd_same ?_⟩
      exact .ofStrs
    · intro G3 H3 acc g3 gD eD el er
      rw [List.length_map, List.length_map, List.length_map] at el
      have g3' := g3.fix eD hD gD
      have hx1 : (upd H p (.lst (((rws.map (TL.joinL [32])).map S).map V.str))) x = some (.ins A.cRows dx []) := by rw [upd_ne nxp]; exact hx
      have g4 := g1.trA (g3'.no (M := At x)) ⟨_, hx1⟩
      have hx3 := g3.same _ _ hx1
      have gx3 : (upd G3 D (.lst acc)) x = none := by
        rw [upd_ne nxD]
        exact g3.fr _ _ hx1 gx1
      refine ⟨_, rfl, x, A.cRows, dx, _, rfl, hx3, cl, T.no_Rows_rows, by simp, ?_⟩
      rw [show putF (Str.ofString "rows") (V.ref D) [] = [(Str.ofString "rows", V.ref D)] from rfl]
      refine ⟨_, rfl, x, A.cRows, dx, _, rfl, upd_same, cl, T.no_Rows_place, by simp, ?_⟩
      rw [putF_cons (by decide +kernel), show putF (Str.ofString "place") (V.int 0) [] = [(Str.ofString "place", V.int 0)] from rfl]
      have g5 := (g4.put (o := .ins A.cRows dx [("rows", .ref D)]) gx3 (.inr rfl)).put (o := .ins A.cRows dx (rowsF (.ref D) 0)) gx3 (.inr rfl)
      exact q _ _ (.ref D) g5 ⟨gx3, upd_same, .lstU upd_same (DpAll.of (by rw [List.length_map]; exact el) fun i v hv => by
        obtain ⟨ws, hs, hd⟩ := er i v hv
        exact ⟨rowD ws, by rw [List.getElem?_map, hs]; rfl, hd.mono fun b u e => by rw [upd_ne (ne_of_none e gD)]; exact e⟩)⟩
def sp_is_over (K : PySem.W.Frag) (A : Ad) : Sp := fun vs H Q _ => ∃ (G : Hp) (r dx : Addr) (rl : V) (rws : List (List (List Nat))) (p : Nat), vs = [.ref r] ∧ Same G H ∧ RowsAt K A G H r dx rl rws p ∧ Q (.bl (decide (p = rws.length))) H
theorem mt_Rows_is_over (T : Txt w K mg A) : C8.Met P w K mg base 1 A.cRows "is_over" (sp_is_over K A) [] := by
  refine met_of T.o_Rows T.m_Rows_is_over sc_Rows_is_over (fun vs H Q E h => ?_) (fun f cdv A' outer s H vs Q E hr h => ?_)
  · obtain ⟨G, r, dx, rl, rws, p, rfl, _⟩ := h; rfl
  · obtain ⟨G, r, dx, rl, rws, p, rfl, sm, ra, q⟩ := h
    obtain ⟨a, xs, rfl, hl, rv⟩ := dpL ra.dp
    have hlen := rv.len
    rw [List.length_map] at hlen
    refine ⟨_, (pss_one (ps_ret (pe_cmpR op_eq (pe_fld (pv 0) rfl) (pe_callB call_len_seq (by rfl) T.n_len boot_len_ (pa_cons (pe_fld (pv 0) rfl) pa_nil)) (nomark _)))), ?_⟩
    walk_at "s"
    refine ⟨r, A.cRows, dx, _, _, rfl, ra.hr, T.o_Rows.cl, T.no_Rows_place, rfl, ?_⟩
    walk_at "s"
    refine ⟨r, A.cRows, dx, _, _, rfl, ra.hr, T.o_Rows.cl, T.no_Rows_rows, rfl, ?_⟩
    refine ⟨_, _, rfl, .inl (sm.seq hl), ?_⟩
    refine ⟨rfl, ?_⟩
    rw [decide_eq_decide.mpr (show V.int (p : Nat) = V.int (xs.length : Nat) ↔ p = rws.length from ⟨fun z => by injection z with z; omega, fun z => by rw [z, hlen]⟩)]
    exact q
def sp_next_words (K : PySem.W.Frag) (A : Ad) : Sp := fun vs H Q _ => ∃ (G : Hp) (r dx : Addr) (rl : V) (rws : List (List (List Nat))) (p : Nat) (ws : List (List Nat)), vs = [.ref r] ∧ Same G H ∧ RowsAt K A G H r dx rl rws p ∧ rws[p]? = some ws ∧ ∀ b, SqL K G b ((ws.map S).map V.str) → Q (.ref b) H
theorem mt_Rows_next_words (T : Txt w K mg A) : C8.Met P w K mg base 2 A.cRows "next_words" (sp_next_words K A) [] := by
  refine met_of T.o_Rows T.m_Rows_next_words sc_Rows_next_words (fun vs H Q E h => ?_) (fun f cdv A' outer s H vs Q E hr h => ?_)
  · obtain ⟨G, r, dx, rl, rws, p, ws, rfl, _⟩ := h; rfl
  · obtain ⟨G, r, dx, rl, rws, p, ws, rfl, sm, ra, hp, q⟩ := h
    have hpl : p < rws.length := (List.getElem?_eq_some_iff.mp hp).1
    obtain ⟨a, xs, rfl, hl, rv⟩ := dpL ra.dp
    obtain ⟨b, hb, hbs⟩ := row_at rv hp
    refine ⟨_, (pss_cons (ps_if (PW.pt (pw_or (pt_val (pe_mt0 (mt_Rows_is_over T) hr (by decide) (pv 0))) (pw_or1 (pt_cmpR op_isN (pe_ix ix_list (pe_fld (pv 0) rfl) (pe_fld (pv 0) rfl) (fun _ _ => rfl)) pe_non (nomark _))))) (pss_one ps_never) pss_nil)
    (pss_one (ps_ret (pe_ix ix_list (pe_fld (pv 0) rfl) (pe_fld (pv 0) rfl) (fun _ _ => rfl))))), ?_⟩
    walk_at "s"
    refine ⟨r, dx, _, rfl, ra.hr, rfl, ?_⟩
    refine ⟨G, r, dx, _, rws, p, rfl, sm, ra, ?_⟩
    refine ⟨_, rfl, iteDF (by omega) ?_⟩
    walk_at "s"
    refine ⟨r, A.cRows, dx, _, _, rfl, ra.hr, T.o_Rows.cl, T.no_Rows_rows, rfl, ?_⟩
    walk_at "s"
    refine ⟨r, A.cRows, dx, _, _, rfl, ra.hr, T.o_Rows.cl, T.no_Rows_place, rfl, ?_⟩
    walk_at "s"
    refine ⟨_, _, _, _, rfl, rfl, sm.seq hl, atI_nat hb, ?_⟩
    walk_at "s"
    refine ⟨r, A.cRows, dx, _, _, rfl, ra.hr, T.o_Rows.cl, T.no_Rows_rows, rfl, ?_⟩
    walk_at "s"
    refine ⟨r, A.cRows, dx, _, _, rfl, ra.hr, T.o_Rows.cl, T.no_Rows_place, rfl, ?_⟩
    walk_at "s"
    refine ⟨_, _, _, _, rfl, rfl, sm.seq hl, atI_nat hb, ?_⟩
    exact q b hbs
def sp_begins (K : PySem.W.Frag) (A : Ad) : Sp := fun vs H Q _ => ∃ (G : Hp) (r dx : Addr) (rl : V) (rws : List (List (List Nat))) (p : Nat) (wd : List Nat), vs = [.ref r, .str (S wd)] ∧ Same G H ∧ RowsAt K A G H r dx rl rws p ∧ p ≤ rws.length ∧ (∀ ws ∈ rws, ws ≠ []) ∧ Q (.bl (beginsB rws p wd)) H
theorem mt_Rows_begins (T : Txt w K mg A) : C8.Met P w K mg base 2 A.cRows "begins" (sp_begins K A) [] := by
  refine met_of T.o_Rows T.m_Rows_begins sc_Rows_begins (fun vs H Q E h => ?_) (fun f cdv A' outer s H vs Q E hr h => ?_)
  · obtain ⟨G, r, dx, rl, rws, p, wd, rfl, _⟩ := h; rfl
  · obtain ⟨G, r, dx, rl, rws, p, wd, rfl, sm, ra, hple, hne, q⟩ := h
    obtain ⟨a, xs, rfl, hl, rv⟩ := dpL ra.dp
    refine ⟨_, (pss_one (ps_ret (pe_and (pe_not (pe_mt0 (mt_Rows_is_over T) hr (by decide) (pv 0))) (pe_and (pe_cmpR op_notN (pe_ix ix_list (pe_fld (pv 0) rfl) (pe_fld (pv 0) rfl) (fun _ _ => rfl)) pe_non (nomark _)) (pe_one (pe_cmpR op_eq (pe_ix ix_list (pe_ix ix_list (pe_fld (pv 0) rfl) (pe_fld (pv 0) rfl) (fun _ _ => rfl)) pe_int (fun _ _ => rfl)) (pv 1) (nomark _))))))), ?_⟩
    walk_at "s"
    refine ⟨r, dx, _, rfl, ra.hr, rfl, ?_⟩
    refine ⟨G, r, dx, _, rws, p, rfl, sm, ra, ?_⟩
    unfold beginsB at q
    by_cases he : p = rws.length
    · rw [decide_eq_true he]
      rw [List.getElem?_eq_none (by omega)] at q
      walk_at "s"
      exact q
    · rw [decide_eq_false he]
      obtain ⟨ws, hp⟩ : ∃ ws, rws[p]? = some ws := ⟨rws[p]'(by omega), List.getElem?_eq_getElem _⟩
      rw [hp] at q
      obtain ⟨b, hb, hbs⟩ := row_at rv hp
      cases ws with
      | nil => exact absurd rfl (hne [] (List.mem_of_getElem? hp))
      | cons z zs =>
        walk_at "s"
        refine ⟨r, A.cRows, dx, _, _, rfl, ra.hr, T.o_Rows.cl, T.no_Rows_rows, rfl, ?_⟩
        walk_at "s"
        refine ⟨r, A.cRows, dx, _, _, rfl, ra.hr, T.o_Rows.cl, T.no_Rows_place, rfl, ?_⟩
        walk_at "s"
        refine ⟨_, _, _, _, rfl, rfl, sm.seq hl, atI_nat hb, ?_⟩
        walk_at "s"
        refine ⟨r, A.cRows, dx, _, _, rfl, ra.hr, T.o_Rows.cl, T.no_Rows_rows, rfl, ?_⟩
        walk_at "s"
        refine ⟨r, A.cRows, dx, _, _, rfl, ra.hr, T.o_Rows.cl, T.no_Rows_place, rfl, ?_⟩
        walk_at "s"
        refine ⟨_, _, _, _, rfl, rfl, sm.seq hl, atI_nat hb, ?_⟩
        walk_at "s"
        refine ⟨_, _, _, _, rfl, rfl, sm.seq hbs, atI_0, ?_⟩
        walk_at "s"
        rw [decide_eq_decide.mpr (show V.str (S z) = V.str (S wd) ↔ z = wd from ⟨fun z => by injection z with z; exact SX.S_inj z, fun z => by rw [z]⟩)]
        exact q
def sp_step (A : Ad) : Sp := fun vs H Q _ => ∃ (r dx : Addr) (rl : V) (p : Nat), vs = [.ref r] ∧ H r = some (.ins A.cRows dx (rowsF rl p)) ∧ Q .non (upd H r (.ins A.cRows dx (rowsF rl (p + 1))))
theorem mt_Rows_step (T : Txt w K mg A) : C8.Met P w K mg base 1 A.cRows "step" (sp_step A) [] := by
  refine met_of T.o_Rows T.m_Rows_step sc_Rows_step (fun vs H Q E h => ?_) (fun f cdv A' outer s H vs Q E hr h => ?_)
  · obtain ⟨r, dx, rl, p, rfl, _⟩ := h; rfl
  · obtain ⟨r, dx, rl, p, rfl, hx, q⟩ := h
    refine ⟨_, (pss_one (ps_fldaug (pv 0) pe_int in_add)), ?_⟩
    walk_at "s"
    refine ⟨r, A.cRows, dx, _, _, rfl, hx, T.o_Rows.cl, T.no_Rows_place, rfl, ?_⟩
    walk_at "s"
    refine ⟨dx, _, hx, by show 2 < 1000; decide, ?_⟩
    exact q
end
end BW
set_option Elab.async false
set_option linter.all false
set_option maxRecDepth 100000
set_option maxHeartbeats 4000000
set_option pp.maxSteps 3000
namespace BW
open PySem PySem.Spec PyProof.Rows L2
open C8 (Cal Met Mak pe_c pe_mk pe_mt pe_mt0 pe_gc sl_txt fnBody fnScope fnArgs)
local macro_rules | `(tactic| walk_at "v") => `(tactic| refine ⟨_, rfl, ?_⟩)
local macro_rules | `(tactic| walk_at "i2") => `(tactic| refine ⟨_, _, rfl, rfl, ?_⟩)
local macro_rules | `(tactic| walk_at "k") => `(tactic| exact (by decide +kernel))
local macro_rules | `(tactic| walk_at "s") => `(tactic| repeat (first | refine ⟨_, rfl, ?_⟩ | refine ⟨_, _, rfl, rfl, ?_⟩ | refine ⟨rfl, ?_⟩ | refine ⟨⟨_, rfl⟩, ?_⟩ | refine iteT ?_ | refine iteF ?_ | refine ⟨_, _, _, _, _, rfl, .ty _, tyI, kit_ty kit_int_int, ?_⟩ | refine ⟨_, _, _, _, _, rfl, .ty _, tyI, kit_ty kit_int_bool, ?_⟩ | refine ⟨_, _, _, _, _, rfl, .ty _, tyS, kit_ty kit_str_str, ?_⟩ | refine ⟨_, _, _, _, _, rfl, .ty _, tyB, kit_ty kit_bool_bool, ?_⟩ | refine ⟨_, _, _, _, _, rfl, by assumption, by assumption, by assumption, rfl, ?_⟩))
local macro_rules | `(tactic| walk_at "o") => `(tactic| repeat (first | refine ⟨_, rfl, ?_⟩ | refine ⟨_, _, rfl, rfl, ?_⟩ | refine ⟨rfl, ?_⟩ | refine ⟨⟨_, rfl⟩, ?_⟩ | refine iteT ?_ | refine iteF ?_ | refine ⟨_, _, _, _, _, rfl, .ty _, tyI, kit_ty kit_int_int, ?_⟩ | refine ⟨_, _, _, _, _, rfl, .ty _, tyI, kit_ty kit_int_bool, ?_⟩ | refine ⟨_, _, _, _, _, rfl, .ty _, tyS, kit_ty kit_str_str, ?_⟩ | refine ⟨_, _, _, _, _, rfl, .ty _, tyB, kit_ty kit_bool_bool, ?_⟩ | refine ⟨_, _, _, _, _, rfl, by assumption, by assumption, by assumption, rfl, ?_⟩ | refine iteDF (by omega) ?_ | refine iteD (by omega) ?_ | refine ⟨_, _, _, rfl, by omega, by omega, ?_⟩ | refine And.intro (by omega) ?_))

open SX (S)
theorem RowsAt.grow {K : PySem.W.Frag} {A : Ad} {G H G' H' : Hp} {r dx : Addr} {rl : V} {rws : List (List (List Nat))} {p : Nat} (h : RowsAt K A G H r dx rl rws p) (g : Grow No G H G' H') : RowsAt K A G' H' r dx rl rws p :=
  ⟨g.fr _ _ h.hr h.gr, g.same _ _ h.hr, h.dp.mono g.gg⟩
theorem RowsAt.stepped {K : PySem.W.Frag} {A : Ad} {G H : Hp} {r dx : Addr} {rl : V} {rws : List (List (List Nat))} {p p' : Nat} (h : RowsAt K A G H r dx rl rws p) : RowsAt K A G (upd H r (.ins A.cRows dx (rowsF rl p'))) r dx rl rws p' :=
  ⟨h.gr, upd_same, h.dp⟩
theorem Same.tl {G H : Hp} {r : Addr} {o : HO} (s : Same G H) (h : G r = none) : Same G (upd H r o) := same_mut s h
theorem eqv_strs (a b : List Str) : PyData.eqv (.list (a.map .str)) (.list (b.map .str)) = decide (a = b) := by
  rw [PyData.eqv]
  induction a generalizing b with
  | nil =>
    cases b with
    | nil => rfl
    | cons y b => rw [List.map_nil, List.map_cons, PyData.eqvAll]; rfl
  | cons x a ih =>
    cases b with
    | nil => rw [List.map_nil, List.map_cons, PyData.eqvAll]; rfl
    | cons y b =>
      rw [List.map_cons, List.map_cons, PyData.eqvAll, ih, PyData.eqv]
      by_cases h1 : x = y <;> by_cases h2 : a = b <;> simp [h1, h2]
theorem shaped_strs {ws : List (List Nat)} (h : ∀ w ∈ ws, ∀ c ∈ w, c < 128) : SeqAt.shaped (.list ((ws.map S).map .str)) = true := by
  refine Ly.shaped (n := 1) (Ly.list fun d hd => ?_) (by decide)
  obtain ⟨s, hs, rfl⟩ := List.mem_map.mp hd
  obtain ⟨x, hx, rfl⟩ := List.mem_map.mp hs
  exact ly_str (h x hx)
theorem cut1 {α : Type} (x : List V) : cutV x none (some 1) = x.take 1 := by
  unfold cutV
  rw [HT.sIx_none, show HT.sIx x.length x.length (some 1) = min 1 x.length from HT.sIx_nat x.length x.length 1]
  cases x with
  | nil => rfl
  | cons a r => simp
inductive What where
  | met (m : Met)
  | key (k : Int)
def What.d : What → PyData
  | .met m => metD m
  | .key k => .int k
def What.c : What → List Nat
  | .met m => metC m
  | .key k => numC k
def What.w : What → List Nat
  | .met _ => [109, 101, 116, 114, 101]
  | .key _ => [107, 101, 121]
def What.sort : What → Nat
  | .met _ => 0
  | .key _ => 1
def What.ok : What → Prop
  | .met m => MetOk m
  | .key k => -7 ≤ k ∧ k ≤ 7
theorem dp_nonnull {K : PySem.W.Frag} {G : Hp} {v : V} {x : What} (h : Dp K G v x.d) : v ≠ .non := fun e => by
  subst e
  cases x with
  | met m => obtain ⟨a, _, e, _⟩ := dpT h; cases e
  | key k => cases dpI h
section
variable {P : Program} {w : World} {K : PySem.W.Frag} {mg : Str → Option Value} {base : Heap} {A : Ad}
def sp_key_of : Sp := fun vs H Q _ => ∃ k : Int, vs = [.str (S (numC k))] ∧ -7 ≤ k ∧ k ≤ 7 ∧ ∀ H', Same H H' → Q (.int k) H'
theorem at_key_of (T : Txt w K mg A) : C8.CalAt P w K mg base 4 A.fkey_of sp_key_of := by
  have d := T.d_key_of
  refine calAt_of d sc_key_of (fun vs H Q E h => ?_) (fun cdv A' outer s H vs Q E hr h => ?_)
  · obtain ⟨v, rfl, _⟩ := h; rfl
  · obtain ⟨k, rfl, h1, h2, q⟩ := h
    refine ⟨_, (pss_cons (ps_set (i := 1) sc_key_of.nd rfl (Or.inl rfl) (pe_c (ok_number_of T) hr (by decide) rfl (pa_cons (pv 0) pa_nil)))
    (pss_cons (ps_if (pt_val (pe_c (ok_is_key T) hr (by decide) rfl (pa_cons (pv 1) pa_nil))) (pss_one (ps_ret (pv 1))) pss_nil)
    (pss_one (ps_ret pe_non)))), ?_⟩
    walk_at "s"
    refine ⟨by omega, by omega, fun H1 s1 => ?_⟩
    walk_at "s"
    refine ⟨h1, h2, ?_⟩
    walk_at "s"
    exact q _ s1
theorem ok_key_of (T : Txt w K mg A) : Cal P w K mg base 4 "key_of" sp_key_of [] := cal_at T.d_key_of (at_key_of T)
def sp_told_by (P : Program) (w : World) (K : PySem.W.Frag) (mg : Str → Option Value) (base : Heap) (A : Ad) : Sp := fun vs H Q _ => ∃ (G : Hp) (r dx : Addr) (rl : V) (rws : List (List (List Nat))) (p : Nat) (wd ww : List Nat) (fa : Addr) (spg : Sp) (x : What),
  vs = [.ref r, .str (S wd), .ref fa] ∧ Same G H ∧ RowsAt K A G H r dx rl rws p ∧ rws[p]? = some [wd, ww] ∧ C8.CalAt P w K mg base 4 fa spg ∧
  (∀ G1 H1 Q1, Same G1 H1 → (∀ G2 H2 v, Grow No G1 H1 G2 H2 → Dp K G2 v x.d → Q1 v H2) → spg [.str (S ww)] H1 Q1 C8.E0) ∧
  ∀ G' H' v, Grow (At r) G H G' H' → RowsAt K A G' H' r dx rl rws (p + 1) → Dp K G' v x.d → Q v H'
theorem ok_told_by (T : Txt w K mg A) : Cal P w K mg base 5 "told_by" (sp_told_by P w K mg base A) [] := by
  obtain ⟨f, d⟩ := T.d_told_by
  refine cal_of d sc_told_by (fun vs H Q E h => ?_) (fun cdv A' outer s H vs Q E hr h => ?_)
  · obtain ⟨G, r, dx, rl, rws, p, wd, ww, fa, spg, x, rfl, _⟩ := h; rfl
  · obtain ⟨G, r, dx, rl, rws, p, wd, ww, fa, spg, x, rfl, sm, ra, hp, cal, hsp, q⟩ := h
    obtain ⟨fd_, ps_, F_, kp_, b_⟩ := cal.ex
    refine ⟨_, (pss_cons (ps_set (i := 3) sc_told_by.nd rfl (Or.inl rfl) (pe_mt0 (mt_Rows_next_words T) hr (by decide) (pv 0)))
    (pss_cons (ps_if (PW.pt (pw_or (pt_cmpR op_ne (pe_callB call_len_seq (by rfl) T.n_len boot_len_ (pa_cons (pv 3) pa_nil)) pe_int (nomark _)) (pw_or (pt_cmpR op_ne (pe_ix ix_list (pv 3) pe_int (fun _ _ => rfl)) (pv 1) (nomark _)) (pw_or1 (pt_cmpR op_isN (pe_callL (i := 2) (E := C8.E0) F_ (hr.mono (by decide)) rfl (Or.inl rfl) kp_ b_ .nil C8.pass0 (pa_cons (pe_ix ix_list (pv 3) pe_int (fun _ _ => rfl)) pa_nil)) pe_non (nomark _)))))) (pss_one ps_never) pss_nil)
    (pss_cons (ps_expr (pe_mt0 (mt_Rows_step T) hr (by decide) (pv 0)))
    (pss_one (ps_ret (pe_callL (i := 2) (E := C8.E0) F_ (hr.mono (by decide)) rfl (Or.inl rfl) kp_ b_ .nil C8.pass0 (pa_cons (pe_ix ix_list (pv 3) pe_int (fun _ _ => rfl)) pa_nil))))))), ?_⟩
    walk_at "s"
    refine ⟨r, dx, _, rfl, ra.hr, rfl, ?_⟩
    refine ⟨G, r, dx, rl, rws, p, _, rfl, sm, ra, hp, fun b hb => ?_⟩
    walk_at "s"
    refine ⟨_, _, rfl, .inl (sm.seq hb), ?_⟩
    walk_at "s"
    refine ⟨_, _, _, _, rfl, rfl, sm.seq hb, atI_0, ?_⟩
    walk_at "s"
    refine iteN rfl ?_
    walk_at "s"
    refine ⟨_, _, _, _, rfl, rfl, sm.seq hb, atI_1, ?_⟩
    refine hsp _ _ _ sm fun G1 H1 v g1 hv => ?_
    walk_at "s"
    refine iteDF (dp_nonnull hv) ?_
    have ra1 := ra.grow g1
    walk_at "s"
    refine ⟨r, dx, _, rfl, ra1.hr, rfl, ?_⟩
    refine ⟨r, dx, rl, p, rfl, ra1.hr, ?_⟩
    have ra2 := ra1.stepped (p' := p + 1)
    have g2 := (g1.no (M := At r)).put (o := .ins A.cRows dx (rowsF rl (p + 1))) ra1.gr (.inr rfl)
    walk_at "s"
    refine ⟨_, _, _, _, rfl, rfl, (g2.s0.seq hb), atI_1, ?_⟩
    refine hsp _ _ _ g2.gh fun G3 H3 v3 g3 hv3 => ?_
    exact q _ _ _ (g2.trA (g3.no (M := At r)) ⟨_, upd_same⟩) (ra2.grow g3) hv3
def sp_change_by (K : PySem.W.Frag) (A : Ad) : Sp := fun vs H Q _ => ∃ (G : Hp) (r dx : Addr) (rl : V) (rws : List (List (List Nat))) (p : Nat) (la : Addr) (lb ls : Nat) (bar : Nat) (x : What),
  vs = [.ref r, .ref la] ∧ Same G H ∧ RowsAt K A G H r dx rl rws p ∧ SqT K G la [.int lb, .int ls] ∧ rws[p]? = some [[97, 116], TL.numL bar, x.w, x.c] ∧ 2 ≤ bar ∧ bar ≤ 24 ∧ x.ok ∧ (lb < bar ∨ lb = bar ∧ ls < x.sort) ∧
  ∀ G' H' v, Grow (At r) G H G' H' → RowsAt K A G' H' r dx rl rws (p + 1) → Dp K G' v (.tuple [.int bar, .int x.sort, x.d]) → Q v H'
theorem lex_lt {lb ls bar sort : Nat} (h : lb < bar ∨ lb = bar ∧ ls < sort) : Ob.lexAt (fun j => decide (([(bar : Int), (sort : Int)] : List Int).getD j 0 = ([(lb : Int), (ls : Int)] : List Int).getD j 0)) (fun j => decide (([(bar : Int), (sort : Int)] : List Int).getD j 0 ≤ ([(lb : Int), (ls : Int)] : List Int).getD j 0)) (decide (2 ≤ 2)) 0 2 = false := by
  unfold Ob.lexAt
  show (if decide ((bar : Int) = (lb : Int)) = true then _ else decide ((bar : Int) ≤ (lb : Int))) = false
  rcases h with h | ⟨h1, h2⟩
  · rw [decide_eq_false (by omega), if_neg (by decide), decide_eq_false (by omega)]
  · rw [decide_eq_true (by omega), if_pos rfl]
    unfold Ob.lexAt
    show (if decide ((sort : Int) = (ls : Int)) = true then _ else decide ((sort : Int) ≤ (ls : Int))) = false
    rw [decide_eq_false (by omega), if_neg (by decide), decide_eq_false (by omega)]
theorem ok_change_by (T : Txt w K mg A) : Cal P w K mg base 5 "change_by" (sp_change_by K A) [] := by
  obtain ⟨f, d⟩ := T.d_change_by
  refine cal_of d sc_change_by (fun vs H Q E h => ?_) (fun cdv A' outer s H vs Q E hr h => ?_)
  · obtain ⟨G, r, dx, rl, rws, p, la, lb, ls, bar, x, rfl, _⟩ := h; rfl
  · obtain ⟨G, r, dx, rl, rws, p, la, lb, ls, bar, x, rfl, sm, ra, hla, hp, h2, h24, hx, hlt, q⟩ := h
    refine ⟨_, (pss_cons (ps_set (i := 2) sc_change_by.nd rfl (Or.inl rfl) (pe_mt0 (mt_Rows_next_words T) hr (by decide) (pv 0)))
    (pss_cons (ps_if (PW.pt (pw_or (pt_cmpR op_ne (pe_callB call_len_seq (by rfl) T.n_len boot_len_ (pa_cons (pv 2) pa_nil)) pe_int (nomark _)) (pw_or1 (pt_cmpR op_notIn_seq (pe_ix ix_list (pv 2) pe_int (fun _ _ => rfl)) (pe_tup (pa_cons pe_str (pa_cons pe_str pa_nil))) (by rfl))))) (pss_one ps_never) pss_nil)
    (pss_cons (ps_set (i := 3) sc_change_by.nd rfl (Or.inl rfl) (pe_c (ok_number_of T) hr (by decide) rfl (pa_cons (pe_ix ix_list (pv 2) pe_int (fun _ _ => rfl)) pa_nil)))
    (pss_cons (ps_set (i := 4) sc_change_by.nd rfl (Or.inl rfl) (pe_callTy call_int1 (by rfl) T.n_int boot_int_ (pa_cons (pe_cmpR op_eq (pe_ix ix_list (pv 2) pe_int (fun _ _ => rfl)) pe_str (nomark _)) pa_nil)))
    (pss_cons (ps_set (i := 5) sc_change_by.nd rfl (Or.inl rfl) (pe_ifExp (pt_cmpR op_eq (pv 4) pe_int (nomark _)) (pe_c (ok_key_of T) hr (by decide) rfl (pa_cons (pe_ix ix_list (pv 2) pe_int (fun _ _ => rfl)) pa_nil)) (pe_c (ok_metre_of T) hr (by decide) rfl (pa_cons (pe_ix ix_list (pv 2) pe_int (fun _ _ => rfl)) pa_nil))))
    (pss_cons (ps_if (PW.pt (pw_or (pt_not (pt_val (pe_c (ok_is_among T) hr (by decide) rfl (pa_cons (pv 3) (pa_cons pe_int (pa_cons (pe_gc rfl T.c_MOST_BARS) pa_nil)))))) (pw_or (pt_cmpR op_isN (pv 5) pe_non (nomark _)) (pw_or1 (pt_cmpR (op_leT hr.units0) (pe_tup (pa_cons (pv 3) (pa_cons (pv 4) pa_nil))) (pv 1) (nomark _)))))) (pss_one ps_never) pss_nil)
    (pss_cons (ps_expr (pe_mt0 (mt_Rows_step T) hr (by decide) (pv 0)))
    (pss_one (ps_ret (pe_tup (pa_cons (pv 3) (pa_cons (pv 4) (pa_cons (pv 5) pa_nil))))))))))))), ?_⟩
    walk_at "s"
    refine ⟨r, dx, _, rfl, ra.hr, rfl, ?_⟩
    refine ⟨G, r, dx, rl, rws, p, _, rfl, sm, ra, hp, fun b hb => ?_⟩
    walk_at "s"
    refine ⟨_, _, rfl, .inl (sm.seq hb), ?_⟩
    walk_at "s"
    refine ⟨_, _, _, _, rfl, rfl, sm.seq hb, atI_2, ?_⟩
    refine ⟨by show 2 ≤ sizeLine; decide, fun pt hpt => ?_⟩
    have st := same_new (o := .tup [.str (Str.ofString "metre"), .str (Str.ofString "key")]) hpt
    have hin : inV (.str (S x.w)) [.str (Str.ofString "metre"), .str (Str.ofString "key")] = true := by
      cases x with
      | met m => exact (by decide +kernel : inV (.str (S [109, 101, 116, 114, 101])) [.str (Str.ofString "metre"), .str (Str.ofString "key")] = true)
      | key k => exact (by decide +kernel : inV (.str (S [107, 101, 121])) [.str (Str.ofString "metre"), .str (Str.ofString "key")] = true)
    refine ⟨pt, _, rfl, .inr (sqtU upd_same), rfl, rfl, ?_⟩
    refine ⟨_, rfl, ?_⟩
    refine iteEF ?_ ?_
    · rw [if_pos rfl]
      show (!inV (.str (S x.w)) _) = false
      rw [hin] <;> rfl
    walk_at "s"
    have s1 := sm.trans st
    refine ⟨_, _, _, _, rfl, rfl, s1.seq hb, atI_1, ?_⟩
    walk_at "s"
    refine ⟨bar, by rw [numC_nat]; rfl, by omega, by omega, fun H1 t1 => ?_⟩
    have s2 := s1.trans t1
    have hH1 : Same H H1 := st.trans t1
    walk_at "s"
    refine ⟨_, _, _, _, rfl, rfl, s2.seq hb, atI_2, ?_⟩
    walk_at "s"
    have esort : (if decide (V.str (S x.w) = V.str (Str.ofString "key")) = true then (1 : Int) else 0) = (x.sort : Nat) := by
      cases x with
      | met m => exact (by decide +kernel : (if decide (V.str (S [109, 101, 116, 114, 101]) = V.str (Str.ofString "key")) = true then (1 : Int) else 0) = (0 : Nat))
      | key k => exact (by decide +kernel : (if decide (V.str (S [107, 101, 121]) = V.str (Str.ofString "key")) = true then (1 : Int) else 0) = (1 : Nat))
    refine .inr ⟨_, rfl, ?_⟩
    rw [esort]
    walk_at "s"
    cases x with
    | key k =>
      walk_at "s"
      refine ⟨_, _, _, _, rfl, rfl, s2.seq hb, atI_3, ?_⟩
      walk_at "s"
      refine ⟨hx.1, hx.2, fun H2 t2 => ?_⟩
      have s3 := s2.trans t2
      have hH2 := hH1.trans t2
      walk_at "s"
      refine ⟨bar, 2, 24, rfl, by omega, by omega, ?_⟩
      walk_at "s"
      refine ⟨by show 2 ≤ sizeLine; decide, fun pu hpu => ?_⟩
      have tu := same_new (o := .tup [.int bar, .int 1]) hpu
      have s4 := s3.trans tu
      walk_at "s"
      refine ⟨pu, la, [(bar : Int), 1], [(lb : Int), (ls : Int)], rfl, rfl, sqtU upd_same, sqT_mono s4 hla, ?_⟩
      refine ⟨_, rfl, iteEF (lex_lt (sort := 1) hlt) ?_⟩
      have g4 := Grow.of_same (M := No) sm (hH2.trans tu)
      have ra4 := ra.grow g4
      walk_at "s"
      refine ⟨r, dx, _, rfl, ra4.hr, rfl, ?_⟩
      refine ⟨r, dx, rl, p, rfl, ra4.hr, ?_⟩
      have g5 := (g4.no (M := At r)).put (o := .ins A.cRows dx (rowsF rl (p + 1))) ra4.gr (.inr rfl)
      have ra5 := ra4.stepped (p' := p + 1)
      walk_at "s"
      refine ⟨by show 3 ≤ sizeLine; decide, fun pz hpz => ?_⟩
      have nrz : r ≠ pz := ne_of_none upd_same hpz
      have g6 := g5.imm (o := .tup [.int bar, .int 1, .int k]) hpz fun o _ m => nrz m.symm
      refine q _ _ _ g6 ⟨by rw [upd_ne nrz]; exact ra5.gr, by rw [upd_ne nrz]; exact upd_same, ra5.dp.mono (same_new (g5.gh.free hpz))⟩ (.tupU upd_same (.cons (.int _) (.cons (.int _) (.cons (.int _) .nil))))
    | met m =>
      walk_at "s"
      refine ⟨_, _, _, _, rfl, rfl, s2.seq hb, atI_3, ?_⟩
      walk_at "s"
      refine ⟨G, m, rfl, s2, hx, fun G2 H2 v g2 hv => ?_⟩
      have g2' := (Grow.of_same (M := No) sm hH1).tr g2
      walk_at "s"
      refine ⟨bar, 2, 24, rfl, by omega, by omega, ?_⟩
      walk_at "s"
      refine iteDF (dp_nonnull (x := .met m) hv) ?_
      walk_at "s"
      refine ⟨by show 2 ≤ sizeLine; decide, fun pu hpu => ?_⟩
      have tu := same_new (o := .tup [.int bar, .int 0]) hpu
      have g4 := g2'.tr (Grow.of_same g2'.gh tu)
      walk_at "s"
      refine ⟨pu, la, [(bar : Int), 0], [(lb : Int), (ls : Int)], rfl, rfl, sqtU upd_same, sqT_mono g4.s0 hla, ?_⟩
      refine ⟨_, rfl, iteEF (lex_lt (sort := 0) hlt) ?_⟩
      have ra4 := ra.grow g4
      walk_at "s"
      refine ⟨r, dx, _, rfl, ra4.hr, rfl, ?_⟩
      refine ⟨r, dx, rl, p, rfl, ra4.hr, ?_⟩
      have g5 := (g4.no (M := At r)).put (o := .ins A.cRows dx (rowsF rl (p + 1))) ra4.gr (.inr rfl)
      have ra5 := ra4.stepped (p' := p + 1)
      walk_at "s"
      refine ⟨by show 3 ≤ sizeLine; decide, fun pz hpz => ?_⟩
      have nrz : r ≠ pz := ne_of_none upd_same hpz
      have g6 := g5.imm (o := .tup [.int bar, .int 0, v]) hpz fun o _ m => nrz m.symm
      have sz := same_new (o := .tup [.int bar, .int 0, v]) (g5.gh.free hpz)
      refine q _ _ _ g6 ⟨by rw [upd_ne nrz]; exact ra5.gr, by rw [upd_ne nrz]; exact upd_same, ra5.dp.mono sz⟩ (.tupU upd_same (.cons (.int _) (.cons (.int _) (.cons (hv.mono sz) .nil))))
end
end BW
set_option Elab.async false
set_option linter.all false
set_option maxRecDepth 100000
set_option maxHeartbeats 4000000
set_option pp.maxSteps 3000
namespace BW
open PySem PySem.Spec PyProof.Rows L2
open C8 (Cal Met Mak pe_c pe_mk pe_mt pe_mt0 pe_gc sl_txt fnBody fnScope fnArgs)
local macro_rules | `(tactic| walk_at "v") => `(tactic| refine ⟨_, rfl, ?_⟩)
local macro_rules | `(tactic| walk_at "i2") => `(tactic| refine ⟨_, _, rfl, rfl, ?_⟩)
local macro_rules | `(tactic| walk_at "k") => `(tactic| exact (by decide +kernel))
local macro_rules | `(tactic| walk_at "s") => `(tactic| repeat (first | refine ⟨_, rfl, ?_⟩ | refine ⟨_, _, rfl, rfl, ?_⟩ | refine ⟨rfl, ?_⟩ | refine ⟨⟨_, rfl⟩, ?_⟩ | refine iteT ?_ | refine iteF ?_ | refine ⟨_, _, _, _, _, rfl, .ty _, tyI, kit_ty kit_int_int, ?_⟩ | refine ⟨_, _, _, _, _, rfl, .ty _, tyI, kit_ty kit_int_bool, ?_⟩ | refine ⟨_, _, _, _, _, rfl, .ty _, tyS, kit_ty kit_str_str, ?_⟩ | refine ⟨_, _, _, _, _, rfl, .ty _, tyB, kit_ty kit_bool_bool, ?_⟩ | refine ⟨_, _, _, _, _, rfl, by assumption, by assumption, by assumption, rfl, ?_⟩))
local macro_rules | `(tactic| walk_at "o") => `(tactic| repeat (first | refine ⟨_, rfl, ?_⟩ | refine ⟨_, _, rfl, rfl, ?_⟩ | refine ⟨rfl, ?_⟩ | refine ⟨⟨_, rfl⟩, ?_⟩ | refine iteT ?_ | refine iteF ?_ | refine ⟨_, _, _, _, _, rfl, .ty _, tyI, kit_ty kit_int_int, ?_⟩ | refine ⟨_, _, _, _, _, rfl, .ty _, tyI, kit_ty kit_int_bool, ?_⟩ | refine ⟨_, _, _, _, _, rfl, .ty _, tyS, kit_ty kit_str_str, ?_⟩ | refine ⟨_, _, _, _, _, rfl, .ty _, tyB, kit_ty kit_bool_bool, ?_⟩ | refine ⟨_, _, _, _, _, rfl, by assumption, by assumption, by assumption, rfl, ?_⟩ | refine iteDF (by omega) ?_ | refine iteD (by omega) ?_ | refine ⟨_, _, _, rfl, by omega, by omega, ?_⟩ | refine And.intro (by omega) ?_))

open SX (S)
theorem upd_self {H : Hp} {l : Addr} {o : HO} (h : H l = some o) : upd H l o = H := by
  funext b
  by_cases hb : b = l
  · subst hb
    rw [upd_same, h]
  · rw [upd_ne hb]
theorem seq0 {n : Nat} : seqIndex? 0 (n + 1) = some 0 := by
  unfold seqIndex?
  simp
theorem popIf {K : PySem.W.Frag} {j : Nat} {o : Bool} {l : Addr} {WS WS' : List (List Nat)} {D : Ends} {σ : L2.St} {H : Hp} (h2 : σ[j]? = some (some (.ref l))) (hl : H l = some (.lst ((WS.map S).map V.str)))
    (ho : o = true → ∃ x, WS = x :: WS') (hn : o = false → WS = WS') (q : D.nx σ (upd H l (.lst ((WS'.map S).map V.str)))) :
    if o = true then tDrop (tBM K "list" rPopAt (tVar j) (tCons (tC (.int 0)) tNil)) D σ H else tNext D σ H := by
  cases o with
  | true =>
    obtain ⟨x, rfl⟩ := ho rfl
    refine iteT ?_
    refine ⟨_, h2, .inl ⟨rfl, _, sqlU hl⟩, ?_⟩
    exact ⟨l, _, 0, 0, _, rfl, rfl, hl, by decide, by decide, seq0, rfl, q⟩
  | false =>
    cases hn rfl
    refine iteF ?_
    rw [upd_self hl] at q
    exact q
def tlW (wd : List Nat) : List (List Nat) := if wd = [] then [] else [wd]
def cW (c : Bool) (wd : List Nat) : List (List Nat) := if c = true then [41] :: tlW wd else tlW wd
def sigW (o c : Bool) (wd : List Nat) : List (List Nat) := if o = true then [40] :: cW c wd else cW c wd
theorem syll_no {wd : List Nat} (h : wd = [] ∨ SyllOk wd) {z : Nat} (hz : z = 40 ∨ z = 41) : wd ≠ [z] := fun e => by
  rcases h with rfl | h
  · cases e
  · subst e
    have := h.2.2 z List.mem_cons_self
    rcases hz with rfl | rfl <;> exact absurd this (by decide +kernel)
theorem tl_no {wd : List Nat} (h : wd = [] ∨ SyllOk wd) {z : Nat} (hz : z = 40 ∨ z = 41) : (tlW wd).take 1 ≠ [[z]] := fun e => by
  unfold tlW at e
  split at e
  · cases e
  · injection e with e
    exact syll_no h hz e
theorem c_dec {wd : List Nat} (h : wd = [] ∨ SyllOk wd) (c : Bool) : decide (((cW c wd).take 1).map S = [S [41]]) = c := by
  cases c with
  | true => exact decide_eq_true rfl
  | false => exact decide_eq_false fun e => tl_no h (.inr rfl) (by
      have : ((tlW wd).take 1).map S = [[41]].map S := e
      exact (List.map_inj_right fun _ _ h => SX.S_inj h).mp this)
theorem o_dec {wd : List Nat} (h : wd = [] ∨ SyllOk wd) (o c : Bool) : decide (((sigW o c wd).take 1).map S = [S [40]]) = o := by
  cases o with
  | true => exact decide_eq_true rfl
  | false =>
    exact decide_eq_false fun e => by
      have e2 : ((cW c wd).take 1).map S = [[40]].map S := e
      have e3 := (List.map_inj_right fun _ _ h => SX.S_inj h).mp e2
      cases c with
      | true => cases e3
      | false => exact tl_no h (.inl rfl) e3
theorem syll_128 {wd : List Nat} (h : SyllOk wd) : ∀ c ∈ wd, c < 128 := fun c hc => by
  have := h.2.2 c hc
  have k : ∀ c ∈ (Str.ofString "abcdefghijklmnopqrstuvwxyzABCDEFGHIJKLMNOPQRSTUVWXYZ-").cps.toList, c < 128 := by decide +kernel
  exact k c this
theorem tl_128 {wd : List Nat} (h : wd = [] ∨ SyllOk wd) : ∀ w ∈ tlW wd, ∀ c ∈ w, c < 128 := fun w hw c hc => by
  unfold tlW at hw
  split at hw
  · cases hw
  · rename_i hne
    rw [List.mem_singleton.mp hw] at hc
    rcases h with rfl | h
    · exact absurd rfl hne
    · exact syll_128 h c hc
theorem c_128 {wd : List Nat} (h : wd = [] ∨ SyllOk wd) (c : Bool) : ∀ w ∈ cW c wd, ∀ x ∈ w, x < 128 := fun w hw x hx => by
  cases c with
  | true =>
    rcases List.mem_cons.mp hw with rfl | hw
    · rw [List.mem_singleton.mp hx]; decide
    · exact tl_128 h w hw x hx
  | false => exact tl_128 h w hw x hx
theorem sig_128 {wd : List Nat} (h : wd = [] ∨ SyllOk wd) (o c : Bool) : ∀ w ∈ sigW o c wd, ∀ x ∈ w, x < 128 := fun w hw x hx => by
  cases o with
  | true =>
    rcases List.mem_cons.mp hw with rfl | hw
    · rw [List.mem_singleton.mp hx]; decide
    · exact c_128 h c w hw x hx
  | false => exact c_128 h c w hw x hx
theorem cutS (ws : List (List Nat)) : cutV ((ws.map S).map V.str) none (some 1) = ((ws.take 1).map S).map V.str := by
  rw [cut1 (α := Nat), List.map_take, List.map_take]
section
variable {P : Program} {w : World} {K : PySem.W.Frag} {mg : Str → Option Value} {base : Heap} {A : Ad}
def sp_signs_by (K : PySem.W.Frag) : Sp := fun vs H Q _ => ∃ (vr : V) (b : Addr) (wd : List Nat) (o c : Bool), vs = [vr, .ref b] ∧ SqL K H b (((sigW o c wd).map S).map V.str) ∧ (wd = [] ∨ SyllOk wd) ∧
  ∀ H' p, Same H H' → H p = none → H' p = some (.tup [.str (S wd), .bl o, .bl c]) → Q (.ref p) H'
theorem ok_signs_by (T : Txt w K mg A) : Cal P w K mg base 3 "signs_by" (sp_signs_by K) [] := by
  obtain ⟨f, d⟩ := T.d_signs_by
  refine cal_of d sc_signs_by (fun vs H Q E h => ?_) (fun cdv A' outer s H vs Q E hr h => ?_)
  · obtain ⟨vr, b, wd, o, c, rfl, _⟩ := h; rfl
  · obtain ⟨vr, b, wd, o, c, rfl, hb, hw, q⟩ := h
    refine ⟨_, (pss_cons (ps_set (i := 2) sc_signs_by.nd rfl (Or.inl rfl) (pe_callTy call_list_of (by rfl) T.n_list boot_list_ (pa_cons (pv 1) pa_nil)))
    (pss_cons (ps_set (i := 3) sc_signs_by.nd rfl (Or.inl rfl) (pe_cmpR (op_eqD hr.units) (pe_slice sl_list (pv 2) po_none (po_some pe_int)) (pe_lst (pa_cons pe_str pa_nil)) (nomark _)))
    (pss_cons (ps_if (pt_val (pv 3)) (pss_one (ps_expr (pe_bm PySem.F.plainAttrs_list PySem.F.slot_list_pop PySem.F.type_list_pop mt_popAt (pv 2) (pa_cons pe_int pa_nil)))) pss_nil)
    (pss_cons (ps_set (i := 4) sc_signs_by.nd rfl (Or.inl rfl) (pe_cmpR (op_eqD hr.units) (pe_slice sl_list (pv 2) po_none (po_some pe_int)) (pe_lst (pa_cons pe_str pa_nil)) (nomark _)))
    (pss_cons (ps_if (pt_val (pv 4)) (pss_one (ps_expr (pe_bm PySem.F.plainAttrs_list PySem.F.slot_list_pop PySem.F.type_list_pop mt_popAt (pv 2) (pa_cons pe_int pa_nil)))) pss_nil)
    (pss_cons (ps_set (i := 5) sc_signs_by.nd rfl (Or.inl rfl) (pe_join pe_str (pe_slice sl_list (pv 2) po_none (po_some pe_int))))
    (pss_cons (ps_if (PW.pt (pw_or (pt_cmpR op_gt (pe_callB call_len_seq (by rfl) T.n_len boot_len_ (pa_cons (pv 2) pa_nil)) pe_int (nomark _)) (pw_or1 (PW.pt (pw_and (pt_cmpR (op_neD hr.units) (pv 2) (pe_lst pa_nil) (nomark _)) (pw_and1 (pt_not (pt_val (pe_c (ok_is_syllable T) hr (by decide) rfl (pa_cons (pv 5) pa_nil)))))))))) (pss_one ps_never) pss_nil)
    (pss_one (ps_ret (pe_tup (pa_cons (pv 5) (pa_cons (pv 3) (pa_cons (pv 4) pa_nil))))))))))))), ?_⟩
    walk_at "s"
    refine ⟨_, _, rfl, .inl hb, fun l hl => ?_⟩
    have g1 : Grow No H H H (upd H l (.lst (((sigW o c wd).map S).map V.str))) := (Grow.refl (Same.refl H)).put hl (.inl hl)
    have k1 : (upd H l (.lst (((sigW o c wd).map S).map V.str))) l = some (.lst (((sigW o c wd).map S).map V.str)) := upd_same
    walk_at "s"
    refine ⟨l, _, rfl, sqlU k1, fun p1 hp1 => ?_⟩
    rw [cutS]
    have u1 := same_new (o := .lst ((((sigW o c wd).take 1).map S).map V.str)) hp1
    walk_at "s"
    refine ⟨by show 1 ≤ sizeLine; decide, fun p2 hp2 => ?_⟩
    have u2 := same_new (o := .lst [.str (Str.ofString "(")]) hp2
    refine ⟨.list ((((sigW o c wd).take 1).map S).map .str), .list ([S [40]].map .str), .lstU (u2 _ _ upd_same) .ofStrs, .lstU upd_same (.cons (.str _) .nil), shaped_strs (fun x hx => sig_128 hw o c x (List.mem_of_mem_take hx)), shaped_strs (ws := [[40]]) (by decide), ?_⟩
    rw [eqv_strs, o_dec hw]
    have g2 := g1.tr (Grow.of_same g1.gh (u1.trans u2))
    have k2 := (u1.trans u2) _ _ k1
    walk_at "s"
    refine popIf (o := o) (j := 2) ?_ k2 (WS' := cW c wd) (fun e => ⟨[40], by rw [e]; rfl⟩) (fun e => by rw [e]; rfl) ?_
    · rfl
    have g3 := g2.put (o := .lst (((cW c wd).map S).map V.str)) hl (.inl hl)
    generalize e3 : upd (upd (upd _ p1 _) p2 _) l (.lst (((cW c wd).map S).map V.str)) = H3 at g3 ⊢
    have k3 : H3 l = some (.lst (((cW c wd).map S).map V.str)) := by rw [← e3]; exact upd_same
    walk_at "s"
    refine ⟨l, _, rfl, sqlU k3, fun p3 hp3 => ?_⟩
    rw [cutS]
    have u3 := same_new (o := .lst ((((cW c wd).take 1).map S).map V.str)) hp3
    walk_at "s"
    refine ⟨by show 1 ≤ sizeLine; decide, fun p4 hp4 => ?_⟩
    have u4 := same_new (o := .lst [.str (Str.ofString ")")]) hp4
    refine ⟨.list ((((cW c wd).take 1).map S).map .str), .list ([S [41]].map .str), .lstU (u4 _ _ upd_same) .ofStrs, .lstU upd_same (.cons (.str _) .nil), shaped_strs (fun x hx => c_128 hw c x (List.mem_of_mem_take hx)), shaped_strs (ws := [[41]]) (by decide), ?_⟩
    rw [eqv_strs, c_dec hw]
    have g4 := g3.tr (Grow.of_same g3.gh (u3.trans u4))
    have k4 := (u3.trans u4) _ _ k3
    walk_at "s"
    refine popIf (o := c) (j := 2) ?_ k4 (WS' := tlW wd) (fun e => ⟨[41], by rw [e]; rfl⟩) (fun e => by rw [e]; rfl) ?_
    · rfl
    have g5 := g4.put (o := .lst (((tlW wd).map S).map V.str)) hl (.inl hl)
    generalize e5 : upd (upd (upd H3 p3 _) p4 _) l (.lst (((tlW wd).map S).map V.str)) = H5 at g5 ⊢
    have k5 : H5 l = some (.lst (((tlW wd).map S).map V.str)) := by rw [← e5]; exact upd_same
    walk_at "s"
    refine ⟨l, _, rfl, sqlU k5, fun p6 hp6 => ?_⟩
    have u6 := same_new (o := .lst (cutV (((tlW wd).map S).map V.str) none (some 1))) hp6
    have g6 := g5.tr (Grow.of_same g5.gh u6)
    have k6 := u6 _ _ k5
    have hwl : wd.length ≤ 12 := by
      rcases hw with rfl | h
      · exact Nat.zero_le _
      · exact h.2.1
    refine ⟨_, p6, (tlW wd).map S, rfl, rfl, .inl (sqlU (by rw [upd_same, cutS, List.take_of_length_le (by unfold tlW; split <;> simp)])), ?_, ?_⟩
    · unfold tlW
      have e0 : (Str.ofString "").length = 0 := by decide +kernel
      split <;> simp [S_len', e0]
      omega
    rw [lit_ "" [] (by decide +kernel), SX.join_S, show TL.joinL [] (tlW wd) = wd by
      unfold tlW
      split
      · rename_i h; rw [h]; rfl
      · rfl]
    generalize e6 : upd H5 p6 _ = H6 at g6 k6 ⊢
    walk_at "s"
    refine ⟨_, _, rfl, .inl (sqlU k6), ?_⟩
    by_cases hn : wd = []
    · have et : tlW wd = [] := by unfold tlW; rw [if_pos hn]
      rw [et] at k6 ⊢
      walk_at "s"
      refine ⟨Nat.zero_le _, fun p7 hp7 => ?_⟩
      have u7 := same_new (o := .lst []) hp7
      refine ⟨.list (([] : List Str).map .str), .list (([] : List Str).map .str), .lstU (u7 _ _ k6) .nil, .lstU upd_same .nil, rfl, rfl, ?_⟩
      rw [eqv_strs]
      walk_at "s"
      refine ⟨by show 3 ≤ sizeLine; decide, fun p8 hp8 => ?_⟩
      have g8 := g6.tr (Grow.of_same g6.gh u7)
      exact q _ _ (g8.same.trans (same_new hp8)) (g8.free0 hp8) upd_same
    · have et : tlW wd = [wd] := by unfold tlW; rw [if_neg hn]
      have hsy : SyllOk wd := hw.resolve_left hn
      rw [et] at k6 ⊢
      walk_at "s"
      refine ⟨Nat.zero_le _, fun p7 hp7 => ?_⟩
      have u7 := same_new (o := .lst []) hp7
      refine ⟨.list ([S wd].map .str), .list (([] : List Str).map .str), .lstU (u7 _ _ k6) (.cons (.str _) .nil), .lstU upd_same .nil, shaped_strs (ws := [wd]) (fun x hx => by rw [List.mem_singleton.mp hx]; exact syll_128 hsy), rfl, ?_⟩
      rw [eqv_strs]
      walk_at "s"
      refine ⟨hsy, fun H8 s8 => ?_⟩
      walk_at "s"
      refine ⟨by show 3 ≤ sizeLine; decide, fun p8 hp8 => ?_⟩
      have g8 := g6.tr (Grow.of_same g6.gh (u7.trans s8))
      exact q _ _ (g8.same.trans (same_new hp8)) (g8.free0 hp8) upd_same
end
end BW
set_option Elab.async false
set_option linter.all false
set_option maxRecDepth 100000
set_option maxHeartbeats 4000000
set_option pp.maxSteps 3000
namespace BW
open PySem PySem.Spec PyProof.Rows L2
open C8 (Cal Met Mak pe_c pe_mk pe_mt pe_mt0 pe_gc sl_txt fnBody fnScope fnArgs)
local macro_rules | `(tactic| walk_at "v") => `(tactic| refine ⟨_, rfl, ?_⟩)
local macro_rules | `(tactic| walk_at "i2") => `(tactic| refine ⟨_, _, rfl, rfl, ?_⟩)
local macro_rules | `(tactic| walk_at "k") => `(tactic| exact (by decide +kernel))
local macro_rules | `(tactic| walk_at "s") => `(tactic| repeat (first | refine ⟨_, rfl, ?_⟩ | refine ⟨_, _, rfl, rfl, ?_⟩ | refine ⟨rfl, ?_⟩ | refine ⟨⟨_, rfl⟩, ?_⟩ | refine iteT ?_ | refine iteF ?_ | refine ⟨_, _, _, _, _, rfl, .ty _, tyI, kit_ty kit_int_int, ?_⟩ | refine ⟨_, _, _, _, _, rfl, .ty _, tyI, kit_ty kit_int_bool, ?_⟩ | refine ⟨_, _, _, _, _, rfl, .ty _, tyS, kit_ty kit_str_str, ?_⟩ | refine ⟨_, _, _, _, _, rfl, .ty _, tyB, kit_ty kit_bool_bool, ?_⟩ | refine ⟨_, _, _, _, _, rfl, by assumption, by assumption, by assumption, rfl, ?_⟩))
local macro_rules | `(tactic| walk_at "o") => `(tactic| repeat (first | refine ⟨_, rfl, ?_⟩ | refine ⟨_, _, rfl, rfl, ?_⟩ | refine ⟨rfl, ?_⟩ | refine ⟨⟨_, rfl⟩, ?_⟩ | refine iteT ?_ | refine iteF ?_ | refine ⟨_, _, _, _, _, rfl, .ty _, tyI, kit_ty kit_int_int, ?_⟩ | refine ⟨_, _, _, _, _, rfl, .ty _, tyI, kit_ty kit_int_bool, ?_⟩ | refine ⟨_, _, _, _, _, rfl, .ty _, tyS, kit_ty kit_str_str, ?_⟩ | refine ⟨_, _, _, _, _, rfl, .ty _, tyB, kit_ty kit_bool_bool, ?_⟩ | refine ⟨_, _, _, _, _, rfl, by assumption, by assumption, by assumption, rfl, ?_⟩ | refine iteDF (by omega) ?_ | refine iteD (by omega) ?_ | refine ⟨_, _, _, rfl, by omega, by omega, ?_⟩ | refine And.intro (by omega) ?_))

open SX (S)
def SndW : Snd → List (List Nat) → Prop
  | .rest n, ws => ∃ a, AmtW a n ∧ ws = [[114], a]
  | .tones ps n wd o c, ws => ∃ a, AmtW a n ∧ ps ≠ [] ∧ ps.length ≤ 4 ∧ (∀ p ∈ ps, PitOk p) ∧ (wd = [] ∨ SyllOk wd) ∧ ws = TL.joinL [44] (ps.map pitC) :: a :: sigW o c wd
theorem pit_free {p : Pit} (h : PitOk p) : 44 ∉ pitC p := by
  obtain ⟨h0, h1, h2, h3, h4, h5⟩ := h
  unfold pitC
  rcases step7 h0 h1 with e | e | e | e | e | e | e <;> rcases lean5 h2 h3 with f | f | f | f | f <;> rcases oct9 h4 h5 with g | g | g | g | g | g | g | g | g <;> rw [e, f, g] <;> decide
theorem pit_head {p : Pit} : ∃ c r, pitC p = c :: r ∧ 97 ≤ c ∧ c ≤ 103 ∧ r ≠ [] := by
  refine ⟨stepC p.step, _, rfl, ?_, ?_, by simp⟩
  · unfold stepC; repeat (split; decide)
    decide
  · unfold stepC; repeat (split; decide)
    decide
theorem pits_head {ps : List Pit} (h : ps ≠ []) : ∃ c r, TL.joinL [44] (ps.map pitC) = c :: r ∧ 97 ≤ c ∧ c ≤ 103 ∧ r ≠ [] := by
  cases ps with
  | nil => exact absurd rfl h
  | cons p ps =>
    obtain ⟨c, r, e, h1, h2, h3⟩ := pit_head (p := p)
    cases ps with
    | nil => exact ⟨c, r, by rw [← e]; rfl, h1, h2, h3⟩
    | cons q qs => exact ⟨c, r ++ _, by
        show pitC p ++ _ = _
        rw [e]
        rfl, h1, h2, by intro z; exact h3 (List.append_eq_nil_iff.mp z).1⟩
theorem sndW_head {s : Snd} {ws : List (List Nat)} (h : SndW s ws) : ∃ c r t, ws = (c :: r) :: t ∧ c ≠ 118 ∧ (s.isRest = true ↔ c :: r = [114]) := by
  cases s with
  | rest n =>
    obtain ⟨a, _, rfl⟩ := h
    exact ⟨114, [], _, rfl, by decide, ⟨fun _ => rfl, fun _ => rfl⟩⟩
  | tones ps n wd o c =>
    obtain ⟨a, _, hne, _, _, _, rfl⟩ := h
    obtain ⟨z, r, e, h1, h2, h3⟩ := pits_head hne
    exact ⟨z, r, _, by rw [e], by omega, ⟨fun q => (by cases q), fun q => absurd (List.cons.inj q).2 h3⟩⟩
theorem any_none (ps : List Pit) : ((ps.map pitD).any fun z => PyData.eqv z .none) = false := by
  rw [List.any_eq_false]
  intro z hz
  obtain ⟨p, _, rfl⟩ := List.mem_map.mp hz
  unfold pitD
  simp [PyData.eqv]
theorem ly_pit {p : Pit} : Ly 1 (pitD p) := .tuple (lyc .int (lyc .int (ly1 .int)))
section
variable {P : Program} {w : World} {K : PySem.W.Frag} {mg : Str → Option Value} {base : Heap} {A : Ad}
def sp_sound_by (K : PySem.W.Frag) (A : Ad) : Sp := fun vs H Q _ => ∃ (G : Hp) (r dx : Addr) (rl : V) (rws : List (List (List Nat))) (p : Nat) (s : Snd) (ws : List (List Nat)), vs = [.ref r] ∧ Same G H ∧ RowsAt K A G H r dx rl rws p ∧ rws[p]? = some ws ∧ SndW s ws ∧
  ∀ G' H' v, Grow (At r) G H G' H' → RowsAt K A G' H' r dx rl rws (p + 1) → Dp K G' v (sndD s) → Q v H'
theorem ok_sound_by (T : Txt w K mg A) : Cal P w K mg base 4 "sound_by" (sp_sound_by K A) [] := by
  obtain ⟨f, d⟩ := T.d_sound_by
  refine cal_of d sc_sound_by (fun vs H Q E h => ?_) (fun cdv A' outer s H vs Q E hr h => ?_)
  · obtain ⟨G, r, dx, rl, rws, p, s, ws, rfl, _⟩ := h; rfl
  · obtain ⟨G, r, dx, rl, rws, p, x, ws, rfl, sm, ra, hp, hw, q⟩ := h
    refine ⟨_, (pss_cons (ps_set (i := 1) sc_sound_by.nd rfl (Or.inl rfl) (pe_mt0 (mt_Rows_next_words T) hr (by decide) (pv 0)))
    (pss_cons (ps_if (PW.pt (pw_or (pt_cmpR op_lt (pe_callB call_len_seq (by rfl) T.n_len boot_len_ (pa_cons (pv 1) pa_nil)) pe_int (nomark _)) (pw_or1 (pt_cmpR op_isN (pe_c (ok_grains_of T) hr (by decide) rfl (pa_cons (pe_ix ix_list (pv 1) pe_int (fun _ _ => rfl)) pa_nil)) pe_non (nomark _))))) (pss_one ps_never) pss_nil)
    (pss_cons (ps_set (i := 2) sc_sound_by.nd rfl (Or.inl rfl) (pe_c (ok_grains_of T) hr (by decide) rfl (pa_cons (pe_ix ix_list (pv 1) pe_int (fun _ _ => rfl)) pa_nil)))
    (pss_cons (ps_set (i := 3) sc_sound_by.nd rfl (Or.inl rfl) (pe_tup (pa_cons pe_str (pa_cons (pv 2) pa_nil))))
    (pss_cons (ps_if (pt_cmpR op_eq (pe_ix ix_list (pv 1) pe_int (fun _ _ => rfl)) pe_str (nomark _)) (pss_one (ps_if (pt_cmpR op_gt (pe_callB call_len_seq (by rfl) T.n_len boot_len_ (pa_cons (pv 1) pa_nil)) pe_int (nomark _)) (pss_one ps_never) pss_nil)) (pss_cons (ps_setLc (i := 4) (own := [("one", 5)]) (g := (gName 5)) (tt := tYes) (by rfl) sc_sound_by.nd rfl rfl (sw_true rfl rfl rfl (by decide +kernel)) (pi_list (pe_split (pe_ix ix_list (pv 1) pe_int (fun _ _ => rfl)) pe_str)) (blkOk_by (N := N_sound_by) (sc := (defScope s_sound_by)) (by decide +kernel)) (fun _ _ _ _ _ => (pg_name (i := 5) sc_sound_by.nd rfl (Or.inl rfl))) (fun _ _ _ _ _ => pts_nil) (fun _ _ _ _ _ => (pe_c (ok_pitch_of T) hr (by decide) rfl (pa_cons (pv 5) pa_nil))))
      (pss_cons (ps_if (pt_cmpR (op_inD (units65 hr)) pe_non (pv 4) rfl) (pss_one ps_never) pss_nil)
      (pss_one (ps_set (i := 3) sc_sound_by.nd rfl (Or.inl rfl) (pe_op op_catA (pe_tup (pa_cons pe_str (pa_cons (pv 4) (pa_cons (pv 2) pa_nil)))) (pe_c (ok_signs_by T) hr (by decide) rfl (pa_cons (pv 0) (pa_cons (pe_slice sl_list (pv 1) (po_some pe_int) po_none) pa_nil)))))))))
    (pss_cons (ps_expr (pe_mt0 (mt_Rows_step T) hr (by decide) (pv 0)))
    (pss_one (ps_ret (pv 3))))))))), ?_⟩
    walk_at "s"
    refine ⟨r, dx, _, rfl, ra.hr, rfl, ?_⟩
    refine ⟨G, r, dx, rl, rws, p, _, rfl, sm, ra, hp, fun b hb => ?_⟩
    cases x with
    | rest n =>
      obtain ⟨aw, ha, rfl⟩ := hw
      walk_at "s"
      refine ⟨_, _, rfl, .inl (sm.seq hb), ?_⟩
      walk_at "s"
      refine ⟨_, _, _, _, rfl, rfl, sm.seq hb, atI_1, ?_⟩
      refine ⟨aw, n, rfl, ha, fun H1 s1 => ?_⟩
      have t1 := sm.trans s1
      walk_at "s"
      refine ⟨_, _, _, _, rfl, rfl, t1.seq hb, atI_1, ?_⟩
      refine ⟨aw, n, rfl, ha, fun H2 s2 => ?_⟩
      have t2 := t1.trans s2
      walk_at "s"
      refine ⟨by show 2 ≤ sizeLine; decide, fun pt hpt => ?_⟩
      have g1 : Grow No G H G H2 := Grow.of_same sm (s1.trans s2)
      have g2 := g1.immN (o := .tup [.str (Str.ofString "rest"), .int n]) hpt
      have dpt : Dp K (upd G pt (.tup [.str (Str.ofString "rest"), .int n])) (.ref pt) (sndD (.rest n)) := .tupU upd_same (.cons (.str _) (.cons (.int _) .nil))
      generalize upd G pt _ = G2 at g2 dpt
      generalize upd H2 pt _ = H3 at g2 ⊢
      have ra2 := ra.grow g2
      walk_at "s"
      refine ⟨_, _, _, _, rfl, rfl, g2.s0.seq hb, atI_0, ?_⟩
      walk_at "s"
      refine ⟨_, _, rfl, .inl (g2.s0.seq hb), ?_⟩
      walk_at "s"
      refine ⟨r, dx, _, rfl, ra2.hr, rfl, ?_⟩
      refine ⟨r, dx, rl, p, rfl, ra2.hr, ?_⟩
      walk_at "s"
      exact q _ _ _ ((g2.no (M := At r)).put ra2.gr (.inr rfl)) ra2.stepped dpt
    | tones ps n wd o c =>
      obtain ⟨aw, ha, hne, hl4, hpok, hwd, rfl⟩ := hw
      obtain ⟨c0, r0, e0, _, _, n0⟩ := pits_head hne
      have n114 : TL.joinL [44] (ps.map pitC) ≠ [114] := fun z => by
        rw [e0] at z
        exact n0 (List.cons.inj z).2
      walk_at "s"
      refine ⟨_, _, rfl, .inl (sm.seq hb), ?_⟩
      have elen : (((TL.joinL [44] (ps.map pitC) :: aw :: sigW o c wd).map S).map V.str).length = (sigW o c wd).length + 2 := by simp
      rw [elen]
      walk_at "s"
      walk_at "s"
      refine ⟨_, _, _, _, rfl, rfl, sm.seq hb, atI_1, ?_⟩
      refine ⟨aw, n, rfl, ha, fun H1 s1 => ?_⟩
      have t1 := sm.trans s1
      walk_at "s"
      refine ⟨_, _, _, _, rfl, rfl, t1.seq hb, atI_1, ?_⟩
      refine ⟨aw, n, rfl, ha, fun H2 s2 => ?_⟩
      have t2 := t1.trans s2
      walk_at "s"
      refine ⟨by show 2 ≤ sizeLine; decide, fun pt hpt => ?_⟩
      have t3 := t2.trans (same_new (o := .tup [.str (Str.ofString "rest"), .int n]) hpt)
      have g1 : Grow No G H G (upd H2 pt (.tup [.str (Str.ofString "rest"), .int n])) := Grow.of_same sm ((s1.trans s2).trans (same_new hpt))
      generalize upd H2 pt _ = H3 at g1 t3 ⊢
      walk_at "s"
      refine ⟨_, _, _, _, rfl, rfl, t3.seq hb, atI_0, ?_⟩
      walk_at "s"
      refine iteDF (fun z => by
        injection z with z
        rw [lit_ "r" [114] (by decide +kernel)] at z
        exact n114 (SX.S_inj z)) ?_
      walk_at "s"
      refine ⟨_, _, _, _, rfl, rfl, t3.seq hb, atI_0, ?_⟩
      have hpl : ∀ p, PitOk p → (pitC p).length ≤ 4 := fun p hp => by
        rw [pitC_len]
        have := leanC_len (l := p.lean)
        omega
      have hjl : (TL.joinL [44] (ps.map pitC)).length ≤ 100 := by
        have := joinL_len (s := [44]) (B := 4) (l := ps.map pitC) fun x hx => by
          obtain ⟨p, hp, rfl⟩ := List.mem_map.mp hx
          exact hpl p (hpok p hp)
        rw [List.length_map] at this
        simp only [List.length_singleton] at this
        omega
      walk_at "s"
      refine ⟨sz (by rw [S_len']; omega), fun pl hpl2 => ?_⟩
      rw [lit_ "," [44] (by decide +kernel), split_join 44 (by decide) (fun z => hne (List.map_eq_nil_iff.mp z)) (fun x hx => by
        obtain ⟨p, hp, rfl⟩ := List.mem_map.mp hx
        exact pit_free (hpok p hp))]
      have s4 := same_new (o := .lst (((ps.map pitC).map S).map V.str)) hpl2
      have g4 := g1.tr (Grow.of_same g1.gh s4)
      walk_at "s"
      refine ⟨⟨_, sqlU upd_same⟩, fun D hD => ?_⟩
      have hlen : (((ps.map pitC).map S).map V.str).length ≤ 100000 := by
        rw [List.length_map, List.length_map, List.length_map]
        omega
      refine lc_pure walk_list hD g4.gh (fun G i v => ∃ z, ps[i]? = some z ∧ Dp K G v (pitD z)) hlen (fun _ _ _ _ e ⟨s, h1, h2⟩ => ⟨s, h1, h2.mono e⟩) (fun G1 H1 g1 => g1.same.seq (sqlU upd_same)) ?_ ?_
      · rintro i v G1 H1 H1' hi g1 ⟨rfl, hv⟩ Q' hq
        obtain ⟨z, hz, rfl⟩ : ∃ z, ps[i]? = some z ∧ v = .str (S (pitC z)) := by
          simp only [List.getElem?_map, Option.map_eq_some_iff] at hv
          obtain ⟨_, ⟨_, ⟨z, hz, rfl⟩, rfl⟩, rfl⟩ := hv
          exact ⟨z, hz, rfl⟩
        refine ⟨rfl, ?_⟩
        walk_at "s"
        refine ⟨hpok z (List.mem_of_getElem? hz), fun H5 a5 s5 f5 e5 => ?_⟩
        exact hq _ _ _ ((Grow.of_same g1.gh s5).fix e5 f5 (g1.gh.free f5)) ⟨z, hz, .tupU upd_same (.cons (.int _) (.cons (.int _) (.cons (.int _) .nil)))⟩
      · intro G5 H5 acc g5 gD eD el er
        rw [List.length_map, List.length_map, List.length_map] at el
        have g6 := g4.tr (g5.fix eD hD gD)
        have dps : Dp K (upd G5 D (.lst acc)) (.ref D) (psD ps) := .lstU upd_same (DpAll.of (by rw [List.length_map]; exact el) fun i v hv => by
          obtain ⟨s, hs, hd⟩ := er i v hv
          exact ⟨pitD s, by rw [List.getElem?_map, hs]; rfl, hd.mono fun b u e => by rw [upd_ne (ne_of_none e gD)]; exact e⟩)
        generalize upd G5 D (.lst acc) = G6 at g6 dps
        walk_at "s"
        refine ⟨.none, ps.map pitD, .non, dps.mono g6.gh, rfl, ?_, ?_⟩
        · exact Ly.shaped (n := 2) (Ly.list fun d hd => by
            obtain ⟨p, _, rfl⟩ := List.mem_map.mp hd
            exact ly_pit) (by decide)
        rw [any_none]
        walk_at "s"
        refine ⟨by show 3 ≤ sizeLine; decide, fun p7 hp7 => ?_⟩
        have g7 := g6.immN (o := .tup [.str (Str.ofString "tones"), .ref D, .int n]) hp7
        have k7 : (upd G6 p7 (.tup [.str (Str.ofString "tones"), .ref D, .int n])) p7 = some _ := upd_same
        have dps7 := dps.mono (same_new (o := .tup [.str (Str.ofString "tones"), .ref D, .int n]) (g6.gh.free hp7))
        generalize upd G6 p7 _ = G7 at g7 k7 dps7
        generalize upd H5 p7 _ = H7 at g7 ⊢
        walk_at "s"
        refine ⟨b, _, rfl, g7.s0.seq hb, fun p8 hp8 => ?_⟩
        have ecut : cutV (((TL.joinL [44] (ps.map pitC) :: aw :: sigW o c wd).map S).map V.str) (some 2) none = ((sigW o c wd).map S).map V.str := by
          unfold cutV
          rw [elen, show HT.sIx ((sigW o c wd).length + 2) 0 (some 2) = min 2 _ from HT.sIx_nat _ 0 2, HT.sIx_none, Nat.min_eq_left (by omega)]
          exact List.take_of_length_le (by simp)
        rw [ecut]
        have g8 := g7.tr (Grow.of_same g7.gh (same_new (o := .lst (((sigW o c wd).map S).map V.str)) hp8))
        refine ⟨_, p8, wd, o, c, rfl, sqlU upd_same, hwd, fun H9 p9 s9 f9 e9 => ?_⟩
        have g9 := g8.tr ((Grow.of_same g8.gh s9).fix e9 f9 (g8.gh.free f9))
        have k9 : (upd G7 p9 (.tup [.str (S wd), .bl o, .bl c])) p7 = some (.tup [.str (Str.ofString "tones"), .ref D, .int n]) := by
          rw [upd_ne (ne_of_none (g8.gh _ _ k7) f9)]; exact k7
        have dps9 := dps7.mono (same_new (o := .tup [.str (S wd), .bl o, .bl c]) (g8.gh.free f9))
        generalize upd G7 p9 _ = G9 at g9 k9 dps9
        refine ⟨p7, p9, _, _, rfl, rfl, sqtU (g9.gh _ _ k9), sqtU e9, by show 6 ≤ sizeLine; decide, fun z => absurd z (List.cons_ne_nil _ _), fun _ z => absurd z (List.cons_ne_nil _ _), fun _ _ pz hpz => ?_⟩
        have gz := g9.immN (o := .tup ([.str (Str.ofString "tones"), .ref D, .int n] ++ [.str (S wd), .bl o, .bl c])) hpz
        have dz : Dp K (upd G9 pz (.tup ([.str (Str.ofString "tones"), .ref D, .int n] ++ [.str (S wd), .bl o, .bl c]))) (.ref pz) (sndD (.tones ps n wd o c)) :=
          .tupU upd_same (.cons (.str _) (.cons (dps9.mono (same_new (g9.gh.free hpz))) (.cons (.int _) (.cons (.str _) (.cons (.bl _) (.cons (.bl _) .nil))))))
        generalize upd G9 pz _ = Gz at gz dz
        generalize upd H9 pz _ = Hz at gz ⊢
        have raz := ra.grow gz
        walk_at "s"
        refine ⟨r, dx, _, rfl, raz.hr, rfl, ?_⟩
        refine ⟨r, dx, rl, p, rfl, raz.hr, ?_⟩
        walk_at "s"
        exact q _ _ _ ((gz.no (M := At r)).put raz.gr (.inr rfl)) raz.stepped dz
def voW : List (List Nat) := [[118, 111, 105, 99, 101]]
/-- the rows of a voice from p on -/
structure VoiceW (rws : List (List (List Nat))) (p : Nat) (ss : List Snd) : Prop where
  hd : rws[p]? = some voW
  ne : ss ≠ []
  ln : ss.length ≤ 96
  at_ : ∀ (i : Nat) s, ss[i]? = some s → ∃ ws, rws[p + 1 + i]? = some ws ∧ SndW s ws
  end_ : p + 1 + ss.length = rws.length ∨ rws[p + 1 + ss.length]? = some voW
def sp_voice_by (K : PySem.W.Frag) (A : Ad) : Sp := fun vs H Q _ => ∃ (G : Hp) (r dx : Addr) (rl : V) (rws : List (List (List Nat))) (p : Nat) (ss : List Snd), vs = [.ref r] ∧ Same G H ∧ RowsAt K A G H r dx rl rws p ∧ (∀ ws ∈ rws, ws ≠ []) ∧ VoiceW rws p ss ∧
  ∀ G' H' v, Grow (At r) G H G' H' → RowsAt K A G' H' r dx rl rws (p + 1 + ss.length) → Dp K G' v (.list (ss.map sndD)) → Q v H'
theorem ok_voice_by (T : Txt w K mg A) : Cal P w K mg base 5 "voice_by" (sp_voice_by K A) [] := by
  obtain ⟨f, d⟩ := T.d_voice_by
  refine cal_of d sc_voice_by (fun vs H Q E h => ?_) (fun cdv A' outer s H vs Q E hr h => ?_)
  · obtain ⟨G, r, dx, rl, rws, p, ss, rfl, _⟩ := h; rfl
  · obtain ⟨G, r, dx, rl, rws, p, ss, rfl, sm, ra, hne, vw, q⟩ := h
    have hln := vw.ln
    have hpos : 0 < ss.length := List.length_pos_iff.mpr vw.ne
    refine ⟨_, (pss_cons (ps_if (pt_cmpR (op_neD hr.units) (pe_mt0 (mt_Rows_next_words T) hr (by decide) (pv 0)) (pe_lst (pa_cons pe_str pa_nil)) (nomark _)) (pss_one ps_never) pss_nil)
    (pss_cons (ps_expr (pe_mt0 (mt_Rows_step T) hr (by decide) (pv 0)))
    (pss_cons (ps_set (i := 1) sc_voice_by.nd rfl (Or.inl rfl) (pe_lst (pa_cons (pe_c (ok_sound_by T) hr (by decide) rfl (pa_cons (pv 0) pa_nil)) pa_nil)))
    (pss_cons (ps_while PassesOwn.never (PW.pt (pw_and (pt_not (pt_val (pe_mt0 (mt_Rows_is_over T) hr (by decide) (pv 0)))) (pw_and1 (pt_not (pt_val (pe_mt (mt_Rows_begins T) hr (by decide) (pv 0) (pa_cons pe_str pa_nil))))))) (pss_one (ps_expr (pe_bm PySem.F.plainAttrs_list PySem.F.slot_list_append PySem.F.type_list_append mt_append (pv 1) (pa_cons (pe_c (ok_sound_by T) hr (by decide) rfl (pa_cons (pv 0) pa_nil)) pa_nil)))))
    (pss_one (ps_ret (pv 1))))))), ?_⟩
    walk_at "s"
    refine ⟨r, dx, _, rfl, ra.hr, rfl, ?_⟩
    refine ⟨G, r, dx, rl, rws, p, _, rfl, sm, ra, vw.hd, fun b hb => ?_⟩
    walk_at "s"
    refine ⟨by show 1 ≤ sizeLine; decide, fun p1 hp1 => ?_⟩
    have s1 := same_new (o := .lst [.str (Str.ofString "voice")]) hp1
    refine ⟨.list ((voW.map S).map .str), .list ((voW.map S).map .str), .lst ((sm.trans s1).seq hb) .ofStrs, .lstU upd_same ?_, shaped_strs (by decide), shaped_strs (by decide), ?_⟩
    · rw [lit_ "voice" [118, 111, 105, 99, 101] (by decide +kernel)]
      exact .cons (.str _) .nil
    rw [eqv_strs]
    refine ⟨_, rfl, iteN rfl ?_⟩
    have g1 : Grow No G H G (upd H p1 (.lst [.str (Str.ofString "voice")])) := Grow.of_same sm s1
    have ra1 := ra.grow g1
    walk_at "s"
    refine ⟨r, dx, _, rfl, ra1.hr, rfl, ?_⟩
    refine ⟨r, dx, rl, p, rfl, ra1.hr, ?_⟩
    have g2 := (g1.no (M := At r)).put (o := .ins A.cRows dx (rowsF rl (p + 1))) ra1.gr (.inr rfl)
    have ra2 := ra1.stepped (p' := p + 1)
    obtain ⟨x0, hx0⟩ : ∃ x0, ss[0]? = some x0 := ⟨ss[0], List.getElem?_eq_getElem hpos⟩
    obtain ⟨ws0, hw0, sw0⟩ := vw.at_ 0 x0 hx0
    walk_at "s"
    refine ⟨G, r, dx, rl, rws, p + 1, x0, ws0, rfl, g2.gh, ra2, hw0, sw0, fun G3 H3 v3 g3 ra3 hv3 => ?_⟩
    have g3' := g2.trA g3 ⟨_, ra2.hr⟩
    refine ⟨by show 1 ≤ sizeLine; decide, fun fo hfo => ?_⟩
    have hfo0 : H fo = none := by
      cases e : H fo with
      | none => rfl
      | some o =>
        by_cases hrf : fo = r
        · rw [hrf, ra3.hr] at hfo; cases hfo
        · rw [g3'.hh _ _ hrf e] at hfo; cases hfo
    have nfr : fo ≠ r := fun z => by rw [z, ra.hr] at hfo0; cases hfo0
    have gf3 : G3 fo = none := g3'.gh.free hfo
    have g4 := g3'.put (o := .lst [v3]) gf3 (.inl hfo0)
    have raFo : ∀ {G' H' : Hp} {p' : Nat} {o : HO}, RowsAt K A G' H' r dx rl rws p' → RowsAt K A G' (upd H' fo o) r dx rl rws p' := fun h => ⟨h.gr, by rw [upd_ne nfr.symm]; exact h.hr, h.dp⟩
    refine ⟨fun m σ H5 => ∃ i G5 acc, m = ss.length - i ∧ 1 ≤ i ∧ i ≤ ss.length ∧ σ = [some (.ref r), some (.ref fo)] ∧ Grow (At r) G H G5 H5 ∧ G5 fo = none ∧ H5 fo = some (.lst acc) ∧ DpAll K G5 acc ((ss.take i).map sndD) ∧ RowsAt K A G5 H5 r dx rl rws (p + 1 + i),
      ⟨ss.length - 1, 1, G3, [v3], rfl, Nat.le_refl _, hpos, rfl, g4, gf3, upd_same, ?_, raFo ra3⟩, ?_⟩
    · rw [List.take_add_one, hx0]
      exact .cons hv3 .nil
    rintro m σ H5 ⟨i, G5, acc, rfl, hi1, hi, rfl, g5, gf5, ef5, hacc, ra5⟩
    have hal := hacc.len
    rw [List.length_map, List.length_take] at hal
    have hple : p + 1 + ss.length ≤ rws.length := by
      rcases vw.end_ with e | e
      · omega
      · have := (List.getElem?_eq_some_iff.mp e).1; omega
    walk_at "s"
    refine ⟨r, dx, _, rfl, ra5.hr, rfl, ?_⟩
    refine ⟨G5, r, dx, rl, rws, p + 1 + i, rfl, g5.gh, ra5, ?_⟩
    by_cases hlt : i < ss.length
    · obtain ⟨x, hx⟩ : ∃ x, ss[i]? = some x := ⟨ss[i], List.getElem?_eq_getElem hlt⟩
      obtain ⟨ws, hw, sw⟩ := vw.at_ i x hx
      obtain ⟨c, rr, t, ews, nc, _⟩ := sndW_head sw
      rw [decide_eq_false (show ¬ p + 1 + i = rws.length by omega)]
      walk_at "s"
      refine ⟨r, dx, _, rfl, ra5.hr, rfl, ?_⟩
      walk_at "s"
      refine ⟨G5, r, dx, rl, rws, p + 1 + i, [118, 111, 105, 99, 101], by rw [lit_ "voice" [118, 111, 105, 99, 101] (by decide +kernel)]; rfl, g5.gh, ra5, by omega, hne, ?_⟩
      have eb : beginsB rws (p + 1 + i) [118, 111, 105, 99, 101] = false := by
        unfold beginsB
        rw [hw, ews]
        exact decide_eq_false fun z => nc (List.cons.inj z).1
      rw [eb]
      walk_at "s"
      refine ⟨fun σ H6 => ∃ m', m' < ss.length - i ∧ ∃ i G5 acc, m' = ss.length - i ∧ 1 ≤ i ∧ i ≤ ss.length ∧ σ = [some (.ref r), some (.ref fo)] ∧ Grow (At r) G H G5 H6 ∧ G5 fo = none ∧ H6 fo = some (.lst acc) ∧ DpAll K G5 acc ((ss.take i).map sndD) ∧ RowsAt K A G5 H6 r dx rl rws (p + 1 + i), fun σ' H' h => h, ?_⟩
      walk_at "s"
      refine ⟨.inl ⟨rfl, _, sqlU ef5⟩, ?_⟩
      walk_at "s"
      refine ⟨G5, r, dx, rl, rws, p + 1 + i, x, ws, rfl, g5.gh, ra5, hw, sw, fun G6 H6 v6 g6 ra6 hv6 => ?_⟩
      have ef6 := g6.hh _ _ nfr ef5
      have gf6 := g6.fr _ _ ef5 gf5
      refine ⟨fo, acc, v6, rfl, rfl, ef6, szl (by omega), ?_⟩
      refine ⟨ss.length - (i + 1), by omega, i + 1, G6, acc ++ [v6], rfl, by omega, by omega, rfl, (g5.trA g6 ⟨_, ra5.hr⟩).put gf6 (.inl hfo0), gf6, upd_same, ?_, raFo ra6⟩
      rw [List.take_add_one, hx, List.map_append]
      exact (hacc.mono g6.gg).snoc hv6
    · have ei : i = ss.length := by omega
      subst ei
      rw [List.take_length] at hacc
      have gz := g5.fix ef5 hfo0 gf5
      have fin_ := q _ _ (.ref fo) gz (⟨by rw [upd_ne nfr.symm]; exact ra5.gr, ra5.hr, ra5.dp.mono fun b u e => by rw [upd_ne (ne_of_none e gf5)]; exact e⟩) (.lstU upd_same (hacc.mono fun b u e => by rw [upd_ne (ne_of_none e gf5)]; exact e))
      rcases vw.end_ with e | e
      · rw [decide_eq_true e]
        walk_at "s"
        exact fin_
      · have hlt2 := (List.getElem?_eq_some_iff.mp e).1
        rw [decide_eq_false (show ¬ p + 1 + ss.length = rws.length by omega)]
        walk_at "s"
        refine ⟨r, dx, _, rfl, ra5.hr, rfl, ?_⟩
        walk_at "s"
        refine ⟨G5, r, dx, rl, rws, p + 1 + ss.length, [118, 111, 105, 99, 101], by rw [lit_ "voice" [118, 111, 105, 99, 101] (by decide +kernel)]; rfl, g5.gh, ra5, by omega, hne, ?_⟩
        have eb : beginsB rws (p + 1 + ss.length) [118, 111, 105, 99, 101] = true := by
          unfold beginsB
          rw [e]
          rfl
        rw [eb]
        walk_at "s"
        exact fin_
end
end BW
set_option Elab.async false
set_option linter.all false
set_option maxRecDepth 100000
set_option maxHeartbeats 4000000
set_option pp.maxSteps 3000
namespace BW
open PySem PySem.Spec PyProof.Rows L2
open C8 (Cal Met Mak pe_c pe_mk pe_mt pe_mt0 pe_gc sl_txt fnBody fnScope fnArgs)
local macro_rules | `(tactic| walk_at "v") => `(tactic| refine ⟨_, rfl, ?_⟩)
local macro_rules | `(tactic| walk_at "i2") => `(tactic| refine ⟨_, _, rfl, rfl, ?_⟩)
local macro_rules | `(tactic| walk_at "k") => `(tactic| exact (by decide +kernel))
local macro_rules | `(tactic| walk_at "s") => `(tactic| repeat (first | refine ⟨_, rfl, ?_⟩ | refine ⟨_, _, rfl, rfl, ?_⟩ | refine ⟨rfl, ?_⟩ | refine ⟨⟨_, rfl⟩, ?_⟩ | refine iteT ?_ | refine iteF ?_ | refine ⟨_, _, _, _, _, rfl, .ty _, tyI, kit_ty kit_int_int, ?_⟩ | refine ⟨_, _, _, _, _, rfl, .ty _, tyI, kit_ty kit_int_bool, ?_⟩ | refine ⟨_, _, _, _, _, rfl, .ty _, tyS, kit_ty kit_str_str, ?_⟩ | refine ⟨_, _, _, _, _, rfl, .ty _, tyB, kit_ty kit_bool_bool, ?_⟩ | refine ⟨_, _, _, _, _, rfl, by assumption, by assumption, by assumption, rfl, ?_⟩))
local macro_rules | `(tactic| walk_at "o") => `(tactic| repeat (first | refine ⟨_, rfl, ?_⟩ | refine ⟨_, _, rfl, rfl, ?_⟩ | refine ⟨rfl, ?_⟩ | refine ⟨⟨_, rfl⟩, ?_⟩ | refine iteT ?_ | refine iteF ?_ | refine ⟨_, _, _, _, _, rfl, .ty _, tyI, kit_ty kit_int_int, ?_⟩ | refine ⟨_, _, _, _, _, rfl, .ty _, tyI, kit_ty kit_int_bool, ?_⟩ | refine ⟨_, _, _, _, _, rfl, .ty _, tyS, kit_ty kit_str_str, ?_⟩ | refine ⟨_, _, _, _, _, rfl, .ty _, tyB, kit_ty kit_bool_bool, ?_⟩ | refine ⟨_, _, _, _, _, rfl, by assumption, by assumption, by assumption, rfl, ?_⟩ | refine iteDF (by omega) ?_ | refine iteD (by omega) ?_ | refine ⟨_, _, _, rfl, by omega, by omega, ?_⟩ | refine And.intro (by omega) ?_))

open SX (S)
theorem Grow.trD {r : Addr} {G H G1 H1 G2 H2 : Hp} (a : Grow No G H G1 H1) (b : Grow (At r) G1 H1 G2 H2) (h : H r = none) (e : ∃ o, H1 r = some o) : Grow No G H G2 H2 := ((a.no (M := At r)).trA b e).drop h
def metsOf : List (Nat × What) → List (Nat × Met)
  | [] => []
  | (b, .met m) :: r => (b, m) :: metsOf r
  | (_, .key _) :: r => metsOf r
def keysOf : List (Nat × What) → List (Nat × Int)
  | [] => []
  | (b, .key m) :: r => (b, m) :: keysOf r
  | (_, .met _) :: r => keysOf r
def chD (p : Nat × What) : PyData := .tuple [.int p.1, .int p.2.sort, p.2.d]
theorem mets_fil : ∀ all : List (Nat × What), (all.filter fun p => decide (p.2.sort = 0)).map (fun p => PyData.tuple [.int p.1, p.2.d]) = (metsOf all).map (chgD metD)
  | [] => rfl
  | (b, .met m) :: r => by
    show _ :: ((r.filter _).map _) = _ :: _
    rw [mets_fil r] <;> rfl
  | (b, .key m) :: r => mets_fil r
theorem keys_fil : ∀ all : List (Nat × What), (all.filter fun p => decide (p.2.sort = 1)).map (fun p => PyData.tuple [.int p.1, p.2.d]) = (keysOf all).map (chgD PyData.int)
  | [] => rfl
  | (b, .key m) :: r => by
    show _ :: ((r.filter _).map _) = _ :: _
    rw [keys_fil r] <;> rfl
  | (b, .met m) :: r => keys_fil r
def VoicesW (rws : List (List (List Nat))) : Nat → List (List Snd) → Prop
  | p, [] => p = rws.length
  | p, ss :: r => VoiceW rws p ss ∧ VoicesW rws (p + 1 + ss.length) r
def ltW (a b : Nat × What) : Prop := a.1 < b.1 ∨ a.1 = b.1 ∧ a.2.sort < b.2.sort
structure TextW (rws : List (List (List Nat))) (m0 : Met) (k0 : Int) (chs : List (Nat × What)) (vss : List (List Snd)) : Prop where
  ok : RowsOk rws
  r0 : rws[0]? = some [[109, 101, 116, 114, 101], metC m0]
  r1 : rws[1]? = some [[107, 101, 121], numC k0]
  hm : MetOk m0
  hk : -7 ≤ k0 ∧ k0 ≤ 7
  ch : ∀ (i : Nat) c, chs[i]? = some c → rws[2 + i]? = some [[97, 116], TL.numL c.1, c.2.w, c.2.c] ∧ 2 ≤ c.1 ∧ c.1 ≤ 24 ∧ c.2.ok
  rise : ∀ (i : Nat) a b, ((1, What.met m0) :: (1, What.key k0) :: chs)[i]? = some a → ((1, What.met m0) :: (1, What.key k0) :: chs)[i + 1]? = some b → ltW a b
  vo : VoicesW rws (2 + chs.length) vss
theorem ch_at {K : PySem.W.Frag} {G : Hp} {xs : List V} {all : List (Nat × What)} {i : Nat} {v : V} (h : DpAll K G xs (all.map chD)) (hv : xs[i]? = some v) : ∃ p, all[i]? = some p ∧ ∃ a y, v = .ref a ∧ SqT K G a [.int p.1, .int p.2.sort, y] ∧ Dp K G y p.2.d := by
  obtain ⟨d, e, q⟩ := h.get hv
  rw [List.getElem?_map] at e
  cases hp : all[i]? with
  | none => rw [hp] at e; cases e
  | some p =>
    rw [hp] at e
    cases e
    obtain ⟨a, x, y, z, rfl, ht, rx, ry, rz⟩ := dpT3 q
    cases dpI rx
    cases dpI ry
    exact ⟨p, rfl, a, z, rfl, ht, rz⟩
theorem fil_acc {K : PySem.W.Frag} {G : Hp} {acc : List V} {all : List (Nat × What)} {p : Nat × What → Bool} {f : Nat → Bool} {n : Nat} (hn : n = all.length) (hf : ∀ (i : Nat) r, all[i]? = some r → f i = p r) (hl : acc.length = ((List.range n).filter f).length)
    (h : ∀ (j : Nat) v, acc[j]? = some v → ∃ i, ((List.range n).filter f)[j]? = some i ∧ ∃ c, all[i]? = some c ∧ Dp K G v (.tuple [.int c.1, c.2.d])) : DpAll K G acc ((all.filter p).map fun c => PyData.tuple [.int c.1, c.2.d]) := by
  subst hn
  have e := fil_range all p f hf
  refine DpAll.of ?_ fun j v hv => ?_
  · have := congrArg List.length e
    rw [List.length_map, List.length_map] at this
    rw [List.length_map]
    omega
  · obtain ⟨i, hi, c, hc, hd⟩ := h j v hv
    have e1 : (((List.range all.length).filter f).map fun i => all[i]?)[j]? = some (some c) := by
      rw [List.getElem?_map, hi]
      exact congrArg some hc
    rw [e, List.getElem?_map] at e1
    refine ⟨_, ?_, hd⟩
    cases hx : (all.filter p)[j]? with
    | none => rw [hx] at e1; cases e1
    | some y =>
      rw [hx] at e1
      cases (Option.some.inj (Option.some.inj e1))
      rw [List.getElem?_map, hx]
      rfl
section
variable {P : Program} {w : World} {K : PySem.W.Frag} {mg : Str → Option Value} {base : Heap} {A : Ad}
def sp_read_tune (K : PySem.W.Frag) (A : Ad) : Sp := fun vs H Q _ => ∃ (G : Hp) (rws : List (List (List Nat))) (m0 : Met) (k0 : Int) (chs : List (Nat × What)) (vss : List (List Snd)) (fs : List Frm), vs = [.str (S (textC rws))] ∧ Same G H ∧ TextW rws m0 k0 chs vss ∧
  TnOk (metsOf ((1, .met m0) :: (1, .key k0) :: chs)) (keysOf ((1, .met m0) :: (1, .key k0) :: chs)) vss fs ∧
  ∀ G' H' z, Grow No G H G' H' → TuneAt K A G' z ⟨metsOf ((1, .met m0) :: (1, .key k0) :: chs), keysOf ((1, .met m0) :: (1, .key k0) :: chs), vss.map tidyL, fs⟩ → Q z H'
theorem ok_read_tune (T : Txt w K mg A) : Cal P w K mg base 10 "read_tune" (sp_read_tune K A) [] := by
  obtain ⟨f, d⟩ := T.d_read_tune
  refine cal_of d sc_read_tune (fun vs H Q E h => ?_) (fun cdv A' outer s H vs Q E hr h => ?_)
  · obtain ⟨G, rws, m0, k0, chs, vss, fs, rfl, _⟩ := h; rfl
  · obtain ⟨G, rws, m0, k0, chs, vss, fs, rfl, sm, tw, tn, q⟩ := h
    have hne : ∀ ws ∈ rws, ws ≠ [] := fun ws hw => (tw.ok.ok ws hw).ne
    generalize eall : ((1, What.met m0) :: (1, What.key k0) :: chs) = all at tn q
    have hrise := tw.rise
    rw [eall] at hrise
    have hlall : all.length = chs.length + 2 := by rw [← eall]; rfl
    have hch1000 := tw.ok.ln
    have hv0 := tn.v0
    have hv1 := tn.v1
    refine ⟨_, (pss_cons (ps_if (pt_not (pt_val (pe_callB call_isi (by rfl) T.n_isinstance boot_isinstance_ (pa_cons (pv 0) (pa_cons (pe_ty (by rfl) T.n_str boot_str_) pa_nil))))) (pss_one ps_never) pss_nil)
    (pss_cons (ps_set (i := 1) sc_read_tune.nd rfl (Or.inl rfl) (pe_mk (mk_Rows T) hr (by decide) rfl (pa_cons (pv 0) pa_nil)))
    (pss_cons (ps_set (i := 2) sc_read_tune.nd rfl (Or.inl rfl) (pe_lst (pa_cons (pe_tup (pa_cons pe_int (pa_cons pe_int (pa_cons (pe_c (ok_told_by T) hr (by decide) rfl (pa_cons (pv 1) (pa_cons pe_str (pa_cons (pe_gc rfl T.v_metre_of) pa_nil)))) pa_nil)))) (pa_cons (pe_tup (pa_cons pe_int (pa_cons pe_int (pa_cons (pe_c (ok_told_by T) hr (by decide) rfl (pa_cons (pv 1) (pa_cons pe_str (pa_cons (pe_gc rfl T.v_key_of) pa_nil)))) pa_nil)))) pa_nil))))
    (pss_cons (ps_while PassesOwn.never (pt_val (pe_mt (mt_Rows_begins T) hr (by decide) (pv 1) (pa_cons pe_str pa_nil))) (pss_one (ps_expr (pe_bm PySem.F.plainAttrs_list PySem.F.slot_list_append PySem.F.type_list_append mt_append (pv 2) (pa_cons (pe_c (ok_change_by T) hr (by decide) rfl (pa_cons (pv 1) (pa_cons (pe_slice sl_tupA (pe_ix ix_list (pv 2) (pe_un un_neg pe_int) (fun _ _ => rfl)) po_none (po_some pe_int)) pa_nil))) pa_nil)))))
    (pss_cons (ps_set (i := 3) sc_read_tune.nd rfl (Or.inl rfl) (pe_lst (pa_cons (pe_c (ok_voice_by T) hr (by decide) rfl (pa_cons (pv 1) pa_nil)) pa_nil)))
    (pss_cons (ps_while PassesOwn.never (pt_not (pt_val (pe_mt0 (mt_Rows_is_over T) hr (by decide) (pv 1)))) (pss_cons (ps_if (pt_cmpR op_eq (pe_callB call_len_seq (by rfl) T.n_len boot_len_ (pa_cons (pv 3) pa_nil)) (pe_gc rfl T.c_MOST_VOICES) (nomark _)) (pss_one ps_never) pss_nil)
      (pss_one (ps_expr (pe_bm PySem.F.plainAttrs_list PySem.F.slot_list_append PySem.F.type_list_append mt_append (pv 3) (pa_cons (pe_c (ok_voice_by T) hr (by decide) rfl (pa_cons (pv 1) pa_nil)) pa_nil))))))
    (pss_cons (ps_setLc (i := 4) (own := [("bar", 6), ("sort", 7), ("what", 8)]) (g := (gTup K 3 (gCons (gName 6) (gCons (gName 7) (gCons (gName 8) gNil))))) (by rfl) sc_read_tune.nd rfl rfl (sw_true rfl rfl rfl (by decide +kernel)) (pi_list (pv 2)) (blkOk_by (N := N_read_tune) (sc := (defScope s_read_tune)) (by decide +kernel)) (fun _ _ _ _ _ => (pg_tup rfl (pgs_cons (pg_name (i := 6) sc_read_tune.nd rfl (Or.inl rfl)) (pgs_cons (pg_name (i := 7) sc_read_tune.nd rfl (Or.inl rfl)) (pgs_cons (pg_name (i := 8) sc_read_tune.nd rfl (Or.inl rfl)) pgs_nil))))) (fun _ _ _ _ _ => (pts_one (pt_cmpR op_eq (pv 7) pe_int (nomark _)))) (fun _ _ _ _ _ => (pe_tup (pa_cons (pv 6) (pa_cons (pv 8) pa_nil)))))
    (pss_cons (ps_setLc (i := 5) (own := [("bar", 6), ("sort", 7), ("what", 8)]) (g := (gTup K 3 (gCons (gName 6) (gCons (gName 7) (gCons (gName 8) gNil))))) (by rfl) sc_read_tune.nd rfl rfl (sw_true rfl rfl rfl (by decide +kernel)) (pi_list (pv 2)) (blkOk_by (N := N_read_tune) (sc := (defScope s_read_tune)) (by decide +kernel)) (fun _ _ _ _ _ => (pg_tup rfl (pgs_cons (pg_name (i := 6) sc_read_tune.nd rfl (Or.inl rfl)) (pgs_cons (pg_name (i := 7) sc_read_tune.nd rfl (Or.inl rfl)) (pgs_cons (pg_name (i := 8) sc_read_tune.nd rfl (Or.inl rfl)) pgs_nil))))) (fun _ _ _ _ _ => (pts_one (pt_cmpR op_eq (pv 7) pe_int (nomark _)))) (fun _ _ _ _ _ => (pe_tup (pa_cons (pv 6) (pa_cons (pv 8) pa_nil)))))
    (pss_one (ps_ret (pe_mk (mk_Tune T) hr (by decide) rfl (pa_cons (pv 4) (pa_cons (pv 5) (pa_cons (pv 3) pa_nil)))))))))))))), ?_⟩
    walk_at "s"
    intro r dx nr ndx ne
    have nrd : r ≠ dx := fun z => ne z.symm
    have g0 : Grow No G H G (upd H dx (.own r)) := (Grow.refl sm).put (sm.free ndx) (.inl ndx)
    have g1 := g0.put (o := .ins A.cRows dx []) (sm.free nr) (.inl nr)
    refine ⟨G, r, dx, rws, rfl, g1.gh, sm.free nr, upd_same, tw.ok, fun G2 H2 rl g2 ra2 => ⟨rfl, ?_⟩⟩
    have g2' := g1.trD g2 nr ⟨_, upd_same⟩
    walk_at "s"
    refine ⟨G2, r, dx, rl, rws, 0, [109, 101, 116, 114, 101], metC m0, A.fmetre_of, sp_metre_of K, .met m0, by rw [lit_ "metre" [109, 101, 116, 114, 101] (by decide +kernel)]; rfl, g2'.gh, ra2, tw.r0, at_metre_of T, fun G1 H1 Q1 s1 hq => ⟨G1, m0, rfl, s1, tw.hm, hq⟩, fun G3 H3 v3 g3 ra3 hv3 => ?_⟩
    have g3' := g2'.trD g3 nr ⟨_, ra2.hr⟩
    refine ⟨by show 3 ≤ sizeLine; decide, fun t1 ht1 => ?_⟩
    have g4 := g3'.immN (o := .tup [.int 1, .int 0, v3]) ht1
    have nt1 : r ≠ t1 := ne_of_none ra3.hr ht1
    have n1 := same_new (o := .tup [.int 1, .int 0, v3]) (g3'.gh.free ht1)
    have ra4 : RowsAt K A (upd G3 t1 (.tup [.int 1, .int 0, v3])) (upd H3 t1 (.tup [.int 1, .int 0, v3])) r dx rl rws 1 := ⟨by rw [upd_ne nt1]; exact ra3.gr, by rw [upd_ne nt1]; exact ra3.hr, ra3.dp.mono n1⟩
    have d1 : Dp K (upd G3 t1 (.tup [.int 1, .int 0, v3])) (.ref t1) (chD (1, .met m0)) := .tupU upd_same (.cons (.int _) (.cons (.int _) (.cons (hv3.mono n1) .nil)))
    generalize upd G3 t1 _ = G4 at g4 ra4 d1
    generalize upd H3 t1 _ = H4 at g4 ra4 ⊢
    walk_at "s"
    refine ⟨G4, r, dx, rl, rws, 1, [107, 101, 121], numC k0, A.fkey_of, sp_key_of, .key k0, by rw [lit_ "key" [107, 101, 121] (by decide +kernel)]; rfl, g4.gh, ra4, tw.r1, at_key_of T, fun G1 H1 Q1 s1 hq => ⟨k0, rfl, tw.hk.1, tw.hk.2, fun H' s' => hq _ _ _ (Grow.of_same s1 s') (.int _)⟩, fun G5 H5 v5 g5 ra5 hv5 => ?_⟩
    have g5' := g4.trD g5 nr ⟨_, ra4.hr⟩
    refine ⟨by show 3 ≤ sizeLine; decide, fun t2 ht2 => ?_⟩
    have g6 := g5'.immN (o := .tup [.int 1, .int 1, v5]) ht2
    have nt2 : r ≠ t2 := ne_of_none ra5.hr ht2
    have n2 := same_new (o := .tup [.int 1, .int 1, v5]) (g5'.gh.free ht2)
    have ra6 : RowsAt K A (upd G5 t2 (.tup [.int 1, .int 1, v5])) (upd H5 t2 (.tup [.int 1, .int 1, v5])) r dx rl rws 2 := ⟨by rw [upd_ne nt2]; exact ra5.gr, by rw [upd_ne nt2]; exact ra5.hr, ra5.dp.mono n2⟩
    have d2 : Dp K (upd G5 t2 (.tup [.int 1, .int 1, v5])) (.ref t2) (chD (1, .key k0)) := .tupU upd_same (.cons (.int _) (.cons (.int _) (.cons (hv5.mono n2) .nil)))
    have d1' := d1.mono (g5.gg.trans n2)
    generalize upd G5 t2 _ = G6 at g6 ra6 d2 d1'
    generalize upd H5 t2 _ = H6 at g6 ra6 ⊢
    refine ⟨by show 2 ≤ sizeLine; decide, fun fo hfo => ?_⟩
    have hfo0 : H fo = none := g6.free0 hfo
    have nfr : fo ≠ r := fun z => by rw [z, ra6.hr] at hfo; cases hfo
    have gf6 : G6 fo = none := g6.gh.free hfo
    have raFo : ∀ {G' H' : Hp} {p' : Nat} {o : HO}, RowsAt K A G' H' r dx rl rws p' → RowsAt K A G' (upd H' fo o) r dx rl rws p' := fun h => ⟨h.gr, by rw [upd_ne nfr.symm]; exact h.hr, h.dp⟩
    refine ⟨fun m σ H1 => ∃ i G1 acc, m = chs.length - i ∧ i ≤ chs.length ∧ σ = [some (.str (S (textC rws))), some (.ref r), some (.ref fo), none, none, none, none, none, none] ∧ Grow No G H G1 H1 ∧ G1 fo = none ∧ H1 fo = some (.lst acc) ∧ DpAll K G1 acc ((all.take (2 + i)).map chD) ∧ RowsAt K A G1 H1 r dx rl rws (2 + i),
      ⟨chs.length, 0, G6, [.ref t1, .ref t2], rfl, Nat.zero_le _, rfl, g6.put gf6 (.inl hfo0), gf6, upd_same, by rw [← eall]; exact .cons d1' (.cons d2 .nil), raFo ra6⟩, ?_⟩
    rintro m σ H7 ⟨i, G7, acc, rfl, hi, rfl, g7, gf7, ef7, hacc, ra7⟩
    have hal := hacc.len
    rw [List.length_map, List.length_take] at hal
    have hat : (Str.ofString "at") = S [97, 116] := lit_ _ _ (by decide +kernel)
    obtain ⟨vss0, vssr, evss⟩ : ∃ a b, vss = a :: b := by
      cases vss with
      | nil => exact absurd hv0 (by decide)
      | cons a b => exact ⟨a, b, rfl⟩
    have hvo := tw.vo
    rw [evss] at hvo
    obtain ⟨hvo1, hvo2⟩ := hvo
    have hlv := (List.getElem?_eq_some_iff.mp hvo1.hd).1
    walk_at "s"
    refine ⟨r, dx, _, rfl, ra7.hr, rfl, ?_⟩
    walk_at "s"
    refine ⟨G7, r, dx, rl, rws, 2 + i, [97, 116], by rw [hat]; rfl, g7.gh, ra7, by omega, hne, ?_⟩
    by_cases hlt : i < chs.length
    · obtain ⟨c, hc⟩ : ∃ c, chs[i]? = some c := ⟨chs[i], List.getElem?_eq_getElem hlt⟩
      obtain ⟨hrow, hb2, hb24, hok⟩ := tw.ch i c hc
      have eb : beginsB rws (2 + i) [97, 116] = true := by
        unfold beginsB
        rw [hrow]
        rfl
      have hc' : all[2 + i]? = some c := by rw [← eall, show 2 + i = i + 1 + 1 by omega]; exact hc
      obtain ⟨lc, hlc⟩ : ∃ lc, all[1 + i]? = some lc := ⟨all[1 + i]'(by omega), List.getElem?_eq_getElem _⟩
      have hlt2 := hrise (1 + i) lc c hlc (by rw [show 1 + i + 1 = 2 + i by omega]; exact hc')
      obtain ⟨vl, hvl⟩ : ∃ vl, acc[1 + i]? = some vl := ⟨acc[1 + i]'(by omega), List.getElem?_eq_getElem _⟩
      obtain ⟨lc', hlc', tl_, yl, rfl, htl, _⟩ := ch_at hacc hvl
      rw [List.getElem?_take_of_lt (by omega), hlc] at hlc'
      cases (Option.some.inj hlc')
      rw [eb]
      walk_at "s"
      refine ⟨fun σ H1 => ∃ m', m' < chs.length - i ∧ ∃ i G1 acc, m' = chs.length - i ∧ i ≤ chs.length ∧ σ = [some (.str (S (textC rws))), some (.ref r), some (.ref fo), none, none, none, none, none, none] ∧ Grow No G H G1 H1 ∧ G1 fo = none ∧ H1 fo = some (.lst acc) ∧ DpAll K G1 acc ((all.take (2 + i)).map chD) ∧ RowsAt K A G1 H1 r dx rl rws (2 + i), fun σ' H' h => h, ?_⟩
      walk_at "s"
      refine ⟨.inl ⟨rfl, _, sqlU ef7⟩, ?_⟩
      walk_at "s"
      refine ⟨_, _, _, _, rfl, rfl, sqlU ef7, (show atI acc (-1) = some (.ref tl_) by
        have e : acc = acc.dropLast ++ [V.ref tl_] := by
          have h1 : acc ≠ [] := fun z => by rw [z] at hvl; cases hvl
          have h2 : acc.getLast h1 = .ref tl_ := by
            rw [List.getLast_eq_getElem]
            have : acc.length - 1 = 1 + i := by omega
            rw [List.getElem?_eq_some_iff] at hvl
            obtain ⟨h3, h4⟩ := hvl
            simp only [this]
            exact h4
          rw [← h2, List.dropLast_concat_getLast]
        rw [e]
        exact atI_last _ _), ?_⟩
      walk_at "s"
      refine ⟨tl_, _, rfl, sqT_mono g7.gh htl, (fun z => absurd z.2 (by
        rw [show HT.sIx ([V.int (lc.1 : Nat), V.int (lc.2.sort : Nat), yl] : List V).length ([V.int (lc.1 : Nat), V.int (lc.2.sort : Nat), yl] : List V).length (some 2) = min 2 3 from HT.sIx_nat _ _ 2]
        exact (by decide : ¬ (min 2 3 = 3)))), fun _ pt hpt => ?_⟩
      have ecut : cutV [V.int (lc.1 : Nat), V.int (lc.2.sort : Nat), yl] none (some 2) = [V.int (lc.1 : Nat), V.int (lc.2.sort : Nat)] := by
        unfold cutV
        rw [HT.sIx_none, show HT.sIx ([V.int (lc.1 : Nat), V.int (lc.2.sort : Nat), yl] : List V).length ([V.int (lc.1 : Nat), V.int (lc.2.sort : Nat), yl] : List V).length (some 2) = min 2 3 from HT.sIx_nat _ _ 2]
        rfl
      rw [ecut]
      have npr : r ≠ pt := ne_of_none ra7.hr hpt
      have npf : fo ≠ pt := ne_of_none ef7 hpt
      have g8 := g7.immN (o := .tup [.int (lc.1 : Nat), .int (lc.2.sort : Nat)]) hpt
      have n8 := same_new (o := .tup [.int (lc.1 : Nat), .int (lc.2.sort : Nat)]) (g7.gh.free hpt)
      have ra8 : RowsAt K A (upd G7 pt (.tup [.int (lc.1 : Nat), .int (lc.2.sort : Nat)])) (upd H7 pt (.tup [.int (lc.1 : Nat), .int (lc.2.sort : Nat)])) r dx rl rws (2 + i) := ⟨by rw [upd_ne npr]; exact ra7.gr, by rw [upd_ne npr]; exact ra7.hr, ra7.dp.mono n8⟩
      have ef8 : (upd H7 pt (.tup [.int (lc.1 : Nat), .int (lc.2.sort : Nat)])) fo = some (.lst acc) := by rw [upd_ne npf]; exact ef7
      have gf8 : (upd G7 pt (.tup [.int (lc.1 : Nat), .int (lc.2.sort : Nat)])) fo = none := by rw [upd_ne npf]; exact gf7
      have k8 : SqT K (upd G7 pt (.tup [.int (lc.1 : Nat), .int (lc.2.sort : Nat)])) pt [.int (lc.1 : Nat), .int (lc.2.sort : Nat)] := sqtU upd_same
      have hacc8 := hacc.mono n8
      generalize upd G7 pt _ = G8 at g8 ra8 gf8 k8 hacc8
      generalize upd H7 pt _ = H8 at g8 ra8 ef8 ⊢
      refine ⟨G8, r, dx, rl, rws, 2 + i, pt, lc.1, lc.2.sort, c.1, c.2, rfl, g8.gh, ra8, k8, hrow, hb2, hb24, hok, hlt2, fun G9 H9 v9 g9 ra9 hv9 => ?_⟩
      have g9' := g8.trD g9 nr ⟨_, ra8.hr⟩
      have ef9 := g9.hh _ _ nfr ef8
      have gf9 := g9.fr _ _ ef8 gf8
      refine ⟨fo, acc, v9, rfl, rfl, ef9, szl (by omega), ?_⟩
      refine ⟨chs.length - (i + 1), by omega, i + 1, G9, acc ++ [v9], rfl, by omega, rfl, g9'.put gf9 (.inl hfo0), gf9, upd_same, ?_, raFo ra9⟩
      rw [show 2 + (i + 1) = 2 + i + 1 by omega, List.take_add_one, hc', List.map_append]
      exact (hacc8.mono g9.gg).snoc hv9
    · have ei : i = chs.length := by omega
      subst ei
      have eb : beginsB rws (2 + chs.length) [97, 116] = false := by
        unfold beginsB
        rw [hvo1.hd]
        rfl
      rw [eb]
      walk_at "s"
      rw [List.take_of_length_le (by omega)] at hacc
      have g8 := g7.fix ef7 hfo0 gf7
      have n8 : Same G7 (upd G7 fo (.lst acc)) := fun b u e => by rw [upd_ne (ne_of_none e gf7)]; exact e
      have dch : DpAll K (upd G7 fo (.lst acc)) acc (all.map chD) := hacc.mono n8
      have kfo : (upd G7 fo (.lst acc)) fo = some (.lst acc) := upd_same
      have ra8 : RowsAt K A (upd G7 fo (.lst acc)) H7 r dx rl rws (2 + chs.length) := ⟨by rw [upd_ne nfr.symm]; exact ra7.gr, ra7.hr, ra7.dp.mono n8⟩
      generalize upd G7 fo (.lst acc) = G8 at g8 dch kfo ra8
      refine ⟨G8, r, dx, rl, rws, 2 + chs.length, vss0, rfl, g8.gh, ra8, hne, hvo1, fun G9 H9 v9 g9 ra9 hv9 => ?_⟩
      have g9' := g8.trD g9 nr ⟨_, ra8.hr⟩
      have kfo9 := g9.gg _ _ kfo
      have dch9 := dch.mono g9.gg
      refine ⟨by show 1 ≤ sizeLine; decide, fun vo hvo0 => ?_⟩
      have hvoH : H vo = none := g9'.free0 hvo0
      have nvr : vo ≠ r := fun z => by rw [z, ra9.hr] at hvo0; cases hvo0
      have gv9 : G9 vo = none := g9'.gh.free hvo0
      have raVo : ∀ {G' H' : Hp} {p' : Nat} {o : HO}, RowsAt K A G' H' r dx rl rws p' → RowsAt K A G' (upd H' vo o) r dx rl rws p' := fun h => ⟨h.gr, by rw [upd_ne nvr.symm]; exact h.hr, h.dp⟩
      refine ⟨fun m σ H1 => ∃ j p G1 accv, m = vss.length - j ∧ 1 ≤ j ∧ j ≤ vss.length ∧ σ = [some (.str (S (textC rws))), some (.ref r), some (.ref fo), some (.ref vo), none, none, none, none, none] ∧ Grow No G H G1 H1 ∧ Same G9 G1 ∧ G1 vo = none ∧ H1 vo = some (.lst accv) ∧ DpAll K G1 accv ((vss.take j).map fun ss => .list (ss.map sndD)) ∧ RowsAt K A G1 H1 r dx rl rws p ∧ VoicesW rws p (vss.drop j),
        ⟨vss.length - 1, 1, 2 + chs.length + 1 + vss0.length, G9, [v9], rfl, Nat.le_refl _, hv0, rfl, g9'.put gv9 (.inl hvoH), Same.refl _, gv9, upd_same, by rw [evss]; exact .cons hv9 .nil, raVo ra9, by rw [evss]; exact hvo2⟩, ?_⟩
      rintro m σ H10 ⟨j, p, G10, accv, rfl, hj1, hj, rfl, g10, s910, gv10, ev10, hav, ra10, hw10⟩
      have havl := hav.len
      rw [List.length_map, List.length_take] at havl
      walk_at "s"
      refine ⟨r, dx, _, rfl, ra10.hr, rfl, ?_⟩
      refine ⟨G10, r, dx, rl, rws, p, rfl, g10.gh, ra10, ?_⟩
      by_cases hjl : j < vss.length
      · obtain ⟨ss, hss⟩ : ∃ ss, vss[j]? = some ss := ⟨vss[j], List.getElem?_eq_getElem hjl⟩
        have ed : vss.drop j = ss :: vss.drop (j + 1) := by
          rw [List.drop_eq_getElem_cons hjl]
          rw [(List.getElem?_eq_some_iff.mp hss).2]
        rw [ed] at hw10
        obtain ⟨hw1, hw2⟩ := hw10
        have hpl := (List.getElem?_eq_some_iff.mp hw1.hd).1
        rw [decide_eq_false (show ¬ p = rws.length by omega)]
        walk_at "s"
        refine ⟨fun σ H1 => ∃ m', m' < vss.length - j ∧ ∃ j p G1 accv, m' = vss.length - j ∧ 1 ≤ j ∧ j ≤ vss.length ∧ σ = [some (.str (S (textC rws))), some (.ref r), some (.ref fo), some (.ref vo), none, none, none, none, none] ∧ Grow No G H G1 H1 ∧ Same G9 G1 ∧ G1 vo = none ∧ H1 vo = some (.lst accv) ∧ DpAll K G1 accv ((vss.take j).map fun ss => .list (ss.map sndD)) ∧ RowsAt K A G1 H1 r dx rl rws p ∧ VoicesW rws p (vss.drop j), fun σ' H' h => h, ?_⟩
        walk_at "s"
        refine ⟨_, _, rfl, .inl (sqlU ev10), ?_⟩
        walk_at "s"
        refine iteDF (fun z => by injection z with z; omega) ?_
        walk_at "s"
        refine ⟨.inl ⟨rfl, _, sqlU ev10⟩, ?_⟩
        walk_at "s"
        refine ⟨G10, r, dx, rl, rws, p, ss, rfl, g10.gh, ra10, hne, hw1, fun G11 H11 v11 g11 ra11 hv11 => ?_⟩
        have g11' := g10.trD g11 nr ⟨_, ra10.hr⟩
        have ev11 := g11.hh _ _ nvr ev10
        have gv11 := g11.fr _ _ ev10 gv10
        refine ⟨vo, accv, v11, rfl, rfl, ev11, szl (by omega), ?_⟩
        refine ⟨vss.length - (j + 1), by omega, j + 1, p + 1 + ss.length, G11, accv ++ [v11], rfl, by omega, by omega, rfl, g11'.put gv11 (.inl hvoH), s910.trans g11.gg, gv11, upd_same, ?_, raVo ra11, hw2⟩
        rw [List.take_add_one, hss, List.map_append]
        exact (hav.mono g11.gg).snoc hv11
      · have ej : j = vss.length := by omega
        subst ej
        rw [List.drop_length] at hw10
        rw [List.take_length] at hav
        have hw10 : p = rws.length := hw10
        rw [decide_eq_true hw10]
        walk_at "s"
        have g11 := g10.fix ev10 hvoH gv10
        have n11 : Same G10 (upd G10 vo (.lst accv)) := fun b u e => by rw [upd_ne (ne_of_none e gv10)]; exact e
        have dvo : Dp K (upd G10 vo (.lst accv)) (.ref vo) (vossD vss) := .lstU upd_same (hav.mono n11)
        have s911 := s910.trans n11
        generalize upd G10 vo (.lst accv) = G11 at g11 dvo s911
        have kfo11 := s911 _ _ kfo9
        have dch11 := dch9.mono s911
        refine ⟨⟨_, sqlU (g11.gh _ _ kfo11)⟩, fun D hD => ?_⟩
        have hln : acc.length ≤ 100000 := by omega
        have hln2 : acc.length = all.length := by omega
        refine lc_fil walk_list hD g11.gh (fun i => match all[i]? with | some p => decide (p.2.sort = 0) | none => false) (fun G i v => ∃ c, all[i]? = some c ∧ Dp K G v (.tuple [.int c.1, c.2.d])) hln (fun _ _ _ _ e ⟨c, h1, h2⟩ => ⟨c, h1, h2.mono e⟩) (fun G1 H1 g1 => g1.s0.seq (sqlU kfo11)) ?_ ?_
        · rintro i v G1 H1 H1' hi g1 ⟨rfl, hx⟩ Qy Qn hy hnn
          obtain ⟨c, hc, t, y, rfl, ht, hdy⟩ := ch_at dch11 hx
          have ht1 := sqT_mono g1.s0 ht
          refine ⟨t, _, rfl, ht1, rfl, _, _, rfl, _, _, rfl, _, _, rfl, rfl, ?_⟩
          refine ⟨rfl, ?_⟩
          have ef : (match all[i]? with | some p => decide (p.2.sort = 0) | none => false) = decide (c.2.sort = 0) := by rw [hc]
          rw [ef] at hy hnn
          walk_at "s"
          by_cases hs : c.2.sort = 0
          · rw [decide_eq_true hs] at hy
            refine iteD (by rw [hs]; rfl) ?_
            walk_at "s"
            refine ⟨by show 2 ≤ sizeLine; decide, fun pt hpt => ?_⟩
            have g2 := (Grow.refl (M := No) g1.gh).immN (o := .tup [.int c.1, y]) hpt
            exact hy rfl _ _ _ g2 ⟨c, hc, .tupU upd_same (.cons (.int _) (.cons (hdy.mono (g1.gg.trans g2.gg)) .nil))⟩
          · rw [decide_eq_false hs] at hnn
            refine iteDF (fun z => hs (by injection z with z; omega)) ?_
            exact hnn rfl _ _ (Grow.refl g1.gh)
        · intro G12 H12 accm g12 gD eD el er
          have dm := fil_acc hln2 (p := fun p => decide (p.2.sort = 0)) (fun i r h => by simp only [h]) el er
          rw [mets_fil] at dm
          have gm := g11.tr (g12.fix eD hD gD)
          have nm : Same G12 (upd G12 D (.lst accm)) := fun b u e => by rw [upd_ne (ne_of_none e gD)]; exact e
          have dmm : Dp K (upd G12 D (.lst accm)) (.ref D) (chgsD metD (metsOf all)) := .lstU upd_same (dm.mono nm)
          have s12 := g12.gg.trans nm
          generalize upd G12 D (.lst accm) = G13 at gm dmm s12
          have kfo13 := s12 _ _ kfo11
          have dch13 := dch11.mono s12
          walk_at "s"
          refine ⟨⟨_, sqlU (gm.gh _ _ kfo13)⟩, fun D2 hD2 => ?_⟩
          refine lc_fil walk_list hD2 gm.gh (fun i => match all[i]? with | some p => decide (p.2.sort = 1) | none => false) (fun G i v => ∃ c, all[i]? = some c ∧ Dp K G v (.tuple [.int c.1, c.2.d])) hln (fun _ _ _ _ e ⟨c, h1, h2⟩ => ⟨c, h1, h2.mono e⟩) (fun G1 H1 g1 => g1.s0.seq (sqlU kfo13)) ?_ ?_
          · rintro i v G1 H1 H1' hi g1 ⟨rfl, hx⟩ Qy Qn hy hnn
            obtain ⟨c, hc, t, y, rfl, ht, hdy⟩ := ch_at dch13 hx
            have ht1 := sqT_mono g1.s0 ht
            refine ⟨t, _, rfl, ht1, rfl, _, _, rfl, _, _, rfl, _, _, rfl, rfl, ?_⟩
            refine ⟨rfl, ?_⟩
            have ef : (match all[i]? with | some p => decide (p.2.sort = 1) | none => false) = decide (c.2.sort = 1) := by rw [hc]
            rw [ef] at hy hnn
            walk_at "s"
            by_cases hs : c.2.sort = 1
            · rw [decide_eq_true hs] at hy
              refine iteD (by rw [hs]; rfl) ?_
              walk_at "s"
              refine ⟨by show 2 ≤ sizeLine; decide, fun pt hpt => ?_⟩
              have g2 := (Grow.refl (M := No) g1.gh).immN (o := .tup [.int c.1, y]) hpt
              exact hy rfl _ _ _ g2 ⟨c, hc, .tupU upd_same (.cons (.int _) (.cons (hdy.mono (g1.gg.trans g2.gg)) .nil))⟩
            · rw [decide_eq_false hs] at hnn
              refine iteDF (fun z => hs (by injection z with z; omega)) ?_
              exact hnn rfl _ _ (Grow.refl g1.gh)
          · intro G14 H14 acck g14 gD2 eD2 el2 er2
            have dk := fil_acc hln2 (p := fun p => decide (p.2.sort = 1)) (fun i r h => by simp only [h]) el2 er2
            rw [keys_fil] at dk
            have gk := gm.tr (g14.fix eD2 hD2 gD2)
            have nk : Same G14 (upd G14 D2 (.lst acck)) := fun b u e => by rw [upd_ne (ne_of_none e gD2)]; exact e
            have dkk : Dp K (upd G14 D2 (.lst acck)) (.ref D2) (chgsD PyData.int (keysOf all)) := .lstU upd_same (dk.mono nk)
            have s14 := g14.gg.trans nk
            generalize upd G14 D2 (.lst acck) = G15 at gk dkk s14
            have dmm15 := dmm.mono s14
            have dvo15 := dvo.mono (s12.trans s14)
            walk_at "s"
            intro x dx2 nx ndx2 ne2
            have nxd : x ≠ dx2 := fun z => ne2 z.symm
            have g16 := gk.put (o := .own x) (gk.gh.free ndx2) (.inl (gk.free0 ndx2))
            have g17 := g16.put (o := .ins A.cTune dx2 []) (gk.gh.free nx) (.inl (gk.free0 nx))
            refine ⟨G15, x, dx2, .ref D, .ref D2, .ref vo, metsOf all, keysOf all, vss, fs, rfl, g17.gh, gk.gh.free nx, upd_same, dmm15, dkk, dvo15, tn, fun G18 H18 vm vk vv vb g18 gx18 ex18 d1 d2 d3 d4 => ⟨rfl, ?_⟩⟩
            have g19 := g17.trD g18 (gk.free0 nx) ⟨_, upd_same⟩
            obtain ⟨g20, ta⟩ := TuneAt.mk (K := K) (A := A) (t := ⟨metsOf all, keysOf all, vss.map tidyL, fs⟩) g19 (gk.free0 nx) gx18 ex18 d1 d2 d3 d4
            exact q _ _ _ g20 ta
end
end BW
set_option Elab.async false
set_option linter.all false
set_option maxRecDepth 100000
set_option maxHeartbeats 4000000
set_option pp.maxSteps 3000
namespace BW
open PySem PySem.Spec PyProof.Rows L2
open C8 (Cal Met Mak pe_c pe_mk pe_mt pe_mt0 pe_gc sl_txt fnBody fnScope fnArgs)
local macro_rules | `(tactic| walk_at "v") => `(tactic| refine ⟨_, rfl, ?_⟩)
local macro_rules | `(tactic| walk_at "i2") => `(tactic| refine ⟨_, _, rfl, rfl, ?_⟩)
local macro_rules | `(tactic| walk_at "k") => `(tactic| exact (by decide +kernel))
local macro_rules | `(tactic| walk_at "s") => `(tactic| repeat (first | refine ⟨_, rfl, ?_⟩ | refine ⟨_, _, rfl, rfl, ?_⟩ | refine ⟨rfl, ?_⟩ | refine ⟨⟨_, rfl⟩, ?_⟩ | refine iteT ?_ | refine iteF ?_ | refine ⟨_, _, _, _, _, rfl, .ty _, tyI, kit_ty kit_int_int, ?_⟩ | refine ⟨_, _, _, _, _, rfl, .ty _, tyI, kit_ty kit_int_bool, ?_⟩ | refine ⟨_, _, _, _, _, rfl, .ty _, tyS, kit_ty kit_str_str, ?_⟩ | refine ⟨_, _, _, _, _, rfl, .ty _, tyB, kit_ty kit_bool_bool, ?_⟩ | refine ⟨_, _, _, _, _, rfl, by assumption, by assumption, by assumption, rfl, ?_⟩))
local macro_rules | `(tactic| walk_at "o") => `(tactic| repeat (first | refine ⟨_, rfl, ?_⟩ | refine ⟨_, _, rfl, rfl, ?_⟩ | refine ⟨rfl, ?_⟩ | refine ⟨⟨_, rfl⟩, ?_⟩ | refine iteT ?_ | refine iteF ?_ | refine ⟨_, _, _, _, _, rfl, .ty _, tyI, kit_ty kit_int_int, ?_⟩ | refine ⟨_, _, _, _, _, rfl, .ty _, tyI, kit_ty kit_int_bool, ?_⟩ | refine ⟨_, _, _, _, _, rfl, .ty _, tyS, kit_ty kit_str_str, ?_⟩ | refine ⟨_, _, _, _, _, rfl, .ty _, tyB, kit_ty kit_bool_bool, ?_⟩ | refine ⟨_, _, _, _, _, rfl, by assumption, by assumption, by assumption, rfl, ?_⟩ | refine iteDF (by omega) ?_ | refine iteD (by omega) ?_ | refine ⟨_, _, _, rfl, by omega, by omega, ?_⟩ | refine And.intro (by omega) ?_))

open SX (S)
open PySem.W (dataLe dataLt alike)
theorem dataLt_iis {x y x' y' : Int} {s s' : Str} (h : x ≠ x' ∨ y ≠ y') : dataLt (.tuple [.int x, .int y, .str s]) (.tuple [.int x', .int y', .str s']) = decide (x < x' ∨ x = x' ∧ y < y') := by
  rw [PySem.W.dataLt_tuple, PySem.W.dataLt_cons (by simp [alike]), PySem.W.dataLt_cons (by simp [alike]), PySem.W.dataLt_int, PySem.W.dataLt_int]
  simp only [PyData.eqv, beq_iff_eq]
  by_cases h1 : x = x'
  · by_cases h2 : y = y'
    · exact absurd h (by simp [h1, h2])
    · simp [h1, h2]
  · simp [h1]
def keyLt (a b : V × PyData) : Prop := ∃ (x y x' y' : Int) (s s' : Str), a.2 = .tuple [.int x, .int y, .str s] ∧ b.2 = .tuple [.int x', .int y', .str s'] ∧ (x < x' ∨ x = x' ∧ y < y')
theorem keyLt_le {a b : V × PyData} (h : keyLt a b) : dataLe false (fun b : V × PyData => b.2) a b = true ∧ dataLe false (fun b : V × PyData => b.2) b a = false := by
  obtain ⟨x, y, x', y', s, s', e1, e2, h⟩ := h
  rw [PySem.W.dataLe_eq]
  show (!dataLt b.2 a.2) = true ∧ (!dataLt a.2 b.2) = false
  rw [e1, e2, dataLt_iis (by omega), dataLt_iis (by omega)]
  constructor
  · rw [decide_eq_false (by omega)]; rfl
  · rw [decide_eq_true h]; rfl
theorem sort_is {bs m : List (V × PyData)} (hp : m.Perm bs) (hm : m.Pairwise keyLt) : bs.mergeSort (dataLe false (·.2)) = m := by
  have tot : PySem.W.TotalLe (dataLe false (fun b : V × PyData => b.2)) := PySem.W.sortLe_total _ _ _
  refine List.Perm.eq_of_pairwise (le := fun a b => dataLe false (fun b : V × PyData => b.2) a b = true) ?_ (PySem.W.sort_pairwise tot bs) (hm.imp fun h => (keyLt_le h).1) ((List.mergeSort_perm bs _).trans hp.symm)
  intro a b ha hb h1 h2
  have ha' : a ∈ m := hp.symm.subset ((List.mergeSort_perm bs _).subset ha)
  obtain ⟨i, hi, rfl⟩ := List.getElem_of_mem ha'
  obtain ⟨j, hj, rfl⟩ := List.getElem_of_mem hb
  rw [List.pairwise_iff_getElem] at hm
  rcases Nat.lt_trichotomy i j with h | h | h
  · have := (keyLt_le (hm i j hi hj h)).2
    rw [h2] at this
    cases this
  · subst h; rfl
  · have := (keyLt_le (hm j i hj hi h)).2
    rw [h1] at this
    cases this
/-! ### the rows of a text -/
def sndWs (amt : Nat → List Nat) : Snd → List (List Nat)
  | .rest n => [[114], amt n]
  | .tones ps n wd o c => TL.joinL [44] (ps.map pitC) :: amt n :: sigW o c wd
def chWs (p : Nat × What) : List (List Nat) := if 1 < p.1 then [[97, 116], TL.numL p.1, p.2.w, p.2.c] else [p.2.w, p.2.c]
def voiceR (amt : Nat → List Nat) (ss : List Snd) : List (List (List Nat)) := voW :: ss.map (sndWs amt)
def rowsW (amt : Nat → List Nat) (all : List (Nat × What)) (vss : List (List Snd)) : List (List (List Nat)) := all.map chWs ++ (vss.map (voiceR amt)).flatten
structure TxtOk (amt : Nat → List Nat) (all : List (Nat × What)) (vss : List (List Snd)) : Prop where
  ne : all ≠ []
  ch : ∀ c ∈ all, 1 ≤ c.1 ∧ c.1 ≤ 24 ∧ c.2.ok
  ln : all.length ≤ 100
  v2 : vss.length ≤ 2
  sl : ∀ ss ∈ vss, 1 ≤ ss.length ∧ ss.length ≤ 96
  ok : ∀ ss ∈ vss, ∀ s ∈ ss, SndOk s
  am : ∀ ss ∈ vss, ∀ s ∈ ss, AmtW (amt s.len) s.len
/-- a word: some signs, no space, no new row, not long -/
def WdOk (z : List Nat) : Prop := z ≠ [] ∧ 32 ∉ z ∧ 10 ∉ z ∧ z.length ≤ 100
theorem num_wd {n : Nat} (h : n < 10000) : WdOk (TL.numL n) := ⟨TL.numL_ne n, TL.numL_free (.inl (by decide)), TL.numL_free (.inl (by decide)), by have := numL_len4 h; omega⟩
theorem amt_wd {z : List Nat} {n : Nat} (h : AmtW z n) : WdOk z := by
  obtain ⟨t, b, _, h1, _, h2, _, _, (⟨rfl, _⟩ | rfl)⟩ := h
  · exact num_wd h1
  · obtain ⟨a1, a2, a3, a4⟩ := num_wd h1
    obtain ⟨b1, b2, b3, b4⟩ := num_wd h2
    have c1 := numL_len4 h1
    have c2 := numL_len4 h2
    refine ⟨by simp, fun hm => ?_, fun hm => ?_, by simp; omega⟩
    · rcases List.mem_append.mp hm with hm | hm
      · exact a2 hm
      · rcases List.mem_cons.mp hm with hm | hm
        · exact absurd hm (by decide)
        · exact b2 hm
    · rcases List.mem_append.mp hm with hm | hm
      · exact a3 hm
      · rcases List.mem_cons.mp hm with hm | hm
        · exact absurd hm (by decide)
        · exact b3 hm
theorem met_free {m : Met} {z : Nat} (hz : z < 48 ∨ 57 < z) (h1 : z ≠ 47) (h2 : z ≠ 58) (h3 : z ≠ 43) : z ∉ metC m := fun hm => by
  unfold metC at hm
  rcases List.mem_append.mp hm with hm | hm
  · exact TL.numL_free hz hm
  · rcases List.mem_cons.mp hm with hm | hm
    · exact h1 hm
    · rcases List.mem_append.mp hm with hm | hm
      · exact TL.numL_free hz hm
      · split at hm
        · cases hm
        · rcases List.mem_cons.mp hm with hm | hm
          · exact h2 hm
          · rcases mem_joinL hm with hm | ⟨x, hx, hm⟩
            · exact h3 (List.mem_singleton.mp hm)
            · obtain ⟨g, _, rfl⟩ := List.mem_map.mp hx
              exact TL.numL_free hz hm
theorem what_wd {x : What} (h : x.ok) : WdOk x.w ∧ WdOk x.c := by
  cases x with
  | met m =>
    refine ⟨(⟨by decide, by decide, by decide, by decide⟩ : WdOk [109, 101, 116, 114, 101]), ?_, ?_, ?_, metC_len h⟩
    · show metC m ≠ []
      unfold metC; simp
    · show 32 ∉ metC m
      exact met_free (.inl (by decide)) (by decide) (by decide) (by decide)
    · show 10 ∉ metC m
      exact met_free (.inl (by decide)) (by decide) (by decide) (by decide)
  | key k =>
    obtain ⟨h1, h2⟩ := h
    obtain ⟨a1, a2, a3, a4⟩ := num_wd (n := k.natAbs) (by omega)
    refine ⟨(⟨by decide, by decide, by decide, by decide⟩ : WdOk [107, 101, 121]), ?_⟩
    show WdOk (numC k)
    unfold numC
    by_cases hk : k < 0
    · rw [if_pos hk]
      have := numL_len4 (n := k.natAbs) (by omega)
      refine ⟨by simp, fun hm => ?_, fun hm => ?_, by simp; omega⟩
      · rcases List.mem_cons.mp hm with hm | hm
        · exact absurd hm (by decide)
        · exact a2 hm
      · rcases List.mem_cons.mp hm with hm | hm
        · exact absurd hm (by decide)
        · exact a3 hm
    · rw [if_neg hk]
      exact ⟨a1, a2, a3, a4⟩
theorem pitC_free {p : Pit} (h : PitOk p) : 32 ∉ pitC p ∧ 10 ∉ pitC p := by
  obtain ⟨h0, h1, h2, h3, h4, h5⟩ := h
  unfold pitC
  rcases step7 h0 h1 with e | e | e | e | e | e | e <;> rcases lean5 h2 h3 with f | f | f | f | f <;> rcases oct9 h4 h5 with g | g | g | g | g | g | g | g | g <;> rw [e, f, g] <;> decide
theorem pits_wd {ps : List Pit} (hne : ps ≠ []) (hl : ps.length ≤ 4) (h : ∀ p ∈ ps, PitOk p) : WdOk (TL.joinL [44] (ps.map pitC)) := by
  obtain ⟨c, r, e, _⟩ := pits_head hne
  refine ⟨by rw [e]; simp, fun hm => ?_, fun hm => ?_, ?_⟩
  · rcases mem_joinL hm with hm | ⟨x, hx, hm⟩
    · exact absurd hm (by decide)
    · obtain ⟨p, hp, rfl⟩ := List.mem_map.mp hx
      exact (pitC_free (h p hp)).1 hm
  · rcases mem_joinL hm with hm | ⟨x, hx, hm⟩
    · exact absurd hm (by decide)
    · obtain ⟨p, hp, rfl⟩ := List.mem_map.mp hx
      exact (pitC_free (h p hp)).2 hm
  · have := joinL_len (s := [44]) (B := 4) (l := ps.map pitC) fun x hx => by
      obtain ⟨p, hp, rfl⟩ := List.mem_map.mp hx
      rw [pitC_len]
      have := leanC_len (l := p.lean)
      omega
    rw [List.length_map] at this
    simp only [List.length_singleton] at this
    omega
theorem syll_wd {z : List Nat} (h : SyllOk z) : WdOk z := by
  obtain ⟨h1, h2, h3⟩ := h
  refine ⟨fun e => by rw [e] at h1; exact absurd h1 (by decide), fun hm => absurd (h3 32 hm) (by decide +kernel), fun hm => absurd (h3 10 hm) (by decide +kernel), by omega⟩
theorem sig_wd {o c : Bool} {wd : List Nat} (h : wd = [] ∨ SyllOk wd) : ∀ z ∈ sigW o c wd, WdOk z := by
  have ht : ∀ z ∈ tlW wd, WdOk z := fun z hz => by
    unfold tlW at hz
    split at hz
    · cases hz
    · rename_i hn
      rw [List.mem_singleton.mp hz]
      exact syll_wd (h.resolve_left hn)
  have hc : ∀ z ∈ cW c wd, WdOk z := fun z hz => by
    cases c with
    | true =>
      rcases List.mem_cons.mp hz with rfl | hz
      · exact ⟨by decide, by decide, by decide, by decide⟩
      · exact ht z hz
    | false => exact ht z hz
  intro z hz
  cases o with
  | true =>
    rcases List.mem_cons.mp hz with rfl | hz
    · exact ⟨by decide, by decide, by decide, by decide⟩
    · exact hc z hz
  | false => exact hc z hz
theorem sig_len {o c : Bool} {wd : List Nat} : (sigW o c wd).length ≤ 3 := by
  unfold sigW cW tlW
  split <;> split <;> split <;> simp
theorem rowOk_of {ws : List (List Nat)} (h : ∀ z ∈ ws, WdOk z) (h0 : ws ≠ []) (h1 : ws.length ≤ 9) : RowOk ws := ⟨h0, fun z hz => ⟨(h z hz).1, (h z hz).2.1, (h z hz).2.2.1⟩, by
  have := joinL_len (s := [32]) (B := 100) (l := ws) fun x hx => (h x hx).2.2.2
  simp only [List.length_singleton] at this
  omega⟩
theorem snd_rowOk {amt : Nat → List Nat} {s : Snd} (h : SndOk s) (ha : AmtW (amt s.len) s.len) : RowOk (sndWs amt s) ∧ SndW s (sndWs amt s) := by
  cases s with
  | rest n => exact ⟨rowOk_of (fun z hz => by
      rcases List.mem_cons.mp hz with rfl | hz
      · exact ⟨by decide, by decide, by decide, by decide⟩
      · rw [List.mem_singleton.mp hz]; exact amt_wd ha) (by unfold sndWs; simp) (by unfold sndWs; simp), ⟨_, ha, rfl⟩⟩
  | tones ps n wd o c =>
    have hne : ps ≠ [] := fun e => by have := h.p0; rw [e] at this; exact absurd this (by decide)
    refine ⟨rowOk_of (fun z hz => ?_) (by unfold sndWs; simp) (by have := sig_len (o := o) (c := c) (wd := wd); unfold sndWs; simp; omega), _, ha, hne, h.p1, h.p2, h.w0, rfl⟩
    rcases List.mem_cons.mp hz with rfl | hz
    · exact pits_wd hne h.p1 h.p2
    · rcases List.mem_cons.mp hz with rfl | hz
      · exact amt_wd ha
      · exact sig_wd h.w0 z hz
theorem ch_rowOk {p : Nat × What} (h : 1 ≤ p.1 ∧ p.1 ≤ 24 ∧ p.2.ok) : RowOk (chWs p) := by
  obtain ⟨a, b⟩ := what_wd h.2.2
  have hn := num_wd (n := p.1) (by omega)
  have hat : WdOk [97, 116] := ⟨by decide, by decide, by decide, by decide⟩
  unfold chWs
  split
  · exact rowOk_of (fun z hz => by
      simp only [List.mem_cons, List.not_mem_nil, or_false] at hz
      rcases hz with rfl | rfl | rfl | rfl <;> assumption) (by simp) (by simp)
  · exact rowOk_of (fun z hz => by
      simp only [List.mem_cons, List.not_mem_nil, or_false] at hz
      rcases hz with rfl | rfl <;> assumption) (by simp) (by simp)
theorem voice_len {amt : Nat → List Nat} {vss : List (List Snd)} (h2 : vss.length ≤ 2) (h : ∀ ss ∈ vss, ss.length ≤ 96) : ((vss.map (voiceR amt)).flatten).length ≤ 200 := by
  rw [List.length_flatten, List.map_map]
  have : ((vss.map (List.length ∘ voiceR amt))).sum ≤ 97 * vss.length := sum_le fun ss hs => by
    have := h ss hs
    show (voiceR amt ss).length ≤ 97
    unfold voiceR
    simp
    omega
  omega
theorem rowsW_ok {amt : Nat → List Nat} {all : List (Nat × What)} {vss : List (List Snd)} (h : TxtOk amt all vss) : RowsOk (rowsW amt all vss) := by
  refine ⟨?_, fun ws hw => ?_, ?_⟩
  · unfold rowsW
    intro e
    exact h.ne (List.map_eq_nil_iff.mp (List.append_eq_nil_iff.mp e).1)
  · rcases List.mem_append.mp hw with hw | hw
    · obtain ⟨p, hp, rfl⟩ := List.mem_map.mp hw
      exact ch_rowOk (h.ch p hp)
    · obtain ⟨l, hl, hw⟩ := List.mem_flatten.mp hw
      obtain ⟨ss, hss, rfl⟩ := List.mem_map.mp hl
      rcases List.mem_cons.mp hw with rfl | hw
      · exact rowOk_of (fun z hz => by rw [List.mem_singleton.mp hz]; exact ⟨by decide, by decide, by decide, by decide⟩) (by decide) (by decide)
      · obtain ⟨s, hs, rfl⟩ := List.mem_map.mp hw
        exact (snd_rowOk (h.ok ss hss s hs) (h.am ss hss s hs)).1
  · have h1 := h.ln
    have h2 := voice_len (amt := amt) h.v2 fun ss hs => (h.sl ss hs).2
    unfold rowsW
    rw [List.length_append, List.length_map]
    omega
theorem voicesW_flat {amt : Nat → List Nat} : ∀ (vss : List (List Snd)) (pre : List (List (List Nat))), (∀ ss ∈ vss, 1 ≤ ss.length ∧ ss.length ≤ 96) → (∀ ss ∈ vss, ∀ s ∈ ss, SndOk s) → (∀ ss ∈ vss, ∀ s ∈ ss, AmtW (amt s.len) s.len) → VoicesW (pre ++ (vss.map (voiceR amt)).flatten) pre.length vss
  | [], pre, _, _, _ => by
    show pre.length = _
    simp
  | ss :: vss, pre, h1, h2, h3 => by
    have ih := voicesW_flat vss (pre ++ voiceR amt ss) (fun x hx => h1 x (List.mem_cons_of_mem _ hx)) (fun x hx => h2 x (List.mem_cons_of_mem _ hx)) fun x hx => h3 x (List.mem_cons_of_mem _ hx)
    have el : (pre ++ voiceR amt ss).length = pre.length + 1 + ss.length := by
      unfold voiceR
      simp
      omega
    rw [el] at ih
    have e : pre ++ ((ss :: vss).map (voiceR amt)).flatten = (pre ++ voiceR amt ss) ++ (vss.map (voiceR amt)).flatten := by
      rw [List.map_cons, List.flatten_cons, List.append_assoc]
    rw [e]
    obtain ⟨l1, l2⟩ := h1 ss List.mem_cons_self
    refine ⟨⟨?_, fun z => by rw [z] at l1; exact absurd l1 (by decide), l2, fun i s hs => ?_, ?_⟩, ih⟩
    · rw [List.getElem?_append_left (by rw [el]; omega), List.getElem?_append_right (Nat.le_refl _), Nat.sub_self]
      rfl
    · have hi := (List.getElem?_eq_some_iff.mp hs).1
      refine ⟨sndWs amt s, ?_, (snd_rowOk (h2 ss List.mem_cons_self s (List.mem_of_getElem? hs)) (h3 ss List.mem_cons_self s (List.mem_of_getElem? hs))).2⟩
      rw [List.getElem?_append_left (by rw [el]; omega), List.getElem?_append_right (by omega), show pre.length + 1 + i - pre.length = i + 1 by omega]
      show (ss.map (sndWs amt))[i]? = _
      rw [List.getElem?_map, hs]
      rfl
    · cases vss with
      | nil =>
        refine .inl ?_
        rw [← el]
        simp
      | cons ss2 vss =>
        refine .inr ?_
        rw [← el, List.getElem?_append_right (Nat.le_refl _), Nat.sub_self]
        rfl
theorem textW_of {amt : Nat → List Nat} {m0 : Met} {k0 : Int} {chs : List (Nat × What)} {vss : List (List Snd)} (h : TxtOk amt ((1, .met m0) :: (1, .key k0) :: chs) vss) (h2 : ∀ c ∈ chs, 2 ≤ c.1) (hp : ((1, What.met m0) :: (1, What.key k0) :: chs).Pairwise ltW) :
    TextW (rowsW amt ((1, .met m0) :: (1, .key k0) :: chs) vss) m0 k0 chs vss where
  ok := rowsW_ok h
  r0 := rfl
  r1 := rfl
  hm := (h.ch _ List.mem_cons_self).2.2
  hk := (h.ch _ (List.mem_cons_of_mem _ List.mem_cons_self)).2.2
  ch i c hc := by
    have hm := List.mem_of_getElem? hc
    obtain ⟨_, a2, a3⟩ := h.ch c (List.mem_cons_of_mem _ (List.mem_cons_of_mem _ hm))
    refine ⟨?_, h2 c hm, a2, a3⟩
    have hi := (List.getElem?_eq_some_iff.mp hc).1
    unfold rowsW
    rw [List.getElem?_append_left (by simp; omega), List.getElem?_map, show 2 + i = i + 1 + 1 by omega]
    show (chs[i]?).map chWs = _
    rw [hc]
    show some (chWs c) = _
    unfold chWs
    rw [if_pos (by have := h2 c hm; omega)]
  rise i a b ha hb := by
    rw [List.pairwise_iff_getElem] at hp
    obtain ⟨h1, e1⟩ := List.getElem?_eq_some_iff.mp ha
    obtain ⟨h2, e2⟩ := List.getElem?_eq_some_iff.mp hb
    have := hp i (i + 1) h1 h2 (Nat.lt_succ_self _)
    rw [e1, e2] at this
    exact this
  vo := by
    have := voicesW_flat (amt := amt) vss (((1, What.met m0) :: (1, What.key k0) :: chs).map chWs) h.sl h.ok h.am
    rw [List.length_map, List.length_cons, List.length_cons, show chs.length + 1 + 1 = 2 + chs.length by omega] at this
    exact this
end BW
set_option Elab.async false
set_option linter.all false
set_option maxRecDepth 100000
set_option maxHeartbeats 4000000
set_option pp.maxSteps 3000
namespace BW
open PySem PySem.Spec PyProof.Rows L2
open C8 (Cal Met Mak pe_c pe_mk pe_mt pe_mt0 pe_gc sl_txt fnBody fnScope fnArgs)
local macro_rules | `(tactic| walk_at "v") => `(tactic| refine ⟨_, rfl, ?_⟩)
local macro_rules | `(tactic| walk_at "i2") => `(tactic| refine ⟨_, _, rfl, rfl, ?_⟩)
local macro_rules | `(tactic| walk_at "k") => `(tactic| exact (by decide +kernel))
local macro_rules | `(tactic| walk_at "s") => `(tactic| repeat (first | refine ⟨_, rfl, ?_⟩ | refine ⟨_, _, rfl, rfl, ?_⟩ | refine ⟨rfl, ?_⟩ | refine ⟨⟨_, rfl⟩, ?_⟩ | refine iteT ?_ | refine iteF ?_ | refine ⟨_, _, _, _, _, rfl, .ty _, tyI, kit_ty kit_int_int, ?_⟩ | refine ⟨_, _, _, _, _, rfl, .ty _, tyI, kit_ty kit_int_bool, ?_⟩ | refine ⟨_, _, _, _, _, rfl, .ty _, tyS, kit_ty kit_str_str, ?_⟩ | refine ⟨_, _, _, _, _, rfl, .ty _, tyB, kit_ty kit_bool_bool, ?_⟩ | refine ⟨_, _, _, _, _, rfl, by assumption, by assumption, by assumption, rfl, ?_⟩))
local macro_rules | `(tactic| walk_at "o") => `(tactic| repeat (first | refine ⟨_, rfl, ?_⟩ | refine ⟨_, _, rfl, rfl, ?_⟩ | refine ⟨rfl, ?_⟩ | refine ⟨⟨_, rfl⟩, ?_⟩ | refine iteT ?_ | refine iteF ?_ | refine ⟨_, _, _, _, _, rfl, .ty _, tyI, kit_ty kit_int_int, ?_⟩ | refine ⟨_, _, _, _, _, rfl, .ty _, tyI, kit_ty kit_int_bool, ?_⟩ | refine ⟨_, _, _, _, _, rfl, .ty _, tyS, kit_ty kit_str_str, ?_⟩ | refine ⟨_, _, _, _, _, rfl, .ty _, tyB, kit_ty kit_bool_bool, ?_⟩ | refine ⟨_, _, _, _, _, rfl, by assumption, by assumption, by assumption, rfl, ?_⟩ | refine iteDF (by omega) ?_ | refine iteD (by omega) ?_ | refine ⟨_, _, _, rfl, by omega, by omega, ?_⟩ | refine And.intro (by omega) ?_))

open SX (S)
theorem amtC_ok {n : Nat} (h1 : 1 ≤ n) (h2 : n ≤ 4608) : AmtW (amtC n) n := by
  have g0 : 0 < Nat.gcd n 96 := Nat.gcd_pos_of_pos_left _ (by omega)
  have d1 := Nat.gcd_dvd_left n 96
  have d2 := Nat.gcd_dvd_right n 96
  have l1 := Nat.div_le_self n (Nat.gcd n 96)
  have l2 := Nat.div_le_self 96 (Nat.gcd n 96)
  unfold amtC
  refine amtW_fracC (Nat.div_pos (Nat.le_of_dvd (by omega) d1) g0) (by omega) (Nat.div_pos (Nat.le_of_dvd (by omega) d2) g0) (by omega) ?_ h2
  rw [← Nat.mul_div_assoc _ d1, ← Nat.mul_div_assoc _ d2, Nat.mul_comm]
theorem snd_len {s : Snd} (h : SndOk s) : 2 ≤ s.len ∧ s.len ≤ 4608 := by
  cases s with
  | rest n => exact h
  | tones ps n wd o c => exact ⟨h.n0, Nat.le_trans h.n1 (by decide)⟩
section
variable {P : Program} {w : World} {K : PySem.W.Frag} {mg : Str → Option Value} {base : Heap} {A : Ad}
def sp_sound_row (K : PySem.W.Frag) : Sp := fun vs H Q _ => ∃ (v : V) (s : Snd), vs = [v] ∧ Dp K H v (sndD s) ∧ SndOk s ∧ ∀ H', Same H H' → Q (.str (S (TL.joinL [32] (sndWs amtC s)))) H'
theorem ok_sound_row (T : Txt w K mg A) : Cal P w K mg base 4 "sound_row" (sp_sound_row K) [] := by
  obtain ⟨f, d⟩ := T.d_sound_row
  refine cal_of d sc_sound_row (fun vs H Q E h => ?_) (fun cdv A' outer s H vs Q E hr h => ?_)
  · obtain ⟨v, s, rfl, _⟩ := h; rfl
  · obtain ⟨v, x, rfl, hv, ok, q⟩ := h
    have hlen := snd_len ok
    have ham := (amt_wd (amtC_ok (n := x.len) (by omega) hlen.2)).2.2.2
    refine ⟨_, (pss_cons (ps_if (pt_cmpR op_eq (pe_ix ix_tup (pv 0) pe_int (fun _ _ => rfl)) pe_str (nomark _)) (pss_one (ps_ret (pe_op op_add_str pe_str (pe_c (ok_amount_text T) hr (by decide) rfl (pa_cons (pe_ix ix_tup (pv 0) pe_int (fun _ _ => rfl)) pa_nil))))) pss_nil)
    (pss_cons (ps_set (i := 1) sc_sound_row.nd rfl (Or.inl rfl) (pe_op op_add_str (pe_op op_add_str (pe_join pe_str (pe_lc (own := [("pitch", 2)]) (g := (gName 2)) (tt := tYes) (by rfl) sc_sound_row.nd (pi_list (pe_ix ix_tup (pv 0) pe_int (fun _ _ => rfl))) (blkOk_by (N := N_sound_row) (sc := (defScope s_sound_row)) (by decide +kernel)) (fun _ _ _ _ _ => (pg_name (i := 2) sc_sound_row.nd rfl (Or.inl rfl))) (fun _ _ _ _ _ => pts_nil) (fun _ _ _ _ _ => (pe_c (ok_pitch_text T) hr (by decide) rfl (pa_cons (pv 2) pa_nil))))) pe_str) (pe_c (ok_amount_text T) hr (by decide) rfl (pa_cons (pe_ix ix_tup (pv 0) pe_int (fun _ _ => rfl)) pa_nil))))
    (pss_cons (ps_if (pt_val (pe_ix ix_tup (pv 0) pe_int (fun _ _ => rfl))) (pss_one (ps_aug (i := 1) sc_sound_row.nd rfl (Or.inl rfl) pe_str ip_add_str)) pss_nil)
    (pss_cons (ps_if (pt_val (pe_ix ix_tup (pv 0) pe_int (fun _ _ => rfl))) (pss_one (ps_aug (i := 1) sc_sound_row.nd rfl (Or.inl rfl) pe_str ip_add_str)) pss_nil)
    (pss_cons (ps_if (pt_cmpR op_ne (pe_ix ix_tup (pv 0) pe_int (fun _ _ => rfl)) pe_str (nomark _)) (pss_one (ps_aug (i := 1) sc_sound_row.nd rfl (Or.inl rfl) (pe_op op_add_str pe_str (pe_ix ix_tup (pv 0) pe_int (fun _ _ => rfl))) ip_add_str)) pss_nil)
    (pss_one (ps_ret (pv 1)))))))), ?_⟩
    walk_at "s"
    cases x with
    | rest n =>
      obtain ⟨a, rfl, ht⟩ := dpRest hv
      have hlen : 2 ≤ n ∧ n ≤ 4608 := hlen
      have ham : (amtC n).length ≤ 100 := ham
      refine ⟨_, _, _, _, rfl, rfl, ht, atI_0, ?_⟩
      walk_at "s"
      refine ⟨_, _, _, _, rfl, rfl, ht, atI_1, ?_⟩
      walk_at "s"
      refine ⟨by omega, by omega, fun H1 s1 => ?_⟩
      rw [lit_ "r " [114, 32] (by decide +kernel)]
      refine ⟨_, _, rfl, rfl, sz (by simp only [S_len', List.length_append, List.length_cons, List.length_nil]; omega), ?_⟩
      rw [SX.S_cat]
      exact q _ s1
    | tones ps n wd o c =>
      obtain ⟨a, pl, rfl, ht, hpl⟩ := dpTones hv
      have hlen : 2 ≤ n ∧ n ≤ 4608 := hlen
      have ham : (amtC n).length ≤ 100 := ham
      have hne : ps ≠ [] := fun e => by have := ok.p0; rw [e] at this; exact absurd this (by decide)
      have hjl := (pits_wd hne ok.p1 ok.p2).2.2.2
      have hp1 := ok.p1
      have hwl : wd.length ≤ 12 := by
        rcases ok.w0 with rfl | h
        · exact Nat.zero_le _
        · exact h.2.1
      obtain ⟨pa, pvs, rfl, hpv, hdp⟩ := dpL hpl
      have hplen := hdp.len
      rw [List.length_map] at hplen
      refine ⟨_, _, _, _, rfl, rfl, ht, atI_0, ?_⟩
      walk_at "s"
      refine ⟨_, _, _, _, rfl, rfl, ht, atI_1, ?_⟩
      walk_at "s"
      refine ⟨⟨_, hpv⟩, fun D hD => ?_⟩
      refine lc_pure walk_list hD (Same.refl H) (fun _ i v => ∃ z, ps[i]? = some z ∧ v = .str (S (pitC z))) (by omega) (fun _ _ _ _ _ h => h) (fun G1 H1 g1 => g1.same.seq hpv) ?_ ?_
      · rintro i v G1 H1 H1' hi g1 ⟨rfl, hx⟩ Q' hq
        obtain ⟨z, hz, hd⟩ := ps_at hdp hx
        refine ⟨rfl, ?_⟩
        walk_at "s"
        refine ⟨_, z, rfl, hd.mono g1.same, ok.p2 z (List.mem_of_getElem? hz), ?_⟩
        exact hq _ _ _ (Grow.refl g1.gh) ⟨z, hz, rfl⟩
      · intro G' H' acc g' gD eD el er
        have eacc : acc = ((ps.map pitC).map S).map V.str := by
          refine List.ext_getElem? fun i => ?_
          by_cases hi : i < acc.length
          · obtain ⟨z, hz, e⟩ := er i _ (List.getElem?_eq_getElem hi)
            rw [List.getElem?_eq_getElem hi, e]
            simp [hz]
          · rw [List.getElem?_eq_none (by omega), List.getElem?_eq_none (by simp; omega)]
        rw [eacc] at eD
        have sH := g'.same
        refine ⟨_, D, (ps.map pitC).map S, rfl, rfl, .inl (sqlU eD), ?_, ?_⟩
        · rw [SX.lens, List.length_map]
          have : ((ps.map pitC).map (·.length)).sum ≤ 4 * (ps.map pitC).length := sum_le fun x hx => by
            obtain ⟨g, hg, rfl⟩ := List.mem_map.mp hx
            rw [pitC_len]
            have := leanC_len (l := g.lean)
            omega
          rw [List.length_map] at this ⊢
          have e1 : (Str.ofString ",").length = 1 := by decide +kernel
          rw [e1]
          omega
        rw [lit_ "," [44] (by decide +kernel), lit_ " " [32] (by decide +kernel), lit_ " (" [32, 40] (by decide +kernel), lit_ " )" [32, 41] (by decide +kernel), SX.join_S]
        refine ⟨_, _, rfl, rfl, sz (by simp only [S_len', List.length_append, List.length_cons, List.length_nil]; omega), ?_⟩
        rw [SX.S_cat]
        walk_at "s"
        refine ⟨_, _, _, _, rfl, rfl, sqT_mono sH ht, atI_2, ?_⟩
        walk_at "s"
        refine ⟨by omega, by omega, fun H1 s1 => ?_⟩
        have sH1 := sH.trans s1
        refine ⟨_, _, rfl, rfl, sz (by simp only [S_len', List.length_append, List.length_cons, List.length_nil]; omega), ?_⟩
        rw [SX.S_cat]
        cases o <;> cases c
        all_goals
          walk_at "s"
          refine ⟨_, _, _, _, rfl, rfl, sqT_mono sH1 ht, atI_4, ?_⟩
          walk_at "s"
          first
          | (refine ⟨_, _, _, _, rfl, rfl, sqT_mono sH1 ht, atI_5, ?_⟩)
          | (refine ⟨sz (by simp only [S_len', List.length_append, List.length_cons, List.length_nil]; omega), ?_⟩
             rw [SX.S_cat]
             walk_at "s"
             refine ⟨_, _, _, _, rfl, rfl, sqT_mono sH1 ht, atI_5, ?_⟩)
          walk_at "s"
          first
          | (refine ⟨_, _, _, _, rfl, rfl, sqT_mono sH1 ht, atI_3, ?_⟩)
          | (refine ⟨sz (by simp only [S_len', List.length_append, List.length_cons, List.length_nil]; omega), ?_⟩
             rw [SX.S_cat]
             walk_at "s"
             refine ⟨_, _, _, _, rfl, rfl, sqT_mono sH1 ht, atI_3, ?_⟩)
          rw [lit_ "" [] (by decide +kernel)]
          walk_at "s"
          by_cases hn : wd = []
          · subst hn
            refine iteN rfl ?_
            walk_at "s"
            exact Eq.mp (congrArg (fun z => Q (.str (S z)) H1) (by simp [sndWs, sigW, cW, tlW, TL.joinL])) (q _ sH1)
          · refine iteNF (fun z => hn (SX.S_inj (by injection z))) ?_
            walk_at "s"
            refine ⟨_, _, _, _, rfl, rfl, sqT_mono sH1 ht, atI_3, ?_⟩
            refine ⟨_, _, rfl, rfl, sz (by simp only [S_len', List.length_append, List.length_cons, List.length_nil]; omega), ?_⟩
            rw [SX.S_cat]
            refine ⟨_, _, rfl, rfl, sz (by simp only [S_len', List.length_append, List.length_cons, List.length_nil]; omega), ?_⟩
            rw [SX.S_cat]
            walk_at "s"
            exact Eq.mp (congrArg (fun z => Q (.str (S z)) H1) (by simp [sndWs, sigW, cW, tlW, TL.joinL, hn])) (q _ sH1)
end
end BW
set_option Elab.async false
set_option linter.all false
set_option maxRecDepth 100000
set_option maxHeartbeats 4000000
set_option pp.maxSteps 3000
namespace BW
open PySem PySem.Spec PyProof.Rows L2
open C8 (Cal Met Mak pe_c pe_mk pe_mt pe_mt0 pe_gc sl_txt fnBody fnScope fnArgs)
local macro_rules | `(tactic| walk_at "v") => `(tactic| refine ⟨_, rfl, ?_⟩)
local macro_rules | `(tactic| walk_at "i2") => `(tactic| refine ⟨_, _, rfl, rfl, ?_⟩)
local macro_rules | `(tactic| walk_at "k") => `(tactic| exact (by decide +kernel))
local macro_rules | `(tactic| walk_at "s") => `(tactic| repeat (first | refine ⟨_, rfl, ?_⟩ | refine ⟨_, _, rfl, rfl, ?_⟩ | refine ⟨rfl, ?_⟩ | refine ⟨⟨_, rfl⟩, ?_⟩ | refine iteT ?_ | refine iteF ?_ | refine ⟨_, _, _, _, _, rfl, .ty _, tyI, kit_ty kit_int_int, ?_⟩ | refine ⟨_, _, _, _, _, rfl, .ty _, tyI, kit_ty kit_int_bool, ?_⟩ | refine ⟨_, _, _, _, _, rfl, .ty _, tyS, kit_ty kit_str_str, ?_⟩ | refine ⟨_, _, _, _, _, rfl, .ty _, tyB, kit_ty kit_bool_bool, ?_⟩ | refine ⟨_, _, _, _, _, rfl, by assumption, by assumption, by assumption, rfl, ?_⟩))
local macro_rules | `(tactic| walk_at "o") => `(tactic| repeat (first | refine ⟨_, rfl, ?_⟩ | refine ⟨_, _, rfl, rfl, ?_⟩ | refine ⟨rfl, ?_⟩ | refine ⟨⟨_, rfl⟩, ?_⟩ | refine iteT ?_ | refine iteF ?_ | refine ⟨_, _, _, _, _, rfl, .ty _, tyI, kit_ty kit_int_int, ?_⟩ | refine ⟨_, _, _, _, _, rfl, .ty _, tyI, kit_ty kit_int_bool, ?_⟩ | refine ⟨_, _, _, _, _, rfl, .ty _, tyS, kit_ty kit_str_str, ?_⟩ | refine ⟨_, _, _, _, _, rfl, .ty _, tyB, kit_ty kit_bool_bool, ?_⟩ | refine ⟨_, _, _, _, _, rfl, by assumption, by assumption, by assumption, rfl, ?_⟩ | refine iteDF (by omega) ?_ | refine iteD (by omega) ?_ | refine ⟨_, _, _, rfl, by omega, by omega, ?_⟩ | refine And.intro (by omega) ?_))

open SX (S)
def whatT (x : What) : List Nat := TL.joinL [32] [x.w, x.c]
def txtD (p : Nat × What) : PyData := .tuple [.int p.1, .int p.2.sort, .str (S (whatT p.2))]
def weave : List (Nat × What) → List V → List V → List (V × PyData)
  | (b, .met m) :: r, u :: um, uk => (u, txtD (b, .met m)) :: weave r um uk
  | (b, .key k) :: r, um, u :: uk => (u, txtD (b, .key k)) :: weave r um uk
  | _, _, _ => []
def mT (p : Nat × Met) : PyData := txtD (p.1, .met p.2)
def kT (p : Nat × Int) : PyData := txtD (p.1, .key p.2)
theorem weave_perm : ∀ (all : List (Nat × What)) (um uk : List V), um.length = (metsOf all).length → uk.length = (keysOf all).length → (weave all um uk).Perm (um.zip ((metsOf all).map mT) ++ uk.zip ((keysOf all).map kT)) ∧ (weave all um uk).map (·.2) = all.map txtD
  | [], [], [], _, _ => ⟨.refl _, rfl⟩
  | [], _ :: _, _, h, _ => by cases h
  | [], [], _ :: _, _, h => by cases h
  | (b, .met m) :: r, [], _, h, _ => by cases h
  | (b, .met m) :: r, u :: um, uk, h1, h2 => by
    obtain ⟨h3, h4⟩ := weave_perm r um uk (by simpa [metsOf] using h1) (by simpa [keysOf] using h2)
    refine ⟨h3.cons _, ?_⟩
    show _ :: (weave r um uk).map (·.2) = _
    rw [h4]
    rfl
  | (b, .key k) :: r, um, [], _, h => by cases h
  | (b, .key k) :: r, um, u :: uk, h1, h2 => by
    obtain ⟨h3, h4⟩ := weave_perm r um uk (by simpa [metsOf] using h1) (by simpa [keysOf] using h2)
    have e : weave ((b, .key k) :: r) um (u :: uk) = (u, txtD (b, .key k)) :: weave r um uk := by
      cases um <;> rfl
    rw [e]
    refine ⟨?_, ?_⟩
    · exact (h3.cons _).trans List.perm_middle.symm
    · show _ :: (weave r um uk).map (·.2) = _
      rw [h4]
      rfl
theorem weave_lt {all : List (Nat × What)} {um uk : List V} (h1 : um.length = (metsOf all).length) (h2 : uk.length = (keysOf all).length) (hp : all.Pairwise ltW) : (weave all um uk).Pairwise keyLt := by
  obtain ⟨_, h⟩ := weave_perm all um uk h1 h2
  have hq : ((weave all um uk).map (·.2)).Pairwise fun d d' => keyLt (.non, d) (.non, d') := by
    rw [h]
    refine List.Pairwise.map txtD (fun a b hab => ?_) hp
    refine ⟨a.1, a.2.sort, b.1, b.2.sort, _, _, rfl, rfl, ?_⟩
    rcases hab with h | ⟨h1, h2⟩
    · left; omega
    · right; exact ⟨by omega, by omega⟩
  rw [List.pairwise_map] at hq
  exact hq
theorem map_fst_zip' {α β : Type} : ∀ {a : List α} {b : List β}, a.length = b.length → (a.zip b).map (·.1) = a
  | [], [], _ => rfl
  | x :: a, y :: b, h => by
    show x :: (a.zip b).map (·.1) = _
    rw [map_fst_zip' (by simpa using h)]
  | [], _ :: _, h => by cases h
  | _ :: _, [], h => by cases h
theorem zip_dp {K : PySem.W.Frag} {H : Hp} : ∀ {vs : List V} {ds : List PyData}, DpAll K H vs ds → ∀ b ∈ vs.zip ds, Dp K H b.1 b.2
  | _, _, .nil, b, hb => by cases hb
  | _, _, .cons h t, b, hb => by
    rcases List.mem_cons.mp hb with rfl | hb
    · exact h
    · exact zip_dp t b hb
theorem whatT_len {x : What} (h : x.ok) : (whatT x).length ≤ 300 := by
  obtain ⟨a, b⟩ := what_wd h
  unfold whatT
  have a4 := a.2.2.2
  have b4 := b.2.2.2
  simp [TL.joinL]
  omega
theorem mem_ch {all : List (Nat × What)} : (∀ p ∈ metsOf all, (p.1, What.met p.2) ∈ all) ∧ ∀ p ∈ keysOf all, (p.1, What.key p.2) ∈ all := by
  induction all with
  | nil => exact ⟨fun p h => (by cases h), fun p h => (by cases h)⟩
  | cons a r ih =>
    obtain ⟨b, x⟩ := a
    cases x with
    | met m =>
      refine ⟨fun p h => ?_, fun p h => List.mem_cons_of_mem _ (ih.2 p h)⟩
      rcases List.mem_cons.mp h with rfl | h
      · exact List.mem_cons_self
      · exact List.mem_cons_of_mem _ (ih.1 p h)
    | key m =>
      refine ⟨fun p h => List.mem_cons_of_mem _ (ih.1 p h), fun p h => ?_⟩
      rcases List.mem_cons.mp h with rfl | h
      · exact List.mem_cons_self
      · exact List.mem_cons_of_mem _ (ih.2 p h)
theorem len_ch {all : List (Nat × What)} : (metsOf all).length + (keysOf all).length = all.length := by
  induction all with
  | nil => rfl
  | cons a r ih =>
    obtain ⟨b, x⟩ := a
    cases x <;> simp [metsOf, keysOf] <;> omega
theorem chT {p : Nat × What} : TL.joinL [32] (chWs p) = if 1 < p.1 then [97, 116, 32] ++ TL.numL p.1 ++ [32] ++ whatT p.2 else whatT p.2 := by
  unfold chWs whatT
  split <;> simp [TL.joinL]
theorem rows_take {amt : Nat → List Nat} {vss : List (List Snd)} {j : Nat} {ss : List Snd} (h : vss[j]? = some ss) : ((vss.take (j + 1)).map (voiceR amt)).flatten = ((vss.take j).map (voiceR amt)).flatten ++ voiceR amt ss := by
  rw [List.take_add_one, h, List.map_append, List.flatten_append]
  simp
section
variable {P : Program} {w : World} {K : PySem.W.Frag} {mg : Str → Option Value} {base : Heap} {A : Ad}
def sp_tune_text (K : PySem.W.Frag) (A : Ad) : Sp := fun vs H Q _ => ∃ (G : Hp) (v : V) (t : Tn) (all : List (Nat × What)), vs = [v] ∧ Same G H ∧ TuneAt K A G v t ∧ t.ms = metsOf all ∧ t.ks = keysOf all ∧ all.Pairwise ltW ∧ TxtOk amtC all t.vss ∧
  ∀ H', Same H H' → Q (.str (S (textC (rowsW amtC all t.vss)))) H'
theorem ok_tune_text (T : Txt w K mg A) : Cal P w K mg base 5 "tune_text" (sp_tune_text K A) [] := by
  obtain ⟨f, d⟩ := T.d_tune_text
  refine cal_of d sc_tune_text (fun vs H Q E h => ?_) (fun cdv A' outer s H vs Q E hr h => ?_)
  · obtain ⟨G, v, t, all, rfl, _⟩ := h; rfl
  · obtain ⟨G, v, t, all, rfl, sm, ta, ems, eks, hpw, ok, q⟩ := h
    have hln := ok.ln
    have hlc := len_ch (all := all)
    have hv2 := ok.v2
    have ta2 := ta
    obtain ⟨ad, dx, vm, vk, vv, vb, hv, hob, _⟩ := ta2
    subst hv
    refine ⟨_, (pss_cons (ps_setLc (i := 2) (own := [("bar", 1), ("metre", 7)]) (g := (gTup K 2 (gCons (gName 1) (gCons (gName 7) gNil)))) (tt := tYes) (by rfl) sc_tune_text.nd rfl rfl (sw_true rfl rfl rfl (by decide +kernel)) (pi_list (pe_mt0 (mt_Tune_metres_told T) hr (by decide) (pv 0))) (blkOk_by (N := N_tune_text) (sc := (defScope s_tune_text)) (by decide +kernel)) (fun _ _ _ _ _ => (pg_tup rfl (pgs_cons (pg_name (i := 1) sc_tune_text.nd rfl (Or.inl rfl)) (pgs_cons (pg_name (i := 7) sc_tune_text.nd rfl (Or.inl rfl)) pgs_nil)))) (fun _ _ _ _ _ => pts_nil) (fun _ _ _ _ _ => (pe_tup (pa_cons (pv 1) (pa_cons pe_int (pa_cons (pe_op op_add_str pe_str (pe_c (ok_metre_text T) hr (by decide) rfl (pa_cons (pv 7) pa_nil))) pa_nil))))))
    (pss_cons (ps_expr (pe_bm PySem.F.plainAttrs_list PySem.F.slot_list_extend PySem.F.type_list_extend mt_extend (pv 2) (pa_cons (pe_lc (own := [("bar", 1), ("key", 8)]) (g := (gTup K 2 (gCons (gName 1) (gCons (gName 8) gNil)))) (tt := tYes) (by rfl) sc_tune_text.nd (pi_list (pe_mt0 (mt_Tune_keys_told T) hr (by decide) (pv 0))) (blkOk_by (N := N_tune_text) (sc := (defScope s_tune_text)) (by decide +kernel)) (fun _ _ _ _ _ => (pg_tup rfl (pgs_cons (pg_name (i := 1) sc_tune_text.nd rfl (Or.inl rfl)) (pgs_cons (pg_name (i := 8) sc_tune_text.nd rfl (Or.inl rfl)) pgs_nil)))) (fun _ _ _ _ _ => pts_nil) (fun _ _ _ _ _ => (pe_tup (pa_cons (pv 1) (pa_cons pe_int (pa_cons (pe_op op_add_str pe_str (pe_c (ok_number_text T) hr (by decide) rfl (pa_cons (pv 8) pa_nil))) pa_nil)))))) pa_nil)))
    (pss_cons (ps_set (i := 3) sc_tune_text.nd rfl (Or.inl rfl) (pe_lst pa_nil))
    (pss_cons (ps_for PassesOwn.never rfl (pi_list (pe_callB (cr_sortedD rfl hr.units) (by rfl) T.n_sorted boot_sorted_ (pa_cons (pv 2) pa_nil))) (pg_tup rfl (pgs_cons (pg_name (i := 1) sc_tune_text.nd rfl (Or.inl rfl)) (pgs_cons (pg_name (i := 4) sc_tune_text.nd rfl (Or.inl rfl)) (pgs_cons (pg_name (i := 5) sc_tune_text.nd rfl (Or.inl rfl)) pgs_nil)))) (pss_cons (ps_if (pt_cmpR op_gt (pv 1) pe_int (nomark _)) (pss_one (ps_set (i := 5) sc_tune_text.nd rfl (Or.inl rfl) (pe_op op_add_str (pe_op op_add_str (pe_op op_add_str pe_str (pe_c (ok_number_text T) hr (by decide) rfl (pa_cons (pv 1) pa_nil))) pe_str) (pv 5)))) pss_nil)
      (pss_one (ps_expr (pe_bm PySem.F.plainAttrs_list PySem.F.slot_list_append PySem.F.type_list_append mt_append (pv 3) (pa_cons (pv 5) pa_nil))))))
    (pss_cons (ps_for PassesOwn.never rfl (pi_range1 (by rfl) T.n_range (pa_cons (pe_mt0 (mt_Tune_many T) hr (by decide) (pv 0)) pa_nil)) (pg_name (i := 6) sc_tune_text.nd rfl (Or.inl rfl)) (pss_cons (ps_expr (pe_bm PySem.F.plainAttrs_list PySem.F.slot_list_append PySem.F.type_list_append mt_append (pv 3) (pa_cons pe_str pa_nil)))
      (pss_one (ps_expr (pe_bm PySem.F.plainAttrs_list PySem.F.slot_list_extend PySem.F.type_list_extend mt_extend (pv 3) (pa_cons (pe_lc (own := [("told", 9)]) (g := (gName 9)) (tt := tYes) (by rfl) sc_tune_text.nd (pi_list (pe_mt (mt_Tune_sounds_told T) hr (by decide) (pv 0) (pa_cons (pe_op op_add (pv 6) pe_int) pa_nil))) (blkOk_by (N := N_tune_text) (sc := (defScope s_tune_text)) (by decide +kernel)) (fun _ _ _ _ _ => (pg_name (i := 9) sc_tune_text.nd rfl (Or.inl rfl))) (fun _ _ _ _ _ => pts_nil) (fun _ _ _ _ _ => (pe_c (ok_sound_row T) hr (by decide) rfl (pa_cons (pv 9) pa_nil)))) pa_nil))))))
    (pss_one (ps_ret (pe_join pe_str (pv 3))))))))), ?_⟩
    walk_at "s"
    refine ⟨ad, dx, _, rfl, sm _ _ hob, rfl, ?_⟩
    refine ⟨G, _, t, rfl, sm, ta, fun G1 H1 z g1 hz => ?_⟩
    have hz : Dp K G1 z (chgsD metD t.ms) := hz
    rw [ems] at hz
    obtain ⟨am, xm, rfl, hlm, rm⟩ := dpL hz
    have elm := rm.len
    rw [List.length_map] at elm
    walk_at "s"
    refine ⟨⟨_, g1.gh.seq hlm⟩, fun D hD => ?_⟩
    refine lc_pure walk_list hD g1.gh (fun G i v => ∃ p, (metsOf all)[i]? = some p ∧ Dp K G v (mT p)) (by omega) (fun _ _ _ _ e ⟨s, h1, h2⟩ => ⟨s, h1, h2.mono e⟩) (fun G2 H2 g2 => g2.s0.seq hlm) ?_ ?_
    · rintro i v G2 H2 H2' hi g2 ⟨rfl, hx⟩ Q' hq
      obtain ⟨p, hp, tt, y, rfl, ht, hy⟩ := chg_at rm hx
      have hok := (ok.ch _ (mem_ch.1 p (List.mem_of_getElem? hp))).2.2
      have hwl := whatT_len hok
      refine ⟨tt, _, rfl, sqT_mono g2.s0 ht, rfl, _, _, rfl, _, _, rfl, rfl, ?_⟩
      refine ⟨rfl, ?_⟩
      walk_at "s"
      refine ⟨_, p.2, rfl, hy.mono g2.s0, hok, fun H3 s3 => ?_⟩
      rw [lit_ "metre " [109, 101, 116, 114, 101, 32] (by decide +kernel)]
      refine ⟨_, _, rfl, rfl, sz (by have := metC_len hok; simp only [S_len', List.length_append, List.length_cons, List.length_nil]; omega), ?_⟩
      rw [SX.S_cat]
      refine ⟨by show 3 ≤ sizeLine; decide, fun pt hpt => ?_⟩
      have g3 := (Grow.of_same (M := No) g2.gh s3).immN (o := .tup [.int p.1, .int 0, .str (S ([109, 101, 116, 114, 101, 32] ++ metC p.2))]) hpt
      exact hq _ _ _ g3 ⟨p, hp, .tupU upd_same (.cons (.int _) (.cons (.int _) (.cons (.str _) .nil)))⟩
    · intro G2 H2 accm g2 gD eD elm2 erm
      walk_at "s"
      refine ⟨.inl ⟨rfl, _, sqlU eD⟩, ?_⟩
      have g12 := g1.tr g2
      walk_at "s"
      refine ⟨ad, dx, _, rfl, g12.s0 _ _ hob, rfl, ?_⟩
      refine ⟨G2, _, t, rfl, g12.gh, ta.mono g12.gg, fun G3 H3 z g3 hz3 => ?_⟩
      have hz3 : Dp K G3 z (chgsD PyData.int t.ks) := hz3
      rw [eks] at hz3
      obtain ⟨ak, xk, rfl, hlk, rk⟩ := dpL hz3
      have elk := rk.len
      rw [List.length_map] at elk
      have eD3 := g3.same _ _ eD
      have gD3 := g3.fr _ _ eD gD
      walk_at "s"
      refine ⟨⟨_, g3.gh.seq hlk⟩, fun D2 hD2 => ?_⟩
      refine lc_pure walk_list hD2 g3.gh (fun G i v => ∃ p, (keysOf all)[i]? = some p ∧ Dp K G v (kT p)) (by omega) (fun _ _ _ _ e ⟨s, h1, h2⟩ => ⟨s, h1, h2.mono e⟩) (fun G2 H2 g2 => g2.s0.seq hlk) ?_ ?_
      · rintro i v G4 H4 H4' hi g4 ⟨rfl, hx⟩ Q' hq
        obtain ⟨p, hp, tt, y, rfl, ht, hy⟩ := chg_at rk hx
        have hok := (ok.ch _ (mem_ch.2 p (List.mem_of_getElem? hp))).2.2
        have hwl := whatT_len hok
        cases dpI hy
        obtain ⟨k1, k2⟩ := hok
        refine ⟨tt, _, rfl, sqT_mono g4.s0 ht, rfl, _, _, rfl, _, _, rfl, rfl, ?_⟩
        refine ⟨rfl, ?_⟩
        walk_at "s"
        refine ⟨by omega, by omega, ?_⟩
        have hcl := (what_wd (x := .key p.2) ⟨k1, k2⟩).2.2.2.2
        have hcl : (numC p.2).length ≤ 100 := hcl
        rw [lit_ "key " [107, 101, 121, 32] (by decide +kernel)]
        refine ⟨_, _, rfl, rfl, sz (by simp only [S_len', List.length_append, List.length_cons, List.length_nil]; omega), ?_⟩
        rw [SX.S_cat]
        refine ⟨by show 3 ≤ sizeLine; decide, fun pt hpt => ?_⟩
        have g5 := (Grow.refl (M := No) g4.gh).immN (o := .tup [.int p.1, .int 1, .str (S ([107, 101, 121, 32] ++ numC p.2))]) hpt
        exact hq _ _ _ g5 ⟨p, hp, .tupU upd_same (.cons (.int _) (.cons (.int _) (.cons (.str _) .nil)))⟩
      · intro G4 H4 acck g4 gD2 eD2 elk2 erk
        have g34 := g3.tr g4
        have eD4 := g4.same _ _ eD3
        have gD4 := g4.fr _ _ eD3 gD3
        walk_at "s"
        refine ⟨D, D2, accm, acck, rfl, rfl, eD4, eD2, sz (by omega), ?_⟩
        have hHD : H D = none := g1.free0 hD
        have g5 := ((g12.tr g34).put (o := .lst (accm ++ acck)) gD4 (.inl hHD)).fix upd_same hHD gD4
        have n5 : Same G4 (upd G4 D (.lst (accm ++ acck))) := fun b u e => by rw [upd_ne (ne_of_none e gD4)]; exact e
        have dm : DpAll K (upd G4 D (.lst (accm ++ acck))) accm ((metsOf all).map mT) := DpAll.of (by rw [List.length_map]; omega) fun i v hv => by
          obtain ⟨p, hp, hd⟩ := erm i v hv
          exact ⟨mT p, by rw [List.getElem?_map, hp]; rfl, hd.mono (g34.gg.trans n5)⟩
        have dk : DpAll K (upd G4 D (.lst (accm ++ acck))) acck ((keysOf all).map kT) := DpAll.of (by rw [List.length_map]; omega) fun i v hv => by
          obtain ⟨p, hp, hd⟩ := erk i v hv
          exact ⟨kT p, by rw [List.getElem?_map, hp]; rfl, hd.mono n5⟩
        have kD : (upd G4 D (.lst (accm ++ acck))) D = some (.lst (accm ++ acck)) := upd_same
        generalize upd G4 D (.lst (accm ++ acck)) = G5 at g5 dm dk kD
        generalize upd H4 D (.lst (accm ++ acck)) = H5 at g5 ⊢
        walk_at "s"
        refine ⟨Nat.zero_le _, fun ro hro => ?_⟩
        have gro := g5.gh.free hro
        have hHro : H ro = none := g5.free0 hro
        have g6 := g5.put (o := .lst []) gro (.inl hHro)
        have kro : (upd H5 ro (.lst [])) ro = some (.lst []) := upd_same
        generalize upd H5 ro (.lst []) = H6 at g6 kro ⊢
        walk_at "s"
        obtain ⟨hperm, hsnd⟩ := weave_perm all accm acck (by omega) (by omega)
        have hlt := weave_lt (um := accm) (uk := acck) (by omega) (by omega) hpw
        have hlm : accm.length = ((metsOf all).map mT).length := by rw [List.length_map]; omega
        have hlk : acck.length = ((keysOf all).map kT).length := by rw [List.length_map]; omega
        have hdp : ∀ b ∈ accm.zip ((metsOf all).map mT) ++ acck.zip ((keysOf all).map kT), Dp K G5 b.1 b.2 := fun b hb => by
          rcases List.mem_append.mp hb with hb | hb
          · exact zip_dp dm b hb
          · exact zip_dp dk b hb
        have hshape : ∀ b ∈ accm.zip ((metsOf all).map mT) ++ acck.zip ((keysOf all).map kT), ∃ p, b.2 = txtD p := fun b hb => by
          have hm : b.2 ∈ all.map txtD := by
            rw [← hsnd]
            exact List.mem_map.mpr ⟨b, hperm.symm.subset hb, rfl⟩
          obtain ⟨p, _, e⟩ := List.mem_map.mp hm
          exact ⟨p, e.symm⟩
        refine ⟨D, accm.zip ((metsOf all).map mT) ++ acck.zip ((keysOf all).map kT), rfl, ?_, fun b hb => (hdp b hb).mono g6.gh, ?_, ?_, ?_, fun ps hps => ?_⟩
        · rw [List.map_append, map_fst_zip' hlm, map_fst_zip' hlk]
          exact sqlU (g6.gh _ _ kD)
        · intro d hd d' hd'
          obtain ⟨b, hb, rfl⟩ := List.mem_map.mp hd
          obtain ⟨b', hb', rfl⟩ := List.mem_map.mp hd'
          obtain ⟨p, e⟩ := hshape b hb
          obtain ⟨p', e'⟩ := hshape b' hb'
          rw [e, e']
          simp [txtD, PySem.W.alike, PySem.W.alikeAll]
        · refine .inl fun d hd => ?_
          obtain ⟨b, hb, rfl⟩ := List.mem_map.mp hd
          obtain ⟨p, e⟩ := hshape b hb
          exact ⟨_, _, e⟩
        · intro b hb
          obtain ⟨p, e⟩ := hshape b hb
          rw [e]
          simp [txtD, PyData.depth, PyData.depthAll]
        rw [sort_is hperm hlt]
        have hHps : H ps = none := g6.free0 hps
        have nps : ro ≠ ps := ne_of_none kro hps
        have g7 := g6.immN (o := .lst ((weave all accm acck).map (·.1))) hps
        have kps : (upd G5 ps (.lst ((weave all accm acck).map (·.1)))) ps = some _ := upd_same
        have dw : DpAll K (upd G5 ps (.lst ((weave all accm acck).map (·.1)))) ((weave all accm acck).map (·.1)) (all.map txtD) := by
          have n7 := same_new (o := .lst ((weave all accm acck).map (·.1))) (g6.gh.free hps)
          rw [← hsnd]
          refine DpAll.of (by rw [List.length_map, List.length_map]) fun i v hv => ?_
          rw [List.getElem?_map] at hv ⊢
          cases hw : (weave all accm acck)[i]? with
          | none => rw [hw] at hv; cases hv
          | some b =>
            rw [hw] at hv
            cases (Option.some.inj hv)
            exact ⟨b.2, rfl, (hdp b (hperm.subset (List.mem_of_getElem? hw))).mono n7⟩
        have kro7 : (upd H6 ps (.lst ((weave all accm acck).map (·.1)))) ro = some (.lst []) := by rw [upd_ne nps]; exact kro
        have gro7 : (upd G5 ps (.lst ((weave all accm acck).map (·.1)))) ro = none := by rw [upd_ne nps]; exact gro
        have hwl : ((weave all accm acck).map (·.1)).length = all.length := by
          exact dw.len.trans (List.length_map ..)
        generalize (weave all accm acck).map (·.1) = ws at g7 kps dw kro7 gro7 hwl ⊢
        generalize upd G5 ps (.lst ws) = G7 at g7 kps dw gro7
        generalize upd H6 ps (.lst ws) = H7 at g7 kro7 ⊢
        walk_at "s"
        refine ⟨⟨_, sqlU (g7.gh _ _ kps)⟩, ?_⟩
        refine for_it walk_list (fun i σ H' => ∃ y1 y4 y5 y6 y7 y8 y9, σ = [some (.ref ad), y1, some (.ref D), some (.ref ro), y4, y5, y6, y7, y8, y9] ∧ Grow No G H G7 H' ∧ H' ro = some (.lst (((((all.take i).map chWs).map (TL.joinL [32])).map S).map V.str))) ⟨_, _, _, _, _, _, _, rfl, g7, kro7⟩ (fun i σ H' _ ⟨_, _, _, _, _, _, _, _, g, _⟩ => sqlU (g.gh _ _ kps)) ?_ ?_
        · rintro i v σ H8 H8' hi ⟨y1, y4, y5, y6, y7, y8, y9, rfl, g8, kro8⟩ ⟨rfl, hx⟩
          obtain ⟨dd, hdd, hd⟩ := dw.get hx
          rw [List.getElem?_map] at hdd
          cases hp : all[i]? with
          | none => rw [hp] at hdd; cases hdd
          | some p =>
            rw [hp] at hdd
            cases hdd
            obtain ⟨tt, x, y, z, rfl, ht, rx, ry, rz⟩ := dpT3 hd
            cases dpI rx
            cases dpI ry
            cases dpS rz
            have hpo := ok.ch p (List.mem_of_getElem? hp)
            have hwl := whatT_len hpo.2.2
            have hnl := numL_len4 (n := p.1) (by omega)
            have hrl : ((((((all.take i).map chWs).map (TL.joinL [32])).map S).map V.str)).length ≤ 100 := by
              rw [List.length_map, List.length_map, List.length_map, List.length_map, List.length_take]
              omega
            refine ⟨tt, _, rfl, sqT_mono g8.gh ht, rfl, _, _, rfl, _, _, rfl, _, _, rfl, rfl, ?_⟩
            walk_at "s"
            have efin : (all.take (i + 1)).map chWs = (all.take i).map chWs ++ [chWs p] := by
              rw [List.take_add_one, hp, List.map_append]
              rfl
            by_cases h1 : 1 < p.1
            · refine iteD (by omega) ?_
              walk_at "s"
              refine ⟨by omega, by omega, ?_⟩
              rw [lit_ "at " [97, 116, 32] (by decide +kernel), lit_ " " [32] (by decide +kernel), numC_nat]
              refine ⟨_, _, rfl, rfl, sz (by simp only [S_len', List.length_append, List.length_cons, List.length_nil]; omega), ?_⟩
              rw [SX.S_cat]
              refine ⟨_, _, rfl, rfl, sz (by simp only [S_len', List.length_append, List.length_cons, List.length_nil]; omega), ?_⟩
              rw [SX.S_cat]
              walk_at "s"
              refine ⟨sz (by simp only [S_len', List.length_append, List.length_cons, List.length_nil]; omega), ?_⟩
              rw [SX.S_cat]
              walk_at "s"
              refine ⟨.inl ⟨rfl, _, sqlU kro8⟩, ?_⟩
              walk_at "s"
              refine ⟨ro, _, _, rfl, rfl, kro8, szl (by omega), ?_⟩
              refine ⟨_, _, _, _, _, _, _, rfl, g8.put gro7 (.inl hHro), ?_⟩
              rw [upd_same, efin, List.map_append, List.map_append, List.map_append]
              show _ = some (HO.lst (_ ++ [V.str (S (TL.joinL [32] (chWs p)))]))
              rw [chT, if_pos h1]
            · refine iteDF (by omega) ?_
              walk_at "s"
              refine ⟨.inl ⟨rfl, _, sqlU kro8⟩, ?_⟩
              walk_at "s"
              refine ⟨ro, _, _, rfl, rfl, kro8, szl (by omega), ?_⟩
              refine ⟨_, _, _, _, _, _, _, rfl, g8.put gro7 (.inl hHro), ?_⟩
              rw [upd_same, efin, List.map_append, List.map_append, List.map_append]
              show _ = some (HO.lst (_ ++ [V.str (S (TL.joinL [32] (chWs p)))]))
              rw [chT, if_neg h1]
        · rintro σ H8 ⟨y1, y4, y5, y6, y7, y8, y9, rfl, g8, kro8⟩
          rw [hwl, List.take_length] at kro8
          walk_at "s"
          refine ⟨ad, dx, _, rfl, g8.s0 _ _ hob, rfl, ?_⟩
          refine ⟨_, t, rfl, ta.mono g8.s0, ?_⟩
          refine ⟨_, rfl, by omega, by omega, ?_⟩
          rw [show ((t.vss.length : Nat) : Int).toNat = t.vss.length from rfl]
          refine for_it walk_range (fun i σ H' => ∃ y1 y4 y5 y6 y7 y8 y9 G9, σ = [some (.ref ad), y1, some (.ref D), some (.ref ro), y4, y5, y6, y7, y8, y9] ∧ Grow No G H G9 H' ∧ G9 ro = none ∧ H' ro = some (.lst ((((all.map chWs ++ ((t.vss.take i).map (voiceR amtC)).flatten).map (TL.joinL [32])).map S).map V.str))) ⟨_, _, _, _, _, _, _, G7, rfl, g8, gro7, by rw [kro8]; simp⟩ (fun _ _ _ _ _ => trivial) ?_ ?_
          · rintro i v σ H9 H9' hi ⟨y1, y4, y5, y6, y7, y8, y9, G9, rfl, g9, gro9, kro9⟩ ⟨rfl, rfl⟩
            obtain ⟨ss, hss⟩ : ∃ ss, t.vss[i]? = some ss := ⟨t.vss[i], List.getElem?_eq_getElem hi⟩
            have hssm := List.mem_of_getElem? hss
            have hs96 := (ok.sl ss hssm).2
            have hxl : ((((all.map chWs ++ ((t.vss.take i).map (voiceR amtC)).flatten).map (TL.joinL [32])).map S).map V.str).length ≤ 1000 := by
              have := voice_len (amt := amtC) (vss := t.vss.take i) (by rw [List.length_take]; omega) fun ss hs => (ok.sl ss (List.mem_of_mem_take hs)).2
              rw [List.length_map, List.length_map, List.length_map, List.length_append, List.length_map]
              omega
            generalize exs : (((all.map chWs ++ ((t.vss.take i).map (voiceR amtC)).flatten).map (TL.joinL [32])).map S).map V.str = xs at kro9 hxl
            walk_at "s"
            refine ⟨.inl ⟨rfl, _, sqlU kro9⟩, ?_⟩
            walk_at "s"
            refine ⟨ro, _, _, rfl, rfl, kro9, szl (by omega), ?_⟩
            have g10 := g9.put (o := .lst (xs ++ [.str (Str.ofString "voice")])) gro9 (.inl hHro)
            have kro10 : (upd H9' ro (.lst (xs ++ [.str (Str.ofString "voice")]))) ro = some (.lst (xs ++ [.str (Str.ofString "voice")])) := upd_same
            generalize upd H9' ro (.lst (xs ++ [.str (Str.ofString "voice")])) = H10 at g10 kro10 ⊢
            walk_at "s"
            refine ⟨.inl ⟨rfl, _, sqlU kro10⟩, ?_⟩
            walk_at "s"
            refine ⟨ad, dx, _, rfl, g10.s0 _ _ hob, rfl, ?_⟩
            walk_at "s"
            refine ⟨G9, _, t, i, ss, by rw [Int.zero_add]; rfl, g10.gh, ta.mono g10.gg, hss, hs96, fun G11 H11 z g11 hz => ?_⟩
            obtain ⟨az, zs, rfl, hlz, rz⟩ := dpL hz
            have ezl := rz.len
            rw [List.length_map] at ezl
            have g1011 := g10.tr g11
            have kro11 := g11.same _ _ kro10
            have gro11 := g11.fr _ _ kro10 gro9
            walk_at "s"
            refine ⟨⟨_, g11.gh.seq hlz⟩, fun D3 hD3 => ?_⟩
            refine lc_pure walk_list hD3 g11.gh (fun _ i v => ∃ s, ss[i]? = some s ∧ v = .str (S (TL.joinL [32] (sndWs amtC s)))) (by omega) (fun _ _ _ _ _ h => h) (fun G2 H2 g2 => g2.s0.seq hlz) ?_ ?_
            · rintro j v G12 H12 H12' hj g12 ⟨rfl, hx⟩ Q' hq
              obtain ⟨dd, hdd, hd⟩ := rz.get hx
              rw [List.getElem?_map] at hdd
              cases hs : ss[j]? with
              | none => rw [hs] at hdd; cases hdd
              | some s' =>
                rw [hs] at hdd
                cases hdd
                refine ⟨rfl, ?_⟩
                walk_at "s"
                refine ⟨_, s', rfl, hd.mono g12.s0, ok.ok ss hssm s' (List.mem_of_getElem? hs), fun H13 s13 => ?_⟩
                exact hq _ _ _ (Grow.of_same g12.gh s13) ⟨s', hs, rfl⟩
            · intro G12 H12 acc g12 gD3 eD3 el3 er3
              have eacc : acc = (((ss.map (sndWs amtC)).map (TL.joinL [32])).map S).map V.str := by
                refine List.ext_getElem? fun j => ?_
                by_cases hj : j < acc.length
                · obtain ⟨s', hs, e⟩ := er3 j _ (List.getElem?_eq_getElem hj)
                  rw [List.getElem?_eq_getElem hj, e]
                  simp [hs]
                · rw [List.getElem?_eq_none (by omega), List.getElem?_eq_none (by simp; omega)]
              have kro12 := g12.same _ _ kro11
              have gro12 := g12.fr _ _ kro11 gro11
              walk_at "s"
              refine ⟨ro, D3, _, _, rfl, rfl, kro12, eD3, sz (by rw [List.length_append]; simp; omega), ?_⟩
              refine ⟨_, _, _, _, _, _, _, G12, rfl, (g1011.tr g12).put gro12 (.inl hHro), gro12, ?_⟩
              rw [upd_same, rows_take hss, ← exs, eacc, lit_ "voice" [118, 111, 105, 99, 101] (by decide +kernel)]
              simp [voiceR, voW, TL.joinL]
          · rintro σ H9 ⟨y1, y4, y5, y6, y7, y8, y9, G9, rfl, g9, gro9, kro9⟩
            rw [List.take_length] at kro9
            have ro_ := rowsW_ok ok
            walk_at "s"
            refine ⟨_, ro, ((rowsW amtC all t.vss).map (TL.joinL [32])).map S, rfl, rfl, .inl (sqlU kro9), ?_, ?_⟩
            · rw [SX.lens, List.length_map]
              have : (((rowsW amtC all t.vss).map (TL.joinL [32])).map (·.length)).sum ≤ 1000 * ((rowsW amtC all t.vss).map (TL.joinL [32])).length := sum_le fun x hx => by
                obtain ⟨g, hg, rfl⟩ := List.mem_map.mp hx
                exact (ro_.ok g hg).ln
              have h3 := ro_.ln
              rw [List.length_map] at this ⊢
              have e1 : (Str.ofString "\n").length = 1 := by decide +kernel
              rw [e1]
              omega
            rw [lit_ "\n" [10] (by decide +kernel), SX.join_S]
            exact q _ g9.same
end
end BW
set_option Elab.async false
set_option linter.all false
set_option maxRecDepth 100000
set_option maxHeartbeats 4000000
set_option pp.maxSteps 3000
namespace BW
open PySem PySem.Spec PyProof.Rows L2
open C8 (Cal Met Mak pe_c pe_mk pe_mt pe_mt0 pe_gc sl_txt fnBody fnScope fnArgs)
local macro_rules | `(tactic| walk_at "v") => `(tactic| refine ⟨_, rfl, ?_⟩)
local macro_rules | `(tactic| walk_at "i2") => `(tactic| refine ⟨_, _, rfl, rfl, ?_⟩)
local macro_rules | `(tactic| walk_at "k") => `(tactic| exact (by decide +kernel))
local macro_rules | `(tactic| walk_at "s") => `(tactic| repeat (first | refine ⟨_, rfl, ?_⟩ | refine ⟨_, _, rfl, rfl, ?_⟩ | refine ⟨rfl, ?_⟩ | refine ⟨⟨_, rfl⟩, ?_⟩ | refine iteT ?_ | refine iteF ?_ | refine ⟨_, _, _, _, _, rfl, .ty _, tyI, kit_ty kit_int_int, ?_⟩ | refine ⟨_, _, _, _, _, rfl, .ty _, tyI, kit_ty kit_int_bool, ?_⟩ | refine ⟨_, _, _, _, _, rfl, .ty _, tyS, kit_ty kit_str_str, ?_⟩ | refine ⟨_, _, _, _, _, rfl, .ty _, tyB, kit_ty kit_bool_bool, ?_⟩ | refine ⟨_, _, _, _, _, rfl, by assumption, by assumption, by assumption, rfl, ?_⟩))
local macro_rules | `(tactic| walk_at "o") => `(tactic| repeat (first | refine ⟨_, rfl, ?_⟩ | refine ⟨_, _, rfl, rfl, ?_⟩ | refine ⟨rfl, ?_⟩ | refine ⟨⟨_, rfl⟩, ?_⟩ | refine iteT ?_ | refine iteF ?_ | refine ⟨_, _, _, _, _, rfl, .ty _, tyI, kit_ty kit_int_int, ?_⟩ | refine ⟨_, _, _, _, _, rfl, .ty _, tyI, kit_ty kit_int_bool, ?_⟩ | refine ⟨_, _, _, _, _, rfl, .ty _, tyS, kit_ty kit_str_str, ?_⟩ | refine ⟨_, _, _, _, _, rfl, .ty _, tyB, kit_ty kit_bool_bool, ?_⟩ | refine ⟨_, _, _, _, _, rfl, by assumption, by assumption, by assumption, rfl, ?_⟩ | refine iteDF (by omega) ?_ | refine iteD (by omega) ?_ | refine ⟨_, _, _, rfl, by omega, by omega, ?_⟩ | refine And.intro (by omega) ?_))

open SX (S)
/-- the script, the tape -/
structure Tp (K : PySem.W.Frag) (G H : Hp) (a t : Addr) (ns : List Int) (k : Nat) : Prop where
  sm : Same G H
  sc : SqL K G a (ns.map V.int)
  nl : ns.length ≤ 63
  gt : G t = none
  ht : H t = some (.lst [.int k])
theorem Tp.next {K : PySem.W.Frag} {G H G' H' : Hp} {a t : Addr} {ns : List Int} {k k' : Nat} (h : Tp K G H a t ns k) (g : Grow (At t) G H G' H') (e : H' t = some (.lst [.int k'])) : Tp K G' H' a t ns k' :=
  ⟨g.gh, g.gg.seq h.sc, h.nl, g.fr _ _ h.ht h.gt, e⟩
theorem Tp.no {K : PySem.W.Frag} {G H G' H' : Hp} {a t : Addr} {ns : List Int} {k : Nat} (h : Tp K G H a t ns k) (g : Grow No G H G' H') : Tp K G' H' a t ns k := h.next g.no (g.same _ _ h.ht)
theorem Tp.imm {K : PySem.W.Frag} {G H : Hp} {a t p : Addr} {ns : List Int} {k : Nat} {o : HO} (h : Tp K G H a t ns k) (hp : H p = none) : Tp K (upd G p o) (upd H p o) a t ns k := h.no ((Grow.refl h.sm).immN hp)
theorem Tp.put {K : PySem.W.Frag} {G H : Hp} {a t p : Addr} {ns : List Int} {k : Nat} {o : HO} (h : Tp K G H a t ns k) (hg : G p = none) (n : t ≠ p) : Tp K G (upd H p o) a t ns k := ⟨same_mut h.sm hg, h.sc, h.nl, h.gt, by rw [upd_ne n]; exact h.ht⟩
theorem Tp.same {K : PySem.W.Frag} {G H H' : Hp} {a t : Addr} {ns : List Int} {k : Nat} (h : Tp K G H a t ns k) (s : Same H H') : Tp K G H' a t ns k := ⟨h.sm.trans s, h.sc, h.nl, h.gt, s _ _ h.ht⟩
theorem Grow.tt {t : Addr} {G H G1 H1 G2 H2 : Hp} {K : PySem.W.Frag} {a : Addr} {ns : List Int} {k : Nat} (g : Grow (At t) G H G1 H1) (h : Grow (At t) G1 H1 G2 H2) (tp : Tp K G1 H1 a t ns k) : Grow (At t) G H G2 H2 := g.trA h ⟨_, tp.ht⟩
theorem Grow.freeT {t p : Addr} {G H G' H' : Hp} {K : PySem.W.Frag} {a : Addr} {ns : List Int} {k : Nat} (g : Grow (At t) G H G' H') (tp : Tp K G' H' a t ns k) (h : H' p = none) : H p = none := by
  cases e : H p with
  | none => rfl
  | some o =>
    by_cases q : p = t
    · rw [q, tp.ht] at h; cases h
    · rw [g.hh _ _ q e] at h; cases h
theorem Tp.ne {K : PySem.W.Frag} {G H : Hp} {a t p : Addr} {ns : List Int} {k : Nat} (h : Tp K G H a t ns k) (hp : H p = none) : t ≠ p := ne_of_none h.ht hp
section
variable {P : Program} {w : World} {K : PySem.W.Frag} {mg : Str → Option Value} {base : Heap} {A : Ad}
def sp__law_draw (K : PySem.W.Frag) : Sp := fun vs H Q _ => ∃ (G : Hp) (a t : Addr) (ns : List Int) (k n : Nat), vs = [.ref a, .ref t, .int n] ∧ Tp K G H a t ns k ∧ k ≤ 1000000 ∧ 0 < n ∧
  ∀ (v : Nat) H', v < n → Grow (At t) G H G H' → Tp K G H' a t ns (k + 1) → Q (.int v) H'
theorem ok__law_draw (T : Txt w K mg A) : Cal P w K mg base 1 "_law_draw" (sp__law_draw K) [] := by
  obtain ⟨f, d⟩ := T.d__law_draw
  refine cal_of d sc__law_draw (fun vs H Q E h => ?_) (fun cdv A' outer s H vs Q E hr h => ?_)
  · obtain ⟨G, a, t, ns, k, n, rfl, _⟩ := h; rfl
  · obtain ⟨G, a, t, ns, k, n, rfl, tp, hk, hn, q⟩ := h
    have hnl := tp.nl
    have g1 : Grow (At t) G H G (upd H t (.lst [.int ((k + 1 : Nat) : Int)])) := (Grow.refl tp.sm).put tp.gt (.inr rfl)
    have tp1 : Tp K G (upd H t (.lst [.int ((k + 1 : Nat) : Int)])) a t ns (k + 1) := tp.next g1 upd_same
    refine ⟨_, (pss_cons (ps_asg (pe_op op_add (pe_ix ix_list (pv 1) pe_int (fun _ _ => rfl)) pe_int) (pg_sub (pv 1) pe_int set_list))
    (pss_cons (ps_if (pt_cmpR op_le (pe_ix ix_list (pv 1) pe_int (fun _ _ => rfl)) (pe_callB call_len_seq (by rfl) T.n_len boot_len_ (pa_cons (pv 0) pa_nil)) (nomark _)) (pss_one (ps_ret (pe_op op_mod (pe_ix ix_list (pv 0) (pe_op op_sub (pe_ix ix_list (pv 1) pe_int (fun _ _ => rfl)) pe_int) (fun _ _ => rfl)) (pv 2)))) pss_nil)
    (pss_cons (ps_set (i := 3) sc__law_draw.nd rfl (Or.inl rfl) (pe_callB call_len_seq (by rfl) T.n_len boot_len_ (pa_cons (pv 0) pa_nil)))
    (pss_cons (ps_for PassesOwn.never rfl (pi_list (pe_slice sl_list (pv 0) po_none (po_some pe_int))) (pg_name (i := 4) sc__law_draw.nd rfl (Or.inl rfl)) (pss_one (ps_set (i := 3) sc__law_draw.nd rfl (Or.inl rfl) (pe_op op_mod (pe_op op_add (pe_op op_mul (pv 3) pe_int) (pv 4)) pe_int))))
    (pss_one (ps_ret (pe_op op_mod (pe_op op_mod (pe_op op_mul (pe_op op_add (pv 3) pe_int) (pe_op op_add (pe_op op_mul (pe_ix ix_list (pv 1) pe_int (fun _ _ => rfl)) (pe_ix ix_list (pv 1) pe_int (fun _ _ => rfl))) pe_int)) pe_int) (pv 2)))))))), ?_⟩
    walk_at "s"
    refine ⟨_, _, _, _, rfl, rfl, sqlU tp.ht, atI_0, ?_⟩
    walk_at "s"
    refine ⟨t, _, 0, 0, rfl, rfl, tp.ht, rfl, ?_⟩
    rw [show ([V.int (k : Int)].set 0 (.int ((k : Int) + 1))) = [.int ((k + 1 : Nat) : Int)] from rfl]
    have hq : ∀ v : Int, 0 ≤ v → v < n → Q (.int v) (upd H t (.lst [.int ((k + 1 : Nat) : Int)])) := fun v h0 h1 => by
      have := q v.toNat _ (by omega) g1 tp1
      rwa [show ((v.toNat : Nat) : Int) = v by omega] at this
    generalize upd H t (.lst [.int ((k + 1 : Nat) : Int)]) = H1 at g1 tp1 hq ⊢
    walk_at "s"
    refine ⟨_, _, _, _, rfl, rfl, sqlU tp1.ht, atI_0, ?_⟩
    walk_at "s"
    refine ⟨_, _, rfl, .inl (tp1.sm.seq tp1.sc), ?_⟩
    rw [List.length_map]
    walk_at "s"
    by_cases hle : k + 1 ≤ ns.length
    · refine iteD (by omega) ?_
      walk_at "s"
      refine ⟨_, _, _, _, rfl, rfl, sqlU tp1.ht, atI_0, ?_⟩
      walk_at "s"
      obtain ⟨x, hx⟩ : ∃ x, ns[k]? = some x := ⟨ns[k]'(by omega), List.getElem?_eq_getElem _⟩
      refine ⟨_, _, _, _, rfl, rfl, tp1.sm.seq tp1.sc, (by rw [show ((k + 1 : Nat) : Int) - 1 = (k : Int) by omega]; exact atI_nat (v := V.int x) (by rw [List.getElem?_map, hx]; rfl)), ?_⟩
      walk_at "s"
      refine ⟨show (0 : Int) < n by omega, ?_⟩
      exact hq _ (Int.emod_nonneg _ (by omega)) (Int.emod_lt_of_pos _ (by omega))
    · refine iteDF (by omega) ?_
      walk_at "s"
      refine ⟨_, _, rfl, .inl (tp1.sm.seq tp1.sc), ?_⟩
      rw [List.length_map]
      walk_at "s"
      refine ⟨a, _, rfl, tp1.sm.seq tp1.sc, fun c hc => ?_⟩
      have s2 := same_new (o := .lst (cutV (ns.map V.int) none (some 4))) hc
      walk_at "s"
      refine ⟨⟨_, sqlU upd_same⟩, ?_⟩
      have g2 := g1.trA (Grow.of_same g1.gh s2) ⟨_, tp1.ht⟩
      have tp2 := tp1.same s2
      refine for_it walk_list (fun i σ H' => ∃ (sd : Int) (y : Option V), σ = [some (.ref a), some (.ref t), some (.int n), some (.int sd), y] ∧ 0 ≤ sd ∧ sd < 1000003 ∧ H' = upd H1 c (.lst (cutV (ns.map V.int) none (some 4)))) ⟨ns.length, none, rfl, by omega, by omega, rfl⟩ (fun i σ H' _ ⟨_, _, _, _, _, e⟩ => by rw [e]; exact sqlU upd_same) ?_ ?_
      · rintro i v σ H3 H3' hi ⟨sd, y, rfl, h0, h1, rfl⟩ ⟨rfl, hx⟩
        obtain ⟨z, rfl⟩ : ∃ z, v = .int z := by
          have hm := List.mem_of_getElem? hx
          unfold cutV at hm
          have hm2 := List.mem_of_mem_drop (List.mem_of_mem_take hm)
          obtain ⟨z, _, rfl⟩ := List.mem_map.mp hm2
          exact ⟨z, rfl⟩
        walk_at "s"
        refine ⟨.inl ⟨by omega, by omega⟩, ?_⟩
        walk_at "s"
        refine ⟨show (0 : Int) < 1000003 by decide, ?_⟩
        exact ⟨_, _, rfl, Int.emod_nonneg _ (by decide), Int.emod_lt_of_pos _ (by decide), rfl⟩
      · rintro σ H3 ⟨sd, y, rfl, h0, h1, rfl⟩
        walk_at "s"
        refine ⟨_, _, _, _, rfl, rfl, sqlU tp2.ht, atI_0, ?_⟩
        walk_at "s"
        refine ⟨_, _, _, _, rfl, rfl, sqlU tp2.ht, atI_0, ?_⟩
        walk_at "s"
        refine ⟨.inl ⟨by omega, by omega⟩, ?_⟩
        walk_at "s"
        refine ⟨.inl ⟨by omega, by omega⟩, ?_⟩
        walk_at "s"
        refine ⟨show (0 : Int) < 1000003 by decide, ?_⟩
        walk_at "s"
        refine ⟨show (0 : Int) < n by omega, ?_⟩
        have := q (Int.toNat (((sd + 7) * (((k + 1 : Nat) : Int) * ((k + 1 : Nat) : Int) + 48271) % 1000003) % n)) _ (by
          have h5 := Int.emod_nonneg (((sd + 7) * (((k + 1 : Nat) : Int) * ((k + 1 : Nat) : Int) + 48271)) % 1000003) (show (n : Int) ≠ 0 by omega)
          have h6 := Int.emod_lt_of_pos (((sd + 7) * (((k + 1 : Nat) : Int) * ((k + 1 : Nat) : Int) + 48271)) % 1000003) (show (0 : Int) < n by omega)
          omega) g2 tp2
        have h5 := Int.emod_nonneg (((sd + 7) * (((k + 1 : Nat) : Int) * ((k + 1 : Nat) : Int) + 48271)) % 1000003) (show (n : Int) ≠ 0 by omega)
        rw [Int.toNat_of_nonneg h5] at this
        exact this
end
end BW
set_option Elab.async false
set_option linter.all false
set_option maxRecDepth 100000
set_option maxHeartbeats 4000000
set_option pp.maxSteps 3000
namespace BW
open PySem PySem.Spec PyProof.Rows L2
open C8 (Cal Met Mak pe_c pe_mk pe_mt pe_mt0 pe_gc sl_txt fnBody fnScope fnArgs)
local macro_rules | `(tactic| walk_at "v") => `(tactic| refine ⟨_, rfl, ?_⟩)
local macro_rules | `(tactic| walk_at "i2") => `(tactic| refine ⟨_, _, rfl, rfl, ?_⟩)
local macro_rules | `(tactic| walk_at "k") => `(tactic| exact (by decide +kernel))
local macro_rules | `(tactic| walk_at "s") => `(tactic| repeat (first | refine ⟨_, rfl, ?_⟩ | refine ⟨_, _, rfl, rfl, ?_⟩ | refine ⟨rfl, ?_⟩ | refine ⟨⟨_, rfl⟩, ?_⟩ | refine iteT ?_ | refine iteF ?_ | refine ⟨_, _, _, _, _, rfl, .ty _, tyI, kit_ty kit_int_int, ?_⟩ | refine ⟨_, _, _, _, _, rfl, .ty _, tyI, kit_ty kit_int_bool, ?_⟩ | refine ⟨_, _, _, _, _, rfl, .ty _, tyS, kit_ty kit_str_str, ?_⟩ | refine ⟨_, _, _, _, _, rfl, .ty _, tyB, kit_ty kit_bool_bool, ?_⟩ | refine ⟨_, _, _, _, _, rfl, by assumption, by assumption, by assumption, rfl, ?_⟩))
local macro_rules | `(tactic| walk_at "o") => `(tactic| repeat (first | refine ⟨_, rfl, ?_⟩ | refine ⟨_, _, rfl, rfl, ?_⟩ | refine ⟨rfl, ?_⟩ | refine ⟨⟨_, rfl⟩, ?_⟩ | refine iteT ?_ | refine iteF ?_ | refine ⟨_, _, _, _, _, rfl, .ty _, tyI, kit_ty kit_int_int, ?_⟩ | refine ⟨_, _, _, _, _, rfl, .ty _, tyI, kit_ty kit_int_bool, ?_⟩ | refine ⟨_, _, _, _, _, rfl, .ty _, tyS, kit_ty kit_str_str, ?_⟩ | refine ⟨_, _, _, _, _, rfl, .ty _, tyB, kit_ty kit_bool_bool, ?_⟩ | refine ⟨_, _, _, _, _, rfl, by assumption, by assumption, by assumption, rfl, ?_⟩ | refine iteDF (by omega) ?_ | refine iteD (by omega) ?_ | refine ⟨_, _, _, rfl, by omega, by omega, ?_⟩ | refine And.intro (by omega) ?_))

open SX (S)
theorem met_step {K : PySem.W.Frag} {G H Gi Hi : Hp} {vs : List V} {ds : List PyData} {q p : Addr} (g : Grow No G H Gi Hi) (d : DpAll K Gi vs ds) (hq : Hi q = none) (m : Met) (hp : (upd Hi q (.tup ((m.gs.map fun g : Nat => (g : Int)).map V.int))) p = none) :
    ∃ G', Grow No G H G' (upd (upd Hi q (.tup ((m.gs.map fun g : Nat => (g : Int)).map V.int))) p (.tup [.int m.top, .int m.bot, .ref q])) ∧ Same Gi G' ∧ DpAll K G' (vs ++ [.ref p]) (ds ++ [metD m]) := by
  have g1 := g.immN (o := .tup ((m.gs.map fun g : Nat => (g : Int)).map V.int)) hq
  have g2 := g1.immN (o := .tup [.int m.top, .int m.bot, .ref q]) hp
  have s1 := same_new (o := .tup ((m.gs.map fun g : Nat => (g : Int)).map V.int)) (g.gh.free hq)
  have s2 := same_new (o := .tup [.int m.top, .int m.bot, .ref q]) (g1.gh.free hp)
  refine ⟨_, g2, s1.trans s2, (d.mono (s1.trans s2)).snoc (.tupU upd_same (.cons (.int _) (.cons (.int _) (.cons (.tupU (s2 _ _ upd_same) (by rw [intsD_eq]; exact .ofInts)) .nil))))⟩
theorem put_step {G H Gi Hi : Hp} {p : Addr} {o : HO} (g : Grow No G H Gi Hi) (h : Hi p = none) : ∃ G', Grow No G H G' (upd Hi p o) ∧ Same Gi G' ∧ G' p = some o := ⟨_, g.immN h, same_new (g.gh.free h), upd_same⟩
def lawMets : List Met := [⟨4, 4, []⟩, ⟨3, 4, []⟩, ⟨2, 4, []⟩, ⟨6, 8, []⟩, ⟨7, 8, [3, 2, 2]⟩, ⟨5, 8, []⟩, ⟨3, 8, []⟩, ⟨2, 2, []⟩, ⟨12, 8, []⟩, ⟨3, 4, [1, 2]⟩, ⟨9, 8, []⟩, ⟨4, 2, []⟩, ⟨7, 8, []⟩, ⟨4, 4, [1, 1, 1, 1]⟩, ⟨7, 8, [2, 2, 3]⟩]
theorem lawMets_ok : ∀ m ∈ lawMets, MetOk m ∧ 36 ≤ m.bar := by
  intro m hm
  simp only [lawMets, List.mem_cons, List.not_mem_nil, or_false] at hm
  rcases hm with rfl | rfl | rfl | rfl | rfl | rfl | rfl | rfl | rfl | rfl | rfl | rfl | rfl | rfl | rfl <;> exact ⟨⟨by decide, by decide, by decide, by decide, by decide, by decide, by decide⟩, by decide⟩
section
variable {P : Program} {w : World} {K : PySem.W.Frag} {mg : Str → Option Value} {base : Heap} {A : Ad}
def sp__law_metre (K : PySem.W.Frag) : Sp := fun vs H Q _ => ∃ (G : Hp) (a t : Addr) (ns : List Int) (k : Nat), vs = [.ref a, .ref t] ∧ Tp K G H a t ns k ∧ k ≤ 1000000 ∧
  ∀ (m : Met) G' H' z, MetOk m → 36 ≤ m.bar → Grow (At t) G H G' H' → Tp K G' H' a t ns (k + 1) → Dp K G' z (metD m) → Q z H'
theorem ok__law_metre (T : Txt w K mg A) : Cal P w K mg base 2 "_law_metre" (sp__law_metre K) [] := by
  obtain ⟨f, d⟩ := T.d__law_metre
  refine cal_of d sc__law_metre (fun vs H Q E h => ?_) (fun cdv A' outer s H vs Q E hr h => ?_)
  · obtain ⟨G, a, t, ns, k, rfl, _⟩ := h; rfl
  · obtain ⟨G, a, t, ns, k, rfl, tp, hk, q⟩ := h
    refine ⟨_, (pss_cons (ps_set (i := 2) sc__law_metre.nd rfl (Or.inl rfl) (pe_lst (pa_cons (pe_tup (pa_cons pe_int (pa_cons pe_int (pa_cons (pe_tup pa_nil) pa_nil)))) (pa_cons (pe_tup (pa_cons pe_int (pa_cons pe_int (pa_cons (pe_tup pa_nil) pa_nil)))) (pa_cons (pe_tup (pa_cons pe_int (pa_cons pe_int (pa_cons (pe_tup pa_nil) pa_nil)))) (pa_cons (pe_tup (pa_cons pe_int (pa_cons pe_int (pa_cons (pe_tup pa_nil) pa_nil)))) (pa_cons (pe_tup (pa_cons pe_int (pa_cons pe_int (pa_cons (pe_tup (pa_cons pe_int (pa_cons pe_int (pa_cons pe_int pa_nil)))) pa_nil)))) (pa_cons (pe_tup (pa_cons pe_int (pa_cons pe_int (pa_cons (pe_tup pa_nil) pa_nil)))) (pa_cons (pe_tup (pa_cons pe_int (pa_cons pe_int (pa_cons (pe_tup pa_nil) pa_nil)))) (pa_cons (pe_tup (pa_cons pe_int (pa_cons pe_int (pa_cons (pe_tup pa_nil) pa_nil)))) pa_nil))))))))))
    (pss_cons (ps_set (i := 2) sc__law_metre.nd rfl (Or.inl rfl) (pe_op op_cat (pv 2) (pe_lst (pa_cons (pe_tup (pa_cons pe_int (pa_cons pe_int (pa_cons (pe_tup pa_nil) pa_nil)))) (pa_cons (pe_tup (pa_cons pe_int (pa_cons pe_int (pa_cons (pe_tup (pa_cons pe_int (pa_cons pe_int pa_nil))) pa_nil)))) (pa_cons (pe_tup (pa_cons pe_int (pa_cons pe_int (pa_cons (pe_tup pa_nil) pa_nil)))) (pa_cons (pe_tup (pa_cons pe_int (pa_cons pe_int (pa_cons (pe_tup pa_nil) pa_nil)))) (pa_cons (pe_tup (pa_cons pe_int (pa_cons pe_int (pa_cons (pe_tup pa_nil) pa_nil)))) (pa_cons (pe_tup (pa_cons pe_int (pa_cons pe_int (pa_cons (pe_tup (pa_cons pe_int (pa_cons pe_int (pa_cons pe_int (pa_cons pe_int pa_nil))))) pa_nil)))) pa_nil)))))))))
    (pss_one (ps_ret (pe_ix ix_list (pe_op op_cat (pv 2) (pe_lst (pa_cons (pe_tup (pa_cons pe_int (pa_cons pe_int (pa_cons (pe_tup (pa_cons pe_int (pa_cons pe_int (pa_cons pe_int pa_nil)))) pa_nil)))) pa_nil))) (pe_c (ok__law_draw T) hr (by decide) rfl (pa_cons (pv 0) (pa_cons (pv 1) (pa_cons pe_int pa_nil)))) (fun _ _ => rfl)))))), ?_⟩
    walk_at "s"
    have g : Grow No G H G H := Grow.refl tp.sm
    clear d
    have d : DpAll K G [] [] := .nil
    refine ⟨by show 0 ≤ sizeLine; decide, fun q1 hq1 => ?_⟩
    refine ⟨by show 3 ≤ sizeLine; decide, fun p1 hp1 => ?_⟩
    obtain ⟨G1, g1, s1, d1⟩ := met_step (K := K) g d hq1 ⟨4, 4, []⟩ hp1
    generalize hH1 : upd (upd _ q1 _) p1 _ = H1 at g1
    rw [show upd (upd _ q1 (.tup [])) p1 (.tup [.int 4, .int 4, .ref q1]) = H1 from hH1]
    replace g := g1; replace d := d1
    refine ⟨by show 0 ≤ sizeLine; decide, fun q2 hq2 => ?_⟩
    refine ⟨by show 3 ≤ sizeLine; decide, fun p2 hp2 => ?_⟩
    obtain ⟨G2, g2, s2, d2⟩ := met_step (K := K) g d hq2 ⟨3, 4, []⟩ hp2
    generalize hH2 : upd (upd _ q2 _) p2 _ = H2 at g2
    rw [show upd (upd _ q2 (.tup [])) p2 (.tup [.int 3, .int 4, .ref q2]) = H2 from hH2]
    replace g := g2; replace d := d2
    refine ⟨by show 0 ≤ sizeLine; decide, fun q3 hq3 => ?_⟩
    refine ⟨by show 3 ≤ sizeLine; decide, fun p3 hp3 => ?_⟩
    obtain ⟨G3, g3, s3, d3⟩ := met_step (K := K) g d hq3 ⟨2, 4, []⟩ hp3
    generalize hH3 : upd (upd _ q3 _) p3 _ = H3 at g3
    rw [show upd (upd _ q3 (.tup [])) p3 (.tup [.int 2, .int 4, .ref q3]) = H3 from hH3]
    replace g := g3; replace d := d3
    refine ⟨by show 0 ≤ sizeLine; decide, fun q4 hq4 => ?_⟩
    refine ⟨by show 3 ≤ sizeLine; decide, fun p4 hp4 => ?_⟩
    obtain ⟨G4, g4, s4, d4⟩ := met_step (K := K) g d hq4 ⟨6, 8, []⟩ hp4
    generalize hH4 : upd (upd _ q4 _) p4 _ = H4 at g4
    rw [show upd (upd _ q4 (.tup [])) p4 (.tup [.int 6, .int 8, .ref q4]) = H4 from hH4]
    replace g := g4; replace d := d4
    refine ⟨by show 3 ≤ sizeLine; decide, fun q5 hq5 => ?_⟩
    refine ⟨by show 3 ≤ sizeLine; decide, fun p5 hp5 => ?_⟩
    obtain ⟨G5, g5, s5, d5⟩ := met_step (K := K) g d hq5 ⟨7, 8, [3, 2, 2]⟩ hp5
    generalize hH5 : upd (upd _ q5 _) p5 _ = H5 at g5
    rw [show upd (upd _ q5 (.tup [.int 3, .int 2, .int 2])) p5 (.tup [.int 7, .int 8, .ref q5]) = H5 from hH5]
    replace g := g5; replace d := d5
    refine ⟨by show 0 ≤ sizeLine; decide, fun q6 hq6 => ?_⟩
    refine ⟨by show 3 ≤ sizeLine; decide, fun p6 hp6 => ?_⟩
    obtain ⟨G6, g6, s6, d6⟩ := met_step (K := K) g d hq6 ⟨5, 8, []⟩ hp6
    generalize hH6 : upd (upd _ q6 _) p6 _ = H6 at g6
    rw [show upd (upd _ q6 (.tup [])) p6 (.tup [.int 5, .int 8, .ref q6]) = H6 from hH6]
    replace g := g6; replace d := d6
    refine ⟨by show 0 ≤ sizeLine; decide, fun q7 hq7 => ?_⟩
    refine ⟨by show 3 ≤ sizeLine; decide, fun p7 hp7 => ?_⟩
    obtain ⟨G7, g7, s7, d7⟩ := met_step (K := K) g d hq7 ⟨3, 8, []⟩ hp7
    generalize hH7 : upd (upd _ q7 _) p7 _ = H7 at g7
    rw [show upd (upd _ q7 (.tup [])) p7 (.tup [.int 3, .int 8, .ref q7]) = H7 from hH7]
    replace g := g7; replace d := d7
    refine ⟨by show 0 ≤ sizeLine; decide, fun q8 hq8 => ?_⟩
    refine ⟨by show 3 ≤ sizeLine; decide, fun p8 hp8 => ?_⟩
    obtain ⟨G8, g8, s8, d8⟩ := met_step (K := K) g d hq8 ⟨2, 2, []⟩ hp8
    generalize hH8 : upd (upd _ q8 _) p8 _ = H8 at g8
    rw [show upd (upd _ q8 (.tup [])) p8 (.tup [.int 2, .int 2, .ref q8]) = H8 from hH8]
    replace g := g8; replace d := d8
    refine ⟨by show 8 ≤ sizeLine; decide, fun l0 hl0 => ?_⟩
    obtain ⟨Gl0, g, s, kl0⟩ := put_step g hl0 (o := .lst [V.ref p1, V.ref p2, V.ref p3, V.ref p4, V.ref p5, V.ref p6, V.ref p7, V.ref p8])
    have d := d.mono s
    generalize upd _ l0 (.lst [V.ref p1, V.ref p2, V.ref p3, V.ref p4, V.ref p5, V.ref p6, V.ref p7, V.ref p8]) = Hl0 at g ⊢
    walk_at "s"
    have kc := kl0
    refine ⟨by show 0 ≤ sizeLine; decide, fun q9 hq9 => ?_⟩
    refine ⟨by show 3 ≤ sizeLine; decide, fun p9 hp9 => ?_⟩
    obtain ⟨G9, g9, s9, d9⟩ := met_step (K := K) g d hq9 ⟨12, 8, []⟩ hp9
    generalize hH9 : upd (upd _ q9 _) p9 _ = H9 at g9
    rw [show upd (upd _ q9 (.tup [])) p9 (.tup [.int 12, .int 8, .ref q9]) = H9 from hH9]
    replace g := g9; replace d := d9
    have kc := s9 _ _ kc
    refine ⟨by show 2 ≤ sizeLine; decide, fun q10 hq10 => ?_⟩
    refine ⟨by show 3 ≤ sizeLine; decide, fun p10 hp10 => ?_⟩
    obtain ⟨G10, g10, s10, d10⟩ := met_step (K := K) g d hq10 ⟨3, 4, [1, 2]⟩ hp10
    generalize hH10 : upd (upd _ q10 _) p10 _ = H10 at g10
    rw [show upd (upd _ q10 (.tup [.int 1, .int 2])) p10 (.tup [.int 3, .int 4, .ref q10]) = H10 from hH10]
    replace g := g10; replace d := d10
    have kc := s10 _ _ kc
    refine ⟨by show 0 ≤ sizeLine; decide, fun q11 hq11 => ?_⟩
    refine ⟨by show 3 ≤ sizeLine; decide, fun p11 hp11 => ?_⟩
    obtain ⟨G11, g11, s11, d11⟩ := met_step (K := K) g d hq11 ⟨9, 8, []⟩ hp11
    generalize hH11 : upd (upd _ q11 _) p11 _ = H11 at g11
    rw [show upd (upd _ q11 (.tup [])) p11 (.tup [.int 9, .int 8, .ref q11]) = H11 from hH11]
    replace g := g11; replace d := d11
    have kc := s11 _ _ kc
    refine ⟨by show 0 ≤ sizeLine; decide, fun q12 hq12 => ?_⟩
    refine ⟨by show 3 ≤ sizeLine; decide, fun p12 hp12 => ?_⟩
    obtain ⟨G12, g12, s12, d12⟩ := met_step (K := K) g d hq12 ⟨4, 2, []⟩ hp12
    generalize hH12 : upd (upd _ q12 _) p12 _ = H12 at g12
    rw [show upd (upd _ q12 (.tup [])) p12 (.tup [.int 4, .int 2, .ref q12]) = H12 from hH12]
    replace g := g12; replace d := d12
    have kc := s12 _ _ kc
    refine ⟨by show 0 ≤ sizeLine; decide, fun q13 hq13 => ?_⟩
    refine ⟨by show 3 ≤ sizeLine; decide, fun p13 hp13 => ?_⟩
    obtain ⟨G13, g13, s13, d13⟩ := met_step (K := K) g d hq13 ⟨7, 8, []⟩ hp13
    generalize hH13 : upd (upd _ q13 _) p13 _ = H13 at g13
    rw [show upd (upd _ q13 (.tup [])) p13 (.tup [.int 7, .int 8, .ref q13]) = H13 from hH13]
    replace g := g13; replace d := d13
    have kc := s13 _ _ kc
    refine ⟨by show 4 ≤ sizeLine; decide, fun q14 hq14 => ?_⟩
    refine ⟨by show 3 ≤ sizeLine; decide, fun p14 hp14 => ?_⟩
    obtain ⟨G14, g14, s14, d14⟩ := met_step (K := K) g d hq14 ⟨4, 4, [1, 1, 1, 1]⟩ hp14
    generalize hH14 : upd (upd _ q14 _) p14 _ = H14 at g14
    rw [show upd (upd _ q14 (.tup [.int 1, .int 1, .int 1, .int 1])) p14 (.tup [.int 4, .int 4, .ref q14]) = H14 from hH14]
    replace g := g14; replace d := d14
    have kc := s14 _ _ kc
    refine ⟨by show 6 ≤ sizeLine; decide, fun l1 hl1 => ?_⟩
    obtain ⟨Gl1, g, s, kl1⟩ := put_step g hl1 (o := .lst [V.ref p9, V.ref p10, V.ref p11, V.ref p12, V.ref p13, V.ref p14])
    have d := d.mono s
    have kc := s _ _ kc
    generalize upd _ l1 (.lst [V.ref p9, V.ref p10, V.ref p11, V.ref p12, V.ref p13, V.ref p14]) = Hl1 at g ⊢
    refine ⟨l0, l1, [V.ref p1, V.ref p2, V.ref p3, V.ref p4, V.ref p5, V.ref p6, V.ref p7, V.ref p8], [V.ref p9, V.ref p10, V.ref p11, V.ref p12, V.ref p13, V.ref p14], rfl, rfl, g.gh _ _ kc, g.gh _ _ kl1, by show 14 ≤ sizeLine; decide, fun c1 hc1 => ?_⟩
    obtain ⟨Gc1, g, s, kc⟩ := put_step g hc1 (o := .lst ([V.ref p1, V.ref p2, V.ref p3, V.ref p4, V.ref p5, V.ref p6, V.ref p7, V.ref p8] ++ [V.ref p9, V.ref p10, V.ref p11, V.ref p12, V.ref p13, V.ref p14]))
    have d := d.mono s
    generalize upd _ c1 (.lst ([V.ref p1, V.ref p2, V.ref p3, V.ref p4, V.ref p5, V.ref p6, V.ref p7, V.ref p8] ++ [V.ref p9, V.ref p10, V.ref p11, V.ref p12, V.ref p13, V.ref p14])) = Hc1 at g ⊢
    walk_at "s"
    refine ⟨by show 3 ≤ sizeLine; decide, fun q15 hq15 => ?_⟩
    refine ⟨by show 3 ≤ sizeLine; decide, fun p15 hp15 => ?_⟩
    obtain ⟨G15, g15, s15, d15⟩ := met_step (K := K) g d hq15 ⟨7, 8, [2, 2, 3]⟩ hp15
    generalize hH15 : upd (upd _ q15 _) p15 _ = H15 at g15
    rw [show upd (upd _ q15 (.tup [.int 2, .int 2, .int 3])) p15 (.tup [.int 7, .int 8, .ref q15]) = H15 from hH15]
    replace g := g15; replace d := d15
    have kc := s15 _ _ kc
    refine ⟨by show 1 ≤ sizeLine; decide, fun l2 hl2 => ?_⟩
    obtain ⟨Gl2, g, s, kl2⟩ := put_step g hl2 (o := .lst [V.ref p15])
    have d := d.mono s
    have kc := s _ _ kc
    generalize upd _ l2 (.lst [V.ref p15]) = Hl2 at g ⊢
    refine ⟨c1, l2, [V.ref p1, V.ref p2, V.ref p3, V.ref p4, V.ref p5, V.ref p6, V.ref p7, V.ref p8, V.ref p9, V.ref p10, V.ref p11, V.ref p12, V.ref p13, V.ref p14], [V.ref p15], rfl, rfl, g.gh _ _ kc, g.gh _ _ kl2, by show 15 ≤ sizeLine; decide, fun c2 hc2 => ?_⟩
    obtain ⟨Gc2, g, s, kc⟩ := put_step g hc2 (o := .lst ([V.ref p1, V.ref p2, V.ref p3, V.ref p4, V.ref p5, V.ref p6, V.ref p7, V.ref p8, V.ref p9, V.ref p10, V.ref p11, V.ref p12, V.ref p13, V.ref p14] ++ [V.ref p15]))
    have d := d.mono s
    generalize upd _ c2 (.lst ([V.ref p1, V.ref p2, V.ref p3, V.ref p4, V.ref p5, V.ref p6, V.ref p7, V.ref p8, V.ref p9, V.ref p10, V.ref p11, V.ref p12, V.ref p13, V.ref p14] ++ [V.ref p15])) = Hc2 at g ⊢
    walk_at "s"
    have tp2 := tp.no g
    refine ⟨Gc2, a, t, ns, k, 15, rfl, tp2, hk, by decide, fun v H3 hv g3 tp3 => ?_⟩
    have d : DpAll K Gc2 _ (lawMets.map metD) := d
    obtain ⟨m, hm⟩ : ∃ m, lawMets[v]? = some m := ⟨lawMets[v]'(by exact hv), List.getElem?_eq_getElem _⟩
    obtain ⟨z, hz, dz⟩ := d.getD (i := v) (d := metD m) (by rw [List.getElem?_map, hm]; rfl)
    obtain ⟨ok, hb⟩ := lawMets_ok m (List.mem_of_getElem? hm)
    walk_at "s"
    refine ⟨_, _, _, _, rfl, rfl, g3.s0.seq (sqlU kc), atI_nat hz, ?_⟩
    exact q m _ _ z ok hb ((g.no (M := At t)).trA g3 ⟨_, tp2.ht⟩) tp3 (dz.mono g3.gg)
end
end BW
set_option Elab.async false
set_option linter.all false
set_option maxRecDepth 100000
set_option maxHeartbeats 4000000
set_option pp.maxSteps 3000
namespace BW
open PySem PySem.Spec PyProof.Rows L2
open C8 (Cal Met Mak pe_c pe_mk pe_mt pe_mt0 pe_gc sl_txt fnBody fnScope fnArgs)
local macro_rules | `(tactic| walk_at "v") => `(tactic| refine ⟨_, rfl, ?_⟩)
local macro_rules | `(tactic| walk_at "i2") => `(tactic| refine ⟨_, _, rfl, rfl, ?_⟩)
local macro_rules | `(tactic| walk_at "k") => `(tactic| exact (by decide +kernel))
local macro_rules | `(tactic| walk_at "s") => `(tactic| repeat (first | refine ⟨_, rfl, ?_⟩ | refine ⟨_, _, rfl, rfl, ?_⟩ | refine ⟨rfl, ?_⟩ | refine ⟨⟨_, rfl⟩, ?_⟩ | refine iteT ?_ | refine iteF ?_ | refine ⟨_, _, _, _, _, rfl, .ty _, tyI, kit_ty kit_int_int, ?_⟩ | refine ⟨_, _, _, _, _, rfl, .ty _, tyI, kit_ty kit_int_bool, ?_⟩ | refine ⟨_, _, _, _, _, rfl, .ty _, tyS, kit_ty kit_str_str, ?_⟩ | refine ⟨_, _, _, _, _, rfl, .ty _, tyB, kit_ty kit_bool_bool, ?_⟩ | refine ⟨_, _, _, _, _, rfl, by assumption, by assumption, by assumption, rfl, ?_⟩))
local macro_rules | `(tactic| walk_at "o") => `(tactic| repeat (first | refine ⟨_, rfl, ?_⟩ | refine ⟨_, _, rfl, rfl, ?_⟩ | refine ⟨rfl, ?_⟩ | refine ⟨⟨_, rfl⟩, ?_⟩ | refine iteT ?_ | refine iteF ?_ | refine ⟨_, _, _, _, _, rfl, .ty _, tyI, kit_ty kit_int_int, ?_⟩ | refine ⟨_, _, _, _, _, rfl, .ty _, tyI, kit_ty kit_int_bool, ?_⟩ | refine ⟨_, _, _, _, _, rfl, .ty _, tyS, kit_ty kit_str_str, ?_⟩ | refine ⟨_, _, _, _, _, rfl, .ty _, tyB, kit_ty kit_bool_bool, ?_⟩ | refine ⟨_, _, _, _, _, rfl, by assumption, by assumption, by assumption, rfl, ?_⟩ | refine iteDF (by omega) ?_ | refine iteD (by omega) ?_ | refine ⟨_, _, _, rfl, by omega, by omega, ?_⟩ | refine And.intro (by omega) ?_))

open SX (S)
theorem rise_snoc : ∀ {ps : List Pit} {q : Pit}, Rise ps → (∀ p ∈ ps, p.line < q.line) → Rise (ps ++ [q])
  | [], _, _, _ => trivial
  | [p], q, _, h => ⟨h p List.mem_cons_self, trivial⟩
  | p :: p2 :: r, q, ⟨h1, h2⟩, h => ⟨h1, rise_snoc (ps := p2 :: r) h2 fun x hx => h x (List.mem_cons_of_mem _ hx)⟩
theorem letters_of {L : List Nat} : ∀ acc : List V, (∀ v ∈ acc, ∃ z ∈ L, v = .str (S [z])) → ∃ wd : List Nat, acc = ((wd.map fun z => [z]).map S).map V.str ∧ ∀ z ∈ wd, z ∈ L
  | [], _ => ⟨[], rfl, fun _ h => absurd h List.not_mem_nil⟩
  | v :: acc, h => by
    obtain ⟨z, hz, rfl⟩ := h v List.mem_cons_self
    obtain ⟨wd, rfl, hw⟩ := letters_of acc fun v hv => h v (List.mem_cons_of_mem _ hv)
    refine ⟨z :: wd, rfl, fun x hx => ?_⟩
    rcases List.mem_cons.mp hx with rfl | hx
    · exact hz
    · exact hw x hx
theorem join_letters : ∀ wd : List Nat, TL.joinL [] (wd.map fun z => [z]) = wd
  | [] => rfl
  | [z] => rfl
  | z :: y :: r => by
    show [z] ++ ([] ++ TL.joinL [] ((y :: r).map fun z => [z])) = _
    rw [join_letters (y :: r)]
    rfl
section
variable {P : Program} {w : World} {K : PySem.W.Frag} {mg : Str → Option Value} {base : Heap} {A : Ad}
def sp__law_pitches (K : PySem.W.Frag) : Sp := fun vs H Q _ => ∃ (G : Hp) (a t : Addr) (ns : List Int) (k : Nat), vs = [.ref a, .ref t] ∧ Tp K G H a t ns k ∧ k + 10 ≤ 1000000 ∧
  ∀ (ps : List Pit) G' H' z k', 1 ≤ ps.length → ps.length ≤ 4 → (∀ p ∈ ps, PitOk p) → Rise ps → Grow (At t) G H G' H' → Tp K G' H' a t ns k' → k' ≤ k + 10 → Dp K G' z (psD ps) → Q z H'
theorem ok__law_pitches (T : Txt w K mg A) : Cal P w K mg base 2 "_law_pitches" (sp__law_pitches K) [] := by
  obtain ⟨f, d⟩ := T.d__law_pitches
  refine cal_of d sc__law_pitches (fun vs H Q E h => ?_) (fun cdv A' outer s H vs Q E hr h => ?_)
  · obtain ⟨G, a, t, ns, k, rfl, _⟩ := h; rfl
  · obtain ⟨G, a, t, ns, k, rfl, tp, hk, q⟩ := h
    refine ⟨_, (pss_cons (ps_set (i := 2) sc__law_pitches.nd rfl (Or.inl rfl) (pe_lst pa_nil))
    (pss_cons (ps_set (i := 3) sc__law_pitches.nd rfl (Or.inl rfl) (pe_op op_add pe_int (pe_c (ok__law_draw T) hr (by decide) rfl (pa_cons (pv 0) (pa_cons (pv 1) (pa_cons pe_int pa_nil))))))
    (pss_cons (ps_for PassesOwn.never rfl (pi_range1 (by rfl) T.n_range (pa_cons (pe_ix ix_list (pe_lst (pa_cons pe_int (pa_cons pe_int (pa_cons pe_int (pa_cons pe_int (pa_cons pe_int pa_nil)))))) (pe_c (ok__law_draw T) hr (by decide) rfl (pa_cons (pv 0) (pa_cons (pv 1) (pa_cons pe_int pa_nil)))) (fun _ _ => rfl)) pa_nil)) (pg_name (i := 4) sc__law_pitches.nd rfl (Or.inl rfl)) (pss_cons (ps_expr (pe_bm PySem.F.plainAttrs_list PySem.F.slot_list_append PySem.F.type_list_append mt_append (pv 2) (pa_cons (pe_tup (pa_cons (pe_op op_mod (pv 3) pe_int) (pa_cons (pe_op op_sub (pe_c (ok__law_draw T) hr (by decide) rfl (pa_cons (pv 0) (pa_cons (pv 1) (pa_cons pe_int pa_nil)))) pe_int) (pa_cons (pe_op op_fdiv (pv 3) pe_int) pa_nil)))) pa_nil)))
      (pss_one (ps_set (i := 3) sc__law_pitches.nd rfl (Or.inl rfl) (pe_op op_add (pe_op op_add (pv 3) pe_int) (pe_c (ok__law_draw T) hr (by decide) rfl (pa_cons (pv 0) (pa_cons (pv 1) (pa_cons pe_int pa_nil)))))))))
    (pss_one (ps_ret (pv 2)))))), ?_⟩
    refine ⟨Nat.zero_le _, fun fo hfo => ?_⟩
    have gfo := tp.sm.free hfo
    have ntf := tp.ne hfo
    have g0 : Grow (At t) G H G (upd H fo (.lst [])) := (Grow.refl tp.sm).put gfo (.inl hfo)
    have tp0 : Tp K G (upd H fo (.lst [])) a t ns k := tp.put gfo ntf
    have k0 : (upd H fo (.lst [])) fo = some (.lst []) := upd_same
    generalize upd H fo (.lst []) = H0 at g0 tp0 k0 ⊢
    walk_at "s"
    refine ⟨G, a, t, ns, k, 40, rfl, tp0, by omega, by decide, fun v1 H1 hv1 g1 tp1 => ?_⟩
    have g01 := g0.tt g1 tp0
    have k1 := g1.hh _ _ (fun z => ntf z.symm) k0
    walk_at "s"
    refine ⟨by show 5 ≤ sizeLine; decide, fun lp hlp => ?_⟩
    have s2 := same_new (o := .lst [.int 1, .int 1, .int 2, .int 3, .int 4]) hlp
    have tp2 := tp1.same s2
    walk_at "s"
    refine ⟨G, a, t, ns, k + 1, 5, rfl, tp2, by omega, by decide, fun v2 H2 hv2 g2 tp2' => ?_⟩
    have nlt : lp ≠ t := fun z => by rw [z, tp1.ht] at hlp; cases hlp
    have k2 := g2.hh _ _ nlt upd_same
    have k2f := g2.hh _ _ (fun z => ntf z.symm) (s2 _ _ k1)
    have g02 := (g01.tt (Grow.of_same g01.gh s2) tp1).tt g2 tp2
    obtain ⟨c, hc, hc1, hc2⟩ : ∃ c : Nat, [V.int 1, V.int 1, V.int 2, V.int 3, V.int 4][v2]? = some (.int (c : Nat)) ∧ 1 ≤ c ∧ c ≤ 4 := by
      have : v2 = 0 ∨ v2 = 1 ∨ v2 = 2 ∨ v2 = 3 ∨ v2 = 4 := by omega
      rcases this with rfl | rfl | rfl | rfl | rfl
      · exact ⟨1, rfl, by decide, by decide⟩
      · exact ⟨1, rfl, by decide, by decide⟩
      · exact ⟨2, rfl, by decide, by decide⟩
      · exact ⟨3, rfl, by decide, by decide⟩
      · exact ⟨4, rfl, by decide, by decide⟩
    refine ⟨_, _, _, _, rfl, rfl, sqlU k2, atI_nat hc, ?_⟩
    refine ⟨_, rfl, by omega, by omega, ?_⟩
    rw [show ((c : Nat) : Int).toNat = c from rfl]
    refine for_it walk_range (fun i σ H' => ∃ (G3 : Hp) (at_ : Nat) (acc : List V) (ps : List Pit) (k' : Nat) (y : Option V), σ = [some (.ref a), some (.ref t), some (.ref fo), some (.int at_), y] ∧ 7 ≤ at_ ∧ at_ ≤ 46 + 4 * i ∧ ps.length = i ∧ (∀ p ∈ ps, PitOk p ∧ p.line < at_) ∧ Rise ps ∧
      Grow (At t) G H G3 H' ∧ Tp K G3 H' a t ns k' ∧ k' ≤ k + 2 + 2 * i ∧ H' fo = some (.lst acc) ∧ G3 fo = none ∧ DpAll K G3 acc (ps.map pitD))
      ⟨G, 7 + v1, [], [], k + 1 + 1, none, by show _ = _; rw [show ((7 + v1 : Nat) : Int) = 7 + (v1 : Int) by omega]; rfl, by omega, by omega, rfl, fun p hp => absurd hp List.not_mem_nil, trivial, g02, tp2', by omega, k2f, gfo, .nil⟩ (fun _ _ _ _ _ => trivial) ?_ ?_
    · rintro i v σ H3 H3' hi ⟨G3, at_, acc, ps, k', y, rfl, ha1, ha2, hpl, hps, hri, g3, tp3, hk', ef3, gf3, hacc⟩ ⟨rfl, rfl⟩
      have hal := hacc.len
      rw [List.length_map] at hal
      walk_at "s"
      refine ⟨.inl ⟨rfl, _, sqlU ef3⟩, ?_⟩
      walk_at "s"
      refine ⟨show (0 : Int) < 7 by decide, ?_⟩
      walk_at "s"
      refine ⟨G3, a, t, ns, k', 5, rfl, tp3, by omega, by decide, fun v4 H4 hv4 g4 tp4 => ?_⟩
      have ef4 := g4.hh _ _ (fun z => ntf z.symm) ef3
      walk_at "s"
      refine ⟨⟨by decide, by decide⟩, ?_⟩
      refine ⟨by show 3 ≤ sizeLine; decide, fun pt hpt => ?_⟩
      have g34 := g3.tt g4 tp3
      have npf : fo ≠ pt := ne_of_none ef4 hpt
      have ntp := tp4.ne hpt
      have g5 := g34.imm (o := .tup [.int ((at_ : Int) % 7), .int ((v4 : Int) - 2), .int ((at_ : Int) / 7)]) hpt fun o _ m => ntp m.symm
      have tp5 := tp4.imm (o := .tup [.int ((at_ : Int) % 7), .int ((v4 : Int) - 2), .int ((at_ : Int) / 7)]) hpt
      have s5 := same_new (o := .tup [.int ((at_ : Int) % 7), .int ((v4 : Int) - 2), .int ((at_ : Int) / 7)]) (g34.gh.free hpt)
      have dp5 : Dp K (upd G3 pt (.tup [.int ((at_ : Int) % 7), .int ((v4 : Int) - 2), .int ((at_ : Int) / 7)])) (.ref pt) (pitD ⟨(at_ : Int) % 7, (v4 : Int) - 2, (at_ : Int) / 7⟩) := .tupU upd_same (.cons (.int _) (.cons (.int _) (.cons (.int _) .nil)))
      have ef5 : (upd H4 pt (.tup [.int ((at_ : Int) % 7), .int ((v4 : Int) - 2), .int ((at_ : Int) / 7)])) fo = some (.lst acc) := by rw [upd_ne npf]; exact ef4
      have gf5 : (upd G3 pt (.tup [.int ((at_ : Int) % 7), .int ((v4 : Int) - 2), .int ((at_ : Int) / 7)])) fo = none := by rw [upd_ne npf]; exact gf3
      have hacc5 := hacc.mono s5
      generalize upd G3 pt _ = G5 at g5 tp5 dp5 gf5 hacc5
      generalize upd H4 pt _ = H5 at g5 tp5 ef5 ⊢
      refine ⟨fo, acc, _, rfl, rfl, ef5, szl (by omega), ?_⟩
      have g6 := g5.put (o := .lst (acc ++ [.ref pt])) gf5 (.inl hfo)
      have tp6 : Tp K G5 (upd H5 fo (.lst (acc ++ [.ref pt]))) a t ns (k' + 1) := tp5.put gf5 ntf
      have k6 : (upd H5 fo (.lst (acc ++ [.ref pt]))) fo = some (.lst (acc ++ [.ref pt])) := upd_same
      generalize upd H5 fo (.lst (acc ++ [.ref pt])) = H6 at g6 tp6 k6 ⊢
      walk_at "s"
      refine ⟨G5, a, t, ns, k' + 1, 4, rfl, tp6, by omega, by decide, fun v7 H7 hv7 g7 tp7 => ?_⟩
      walk_at "s"
      refine ⟨G5, at_ + 1 + v7, acc ++ [.ref pt], ps ++ [⟨(at_ : Int) % 7, (v4 : Int) - 2, (at_ : Int) / 7⟩], k' + 1 + 1, some (.int (0 + (i : Int))), ?_, by omega, by omega, by simp; omega, ?_, ?_, g6.tt g7 tp6, tp7, by omega, g7.hh _ _ (fun z => ntf z.symm) k6, gf5, by rw [List.map_append]; exact hacc5.snoc dp5⟩
      · rw [show ((at_ + 1 + v7 : Nat) : Int) = (at_ : Int) + 1 + (v7 : Int) by omega]
        rfl
      · intro p hp
        rcases List.mem_append.mp hp with hp | hp
        · obtain ⟨o, l⟩ := hps p hp
          exact ⟨o, by omega⟩
        · rw [List.mem_singleton.mp hp]
          refine ⟨⟨?_, ?_, ?_, ?_, ?_, ?_⟩, ?_⟩
          · show 0 ≤ (at_ : Int) % 7; omega
          · show (at_ : Int) % 7 ≤ 6; omega
          · show -2 ≤ (v4 : Int) - 2; omega
          · show (v4 : Int) - 2 ≤ 2; omega
          · show 0 ≤ (at_ : Int) / 7; omega
          · show (at_ : Int) / 7 ≤ 8; omega
          · show 7 * ((at_ : Int) / 7) + (at_ : Int) % 7 < _; omega
      · refine rise_snoc hri fun p hp => ?_
        show p.line < 7 * ((at_ : Int) / 7) + (at_ : Int) % 7
        have := (hps p hp).2
        omega
    · rintro σ H3 ⟨G3, at_, acc, ps, k', y, rfl, ha1, ha2, hpl, hps, hri, g3, tp3, hk', ef3, gf3, hacc⟩
      walk_at "s"
      have g4 := g3.fix ef3 hfo gf3
      have s4 : Same G3 (upd G3 fo (.lst acc)) := fun b u e => by rw [upd_ne (ne_of_none e gf3)]; exact e
      refine q ps _ _ _ k' (by omega) (by omega) (fun p hp => (hps p hp).1) hri g4 ⟨g4.gh, s4.seq tp3.sc, tp3.nl, by rw [upd_ne ntf]; exact tp3.gt, tp3.ht⟩ (by omega) (.lstU upd_same (hacc.mono s4))
def sp__law_syllable (K : PySem.W.Frag) : Sp := fun vs H Q _ => ∃ (G : Hp) (a t : Addr) (ns : List Int) (k : Nat), vs = [.ref a, .ref t] ∧ Tp K G H a t ns k ∧ k + 13 ≤ 1000000 ∧
  ∀ (wd : List Nat) G' H' k', (wd = [] ∨ SyllOk wd) → Grow (At t) G H G' H' → Tp K G' H' a t ns k' → k' ≤ k + 13 → Q (.str (S wd)) H'
def sp__law_length (K : PySem.W.Frag) : Sp := fun vs H Q _ => ∃ (G : Hp) (a t : Addr) (ns : List Int) (k : Nat), vs = [.ref a, .ref t] ∧ Tp K G H a t ns k ∧ k + 2 ≤ 1000000 ∧
  ∀ (n : Nat) H', 2 ≤ n → n ≤ 150 → Grow (At t) G H G H' → Tp K G H' a t ns (k + 2) → Q (.int n) H'
theorem ok__law_length (T : Txt w K mg A) : Cal P w K mg base 2 "_law_length" (sp__law_length K) [] := by
  obtain ⟨f, d⟩ := T.d__law_length
  refine cal_of d sc__law_length (fun vs H Q E h => ?_) (fun cdv A' outer s H vs Q E hr h => ?_)
  · obtain ⟨G, a, t, ns, k, rfl, _⟩ := h; rfl
  · obtain ⟨G, a, t, ns, k, rfl, tp, hk, q⟩ := h
    refine ⟨_, (pss_cons (ps_set (i := 2) sc__law_length.nd rfl (Or.inl rfl) (pe_lst (pa_cons pe_int (pa_cons pe_int (pa_cons pe_int (pa_cons pe_int (pa_cons pe_int (pa_cons pe_int (pa_cons pe_int (pa_cons pe_int (pa_cons pe_int (pa_cons pe_int (pa_cons pe_int (pa_cons pe_int (pa_cons pe_int (pa_cons (pe_op op_add pe_int (pe_c (ok__law_draw T) hr (by decide) rfl (pa_cons (pv 0) (pa_cons (pv 1) (pa_cons pe_int pa_nil))))) pa_nil))))))))))))))))
    (pss_one (ps_ret (pe_ix ix_list (pv 2) (pe_c (ok__law_draw T) hr (by decide) rfl (pa_cons (pv 0) (pa_cons (pv 1) (pa_cons pe_int pa_nil)))) (fun _ _ => rfl))))), ?_⟩
    walk_at "s"
    refine ⟨G, a, t, ns, k, 60, rfl, tp, by omega, by decide, fun v1 H1 hv1 g1 tp1 => ?_⟩
    walk_at "s"
    refine ⟨by show 14 ≤ sizeLine; decide, fun lp hlp => ?_⟩
    have s2 := same_new (o := .lst [.int 24, .int 12, .int 48, .int 8, .int 16, .int 6, .int 36, .int 3, .int 2, .int 96, .int 5, .int 150, .int 24, .int (2 + (v1 : Int))]) hlp
    have k2 : (upd H1 lp (.lst [.int 24, .int 12, .int 48, .int 8, .int 16, .int 6, .int 36, .int 3, .int 2, .int 96, .int 5, .int 150, .int 24, .int (2 + (v1 : Int))])) lp = some (.lst [.int 24, .int 12, .int 48, .int 8, .int 16, .int 6, .int 36, .int 3, .int 2, .int 96, .int 5, .int 150, .int 24, .int (2 + (v1 : Int))]) := upd_same
    have tp2 := tp1.same s2
    have g2 := g1.tt (Grow.of_same g1.gh s2) tp1
    generalize upd H1 lp _ = H2 at tp2 g2 k2 ⊢
    walk_at "s"
    refine ⟨G, a, t, ns, k + 1, 14, rfl, tp2, by omega, by decide, fun v3 H3 hv3 g3 tp3 => ?_⟩
    have nlt : lp ≠ t := fun z => by rw [z, tp1.ht] at hlp; cases hlp
    have k3 := g3.hh _ _ nlt k2
    obtain ⟨c, hc, hc1, hc2⟩ : ∃ c : Nat, [V.int 24, V.int 12, V.int 48, V.int 8, V.int 16, V.int 6, V.int 36, V.int 3, V.int 2, V.int 96, V.int 5, V.int 150, V.int 24, V.int (2 + (v1 : Int))][v3]? = some (.int (c : Nat)) ∧ 2 ≤ c ∧ c ≤ 150 := by
      have : v3 = 0 ∨ v3 = 1 ∨ v3 = 2 ∨ v3 = 3 ∨ v3 = 4 ∨ v3 = 5 ∨ v3 = 6 ∨ v3 = 7 ∨ v3 = 8 ∨ v3 = 9 ∨ v3 = 10 ∨ v3 = 11 ∨ v3 = 12 ∨ v3 = 13 := by omega
      rcases this with rfl | rfl | rfl | rfl | rfl | rfl | rfl | rfl | rfl | rfl | rfl | rfl | rfl | rfl
      · exact ⟨24, rfl, by decide, by decide⟩
      · exact ⟨12, rfl, by decide, by decide⟩
      · exact ⟨48, rfl, by decide, by decide⟩
      · exact ⟨8, rfl, by decide, by decide⟩
      · exact ⟨16, rfl, by decide, by decide⟩
      · exact ⟨6, rfl, by decide, by decide⟩
      · exact ⟨36, rfl, by decide, by decide⟩
      · exact ⟨3, rfl, by decide, by decide⟩
      · exact ⟨2, rfl, by decide, by decide⟩
      · exact ⟨96, rfl, by decide, by decide⟩
      · exact ⟨5, rfl, by decide, by decide⟩
      · exact ⟨150, rfl, by decide, by decide⟩
      · exact ⟨24, rfl, by decide, by decide⟩
      · exact ⟨2 + v1, by rw [show ((2 + v1 : Nat) : Int) = 2 + (v1 : Int) by omega]; rfl, by omega, by omega⟩
    refine ⟨_, _, _, _, rfl, rfl, sqlU k3, atI_nat hc, ?_⟩
    exact q c _ hc1 hc2 (g2.tt g3 tp2) tp3
theorem ok__law_syllable (T : Txt w K mg A) : Cal P w K mg base 2 "_law_syllable" (sp__law_syllable K) [] := by
  obtain ⟨f, d⟩ := T.d__law_syllable
  refine cal_of d sc__law_syllable (fun vs H Q E h => ?_) (fun cdv A' outer s H vs Q E hr h => ?_)
  · obtain ⟨G, a, t, ns, k, rfl, _⟩ := h; rfl
  · obtain ⟨G, a, t, ns, k, rfl, tp, hk, q⟩ := h
    refine ⟨_, (pss_cons (ps_set (i := 2) sc__law_syllable.nd rfl (Or.inr rfl) pe_str)
    (pss_cons (ps_set (i := 3) sc__law_syllable.nd rfl (Or.inl rfl) (pe_ix ix_list (pe_lst (pa_cons pe_int (pa_cons pe_int (pa_cons pe_int (pa_cons pe_int (pa_cons pe_int pa_nil)))))) (pe_c (ok__law_draw T) hr (by decide) rfl (pa_cons (pv 0) (pa_cons (pv 1) (pa_cons pe_int pa_nil)))) (fun _ _ => rfl)))
    (pss_one (ps_ret (pe_join pe_str (pe_lc (own := [("_law_k", 4)]) (g := (gName 4)) (tt := tYes) (by rfl) sc__law_syllable.nd (pi_range1 (by rfl) T.n_range (pa_cons (pv 3) pa_nil)) (blkOk_by (N := N__law_syllable) (sc := (defScope s__law_syllable)) (by decide +kernel)) (fun _ _ _ _ _ => (pg_name (i := 4) sc__law_syllable.nd rfl (Or.inl rfl))) (fun _ _ _ _ _ => pts_nil) (fun _ _ _ _ _ => (pe_ix ix_str (pv 2) (pe_c (ok__law_draw T) hr (by decide) rfl (pa_cons (pv 0) (pa_cons (pv 1) (pa_cons pe_int pa_nil)))) (fun _ _ => rfl))))))))), ?_⟩
    walk_at "s"
    refine ⟨by show 5 ≤ sizeLine; decide, fun lp hlp => ?_⟩
    have s2 := same_new (o := .lst [.int 0, .int 0, .int 1, .int 3, .int 12]) hlp
    have tp2 := tp.same s2
    have g2 : Grow (At t) G H G (upd H lp (.lst [.int 0, .int 0, .int 1, .int 3, .int 12])) := Grow.of_same tp.sm s2
    have k2 : (upd H lp (.lst [.int 0, .int 0, .int 1, .int 3, .int 12])) lp = some (.lst [.int 0, .int 0, .int 1, .int 3, .int 12]) := upd_same
    generalize upd H lp _ = H2 at tp2 g2 k2 ⊢
    walk_at "s"
    refine ⟨G, a, t, ns, k, 5, rfl, tp2, by omega, by decide, fun v3 H3 hv3 g3 tp3 => ?_⟩
    have nlt : lp ≠ t := fun z => by rw [z, tp.ht] at hlp; cases hlp
    have k3 := g3.hh _ _ nlt k2
    obtain ⟨c, hc, hc2⟩ : ∃ c : Nat, [V.int 0, V.int 0, V.int 1, V.int 3, V.int 12][v3]? = some (.int (c : Nat)) ∧ c ≤ 12 := by
      have : v3 = 0 ∨ v3 = 1 ∨ v3 = 2 ∨ v3 = 3 ∨ v3 = 4 := by omega
      rcases this with rfl | rfl | rfl | rfl | rfl
      · exact ⟨0, rfl, by decide⟩
      · exact ⟨0, rfl, by decide⟩
      · exact ⟨1, rfl, by decide⟩
      · exact ⟨3, rfl, by decide⟩
      · exact ⟨12, rfl, by decide⟩
    refine ⟨_, _, _, _, rfl, rfl, sqlU k3, atI_nat hc, ?_⟩
    have g23 := g2.tt g3 tp2
    walk_at "s"
    refine ⟨by omega, by omega, fun D hD => ?_⟩
    rw [show ((c : Nat) : Int).toNat = c from rfl]
    refine lc_gen (M := At t) walk_range hD tp3.sm (fun i H' => ∃ k' : Nat, H' t = some (.lst [.int k']) ∧ k' ≤ k + 1 + i) (fun _ _ v => ∃ z ∈ (Str.ofString "abcdefghijklmnopqrstuvwxyzABCDEFGHIJKLMNOPQRSTUVWXYZ-").cps.toList, v = .str (S [z])) (by omega)
      (fun b m => by cases m; exact ⟨_, tp3.ht, tp3.gt⟩) (fun i H H' h ⟨k', e, hk'⟩ => ⟨⟨k', by rw [h _ rfl]; exact e, hk'⟩, fun b m => by cases m; exact ⟨_, e⟩⟩) (fun _ _ _ _ _ h => h) ⟨k + 1, tp3.ht, by omega⟩ (fun _ _ _ => trivial) ?_ ?_
    · rintro i v G4 H4 H4' hi g4 ⟨k', e4, hk'⟩ ⟨rfl, rfl⟩ Q' hq
      have tp4 := tp3.next g4 e4
      refine ⟨rfl, ?_⟩
      walk_at "s"
      refine ⟨G4, a, t, ns, k', 53, rfl, tp4, by omega, by decide, fun v5 H5 hv5 g5 tp5 => ?_⟩
      have hll : (Str.ofString "abcdefghijklmnopqrstuvwxyzABCDEFGHIJKLMNOPQRSTUVWXYZ-").cps.toList.length = 53 := by decide +kernel
      obtain ⟨z, hz⟩ : ∃ z, (Str.ofString "abcdefghijklmnopqrstuvwxyzABCDEFGHIJKLMNOPQRSTUVWXYZ-").cps.toList[v5]? = some z := ⟨_, List.getElem?_eq_getElem (by rw [hll]; exact hv5)⟩
      refine ⟨_, _, z, rfl, rfl, by show (Str.ofString "abcdefghijklmnopqrstuvwxyzABCDEFGHIJKLMNOPQRSTUVWXYZ-").cps.size ≤ sizeLine; exact sz (by rw [← Array.length_toList, hll]; decide), atI_nat hz, ?_⟩
      exact hq _ _ _ g5 ⟨k' + 1, tp5.ht, by omega⟩ ⟨z, List.mem_of_getElem? hz, rfl⟩
    · intro G4 H4 acc g4 gD eD el er ⟨k', e4, hk'⟩
      have tp4 := tp3.next g4 e4
      obtain ⟨wd, rfl, hwd⟩ := letters_of (L := (Str.ofString "abcdefghijklmnopqrstuvwxyzABCDEFGHIJKLMNOPQRSTUVWXYZ-").cps.toList) acc fun v hv => by
        obtain ⟨i, hi, rfl⟩ := List.getElem_of_mem hv
        exact er i _ (List.getElem?_eq_getElem hi)
      rw [List.length_map, List.length_map, List.length_map] at el
      refine ⟨_, D, (wd.map fun z => [z]).map S, rfl, rfl, .inl (sqlU eD), ?_, ?_⟩
      · have e0 : (Str.ofString "").length = 0 := by decide +kernel
        rw [e0, SX.lens]
        have : ((wd.map fun z => [z]).map (·.length)).sum ≤ 1 * (wd.map fun z => [z]).length := sum_le fun x hx => by
          obtain ⟨g, hg, rfl⟩ := List.mem_map.mp hx
          exact Nat.le_refl _
        rw [List.length_map] at this
        omega
      rw [lit_ "" [] (by decide +kernel), SX.join_S, join_letters]
      refine q wd G4 H4 k' ?_ (g23.tt g4 tp3) tp4 (by omega)
      cases hw : wd with
      | nil => exact .inl rfl
      | cons z r =>
        refine .inr ⟨by simp, ?_, ?_⟩
        · rw [← hw]; omega
        · rw [← hw]; exact hwd
end
end BW
set_option Elab.async false
set_option linter.all false
set_option maxRecDepth 100000
set_option maxHeartbeats 4000000
set_option pp.maxSteps 3000
namespace BW
open PySem PySem.Spec PyProof.Rows L2
open C8 (Cal Met Mak pe_c pe_mk pe_mt pe_mt0 pe_gc sl_txt fnBody fnScope fnArgs)
local macro_rules | `(tactic| walk_at "v") => `(tactic| refine ⟨_, rfl, ?_⟩)
local macro_rules | `(tactic| walk_at "i2") => `(tactic| refine ⟨_, _, rfl, rfl, ?_⟩)
local macro_rules | `(tactic| walk_at "k") => `(tactic| exact (by decide +kernel))
local macro_rules | `(tactic| walk_at "s") => `(tactic| repeat (first | refine ⟨_, rfl, ?_⟩ | refine ⟨_, _, rfl, rfl, ?_⟩ | refine ⟨rfl, ?_⟩ | refine ⟨⟨_, rfl⟩, ?_⟩ | refine iteT ?_ | refine iteF ?_ | refine ⟨_, _, _, _, _, rfl, .ty _, tyI, kit_ty kit_int_int, ?_⟩ | refine ⟨_, _, _, _, _, rfl, .ty _, tyI, kit_ty kit_int_bool, ?_⟩ | refine ⟨_, _, _, _, _, rfl, .ty _, tyS, kit_ty kit_str_str, ?_⟩ | refine ⟨_, _, _, _, _, rfl, .ty _, tyB, kit_ty kit_bool_bool, ?_⟩ | refine ⟨_, _, _, _, _, rfl, by assumption, by assumption, by assumption, rfl, ?_⟩))
local macro_rules | `(tactic| walk_at "o") => `(tactic| repeat (first | refine ⟨_, rfl, ?_⟩ | refine ⟨_, _, rfl, rfl, ?_⟩ | refine ⟨rfl, ?_⟩ | refine ⟨⟨_, rfl⟩, ?_⟩ | refine iteT ?_ | refine iteF ?_ | refine ⟨_, _, _, _, _, rfl, .ty _, tyI, kit_ty kit_int_int, ?_⟩ | refine ⟨_, _, _, _, _, rfl, .ty _, tyI, kit_ty kit_int_bool, ?_⟩ | refine ⟨_, _, _, _, _, rfl, .ty _, tyS, kit_ty kit_str_str, ?_⟩ | refine ⟨_, _, _, _, _, rfl, .ty _, tyB, kit_ty kit_bool_bool, ?_⟩ | refine ⟨_, _, _, _, _, rfl, by assumption, by assumption, by assumption, rfl, ?_⟩ | refine iteDF (by omega) ?_ | refine iteD (by omega) ?_ | refine ⟨_, _, _, rfl, by omega, by omega, ?_⟩ | refine And.intro (by omega) ?_))

open SX (S)
def slRun : Bool → List Snd → Bool → Prop
  | b, [], b' => b = b'
  | b, .rest _ :: r, b' => slRun b r b'
  | b, .tones _ _ _ o c :: r, b' => (c = true → b = true) ∧ (o = true → b = true → c = true) ∧ slRun (o || (b && !c)) r b'
theorem slRun_app : ∀ {ss : List Snd} {r : List Snd} {b b1 b2 : Bool}, slRun b ss b1 → slRun b1 r b2 → slRun b (ss ++ r) b2
  | [], _, _, _, _, h, h2 => by cases h; exact h2
  | .rest _ :: ss, _, _, _, _, h, h2 => slRun_app (ss := ss) h h2
  | .tones _ _ _ _ _ :: ss, _, _, _, _, ⟨h1, h2, h3⟩, h4 => ⟨h1, h2, slRun_app (ss := ss) h3 h4⟩
theorem slRun_slurs : ∀ {ss : List Snd} {b : Bool}, slRun b ss false → slurs b ss
  | [], _, h => h
  | .rest _ :: ss, _, h => slRun_slurs (ss := ss) h
  | .tones _ _ _ _ _ :: ss, _, ⟨h1, h2, h3⟩ => ⟨h1, h2, slRun_slurs (ss := ss) h3⟩
theorem dec1 {v : Nat} : decide (V.int (v : Int) = V.int 1) = decide (v = 1) := decide_eq_decide.mpr ⟨fun z => by injection z with z; omega, fun z => by rw [z]; rfl⟩
theorem dec0 {v : Nat} : decide (V.int (v : Int) = V.int 0) = decide (v = 0) := decide_eq_decide.mpr ⟨fun z => by injection z with z; omega, fun z => by rw [z]; rfl⟩
theorem tidy_ne {ss : List Snd} {ps : List Pit} {n : Nat} {wd : List Nat} {o c : Bool} {r : List Snd} (hr : ∀ s ∈ r, Snd.isRest s = true) : tidyL (ss ++ Snd.tones ps n wd o c :: r) ≠ [] := by
  have key : ∀ (r : List Snd), (∀ s ∈ r, Snd.isRest s = true) → fold (ss ++ Snd.tones ps n wd o c :: r) = fold ss ++ [.tones ps n wd o c] ∨ ∃ m, fold (ss ++ Snd.tones ps n wd o c :: r) = fold ss ++ [.tones ps n wd o c, .rest m] := by
    refine snocInd (P := fun r => (∀ s ∈ r, Snd.isRest s = true) → fold (ss ++ Snd.tones ps n wd o c :: r) = fold ss ++ [.tones ps n wd o c] ∨ ∃ m, fold (ss ++ Snd.tones ps n wd o c :: r) = fold ss ++ [.tones ps n wd o c, .rest m]) ?_ ?_
    · intro _
      left
      rw [fold_snoc, tidyStep_tones]
    · intro r s ih h
      have hs := h s (List.mem_append_right _ List.mem_cons_self)
      cases s with
      | tones => cases hs
      | rest m =>
        have e : ss ++ Snd.tones ps n wd o c :: (r ++ [.rest m]) = (ss ++ Snd.tones ps n wd o c :: r) ++ [.rest m] := by simp
        right
        rw [e, fold_snoc]
        rcases ih fun s hs => h s (List.mem_append_left _ hs) with ih | ⟨m', ih⟩
        · refine ⟨m, ?_⟩
          rw [ih, tidyStep_snoc]
          simp
        · refine ⟨m' + m, ?_⟩
          rw [ih, show fold ss ++ [Snd.tones ps n wd o c, .rest m'] = (fold ss ++ [.tones ps n wd o c]) ++ [.rest m'] by simp, tidyStep_snoc]
          simp
  rw [tidyL_eq]
  rcases key r hr with e | ⟨m, e⟩
  · rw [e, tidyCut_snoc]
    simp [Snd.isRest]
  · rw [e, show fold ss ++ [Snd.tones ps n wd o c, .rest m] = (fold ss ++ [.tones ps n wd o c]) ++ [.rest m] by simp, tidyCut_snoc]
    simp [Snd.isRest]
theorem set_self {σ : L2.St} {i : Nat} {x : Option V} (h : σ[i]? = some x) : σ.set i x = σ := by
  refine List.ext_getElem? fun j => ?_
  rw [List.getElem?_set]
  split
  · rename_i e
    subst e
    split
    · exact h.symm
    · rename_i hl
      rw [List.getElem?_eq_none (by omega)] at h
      cases h
  · rfl
theorem cutLen {c : Prop} [Decidable c] {D : Ends} {σ : L2.St} {H : Hp} {n : Nat} (h1 : 2 ≤ n) (h2 : n ≤ 150) (h : σ[8]? = some (some (.int n))) (q : ∀ n' : Nat, 2 ≤ n' → n' ≤ 150 → D.nx (σ.set 8 (some (.int n'))) H) :
    if decide c = true then tAsg (tOp (rI0 fun i j => V.int (i + j)) (tC (.int 2)) (tOp (rI (fun _ j => 0 < j) fun i j => V.int (i % j)) (tVar 8) (tC (.int 7)))) (gName 8) D σ H else tNext D σ H := by
  by_cases hc : c
  · refine iteD hc ?_
    refine ⟨_, h, _, _, rfl, rfl, show (0 : Int) < 7 by decide, _, _, rfl, rfl, ?_⟩
    have := q (2 + n % 7) (by omega) (by omega)
    rw [show ((2 + n % 7 : Nat) : Int) = 2 + (n : Int) % 7 by omega] at this
    exact this
  · refine iteDF hc ?_
    have := q n h1 h2
    rw [set_self h] at this
    exact this
theorem cntIf {K : PySem.W.Frag} {b : Bool} {D : Ends} {σ : L2.St} {G H : Hp} {a t : Addr} {ns : List Int} {k n : Nat} (tp : Tp K G H a t ns k) (hk : k ≤ 1000000) (hn : n ≤ 93) (h0 : σ[0]? = some (some (.ref a))) (h1 : σ[1]? = some (some (.ref t))) (h6 : σ[6]? = some (some (.int n)))
    (q : ∀ (cnt kk : Nat) H', cnt ≤ 93 → kk ≤ k + 1 → Grow (At t) G H G H' → Tp K G H' a t ns kk → D.nx (σ.set 6 (some (.int cnt))) H') :
    if b = true then tAsg (tCall (sp__law_draw K) [] C8.E0 (tCons (tVar 0) (tCons (tVar 1) (tCons (tC (.int 94)) tNil)))) (gName 6) D σ H else tNext D σ H := by
  cases b with
  | true =>
    refine iteT ?_
    refine ⟨_, h0, _, h1, ?_⟩
    exact ⟨G, a, t, ns, k, 94, rfl, tp, hk, by decide, fun v H' hv g tp' => q v (k + 1) H' (by omega) (Nat.le_refl _) g tp'⟩
  | false =>
    refine iteF ?_
    have := q n k H hn (by omega) (Grow.refl tp.sm) tp
    rw [set_self h6] at this
    exact this
section
variable {P : Program} {w : World} {K : PySem.W.Frag} {mg : Str → Option Value} {base : Heap} {A : Ad}
def sp__law_voice (K : PySem.W.Frag) : Sp := fun vs H Q _ => ∃ (G : Hp) (a t : Addr) (ns : List Int) (k most : Nat), vs = [.ref a, .ref t, .int most] ∧ Tp K G H a t ns k ∧ k + 4000 ≤ 1000000 ∧ 200 ≤ most ∧ most ≤ 780 ∧
  ∀ (ss : List Snd) G' H' z k', VoiceOk ss → BW.lens ss ≤ 810 → Grow (At t) G H G' H' → Tp K G' H' a t ns k' → k' ≤ k + 4000 → Dp K G' z (.list (ss.map sndD)) → Q z H'
theorem ok__law_voice (T : Txt w K mg A) : Cal P w K mg base 3 "_law_voice" (sp__law_voice K) [] := by
  obtain ⟨f, d⟩ := T.d__law_voice
  refine cal_of d sc__law_voice (fun vs H Q E h => ?_) (fun cdv A' outer s H vs Q E hr h => ?_)
  · obtain ⟨G, a, t, ns, k, most, rfl, _⟩ := h; rfl
  · obtain ⟨G, a, t, ns, k, most, rfl, tp, hk, hm1, hm2, q⟩ := h
    refine ⟨_, (pss_cons (ps_set (i := 3) sc__law_voice.nd rfl (Or.inl rfl) (pe_lst pa_nil))
    (pss_cons (ps_set (i := 4) sc__law_voice.nd rfl (Or.inl rfl) pe_bl)
    (pss_cons (ps_set (i := 5) sc__law_voice.nd rfl (Or.inl rfl) (pe_op op_sub (pv 2) pe_int))
    (pss_cons (ps_set (i := 6) sc__law_voice.nd rfl (Or.inl rfl) (pe_c (ok__law_draw T) hr (by decide) rfl (pa_cons (pv 0) (pa_cons (pv 1) (pa_cons pe_int pa_nil)))))
    (pss_cons (ps_if (pt_cmpR op_eq (pe_c (ok__law_draw T) hr (by decide) rfl (pa_cons (pv 0) (pa_cons (pv 1) (pa_cons pe_int pa_nil)))) pe_int (nomark _)) (pss_one (ps_set (i := 6) sc__law_voice.nd rfl (Or.inl rfl) (pe_c (ok__law_draw T) hr (by decide) rfl (pa_cons (pv 0) (pa_cons (pv 1) (pa_cons pe_int pa_nil)))))) pss_nil)
    (pss_cons (ps_for PassesOwn.never rfl (pi_range1 (by rfl) T.n_range (pa_cons (pv 6) pa_nil)) (pg_name (i := 7) sc__law_voice.nd rfl (Or.inl rfl)) (pss_cons (ps_set (i := 8) sc__law_voice.nd rfl (Or.inl rfl) (pe_c (ok__law_length T) hr (by decide) rfl (pa_cons (pv 0) (pa_cons (pv 1) pa_nil))))
      (pss_cons (ps_if (pt_cmpR op_gt (pv 6) pe_int (nomark _)) (pss_one (ps_set (i := 8) sc__law_voice.nd rfl (Or.inl rfl) (pe_op op_add pe_int (pe_op op_mod (pv 8) pe_int)))) pss_nil)
      (pss_one (ps_if (pt_cmpR op_le (pv 8) (pv 5) (nomark _)) (pss_cons (ps_set (i := 5) sc__law_voice.nd rfl (Or.inl rfl) (pe_op op_sub (pv 5) (pv 8)))
        (pss_one (ps_if (pt_cmpR op_eq (pe_c (ok__law_draw T) hr (by decide) rfl (pa_cons (pv 0) (pa_cons (pv 1) (pa_cons pe_int pa_nil)))) pe_int (nomark _)) (pss_one (ps_expr (pe_bm PySem.F.plainAttrs_list PySem.F.slot_list_append PySem.F.type_list_append mt_append (pv 3) (pa_cons (pe_tup (pa_cons pe_str (pa_cons (pv 8) pa_nil))) pa_nil)))) (pss_cons (ps_set (i := 9) sc__law_voice.nd rfl (Or.inl rfl) (pe_and (pv 4) (pe_one (pe_cmpR op_eq (pe_c (ok__law_draw T) hr (by decide) rfl (pa_cons (pv 0) (pa_cons (pv 1) (pa_cons pe_int pa_nil)))) pe_int (nomark _)))))
          (pss_cons (ps_set (i := 10) sc__law_voice.nd rfl (Or.inl rfl) (pe_and (L2.pe_or (pv 9) (pe_one (pe_not (pv 4)))) (pe_one (pe_cmpR op_eq (pe_c (ok__law_draw T) hr (by decide) rfl (pa_cons (pv 0) (pa_cons (pv 1) (pa_cons pe_int pa_nil)))) pe_int (nomark _)))))
          (pss_cons (ps_set (i := 4) sc__law_voice.nd rfl (Or.inl rfl) (L2.pe_or (pv 10) (pe_one (pe_and (pv 4) (pe_one (pe_not (pv 9)))))))
          (pss_cons (ps_set (i := 11) sc__law_voice.nd rfl (Or.inl rfl) (pe_c (ok__law_syllable T) hr (by decide) rfl (pa_cons (pv 0) (pa_cons (pv 1) pa_nil))))
          (pss_one (ps_expr (pe_bm PySem.F.plainAttrs_list PySem.F.slot_list_append PySem.F.type_list_append mt_append (pv 3) (pa_cons (pe_tup (pa_cons pe_str (pa_cons (pe_c (ok__law_pitches T) hr (by decide) rfl (pa_cons (pv 0) (pa_cons (pv 1) pa_nil))) (pa_cons (pv 8) (pa_cons (pv 11) (pa_cons (pv 10) (pa_cons (pv 9) pa_nil))))))) pa_nil))))))))))) pss_nil)))))
    (pss_cons (ps_expr (pe_bm PySem.F.plainAttrs_list PySem.F.slot_list_append PySem.F.type_list_append mt_append (pv 3) (pa_cons (pe_tup (pa_cons pe_str (pa_cons (pe_c (ok__law_pitches T) hr (by decide) rfl (pa_cons (pv 0) (pa_cons (pv 1) pa_nil))) (pa_cons (pe_op op_add pe_int (pe_c (ok__law_draw T) hr (by decide) rfl (pa_cons (pv 0) (pa_cons (pv 1) (pa_cons pe_int pa_nil))))) (pa_cons pe_str (pa_cons pe_bl (pa_cons (pv 4) pa_nil))))))) pa_nil)))
    (pss_cons (ps_if (pt_cmpR op_eq (pe_c (ok__law_draw T) hr (by decide) rfl (pa_cons (pv 0) (pa_cons (pv 1) (pa_cons pe_int pa_nil)))) pe_int (nomark _)) (pss_one (ps_expr (pe_bm PySem.F.plainAttrs_list PySem.F.slot_list_extend PySem.F.type_list_extend mt_extend (pv 3) (pa_cons (pe_lst (pa_cons (pe_tup (pa_cons pe_str (pa_cons pe_int pa_nil))) (pa_cons (pe_tup (pa_cons pe_str (pa_cons pe_int pa_nil))) pa_nil))) pa_nil)))) pss_nil)
    (pss_one (ps_ret (pv 3))))))))))), ?_⟩
    refine ⟨Nat.zero_le _, fun fo hfo => ?_⟩
    have gfo := tp.sm.free hfo
    have ntf := tp.ne hfo
    have nft : fo ≠ t := fun z => ntf z.symm
    have g0 : Grow (At t) G H G (upd H fo (.lst [])) := (Grow.refl tp.sm).put gfo (.inl hfo)
    have tp0 : Tp K G (upd H fo (.lst [])) a t ns k := tp.put gfo ntf
    have k0 : (upd H fo (.lst [])) fo = some (.lst []) := upd_same
    generalize upd H fo (.lst []) = H0 at g0 tp0 k0 ⊢
    walk_at "s"
    refine ⟨G, a, t, ns, k, 9, rfl, tp0, by omega, by decide, fun v1 H1 hv1 g1 tp1 => ?_⟩
    have g01 := g0.tt g1 tp0
    have k1 := g1.hh _ _ nft k0
    walk_at "s"
    refine ⟨G, a, t, ns, k + 1, 12, rfl, tp1, by omega, by decide, fun v2 H2 hv2 g2 tp2 => ?_⟩
    have g02 := g01.tt g2 tp1
    have k2 := g2.hh _ _ nft k1
    walk_at "s"
    rw [dec1]
    have emost : (most : Int) - 48 = ((most - 48 : Nat) : Int) := by omega
    obtain ⟨kz, hkz, tpz⟩ : ∃ kk, kk ≤ k + 2 ∧ Tp K G H2 a t ns kk := ⟨_, by omega, tp2⟩
    refine cntIf (b := decide (v2 = 1)) tpz (by omega) (n := v1) (by omega) ?_ ?_ ?_ fun cnt kk H3 hcnt hkk g3 tpx => ?_
    · rfl
    · rfl
    · rfl
    have g03 := g02.tt g3 tpz
    have k3 := g3.hh _ _ nft k2
    have hkk : kk ≤ k + 3 := by omega
    clear tpz hkz g3 tp2 g2 k2 g02 tp1 g1 k1 g01 tp0 g0 k0 hv1 hv2
    walk_at "s"
    refine ⟨by omega, by omega, ?_⟩
    rw [show ((cnt : Nat) : Int).toNat = cnt from rfl]
    refine for_it walk_range (fun i σ H' => ∃ (G3 : Hp) (b : Bool) (left : Nat) (acc : List V) (ss : List Snd) (k' : Nat) (y7 y8 y9 y10 y11 : Option V), σ = [some (.ref a), some (.ref t), some (.int most), some (.ref fo), some (.bl b), some (.int left), some (.int cnt), y7, y8, y9, y10, y11] ∧
      ss.length ≤ i ∧ (∀ s ∈ ss, SndOk s) ∧ slRun false ss b ∧ BW.lens ss + left = most - 48 ∧ Grow (At t) G H G3 H' ∧ Tp K G3 H' a t ns k' ∧ k' ≤ k + 3 + 30 * i ∧ H' fo = some (.lst acc) ∧ G3 fo = none ∧ DpAll K G3 acc (ss.map sndD))
      ⟨G, false, most - 48, [], [], kk, none, none, none, none, none, (by rw [← emost]; rfl), Nat.le_refl _, fun s hs => absurd hs List.not_mem_nil, rfl, Nat.zero_add _, g03, tpx, by omega, k3, gfo, .nil⟩ (fun _ _ _ _ _ => trivial) ?_ ?_
    · rintro i v σ H4 H4' hi ⟨G3, b, left, acc, ss, k', y7, y8, y9, y10, y11, rfl, hsl, hso, hsr, hle, g4, tp4, hk4, ef4, gf4, hacc⟩ ⟨rfl, rfl⟩
      have hal := hacc.len
      rw [List.length_map] at hal
      walk_at "s"
      refine ⟨G3, a, t, ns, k', rfl, tp4, by omega, fun n H5 hn1 hn2 g5 tp5 => ?_⟩
      have g45 := g4.tt g5 tp4
      have ef5 := g5.hh _ _ nft ef4
      walk_at "s"
      refine cutLen hn1 hn2 ?_ fun n' hn1' hn2' => ?_
      · rfl
      · walk_at "s"
        by_cases hlf : n' ≤ left
        · refine iteD (by omega) ?_
          walk_at "s"
          have eleft : (left : Int) - (n' : Int) = ((left - n' : Nat) : Int) := by omega
          refine ⟨G3, a, t, ns, k' + 2, 3, rfl, tp5, by omega, by decide, fun v6 H6 hv6 g6 tp6 => ?_⟩
          have g46 := g45.tt g6 tp5
          have ef6 := g6.hh _ _ nft ef5
          walk_at "s"
          rw [dec0]
          by_cases h6 : v6 = 0
          · rw [decide_eq_true h6]
            walk_at "s"
            refine ⟨.inl ⟨rfl, _, sqlU ef6⟩, ?_⟩
            walk_at "s"
            refine ⟨by show 2 ≤ sizeLine; decide, fun pt hpt => ?_⟩
            have npf : fo ≠ pt := ne_of_none ef6 hpt
            have ntp := tp6.ne hpt
            have g7 := g46.imm (o := .tup [.str (Str.ofString "rest"), .int n']) hpt fun o _ m => ntp m.symm
            have tp7 := tp6.imm (o := .tup [.str (Str.ofString "rest"), .int n']) hpt
            have s7 := same_new (o := .tup [.str (Str.ofString "rest"), .int n']) (g46.gh.free hpt)
            have dp7 : Dp K (upd G3 pt (.tup [.str (Str.ofString "rest"), .int n'])) (.ref pt) (sndD (.rest n')) := .tupU upd_same (.cons (.str _) (.cons (.int _) .nil))
            refine ⟨fo, acc, _, rfl, rfl, by rw [upd_ne npf]; exact ef6, szl (by omega), ?_⟩
            refine ⟨_, b, left - n', acc ++ [.ref pt], ss ++ [.rest n'], k' + 2 + 1, some (.int (0 + (i : Int))), some (.int n'), y9, y10, y11, (by rw [← eleft]; rfl), by simp; omega, ?_, slRun_app (r := [.rest n']) hsr rfl, ?_, g7.put (by rw [upd_ne npf]; exact gf4) (.inl hfo), tp7.put (by rw [upd_ne npf]; exact gf4) ntf, by omega, upd_same, by rw [upd_ne npf]; exact gf4, by rw [List.map_append]; exact (hacc.mono s7).snoc dp7⟩
            · intro s hs
              rcases List.mem_append.mp hs with hs | hs
              · exact hso s hs
              · rw [List.mem_singleton.mp hs]; exact ⟨hn1', by omega⟩
            · rw [BW.lens_append, BW.lens_one]
              show BW.lens ss + n' + (left - n') = _
              omega
          · rw [decide_eq_false h6]
            walk_at "s"
            have fin_ : True := trivial
            cases b with
            | false =>
              walk_at "s"
              refine ⟨G3, a, t, ns, k' + 2 + 1, 4, rfl, tp6, by omega, by decide, fun v7 H7 hv7 g7 tp7 => ?_⟩
              have gd := g46.tt g7 tp6
              have efd := g7.hh _ _ nft ef6
              walk_at "s"
              rw [dec1]
              obtain ⟨kd, hkd, tpd⟩ : ∃ kd, kd ≤ k' + 7 ∧ Tp K G3 H7 a t ns kd := ⟨_, by omega, tp7⟩
              generalize decide (v7 = 1) = o
              cases o
              · walk_at "s"
                refine ⟨G3, a, t, ns, kd, rfl, tpd, by omega, fun wd G9 H9 k9 hwd g9 tp9 hk9 => ?_⟩
                have gd9 := gd.tt g9 tpd
                have ef9 := g9.hh _ _ nft efd
                have gf9 := g9.fr _ _ efd gf4
                walk_at "s"
                refine ⟨.inl ⟨rfl, _, sqlU ef9⟩, ?_⟩
                walk_at "s"
                refine ⟨G9, a, t, ns, k9, rfl, tp9, by omega, fun ps G10 H10 zp k10 hp1 hp2 hp3 hp4 g10 tp10 hk10 hzp => ?_⟩
                have gd10 := gd9.tt g10 tp9
                have ef10 := g10.hh _ _ nft ef9
                have gf10 := g10.fr _ _ ef9 gf9
                walk_at "s"
                refine ⟨by show 6 ≤ sizeLine; decide, fun pt hpt => ?_⟩
                have npf : fo ≠ pt := ne_of_none ef10 hpt
                have ntp := tp10.ne hpt
                refine ⟨fo, acc, _, rfl, rfl, by rw [upd_ne npf]; exact ef10, szl (by omega), ?_⟩
                refine ⟨_, false, left - n', acc ++ [.ref pt], ss ++ [.tones ps n' wd false false], k10, some (.int (0 + (i : Int))), some (.int n'), some (.bl false), some (.bl false), some (.str (S wd)), (by rw [← eleft]; rfl), by simp; omega, ?_, slRun_app hsr (by simp [slRun]), ?_, (gd10.imm hpt fun o _ m => ntp m.symm).put (by rw [upd_ne npf]; exact gf10) (.inl hfo), (tp10.imm hpt).put (by rw [upd_ne npf]; exact gf10) ntf, by omega, upd_same, by rw [upd_ne npf]; exact gf10, by rw [List.map_append]; exact ((hacc.mono (g9.gg.trans g10.gg)).mono (same_new (gd10.gh.free hpt))).snoc (.tupU upd_same (.cons (.str _) (.cons (hzp.mono (same_new (gd10.gh.free hpt))) (.cons (.int _) (.cons (.str _) (.cons (.bl _) (.cons (.bl _) .nil)))))))⟩
                · intro s hs
                  rcases List.mem_append.mp hs with hs | hs
                  · exact hso s hs
                  · rw [List.mem_singleton.mp hs]; exact ⟨hp1, hp2, hp3, hp4, hn1', by omega, hwd⟩
                · rw [BW.lens_append, BW.lens_one]
                  show BW.lens ss + n' + (left - n') = _
                  omega
              · walk_at "s"
                refine ⟨G3, a, t, ns, kd, rfl, tpd, by omega, fun wd G9 H9 k9 hwd g9 tp9 hk9 => ?_⟩
                have gd9 := gd.tt g9 tpd
                have ef9 := g9.hh _ _ nft efd
                have gf9 := g9.fr _ _ efd gf4
                walk_at "s"
                refine ⟨.inl ⟨rfl, _, sqlU ef9⟩, ?_⟩
                walk_at "s"
                refine ⟨G9, a, t, ns, k9, rfl, tp9, by omega, fun ps G10 H10 zp k10 hp1 hp2 hp3 hp4 g10 tp10 hk10 hzp => ?_⟩
                have gd10 := gd9.tt g10 tp9
                have ef10 := g10.hh _ _ nft ef9
                have gf10 := g10.fr _ _ ef9 gf9
                walk_at "s"
                refine ⟨by show 6 ≤ sizeLine; decide, fun pt hpt => ?_⟩
                have npf : fo ≠ pt := ne_of_none ef10 hpt
                have ntp := tp10.ne hpt
                refine ⟨fo, acc, _, rfl, rfl, by rw [upd_ne npf]; exact ef10, szl (by omega), ?_⟩
                refine ⟨_, true, left - n', acc ++ [.ref pt], ss ++ [.tones ps n' wd true false], k10, some (.int (0 + (i : Int))), some (.int n'), some (.bl false), some (.bl true), some (.str (S wd)), (by rw [← eleft]; rfl), by simp; omega, ?_, slRun_app hsr (by simp [slRun]), ?_, (gd10.imm hpt fun o _ m => ntp m.symm).put (by rw [upd_ne npf]; exact gf10) (.inl hfo), (tp10.imm hpt).put (by rw [upd_ne npf]; exact gf10) ntf, by omega, upd_same, by rw [upd_ne npf]; exact gf10, by rw [List.map_append]; exact ((hacc.mono (g9.gg.trans g10.gg)).mono (same_new (gd10.gh.free hpt))).snoc (.tupU upd_same (.cons (.str _) (.cons (hzp.mono (same_new (gd10.gh.free hpt))) (.cons (.int _) (.cons (.str _) (.cons (.bl _) (.cons (.bl _) .nil)))))))⟩
                · intro s hs
                  rcases List.mem_append.mp hs with hs | hs
                  · exact hso s hs
                  · rw [List.mem_singleton.mp hs]; exact ⟨hp1, hp2, hp3, hp4, hn1', by omega, hwd⟩
                · rw [BW.lens_append, BW.lens_one]
                  show BW.lens ss + n' + (left - n') = _
                  omega
            | true =>
              walk_at "s"
              refine ⟨G3, a, t, ns, k' + 2 + 1, 2, rfl, tp6, by omega, by decide, fun v7 H7 hv7 g7 tp7 => ?_⟩
              have g47 := g46.tt g7 tp6
              have ef7 := g7.hh _ _ nft ef6
              walk_at "s"
              rw [dec1]
              generalize decide (v7 = 1) = c
              cases c with
              | false =>
                have gd := g47
                have efd := ef7
                obtain ⟨kd, hkd, tpd⟩ : ∃ kd, kd ≤ k' + 7 ∧ Tp K G3 H7 a t ns kd := ⟨_, by omega, tp7⟩
                walk_at "s"
                refine ⟨G3, a, t, ns, kd, rfl, tpd, by omega, fun wd G9 H9 k9 hwd g9 tp9 hk9 => ?_⟩
                have gd9 := gd.tt g9 tpd
                have ef9 := g9.hh _ _ nft efd
                have gf9 := g9.fr _ _ efd gf4
                walk_at "s"
                refine ⟨.inl ⟨rfl, _, sqlU ef9⟩, ?_⟩
                walk_at "s"
                refine ⟨G9, a, t, ns, k9, rfl, tp9, by omega, fun ps G10 H10 zp k10 hp1 hp2 hp3 hp4 g10 tp10 hk10 hzp => ?_⟩
                have gd10 := gd9.tt g10 tp9
                have ef10 := g10.hh _ _ nft ef9
                have gf10 := g10.fr _ _ ef9 gf9
                walk_at "s"
                refine ⟨by show 6 ≤ sizeLine; decide, fun pt hpt => ?_⟩
                have npf : fo ≠ pt := ne_of_none ef10 hpt
                have ntp := tp10.ne hpt
                refine ⟨fo, acc, _, rfl, rfl, by rw [upd_ne npf]; exact ef10, szl (by omega), ?_⟩
                refine ⟨_, true, left - n', acc ++ [.ref pt], ss ++ [.tones ps n' wd false false], k10, some (.int (0 + (i : Int))), some (.int n'), some (.bl false), some (.bl false), some (.str (S wd)), (by rw [← eleft]; rfl), by simp; omega, ?_, slRun_app hsr (by simp [slRun]), ?_, (gd10.imm hpt fun o _ m => ntp m.symm).put (by rw [upd_ne npf]; exact gf10) (.inl hfo), (tp10.imm hpt).put (by rw [upd_ne npf]; exact gf10) ntf, by omega, upd_same, by rw [upd_ne npf]; exact gf10, by rw [List.map_append]; exact ((hacc.mono (g9.gg.trans g10.gg)).mono (same_new (gd10.gh.free hpt))).snoc (.tupU upd_same (.cons (.str _) (.cons (hzp.mono (same_new (gd10.gh.free hpt))) (.cons (.int _) (.cons (.str _) (.cons (.bl _) (.cons (.bl _) .nil)))))))⟩
                · intro s hs
                  rcases List.mem_append.mp hs with hs | hs
                  · exact hso s hs
                  · rw [List.mem_singleton.mp hs]; exact ⟨hp1, hp2, hp3, hp4, hn1', by omega, hwd⟩
                · rw [BW.lens_append, BW.lens_one]
                  show BW.lens ss + n' + (left - n') = _
                  omega
              | true =>
                walk_at "s"
                refine ⟨G3, a, t, ns, k' + 2 + 1 + 1, 4, rfl, tp7, by omega, by decide, fun v8 H8 hv8 g8 tp8 => ?_⟩
                have gd := g47.tt g8 tp7
                have efd := g8.hh _ _ nft ef7
                walk_at "s"
                rw [dec1]
                obtain ⟨kd, hkd, tpd⟩ : ∃ kd, kd ≤ k' + 7 ∧ Tp K G3 H8 a t ns kd := ⟨_, by omega, tp8⟩
                generalize decide (v8 = 1) = o
                cases o
                · walk_at "s"
                  refine ⟨G3, a, t, ns, kd, rfl, tpd, by omega, fun wd G9 H9 k9 hwd g9 tp9 hk9 => ?_⟩
                  have gd9 := gd.tt g9 tpd
                  have ef9 := g9.hh _ _ nft efd
                  have gf9 := g9.fr _ _ efd gf4
                  walk_at "s"
                  refine ⟨.inl ⟨rfl, _, sqlU ef9⟩, ?_⟩
                  walk_at "s"
                  refine ⟨G9, a, t, ns, k9, rfl, tp9, by omega, fun ps G10 H10 zp k10 hp1 hp2 hp3 hp4 g10 tp10 hk10 hzp => ?_⟩
                  have gd10 := gd9.tt g10 tp9
                  have ef10 := g10.hh _ _ nft ef9
                  have gf10 := g10.fr _ _ ef9 gf9
                  walk_at "s"
                  refine ⟨by show 6 ≤ sizeLine; decide, fun pt hpt => ?_⟩
                  have npf : fo ≠ pt := ne_of_none ef10 hpt
                  have ntp := tp10.ne hpt
                  refine ⟨fo, acc, _, rfl, rfl, by rw [upd_ne npf]; exact ef10, szl (by omega), ?_⟩
                  refine ⟨_, false, left - n', acc ++ [.ref pt], ss ++ [.tones ps n' wd false true], k10, some (.int (0 + (i : Int))), some (.int n'), some (.bl true), some (.bl false), some (.str (S wd)), (by rw [← eleft]; rfl), by simp; omega, ?_, slRun_app hsr (by simp [slRun]), ?_, (gd10.imm hpt fun o _ m => ntp m.symm).put (by rw [upd_ne npf]; exact gf10) (.inl hfo), (tp10.imm hpt).put (by rw [upd_ne npf]; exact gf10) ntf, by omega, upd_same, by rw [upd_ne npf]; exact gf10, by rw [List.map_append]; exact ((hacc.mono (g9.gg.trans g10.gg)).mono (same_new (gd10.gh.free hpt))).snoc (.tupU upd_same (.cons (.str _) (.cons (hzp.mono (same_new (gd10.gh.free hpt))) (.cons (.int _) (.cons (.str _) (.cons (.bl _) (.cons (.bl _) .nil)))))))⟩
                  · intro s hs
                    rcases List.mem_append.mp hs with hs | hs
                    · exact hso s hs
                    · rw [List.mem_singleton.mp hs]; exact ⟨hp1, hp2, hp3, hp4, hn1', by omega, hwd⟩
                  · rw [BW.lens_append, BW.lens_one]
                    show BW.lens ss + n' + (left - n') = _
                    omega
                · walk_at "s"
                  refine ⟨G3, a, t, ns, kd, rfl, tpd, by omega, fun wd G9 H9 k9 hwd g9 tp9 hk9 => ?_⟩
                  have gd9 := gd.tt g9 tpd
                  have ef9 := g9.hh _ _ nft efd
                  have gf9 := g9.fr _ _ efd gf4
                  walk_at "s"
                  refine ⟨.inl ⟨rfl, _, sqlU ef9⟩, ?_⟩
                  walk_at "s"
                  refine ⟨G9, a, t, ns, k9, rfl, tp9, by omega, fun ps G10 H10 zp k10 hp1 hp2 hp3 hp4 g10 tp10 hk10 hzp => ?_⟩
                  have gd10 := gd9.tt g10 tp9
                  have ef10 := g10.hh _ _ nft ef9
                  have gf10 := g10.fr _ _ ef9 gf9
                  walk_at "s"
                  refine ⟨by show 6 ≤ sizeLine; decide, fun pt hpt => ?_⟩
                  have npf : fo ≠ pt := ne_of_none ef10 hpt
                  have ntp := tp10.ne hpt
                  refine ⟨fo, acc, _, rfl, rfl, by rw [upd_ne npf]; exact ef10, szl (by omega), ?_⟩
                  refine ⟨_, true, left - n', acc ++ [.ref pt], ss ++ [.tones ps n' wd true true], k10, some (.int (0 + (i : Int))), some (.int n'), some (.bl true), some (.bl true), some (.str (S wd)), (by rw [← eleft]; rfl), by simp; omega, ?_, slRun_app hsr (by simp [slRun]), ?_, (gd10.imm hpt fun o _ m => ntp m.symm).put (by rw [upd_ne npf]; exact gf10) (.inl hfo), (tp10.imm hpt).put (by rw [upd_ne npf]; exact gf10) ntf, by omega, upd_same, by rw [upd_ne npf]; exact gf10, by rw [List.map_append]; exact ((hacc.mono (g9.gg.trans g10.gg)).mono (same_new (gd10.gh.free hpt))).snoc (.tupU upd_same (.cons (.str _) (.cons (hzp.mono (same_new (gd10.gh.free hpt))) (.cons (.int _) (.cons (.str _) (.cons (.bl _) (.cons (.bl _) .nil)))))))⟩
                  · intro s hs
                    rcases List.mem_append.mp hs with hs | hs
                    · exact hso s hs
                    · rw [List.mem_singleton.mp hs]; exact ⟨hp1, hp2, hp3, hp4, hn1', by omega, hwd⟩
                  · rw [BW.lens_append, BW.lens_one]
                    show BW.lens ss + n' + (left - n') = _
                    omega
        · refine iteDF (by omega) ?_
          walk_at "s"
          exact ⟨G3, b, left, acc, ss, k' + 2, _, _, _, _, _, rfl, by omega, hso, hsr, hle, g45, tp5, by omega, ef5, gf4, hacc⟩
    · rintro σ H4 ⟨G3, b, left, acc, ss, k', y7, y8, y9, y10, y11, rfl, hsl, hso, hsr, hle, g4, tp4, hk4, ef4, gf4, hacc⟩
      have hal := hacc.len
      rw [List.length_map] at hal
      walk_at "s"
      refine ⟨.inl ⟨rfl, _, sqlU ef4⟩, ?_⟩
      walk_at "s"
      refine ⟨G3, a, t, ns, k', rfl, tp4, by omega, fun ps G5 H5 zp k5 hp1 hp2 hp3 hp4 g5 tp5 hk5 hzp => ?_⟩
      have g45 := g4.tt g5 tp4
      have ef5 := g5.hh _ _ nft ef4
      have gf5 := g5.fr _ _ ef4 gf4
      walk_at "s"
      refine ⟨G5, a, t, ns, k5, 40, rfl, tp5, by omega, by decide, fun v6 H6 hv6 g6 tp6 => ?_⟩
      have g46 := g45.tt g6 tp5
      have ef6 := g6.hh _ _ nft ef5
      walk_at "s"
      refine ⟨by show 6 ≤ sizeLine; decide, fun pt hpt => ?_⟩
      have npf : fo ≠ pt := ne_of_none ef6 hpt
      have ntp := tp6.ne hpt
      have elen : (2 : Int) + (v6 : Int) = ((2 + v6 : Nat) : Int) := by omega
      rw [lit_ "" [] (by decide +kernel)]
      have g7 := g46.imm (o := .tup [.str (Str.ofString "tones"), zp, .int (2 + (v6 : Int)), .str (S []), .bl false, .bl b]) hpt fun o _ m => ntp m.symm
      have tp7 := tp6.imm (o := .tup [.str (Str.ofString "tones"), zp, .int (2 + (v6 : Int)), .str (S []), .bl false, .bl b]) hpt
      have s7 := same_new (o := .tup [.str (Str.ofString "tones"), zp, .int (2 + (v6 : Int)), .str (S []), .bl false, .bl b]) (g46.gh.free hpt)
      have dp7 : Dp K (upd G5 pt (.tup [.str (Str.ofString "tones"), zp, .int (2 + (v6 : Int)), .str (S []), .bl false, .bl b])) (.ref pt) (sndD (.tones ps (2 + v6) [] false b)) := .tupU upd_same (.cons (.str _) (.cons (hzp.mono s7) (.cons (by rw [elen]; exact .int _) (.cons (.str _) (.cons (.bl _) (.cons (.bl _) .nil))))))
      have ef7 : (upd H6 pt (.tup [.str (Str.ofString "tones"), zp, .int (2 + (v6 : Int)), .str (S []), .bl false, .bl b])) fo = some (.lst acc) := by rw [upd_ne npf]; exact ef6
      have gf7 : (upd G5 pt (.tup [.str (Str.ofString "tones"), zp, .int (2 + (v6 : Int)), .str (S []), .bl false, .bl b])) fo = none := by rw [upd_ne npf]; exact gf5
      have hacc7 := (hacc.mono (g5.gg.trans s7)).snoc dp7
      generalize upd G5 pt _ = G7 at g7 tp7 dp7 gf7 hacc7
      generalize upd H6 pt _ = H7 at g7 tp7 ef7 ⊢
      refine ⟨fo, acc, _, rfl, rfl, ef7, szl (by omega), ?_⟩
      have g8 := g7.put (o := .lst (acc ++ [.ref pt])) gf7 (.inl hfo)
      have tp8 : Tp K G7 (upd H7 fo (.lst (acc ++ [.ref pt]))) a t ns (k5 + 1) := tp7.put gf7 ntf
      have k8 : (upd H7 fo (.lst (acc ++ [.ref pt]))) fo = some (.lst (acc ++ [.ref pt])) := upd_same
      generalize upd H7 fo (.lst (acc ++ [.ref pt])) = H8 at g8 tp8 k8 ⊢
      have okt : SndOk (.tones ps (2 + v6) [] false b) := ⟨hp1, hp2, hp3, hp4, by omega, by omega, .inl rfl⟩
      have sl8 : slRun false (ss ++ [.tones ps (2 + v6) [] false b]) false := slRun_app hsr (by cases b <;> simp [slRun])
      walk_at "s"
      refine ⟨G7, a, t, ns, k5 + 1, 4, rfl, tp8, by omega, by decide, fun v9 H9 hv9 g9 tp9 => ?_⟩
      have g89 := g8.tt g9 tp8
      have k9 := g9.hh _ _ nft k8
      walk_at "s"
      rw [dec1]
      by_cases h9 : v9 = 1
      · rw [decide_eq_true h9]
        walk_at "s"
        refine ⟨.inl ⟨rfl, _, sqlU k9⟩, ?_⟩
        refine ⟨by show 2 ≤ sizeLine; decide, fun r1 hr1 => ?_⟩
        have n1 := tp9.ne hr1
        have f1 : fo ≠ r1 := ne_of_none k9 hr1
        have g10 := g89.imm (o := .tup [.str (Str.ofString "rest"), .int 24]) hr1 fun o _ m => n1 m.symm
        have tp10 := tp9.imm (o := .tup [.str (Str.ofString "rest"), .int 24]) hr1
        have s10 := same_new (o := .tup [.str (Str.ofString "rest"), .int 24]) (g89.gh.free hr1)
        have dr1 : Dp K (upd G7 r1 (.tup [.str (Str.ofString "rest"), .int 24])) (.ref r1) (sndD (.rest 24)) := .tupU upd_same (.cons (.str _) (.cons (.int _) .nil))
        have k10 : (upd H9 r1 (.tup [.str (Str.ofString "rest"), .int 24])) fo = some (.lst (acc ++ [.ref pt])) := by rw [upd_ne f1]; exact k9
        have gf10 : (upd G7 r1 (.tup [.str (Str.ofString "rest"), .int 24])) fo = none := by rw [upd_ne f1]; exact gf7
        have hacc10 := (hacc7.mono s10).snoc dr1
        generalize upd G7 r1 _ = G10 at g10 tp10 gf10 hacc10
        generalize upd H9 r1 _ = H10 at g10 tp10 k10 ⊢
        refine ⟨by show 2 ≤ sizeLine; decide, fun r2 hr2 => ?_⟩
        have n2 := tp10.ne hr2
        have f2 : fo ≠ r2 := ne_of_none k10 hr2
        have g11 := g10.imm (o := .tup [.str (Str.ofString "rest"), .int 5]) hr2 fun o _ m => n2 m.symm
        have tp11 := tp10.imm (o := .tup [.str (Str.ofString "rest"), .int 5]) hr2
        have s11 := same_new (o := .tup [.str (Str.ofString "rest"), .int 5]) (g10.gh.free hr2)
        have dr2 : Dp K (upd G10 r2 (.tup [.str (Str.ofString "rest"), .int 5])) (.ref r2) (sndD (.rest 5)) := .tupU upd_same (.cons (.str _) (.cons (.int _) .nil))
        have k11 : (upd H10 r2 (.tup [.str (Str.ofString "rest"), .int 5])) fo = some (.lst (acc ++ [.ref pt])) := by rw [upd_ne f2]; exact k10
        have gf11 : (upd G10 r2 (.tup [.str (Str.ofString "rest"), .int 5])) fo = none := by rw [upd_ne f2]; exact gf10
        have hacc11 := (hacc10.mono s11).snoc dr2
        generalize upd G10 r2 _ = G11 at g11 tp11 gf11 hacc11
        generalize upd H10 r2 _ = H11 at g11 tp11 k11 ⊢
        refine ⟨by show 2 ≤ sizeLine; decide, fun r3 hr3 => ?_⟩
        have n3 := tp11.ne hr3
        have f3 : fo ≠ r3 := ne_of_none k11 hr3
        have s12 := same_new (o := .lst [.ref r1, .ref r2]) hr3
        have g12 := g11.trA (Grow.of_same g11.gh s12) ⟨_, tp11.ht⟩
        have tp12 := tp11.same s12
        have k12 := s12 _ _ k11
        refine ⟨fo, r3, _, _, rfl, rfl, k12, upd_same, by show (acc ++ [V.ref pt]).length + 2 ≤ sizeLine; exact sz (by rw [List.length_append]; simp; omega), ?_⟩
        have g13 := g12.put (o := .lst ((acc ++ [.ref pt]) ++ [.ref r1, .ref r2])) gf11 (.inl hfo)
        have tp13 : Tp K G11 _ a t ns (k5 + 1 + 1) := tp12.put (o := .lst ((acc ++ [.ref pt]) ++ [.ref r1, .ref r2])) gf11 ntf
        have g14 := g13.fix upd_same hfo gf11
        have s14 : Same G11 (upd G11 fo (.lst ((acc ++ [.ref pt]) ++ [.ref r1, .ref r2]))) := fun b u e => by rw [upd_ne (ne_of_none e gf11)]; exact e
        have hfin : DpAll K G11 ((acc ++ [V.ref pt]) ++ [V.ref r1, V.ref r2]) ((ss ++ [Snd.tones ps (2 + v6) [] false b] ++ [Snd.rest 24, Snd.rest 5]).map sndD) := by
          have e1 : (acc ++ [V.ref pt]) ++ [V.ref r1, V.ref r2] = ((acc ++ [V.ref pt]) ++ [V.ref r1]) ++ [V.ref r2] := by simp
          have e2 : (ss ++ [Snd.tones ps (2 + v6) [] false b] ++ [Snd.rest 24, Snd.rest 5]).map sndD = ((ss.map sndD ++ [sndD (.tones ps (2 + v6) [] false b)]) ++ [sndD (.rest 24)]) ++ [sndD (.rest 5)] := by simp
          rw [e1, e2]
          exact hacc11
        walk_at "s"
        refine q (ss ++ [.tones ps (2 + v6) [] false b] ++ [.rest 24, .rest 5]) _ _ (.ref fo) _ ⟨?_, ?_, ?_, slRun_slurs (slRun_app (r := [.rest 24, .rest 5]) sl8 rfl), ?_, ?_⟩ ?_ g14 ⟨g14.gh, s14.seq tp13.sc, tp13.nl, by rw [upd_ne ntf]; exact tp13.gt, tp13.ht⟩ (by omega) (.lstU upd_same (hfin.mono s14))
        · simp
        · simp; omega
        · intro s hs
          rcases List.mem_append.mp hs with hs | hs
          · rcases List.mem_append.mp hs with hs | hs
            · exact hso s hs
            · rw [List.mem_singleton.mp hs]; exact okt
          · rcases List.mem_cons.mp hs with rfl | hs
            · exact ⟨by decide, by decide⟩
            · rw [List.mem_singleton.mp hs]; exact ⟨by decide, by decide⟩
        · rw [List.append_assoc]
          exact tidy_ne (by intro s hs; rcases List.mem_cons.mp hs with rfl | hs; rfl; rw [List.mem_singleton.mp hs]; rfl)
        · rw [BW.lens_append, BW.lens_append, BW.lens_one]
          show BW.lens ss + (2 + v6) + (24 + (5 + 0)) ≤ 4608
          omega
        · rw [BW.lens_append, BW.lens_append, BW.lens_one]
          show BW.lens ss + (2 + v6) + (24 + (5 + 0)) ≤ 810
          omega
      · rw [decide_eq_false h9]
        walk_at "s"
        have g14 := g89.fix k9 hfo gf7
        have s14 : Same G7 (upd G7 fo (.lst (acc ++ [.ref pt]))) := fun b u e => by rw [upd_ne (ne_of_none e gf7)]; exact e
        have hfin : DpAll K G7 (acc ++ [.ref pt]) ((ss ++ [Snd.tones ps (2 + v6) [] false b]).map sndD) := by rw [List.map_append]; exact hacc7
        refine q (ss ++ [.tones ps (2 + v6) [] false b]) _ _ (.ref fo) _ ⟨?_, ?_, ?_, slRun_slurs sl8, ?_, ?_⟩ ?_ g14 ⟨g14.gh, s14.seq tp9.sc, tp9.nl, by rw [upd_ne ntf]; exact tp9.gt, tp9.ht⟩ (by omega) (.lstU upd_same (hfin.mono s14))
        · simp
        · simp; omega
        · intro s hs
          rcases List.mem_append.mp hs with hs | hs
          · exact hso s hs
          · rw [List.mem_singleton.mp hs]; exact okt
        · exact tidy_ne (by intro s hs; cases hs)
        · rw [BW.lens_append, BW.lens_one]
          show BW.lens ss + (2 + v6) ≤ 4608
          omega
        · rw [BW.lens_append, BW.lens_one]
          show BW.lens ss + (2 + v6) ≤ 810
          omega
end
end BW
set_option Elab.async false
set_option linter.all false
set_option maxRecDepth 100000
set_option maxHeartbeats 4000000
set_option pp.maxSteps 3000
namespace BW
open PySem PySem.Spec PyProof.Rows L2
open C8 (Cal Met Mak pe_c pe_mk pe_mt pe_mt0 pe_gc sl_txt fnBody fnScope fnArgs)
local macro_rules | `(tactic| walk_at "v") => `(tactic| refine ⟨_, rfl, ?_⟩)
local macro_rules | `(tactic| walk_at "i2") => `(tactic| refine ⟨_, _, rfl, rfl, ?_⟩)
local macro_rules | `(tactic| walk_at "k") => `(tactic| exact (by decide +kernel))
local macro_rules | `(tactic| walk_at "s") => `(tactic| repeat (first | refine ⟨_, rfl, ?_⟩ | refine ⟨_, _, rfl, rfl, ?_⟩ | refine ⟨rfl, ?_⟩ | refine ⟨⟨_, rfl⟩, ?_⟩ | refine iteT ?_ | refine iteF ?_ | refine ⟨_, _, _, _, _, rfl, .ty _, tyI, kit_ty kit_int_int, ?_⟩ | refine ⟨_, _, _, _, _, rfl, .ty _, tyI, kit_ty kit_int_bool, ?_⟩ | refine ⟨_, _, _, _, _, rfl, .ty _, tyS, kit_ty kit_str_str, ?_⟩ | refine ⟨_, _, _, _, _, rfl, .ty _, tyB, kit_ty kit_bool_bool, ?_⟩ | refine ⟨_, _, _, _, _, rfl, by assumption, by assumption, by assumption, rfl, ?_⟩))
local macro_rules | `(tactic| walk_at "o") => `(tactic| repeat (first | refine ⟨_, rfl, ?_⟩ | refine ⟨_, _, rfl, rfl, ?_⟩ | refine ⟨rfl, ?_⟩ | refine ⟨⟨_, rfl⟩, ?_⟩ | refine iteT ?_ | refine iteF ?_ | refine ⟨_, _, _, _, _, rfl, .ty _, tyI, kit_ty kit_int_int, ?_⟩ | refine ⟨_, _, _, _, _, rfl, .ty _, tyI, kit_ty kit_int_bool, ?_⟩ | refine ⟨_, _, _, _, _, rfl, .ty _, tyS, kit_ty kit_str_str, ?_⟩ | refine ⟨_, _, _, _, _, rfl, .ty _, tyB, kit_ty kit_bool_bool, ?_⟩ | refine ⟨_, _, _, _, _, rfl, by assumption, by assumption, by assumption, rfl, ?_⟩ | refine iteDF (by omega) ?_ | refine iteD (by omega) ?_ | refine ⟨_, _, _, rfl, by omega, by omega, ?_⟩ | refine And.intro (by omega) ?_))

open SX (S)
theorem dp_unsnoc {K : PySem.W.Frag} {G : Hp} {vs : List V} {ds : List PyData} {d : PyData} (h : DpAll K G vs (ds ++ [d])) : ∃ us u, vs = us ++ [u] ∧ DpAll K G us ds ∧ Dp K G u d := by
  have hl := h.len
  rw [List.length_append, List.length_singleton] at hl
  rcases List.eq_nil_or_concat vs with rfl | ⟨us, u, rfl⟩
  · simp at hl
  · rw [List.concat_eq_append] at *
    rw [List.length_append, List.length_singleton] at hl
    refine ⟨us, u, rfl, DpAll.of (by omega) fun i x hx => ?_, ?_⟩
    · have hi : i < us.length := (List.getElem?_eq_some_iff.mp hx).1
      obtain ⟨t, ht, ha⟩ := h.get (i := i) (v := x) (by rw [List.getElem?_append_left hi]; exact hx)
      rw [List.getElem?_append_left (by omega)] at ht
      exact ⟨t, ht, ha⟩
    · obtain ⟨t, ht, ha⟩ := h.get (i := us.length) (v := u) (by rw [List.getElem?_append_right (Nat.le_refl _), Nat.sub_self]; rfl)
      rw [List.getElem?_append_right (by omega), show us.length - ds.length = 0 by omega] at ht
      cases (Option.some.inj ht)
      exact ha
def SndC : Snd → Prop
  | .rest _ => True
  | .tones _ _ wd _ _ => ∀ c ∈ wd, c < 128
theorem sndC_of {s : Snd} (h : SndOk s) : SndC s := by
  cases s with
  | rest n => trivial
  | tones ps n wd o c =>
    intro x hx
    rcases h.w0 with rfl | hw
    · cases hx
    · exact syll_128 hw x hx
theorem ly_snd {s : Snd} (h : SndC s) : Ly 3 (sndD s) := by
  cases s with
  | rest n => exact (Ly.tuple (n := 2) (lyc ⟨by decide +kernel, Nat.zero_le _⟩ (ly1 .int)))
  | tones ps n wd o c =>
    refine .tuple (lyc ⟨by decide +kernel, Nat.zero_le _⟩ (lyc ?_ (lyc .int (lyc (ly_str h) (lyc .bool (ly1 .bool))))))
    exact Ly.list fun d hd => by
      obtain ⟨p, _, rfl⟩ := List.mem_map.mp hd
      exact ly_pit
theorem fold_c {ss : List Snd} : (∀ s ∈ ss, SndC s) → ∀ s ∈ fold ss, SndC s := by
  refine snocInd (P := fun ss => (∀ s ∈ ss, SndC s) → ∀ s ∈ fold ss, SndC s) (fun _ s hs => by cases hs) (fun ss s ih h => ?_) ss
  have ih := ih fun x hx => h x (List.mem_append_left _ hx)
  have hs := h s (List.mem_append_right _ List.mem_cons_self)
  rw [fold_snoc]
  rcases List.eq_nil_or_concat (fold ss) with e | ⟨init, x, e⟩
  · rw [e, tidyStep_nil]
    intro y hy
    rw [List.mem_singleton.mp hy]; exact hs
  · rw [List.concat_eq_append] at e
    rw [e] at ih
    rw [e, tidyStep_snoc]
    intro y hy
    cases s with
    | tones =>
      rcases List.mem_append.mp hy with hy | hy
      · exact ih y hy
      · rw [List.mem_singleton.mp hy]; exact hs
    | rest n =>
      cases x with
      | tones =>
        rcases List.mem_append.mp hy with hy | hy
        · exact ih y hy
        · rw [List.mem_singleton.mp hy]; exact hs
      | rest m =>
        rcases List.mem_append.mp hy with hy | hy
        · exact ih y (List.mem_append_left _ hy)
        · rw [List.mem_singleton.mp hy]; trivial
theorem snd_tag {K : PySem.W.Frag} {G : Hp} {v : V} {s : Snd} (h : Dp K G v (sndD s)) : ∃ a r, v = .ref a ∧ SqT K G a (.str (if s.isRest = true then "rest" else "tones") :: r) := by
  cases s with
  | rest n =>
    obtain ⟨a, rfl, ht⟩ := dpRest h
    exact ⟨a, _, rfl, ht⟩
  | tones ps n wd o c =>
    obtain ⟨a, pl, rfl, ht, _⟩ := dpTones h
    exact ⟨a, _, rfl, ht⟩
theorem tag_dec (b : Bool) : decide (V.str (if b = true then Str.ofString "rest" else Str.ofString "tones") = V.str (Str.ofString "rest")) = b := by
  cases b <;> decide +kernel
theorem eqv_ne {ds : List PyData} (h : ds ≠ []) : PyData.eqv (.list ds) (.list []) = false := by
  cases ds with
  | nil => exact absurd rfl h
  | cons x r => rw [PyData.eqv, PyData.eqvAll]
theorem vss_of {K : PySem.W.Frag} {G : Hp} {Pr : List Snd → Prop} : ∀ acc : List V, (∀ v ∈ acc, ∃ ss, Pr ss ∧ Dp K G v (.list (ss.map sndD))) → ∃ vss : List (List Snd), vss.length = acc.length ∧ (∀ ss ∈ vss, Pr ss) ∧ DpAll K G acc (vss.map fun ss => .list (ss.map sndD))
  | [], _ => ⟨[], rfl, fun _ h => absurd h List.not_mem_nil, .nil⟩
  | v :: acc, h => by
    obtain ⟨ss, h1, h2⟩ := h v List.mem_cons_self
    obtain ⟨vss, h3, h4, h5⟩ := vss_of acc fun v hv => h v (List.mem_cons_of_mem _ hv)
    refine ⟨ss :: vss, by simp [h3], fun x hx => ?_, .cons h2 h5⟩
    rcases List.mem_cons.mp hx with rfl | hx
    · exact h1
    · exact h4 x hx
section
variable {P : Program} {w : World} {K : PySem.W.Frag} {mg : Str → Option Value} {base : Heap} {A : Ad}
def sp__law_voices (K : PySem.W.Frag) : Sp := fun vs H Q _ => ∃ (G : Hp) (a t : Addr) (ns : List Int) (k most : Nat), vs = [.ref a, .ref t, .int most] ∧ Tp K G H a t ns k ∧ k + 8001 ≤ 900000 ∧ 200 ≤ most ∧ most ≤ 780 ∧
  ∀ (vss : List (List Snd)) G' H' z k', 1 ≤ vss.length → vss.length ≤ 2 → (∀ ss ∈ vss, VoiceOk ss ∧ BW.lens ss ≤ 810) → Grow (At t) G H G' H' → Tp K G' H' a t ns k' → k' ≤ k + 8001 → Dp K G' z (vossD vss) → Q z H'
theorem ok__law_voices (T : Txt w K mg A) : Cal P w K mg base 4 "_law_voices" (sp__law_voices K) [] := by
  obtain ⟨f, d⟩ := T.d__law_voices
  refine cal_of d sc__law_voices (fun vs H Q E h => ?_) (fun cdv A' outer s H vs Q E hr h => ?_)
  · obtain ⟨G, a, t, ns, k, most, rfl, _⟩ := h; rfl
  · obtain ⟨G, a, t, ns, k, most, rfl, tp, hk, hm1, hm2, q⟩ := h
    refine ⟨_, (pss_one (ps_ret (pe_lc (own := [("_law_k", 3)]) (g := (gName 3)) (tt := tYes) (by rfl) sc__law_voices.nd (pi_range1 (by rfl) T.n_range (pa_cons (pe_op op_add pe_int (pe_c (ok__law_draw T) hr (by decide) rfl (pa_cons (pv 0) (pa_cons (pv 1) (pa_cons pe_int pa_nil))))) pa_nil)) (blkOk_by (N := N__law_voices) (sc := (defScope s__law_voices)) (by decide +kernel)) (fun _ _ _ _ _ => (pg_name (i := 3) sc__law_voices.nd rfl (Or.inl rfl))) (fun _ _ _ _ _ => pts_nil) (fun _ _ _ _ _ => (pe_c (ok__law_voice T) hr (by decide) rfl (pa_cons (pv 0) (pa_cons (pv 1) (pa_cons (pv 2) pa_nil)))))))), ?_⟩
    walk_at "s"
    refine ⟨G, a, t, ns, k, 2, rfl, tp, by omega, by decide, fun v1 H1 hv1 g1 tp1 => ?_⟩
    refine ⟨_, _, rfl, rfl, ?_⟩
    refine ⟨_, rfl, by omega, by omega, fun D hD => ?_⟩
    have ntD := tp1.ne hD
    have ecnt : ((1 : Int) + (v1 : Int)).toNat = 1 + v1 := by omega
    rw [ecnt]
    refine lc_gen (M := At t) walk_range hD tp1.sm (fun i H' => ∃ k' : Nat, H' t = some (.lst [.int k']) ∧ k' ≤ k + 1 + 4000 * i) (fun G _ v => ∃ ss, (VoiceOk ss ∧ BW.lens ss ≤ 810) ∧ Dp K G v (.list (ss.map sndD))) (by omega)
      (fun b m => by cases m; exact ⟨_, tp1.ht, tp1.gt⟩) (fun i H H' h ⟨k', e, hk'⟩ => ⟨⟨k', by rw [h _ rfl]; exact e, hk'⟩, fun b m => by cases m; exact ⟨_, e⟩⟩) (fun _ _ _ _ e ⟨ss, h1, h2⟩ => ⟨ss, h1, h2.mono e⟩) ⟨k + 1, tp1.ht, by omega⟩ (fun _ _ _ => trivial) ?_ ?_
    · rintro i v G4 H4 H4' hi g4 ⟨k', e4, hk'⟩ ⟨rfl, rfl⟩ Q' hq
      have tp4 := tp1.next g4 e4
      refine ⟨rfl, ?_⟩
      walk_at "s"
      exact ⟨G4, a, t, ns, k', most, rfl, tp4, by omega, hm1, hm2, fun ss G5 H5 z k5 ok hl g5 tp5 hk5 hz => hq _ _ _ g5 ⟨k5, tp5.ht, by omega⟩ ⟨ss, ⟨ok, hl⟩, hz⟩⟩
    · intro G4 H4 acc g4 gD eD el er ⟨k', e4, hk'⟩
      have tp4 := tp1.next g4 e4
      obtain ⟨vss, hvl, hvp, hvd⟩ := vss_of (K := K) (G := G4) acc fun v hv => by
        obtain ⟨i, hi, rfl⟩ := List.getElem_of_mem hv
        exact er i _ (List.getElem?_eq_getElem hi)
      have hHD : H1 D = none := hD
      have g5 := g4.fix eD hD gD
      have s5 : Same G4 (upd G4 D (.lst acc)) := fun b u e => by rw [upd_ne (ne_of_none e gD)]; exact e
      exact q vss _ _ _ k' (by omega) (by omega) hvp (g1.tt g5 tp1) ⟨g5.gh, s5.seq tp4.sc, tp4.nl, by rw [upd_ne ntD]; exact tp4.gt, tp4.ht⟩ (by omega) (.lstU upd_same (hvd.mono s5))
def sp__law_tidy (K : PySem.W.Frag) : Sp := fun vs H Q _ => ∃ (G : Hp) (v : V) (ss : List Snd), vs = [v] ∧ Same G H ∧ Dp K G v (.list (ss.map sndD)) ∧ ss ≠ [] ∧ ss.length ≤ 96 ∧ (∀ s ∈ ss, SndOk s) ∧ ∀ G' H' z, Grow No G H G' H' → Dp K G' z (.list ((tidyL ss).map sndD)) → Q z H'
theorem ok__law_tidy (T : Txt w K mg A) : Cal P w K mg base 1 "_law_tidy" (sp__law_tidy K) [] := by
  obtain ⟨f, d⟩ := T.d__law_tidy
  refine cal_of d sc__law_tidy (fun vs H Q E h => ?_) (fun cdv A' outer s H vs Q E hr h => ?_)
  · obtain ⟨G, v, ss, rfl, _⟩ := h; rfl
  · obtain ⟨G, v, ss, rfl, sm, hv, hne, h96, hok, q⟩ := h
    obtain ⟨a, vs, rfl, hl, hin⟩ := dpL hv
    have hlen := hin.len
    rw [List.length_map] at hlen
    refine ⟨_, (pss_cons (ps_set (i := 1) sc__law_tidy.nd rfl (Or.inl rfl) (pe_lst pa_nil))
    (pss_cons (ps_for PassesOwn.never rfl (pi_list (pv 0)) (pg_name (i := 2) sc__law_tidy.nd rfl (Or.inl rfl)) (pss_one (ps_if (PW.pt (pw_and (pt_cmpR op_eq (pe_ix ix_tup (pv 2) pe_int (fun _ _ => rfl)) pe_str (nomark _)) (pw_and (pt_cmpR (op_neD hr.units) (pv 1) (pe_lst pa_nil) (nomark _)) (pw_and1 (pt_cmpR op_eq (pe_ix ix_tup (pe_ix ix_list (pv 1) (pe_un un_neg pe_int) (fun _ _ => rfl)) pe_int (fun _ _ => rfl)) pe_str (nomark _)))))) (pss_one (ps_asg (pe_tup (pa_cons pe_str (pa_cons (pe_op op_add (pe_ix ix_tup (pe_ix ix_list (pv 1) (pe_un un_neg pe_int) (fun _ _ => rfl)) pe_int (fun _ _ => rfl)) (pe_ix ix_tup (pv 2) pe_int (fun _ _ => rfl))) pa_nil))) (pg_sub (pv 1) (pe_un un_neg pe_int) set_list))) (pss_one (ps_expr (pe_bm PySem.F.plainAttrs_list PySem.F.slot_list_append PySem.F.type_list_append mt_append (pv 1) (pa_cons (pv 2) pa_nil)))))))
    (pss_cons (ps_if (pt_cmpR op_eq (pe_ix ix_tup (pe_ix ix_list (pv 1) (pe_un un_neg pe_int) (fun _ _ => rfl)) pe_int (fun _ _ => rfl)) pe_str (nomark _)) (pss_one (ps_expr (pe_bm0 PySem.F.plainAttrs_list PySem.F.slot_list_pop PySem.F.type_list_pop mt_pop (pv 1)))) pss_nil)
    (pss_one (ps_ret (pv 1)))))), ?_⟩
    refine ⟨Nat.zero_le _, fun fo hfo => ?_⟩
    have gfo := sm.free hfo
    walk_at "s"
    refine ⟨⟨_, (same_new hfo).seq (sm.seq hl)⟩, ?_⟩
    refine for_it walk_list (fun i σ H' => ∃ G1 acc y, σ = [some (.ref a), some (.ref fo), y] ∧ Grow No G H G1 H' ∧ G1 fo = none ∧ H' fo = some (.lst acc) ∧ DpAll K G1 acc ((fold (ss.take i)).map sndD)) ⟨G, [], none, rfl, (Grow.refl sm).put gfo (.inl hfo), gfo, upd_same, .nil⟩ (fun i σ H' _ ⟨_, _, _, _, g, _⟩ => g.s0.seq hl) ?_ ?_
    · rintro i x σ H' H'' hi ⟨G1, acc, y, rfl, g1, gf1, ef1, hacc⟩ ⟨rfl, hx⟩
      obtain ⟨dd, hdd, hd⟩ := hin.get hx
      rw [List.getElem?_map] at hdd
      cases ht : ss[i]? with
      | none => rw [ht] at hdd; cases hdd
      | some t =>
      rw [ht] at hdd
      cases hdd
      have ha1 := hd.mono g1.s0
      have hG1 := hd.mono g1.gg
      have hal := hacc.len
      rw [List.length_map] at hal
      have hlen96 : acc.length ≤ 96 := by
        have := fold_len (ss := ss.take i)
        rw [List.length_take] at this
        omega
      have hcs : ∀ s ∈ fold (ss.take i), SndC s := fold_c fun s hs => sndC_of (hok s (List.mem_of_mem_take hs))
      have hly : SeqAt.shaped (.list ((fold (ss.take i)).map sndD)) = true := Ly.shaped (n := 4) (Ly.list fun d hd => by
        obtain ⟨s, hs, rfl⟩ := List.mem_map.mp hd
        exact ly_snd (hcs s hs)) (by decide)
      have step : ∀ {G2 H2}, Grow No G1 H'' G2 H2 → fold (ss.take (i + 1)) = fold (ss.take i) ++ [t] → ∃ G3 acc' y, [some (V.ref a), some (V.ref fo), some x] = [some (.ref a), some (.ref fo), y] ∧ Grow No G H G3 (upd H2 fo (.lst (acc ++ [x]))) ∧ G3 fo = none ∧ (upd H2 fo (.lst (acc ++ [x]))) fo = some (.lst acc') ∧ DpAll K G3 acc' ((fold (ss.take (i + 1))).map sndD) := fun {G2 H2} g2 e => by
        have gf2 := g2.fr _ _ ef1 gf1
        exact ⟨G2, acc ++ [x], _, rfl, (g1.tr g2).put gf2 (.inl hfo), gf2, upd_same, by rw [e, List.map_append]; exact (hacc.mono g2.gg).snoc (hG1.mono g2.gg)⟩
      obtain ⟨tt, rt, rfl, htt⟩ := snd_tag ha1
      walk_at "s"
      refine ⟨_, _, _, _, rfl, rfl, htt, atI_0, ?_⟩
      walk_at "s"
      rw [tag_dec]
      cases t with
      | tones ps n wd o c =>
        walk_at "s"
        refine ⟨.inl ⟨rfl, _, sqlU ef1⟩, ?_⟩
        walk_at "s"
        refine ⟨fo, acc, _, rfl, rfl, ef1, szl (by omega), ?_⟩
        exact step (Grow.refl g1.gh) (by rw [fold_take ht, tidyStep_tones])
      | rest n =>
        walk_at "s"
        refine ⟨Nat.zero_le _, fun ne hne' => ?_⟩
        have sne := same_new (o := .lst []) hne'
        have g2 : Grow No G1 H'' G1 (upd H'' ne (.lst [])) := (Grow.refl g1.gh).put (g1.gh.free hne') (.inl hne')
        refine ⟨.list ((fold (ss.take i)).map sndD), .list [], .lstU (sne _ _ ef1) (hacc.mono (g1.gh.trans sne)), .lstU upd_same .nil, hly, rfl, ?_⟩
        rcases List.eq_nil_or_concat (fold (ss.take i)) with e0 | ⟨init, l, e0⟩
        · have ea : acc = [] := List.eq_nil_of_length_eq_zero (by rw [hal, e0]; rfl)
          subst ea
          rw [e0, show PyData.eqv (.list (([] : List Snd).map sndD)) (.list []) = true by rw [List.map_nil, PyData.eqv, PyData.eqvAll]]
          walk_at "s"
          refine ⟨.inl ⟨rfl, _, sqlU (sne _ _ ef1)⟩, ?_⟩
          walk_at "s"
          refine ⟨fo, [], _, rfl, rfl, sne _ _ ef1, szl (by decide), ?_⟩
          exact step g2 (by rw [fold_take ht, e0, tidyStep_nil]; rfl)
        · rw [List.concat_eq_append] at e0
          rw [eqv_ne (by rw [e0]; simp)]
          have hacc0 := hacc
          rw [e0, List.map_append] at hacc
          obtain ⟨us, u, rfl, hus, hu⟩ := dp_unsnoc hacc
          have hu1 := hu.mono (g1.gh.trans sne)
          obtain ⟨tl, rl, rfl, htl⟩ := snd_tag hu1
          walk_at "s"
          refine ⟨_, _, _, _, rfl, rfl, sqlU (sne _ _ ef1), atI_last _ _, ?_⟩
          walk_at "s"
          refine ⟨_, _, _, _, rfl, rfl, htl, atI_0, ?_⟩
          walk_at "s"
          rw [tag_dec]
          cases l with
          | tones ps n' wd o c =>
            walk_at "s"
            refine ⟨.inl ⟨rfl, _, sqlU (sne _ _ ef1)⟩, ?_⟩
            walk_at "s"
            refine ⟨fo, _, _, rfl, rfl, sne _ _ ef1, szl (by omega), ?_⟩
            exact step g2 (by rw [fold_take ht, e0, tidyStep_snoc])
          | rest m =>
            obtain ⟨_, e1, hm⟩ := dpRest hu1
            cases e1
            obtain ⟨_, e2, hn⟩ := dpRest (ha1.mono sne)
            cases e2
            walk_at "s"
            refine ⟨_, _, _, _, rfl, rfl, sqlU (sne _ _ ef1), atI_last _ _, ?_⟩
            walk_at "s"
            refine ⟨_, _, _, _, rfl, rfl, hm, atI_1, ?_⟩
            walk_at "s"
            refine ⟨_, _, _, _, rfl, rfl, hn, atI_1, ?_⟩
            walk_at "s"
            refine ⟨by show 2 ≤ sizeLine; decide, fun pt hpt => ?_⟩
            have npf : fo ≠ pt := ne_of_none (sne _ _ ef1) hpt
            have g3 := g2.immN (o := .tup [.str (Str.ofString "rest"), .int ((m : Int) + (n : Int))]) hpt
            have ecast : ((m : Int) + (n : Int)) = ((m + n : Nat) : Int) := by omega
            have dpt : Dp K (upd G1 pt (.tup [.str (Str.ofString "rest"), .int ((m : Int) + (n : Int))])) (.ref pt) (sndD (.rest (m + n))) := .tupU upd_same (.cons (.str _) (.cons (by rw [ecast]; exact .int _) .nil))
            have s3 := same_new (o := .tup [.str (Str.ofString "rest"), .int ((m : Int) + (n : Int))]) (g2.gh.free hpt)
            walk_at "s"
            refine ⟨fo, _, _, us.length, rfl, rfl, by rw [upd_ne npf]; exact sne _ _ ef1, ixN_last us _, ?_⟩
            rw [set_last]
            refine ⟨_, us ++ [.ref pt], _, rfl, (g1.tr g3).put (by rw [upd_ne npf]; exact gf1) (.inl hfo), by rw [upd_ne npf]; exact gf1, upd_same, ?_⟩
            rw [fold_take ht, e0, tidyStep_snoc, List.map_append]
            exact (hus.mono s3).snoc dpt
    · rintro σ H' ⟨G1, acc, y, rfl, g1, gf1, ef1, hacc⟩
      rw [hlen, List.take_length] at hacc
      rcases List.eq_nil_or_concat (fold ss) with e0 | ⟨init, l, e0⟩
      · exact absurd e0 (fold_ne hne)
      rw [List.concat_eq_append] at e0
      have etl : tidyL ss = if l.isRest = true then init else init ++ [l] := by rw [tidyL_eq, e0, tidyCut_snoc]
      rw [etl] at q
      rw [e0, List.map_append] at hacc
      obtain ⟨us, u, rfl, hus, hu⟩ := dp_unsnoc hacc
      have hu1 := hu.mono g1.gh
      obtain ⟨tl, rl, rfl, htl⟩ := snd_tag hu1
      walk_at "s"
      refine ⟨_, _, _, _, rfl, rfl, sqlU ef1, atI_last _ _, ?_⟩
      walk_at "s"
      refine ⟨_, _, _, _, rfl, rfl, htl, atI_0, ?_⟩
      walk_at "s"
      rw [tag_dec]
      cases l with
      | rest m =>
        walk_at "s"
        refine ⟨.inl ⟨rfl, _, sqlU ef1⟩, ?_⟩
        refine ⟨fo, _, _, rfl, rfl, ef1, last_app us _, ?_⟩
        rw [List.dropLast_concat]
        have g2 := (g1.put (o := .lst us) gf1 (.inl hfo)).fix upd_same hfo gf1
        walk_at "s"
        exact q _ _ _ g2 (.lstU upd_same (hus.mono fun b u e => by rw [upd_ne (ne_of_none e gf1)]; exact e))
      | tones ps n wd o c =>
        walk_at "s"
        have g2 := g1.fix ef1 hfo gf1
        refine q _ _ _ g2 (.lstU upd_same ?_)
        show DpAll K _ _ ((init ++ [Snd.tones ps n wd o c]).map sndD)
        rw [List.map_append]
        exact hacc.mono fun b u e => by rw [upd_ne (ne_of_none e gf1)]; exact e
end
end BW
set_option Elab.async false
set_option linter.all false
set_option maxRecDepth 100000
set_option maxHeartbeats 4000000
set_option pp.maxSteps 3000
namespace BW
open PySem PySem.Spec PyProof.Rows L2
open C8 (Cal Met Mak pe_c pe_mk pe_mt pe_mt0 pe_gc sl_txt fnBody fnScope fnArgs)
local macro_rules | `(tactic| walk_at "v") => `(tactic| refine ⟨_, rfl, ?_⟩)
local macro_rules | `(tactic| walk_at "i2") => `(tactic| refine ⟨_, _, rfl, rfl, ?_⟩)
local macro_rules | `(tactic| walk_at "k") => `(tactic| exact (by decide +kernel))
local macro_rules | `(tactic| walk_at "s") => `(tactic| repeat (first | refine ⟨_, rfl, ?_⟩ | refine ⟨_, _, rfl, rfl, ?_⟩ | refine ⟨rfl, ?_⟩ | refine ⟨⟨_, rfl⟩, ?_⟩ | refine iteT ?_ | refine iteF ?_ | refine ⟨_, _, _, _, _, rfl, .ty _, tyI, kit_ty kit_int_int, ?_⟩ | refine ⟨_, _, _, _, _, rfl, .ty _, tyI, kit_ty kit_int_bool, ?_⟩ | refine ⟨_, _, _, _, _, rfl, .ty _, tyS, kit_ty kit_str_str, ?_⟩ | refine ⟨_, _, _, _, _, rfl, .ty _, tyB, kit_ty kit_bool_bool, ?_⟩ | refine ⟨_, _, _, _, _, rfl, by assumption, by assumption, by assumption, rfl, ?_⟩))
local macro_rules | `(tactic| walk_at "o") => `(tactic| repeat (first | refine ⟨_, rfl, ?_⟩ | refine ⟨_, _, rfl, rfl, ?_⟩ | refine ⟨rfl, ?_⟩ | refine ⟨⟨_, rfl⟩, ?_⟩ | refine iteT ?_ | refine iteF ?_ | refine ⟨_, _, _, _, _, rfl, .ty _, tyI, kit_ty kit_int_int, ?_⟩ | refine ⟨_, _, _, _, _, rfl, .ty _, tyI, kit_ty kit_int_bool, ?_⟩ | refine ⟨_, _, _, _, _, rfl, .ty _, tyS, kit_ty kit_str_str, ?_⟩ | refine ⟨_, _, _, _, _, rfl, .ty _, tyB, kit_ty kit_bool_bool, ?_⟩ | refine ⟨_, _, _, _, _, rfl, by assumption, by assumption, by assumption, rfl, ?_⟩ | refine iteDF (by omega) ?_ | refine iteD (by omega) ?_ | refine ⟨_, _, _, rfl, by omega, by omega, ?_⟩ | refine And.intro (by omega) ?_))

open SX (S)
structure FrmsOk (fs : List Frm) (lasts : Nat) : Prop where
  ne : fs ≠ []
  ln : fs.length ≤ 24
  at_ : ∀ (i : Nat) f, fs[i]? = some f → f.begin = begs fs i ∧ begs fs i < lasts ∧ MetOk f.met ∧ -7 ≤ f.key ∧ f.key ≤ 7
  tot : lasts ≤ begs fs fs.length
theorem ly_frm {f : Frm} : Ly 4 (frmD f) := .tuple (lyc .int (lyc (ly_met.mono (by decide)) (ly1 .int)))
theorem begs_app {fs gs : List Frm} {i : Nat} (h : i ≤ fs.length) : begs (fs ++ gs) i = begs fs i := by
  unfold begs
  rw [List.take_append_of_le_length h]
theorem maybe {K : PySem.W.Frag} {D : Ends} {σ : L2.St} {G H : Hp} {a t fo : Addr} {ns : List Int} {k j : Nat} {te : TE} {v0 : V} {acc : List V} {fs : List Frm} {Pr : V → Hp → Prop} (hPr : ∀ v G G', Same G G' → Pr v G → Pr v G')
    (h0 : σ[0]? = some (some (.ref a))) (h1 : σ[1]? = some (some (.ref t))) (h3 : σ[3]? = some (some (.ref fo))) (hj : σ[j]? = some (some v0)) (p0 : Pr v0 G) (tp : Tp K G H a t ns k) (hk : k ≤ 999990) (ef : H fo = some (.lst acc)) (hacc : DpAll K G acc (fs.map frmD))
    (hte : ∀ G1 H1 k1 (Q : VK), Tp K G1 H1 a t ns k1 → k1 ≤ k + 1 → (∀ v G2 H2 k2, Pr v G2 → Grow (At t) G1 H1 G2 H2 → Tp K G2 H2 a t ns k2 → k2 ≤ k1 + 1 → Q v H2) → te σ H1 Q)
    (q : ∀ v G1 H1 k1, Pr v G1 → Grow (At t) G H G1 H1 → Tp K G1 H1 a t ns k1 → k1 ≤ k + 2 → D.nx (σ.set j (some v)) H1) :
    tIfS (tAnd (tTest (tOp (rNeD K) (tVar 3) (tLst tNil))) (tTest (tOp rEq (tCall (sp__law_draw K) [] C8.E0 (tCons (tVar 0) (tCons (tVar 1) (tCons (tC (.int 5)) tNil)))) (tC (.int 1))))) (tAsg te (gName j)) tNext D σ H := by
  refine ⟨_, h3, Nat.zero_le _, fun ne hne => ?_⟩
  have s1 := same_new (o := .lst []) hne
  have tp1 := tp.same s1
  have g1 : Grow (At t) G H G (upd H ne (.lst [])) := Grow.of_same tp.sm s1
  refine ⟨.list (fs.map frmD), .list [], .lstU (s1 _ _ ef) (hacc.mono tp1.sm), .lstU upd_same .nil, Ly.shaped (n := 5) (Ly.list fun d hd => by
    obtain ⟨f, _, rfl⟩ := List.mem_map.mp hd
    exact ly_frm) (by decide), rfl, ?_⟩
  have stay : ∀ G1 H1 k1, Grow (At t) G H G1 H1 → Tp K G1 H1 a t ns k1 → k1 ≤ k + 2 → D.nx σ H1 := fun G1 H1 k1 g tp hk => by
    have := q v0 G1 H1 k1 (hPr _ _ _ g.gg p0) g tp hk
    rwa [set_self hj] at this
  refine ⟨_, rfl, ?_⟩
  cases fs with
  | nil =>
    rw [show PyData.eqv (.list (([] : List Frm).map frmD)) (.list []) = true by rw [List.map_nil, PyData.eqv, PyData.eqvAll]]
    exact stay _ _ _ g1 tp1 (by omega)
  | cons f r =>
    rw [eqv_ne (by simp)]
    refine ⟨_, h0, _, h1, ?_⟩
    refine ⟨G, a, t, ns, k, 5, rfl, tp1, by omega, by decide, fun v H2 hv g2 tp2 => ?_⟩
    refine ⟨rfl, _, rfl, ?_⟩
    rw [dec1]
    have g12 := g1.tt g2 tp1
    by_cases hv1 : v = 1
    · rw [decide_eq_true hv1]
      refine hte G H2 (k + 1) _ tp2 (Nat.le_refl _) fun v G3 H3 k3 hp g3 tp3 hk3 => ?_
      exact q v G3 H3 k3 hp (g12.tt g3 tp2) tp3 (by omega)
    · rw [decide_eq_false hv1]
      exact stay _ _ _ g12 tp2 (by omega)
section
variable {P : Program} {w : World} {K : PySem.W.Frag} {mg : Str → Option Value} {base : Heap} {A : Ad}
def sp__law_lasts (K : PySem.W.Frag) : Sp := fun vs H Q _ => ∃ (G : Hp) (v : V) (vss : List (List Snd)), vs = [v] ∧ Same G H ∧ Dp K G v (vossD vss) ∧ vss ≠ [] ∧ vss.length ≤ 2 ∧ (∀ ss ∈ vss, ss.length ≤ 96) ∧ ∀ H', Same H H' → Q (.int (lastsL vss)) H'
theorem ok__law_lasts (T : Txt w K mg A) : Cal P w K mg base 1 "_law_lasts" (sp__law_lasts K) [] := by
  obtain ⟨f, d⟩ := T.d__law_lasts
  refine cal_of d sc__law_lasts (fun vs H Q E h => ?_) (fun cdv A' outer s H vs Q E hr h => ?_)
  · obtain ⟨G, v, vss, rfl, _⟩ := h; rfl
  · obtain ⟨G, v, vss, rfl, sm, hv, hne, h2, h96, q⟩ := h
    obtain ⟨a, ws, rfl, hws, hwd⟩ := dpL hv
    have hwl := hwd.len
    rw [List.length_map] at hwl
    refine ⟨_, (pss_cons (ps_set (i := 1) sc__law_lasts.nd rfl (Or.inl rfl) (pe_lst pa_nil))
    (pss_cons (ps_for PassesOwn.never rfl (pi_list (pv 0)) (pg_name (i := 2) sc__law_lasts.nd rfl (Or.inl rfl)) (pss_one (ps_expr (pe_bm PySem.F.plainAttrs_list PySem.F.slot_list_append PySem.F.type_list_append mt_append (pv 1) (pa_cons (pe_callB (cr_sum rfl) (by rfl) T.n_sum boot_sum_ (pa_cons (pe_lc (own := [("_law_told", 3)]) (g := (gName 3)) (tt := tYes) (by rfl) sc__law_lasts.nd (pi_list (pv 2)) (blkOk_by (N := N__law_lasts) (sc := (defScope s__law_lasts)) (by decide +kernel)) (fun _ _ _ _ _ => (pg_name (i := 3) sc__law_lasts.nd rfl (Or.inl rfl))) (fun _ _ _ _ _ => pts_nil) (fun _ _ _ _ _ => (pe_ifExp (pt_cmpR op_eq (pe_ix (ixT K) (pv 3) pe_int (fun _ _ => rfl)) pe_str (nomark _)) (pe_ix (ixT K) (pv 3) pe_int (fun _ _ => rfl)) (pe_ix (ixT K) (pv 3) pe_int (fun _ _ => rfl))))) pa_nil)) pa_nil)))))
    (pss_one (ps_ret (pe_callB (cr_max rfl) (by rfl) T.n_max boot_max_ (pa_cons (pv 1) pa_nil)))))), ?_⟩
    refine ⟨Nat.zero_le _, fun so hso => ?_⟩
    have gso := sm.free hso
    walk_at "s"
    refine ⟨⟨_, (same_new hso).seq (sm.seq hws)⟩, ?_⟩
    refine for_it walk_list (fun i σ H' => ∃ y2 y3, σ = [some (.ref a), some (.ref so), y2, y3] ∧ Grow No G H G H' ∧ H' so = some (.lst (((vss.take i).map fun ss => ((BW.lens ss : Nat) : Int)).map V.int))) ⟨none, none, rfl, (Grow.refl sm).put gso (.inl hso), upd_same⟩ (fun i σ H' _ ⟨_, _, _, g, _⟩ => g.s0.seq hws) ?_ ?_
    · rintro i x σ H1 H1' hi ⟨y2, y3, rfl, g1, eso⟩ ⟨rfl, hx⟩
      obtain ⟨dd, hdd, hd⟩ := hwd.get hx
      rw [List.getElem?_map] at hdd
      cases hs : vss[i]? with
      | none => rw [hs] at hdd; cases hdd
      | some ss =>
      rw [hs] at hdd
      cases hdd
      have hsl := h96 ss (List.mem_of_getElem? hs)
      obtain ⟨b, us, rfl, hus, hud⟩ := dpL hd
      have hul := hud.len
      rw [List.length_map] at hul
      walk_at "s"
      refine ⟨.inl ⟨rfl, _, sqlU eso⟩, ?_⟩
      walk_at "s"
      refine ⟨⟨_, g1.s0.seq hus⟩, fun D2 hD2 => ?_⟩
      refine lc_pure walk_list hD2 g1.gh (fun _ j v => ∃ s, ss[j]? = some s ∧ v = .int (s.len : Nat)) (by omega) (fun _ _ _ _ _ h => h) (fun G2 H2 g2 => (g1.tr g2).s0.seq hus) ?_ ?_
      · rintro j u G2 H2 H2' hj g2 ⟨rfl, hu1⟩ Q2 hq2
        obtain ⟨dd, hdd, hd1⟩ := hud.get hu1
        rw [List.getElem?_map] at hdd
        cases hs1 : ss[j]? with
        | none => rw [hs1] at hdd; cases hdd
        | some s' =>
        rw [hs1] at hdd
        cases hdd
        have hd2 := hd1.mono (g1.tr g2).s0
        obtain ⟨tt, rt, rfl, htt⟩ := snd_tag hd2
        refine ⟨rfl, ?_⟩
        walk_at "s"
        refine ⟨_, _, _, _, rfl, rfl, htt, atI_0, ?_⟩
        walk_at "s"
        rw [tag_dec]
        cases s' with
        | rest n =>
          obtain ⟨_, e1, hm⟩ := dpRest hd2
          cases e1
          walk_at "s"
          refine ⟨_, _, _, _, rfl, rfl, hm, atI_1, ?_⟩
          exact hq2 _ _ _ (Grow.refl g2.gh) ⟨_, hs1, rfl⟩
        | tones ps n wd o c' =>
          obtain ⟨_, pl, e1, hm, _⟩ := dpTones hd2
          cases e1
          walk_at "s"
          refine ⟨_, _, _, _, rfl, rfl, hm, atI_2, ?_⟩
          exact hq2 _ _ _ (Grow.refl g2.gh) ⟨_, hs1, rfl⟩
      · intro G3 H3 acc g3 gD eD el er
        have eacc : acc = (ss.map fun s => ((s.len : Nat) : Int)).map V.int := by
          refine List.ext_getElem? fun j => ?_
          rw [List.getElem?_map, List.getElem?_map]
          by_cases hj : j < acc.length
          · obtain ⟨s, hs, e⟩ := er j _ (List.getElem?_eq_getElem hj)
            rw [List.getElem?_eq_getElem hj, hs, e]
            rfl
          · rw [List.getElem?_eq_none (by omega), List.getElem?_eq_none (by omega)]
            rfl
        refine ⟨D2, _, rfl, sqlU (by rw [← eacc]; exact eD), ?_⟩
        refine ⟨so, _, _, rfl, rfl, g3.same _ _ eso, szl (by rw [List.length_map, List.length_map, List.length_take]; omega), ?_⟩
        have esum : (ss.map fun s => ((s.len : Nat) : Int)).sum = ((BW.lens ss : Nat) : Int) := by
          have := sum_cast (ss.map Snd.len)
          rw [List.map_map] at this
          exact this
        refine ⟨_, _, rfl, ⟨Same.refl _, same_mut ((g1.tr g3).s0) gso, fun b o n e => ?_, fun _ _ _ e => e⟩, ?_⟩
        · by_cases hb : b = so
          · subst hb; rw [hso] at e; cases e
          · rw [upd_ne hb]; exact g3.same _ _ (g1.same _ _ e)
        · rw [upd_same, List.take_add_one, hs, esum]
          simp
    · rintro σ H1 ⟨y2, y3, rfl, g1, eso⟩
      rw [hwl, List.take_length] at eso
      walk_at "s"
      refine ⟨so, _, rfl, sqlU eso, by rw [List.length_map]; exact List.length_pos_iff.mpr hne, fun m hm hmax => ?_⟩
      obtain ⟨s0, hs0, rfl⟩ := List.mem_map.mp hm
      have h1 : BW.lens s0 ≤ lastsL vss := maxL_le (List.mem_map.mpr ⟨s0, hs0, rfl⟩)
      obtain ⟨s1, hs1, e1⟩ := List.mem_map.mp (maxL_mem (l := vss.map BW.lens) (by simpa using hne))
      have h2 := hmax _ (List.mem_map.mpr ⟨s1, hs1, rfl⟩)
      have h3 : BW.lens s0 = lastsL vss := by
        have : BW.lens s1 = lastsL vss := e1
        omega
      rw [h3]
      exact q _ g1.same
def sp__law_frames (K : PySem.W.Frag) : Sp := fun vs H Q _ => ∃ (G : Hp) (a t : Addr) (ns : List Int) (k lasts : Nat), vs = [.ref a, .ref t, .int lasts] ∧ Tp K G H a t ns k ∧ k + 200 ≤ 950000 ∧ 1 ≤ lasts ∧ lasts ≤ 820 ∧
  ∀ (fs : List Frm) G' H' z k', FrmsOk fs lasts → Grow (At t) G H G' H' → Tp K G' H' a t ns k' → k' ≤ k + 200 → Dp K G' z (.list (fs.map frmD)) → Q z H'
theorem ok__law_frames (T : Txt w K mg A) : Cal P w K mg base 3 "_law_frames" (sp__law_frames K) [] := by
  obtain ⟨f, d⟩ := T.d__law_frames
  refine cal_of d sc__law_frames (fun vs H Q E h => ?_) (fun cdv A' outer s H vs Q E hr h => ?_)
  · obtain ⟨G, a, t, ns, k, lasts, rfl, _⟩ := h; rfl
  · obtain ⟨G, a, t, ns, k, lasts, rfl, tp, hk, hl1, hl2, q⟩ := h
    refine ⟨_, (pss_cons (ps_set (i := 3) sc__law_frames.nd rfl (Or.inl rfl) (pe_lst pa_nil))
    (pss_cons (ps_set (i := 4) sc__law_frames.nd rfl (Or.inl rfl) pe_int)
    (pss_cons (ps_set (i := 5) sc__law_frames.nd rfl (Or.inl rfl) (pe_c (ok__law_metre T) hr (by decide) rfl (pa_cons (pv 0) (pa_cons (pv 1) pa_nil))))
    (pss_cons (ps_set (i := 6) sc__law_frames.nd rfl (Or.inl rfl) (pe_op op_sub (pe_c (ok__law_draw T) hr (by decide) rfl (pa_cons (pv 0) (pa_cons (pv 1) (pa_cons pe_int pa_nil)))) pe_int))
    (pss_cons (ps_while PassesOwn.never (pt_cmpR op_lt (pv 4) (pv 2) (nomark _)) (pss_cons (ps_if (PW.pt (pw_and (pt_cmpR (op_neD hr.units) (pv 3) (pe_lst pa_nil) (nomark _)) (pw_and1 (pt_cmpR op_eq (pe_c (ok__law_draw T) hr (by decide) rfl (pa_cons (pv 0) (pa_cons (pv 1) (pa_cons pe_int pa_nil)))) pe_int (nomark _))))) (pss_one (ps_set (i := 5) sc__law_frames.nd rfl (Or.inl rfl) (pe_c (ok__law_metre T) hr (by decide) rfl (pa_cons (pv 0) (pa_cons (pv 1) pa_nil))))) pss_nil)
      (pss_cons (ps_if (PW.pt (pw_and (pt_cmpR (op_neD hr.units) (pv 3) (pe_lst pa_nil) (nomark _)) (pw_and1 (pt_cmpR op_eq (pe_c (ok__law_draw T) hr (by decide) rfl (pa_cons (pv 0) (pa_cons (pv 1) (pa_cons pe_int pa_nil)))) pe_int (nomark _))))) (pss_one (ps_set (i := 6) sc__law_frames.nd rfl (Or.inl rfl) (pe_op op_sub (pe_c (ok__law_draw T) hr (by decide) rfl (pa_cons (pv 0) (pa_cons (pv 1) (pa_cons pe_int pa_nil)))) pe_int))) pss_nil)
      (pss_cons (ps_expr (pe_bm PySem.F.plainAttrs_list PySem.F.slot_list_append PySem.F.type_list_append mt_append (pv 3) (pa_cons (pe_tup (pa_cons (pv 4) (pa_cons (pv 5) (pa_cons (pv 6) pa_nil)))) pa_nil)))
      (pss_one (ps_set (i := 4) sc__law_frames.nd rfl (Or.inl rfl) (pe_op op_add (pv 4) (pe_op op_fdiv (pe_op op_mul (pe_ix ix_tup (pv 5) pe_int (fun _ _ => rfl)) pe_int) (pe_ix ix_tup (pv 5) pe_int (fun _ _ => rfl))))))))))
    (pss_one (ps_ret (pv 3)))))))), ?_⟩
    refine ⟨Nat.zero_le _, fun fo hfo => ?_⟩
    have gfo := tp.sm.free hfo
    have ntf := tp.ne hfo
    have nft : fo ≠ t := fun z => ntf z.symm
    have g0 : Grow (At t) G H G (upd H fo (.lst [])) := (Grow.refl tp.sm).put gfo (.inl hfo)
    have tp0 : Tp K G (upd H fo (.lst [])) a t ns k := tp.put gfo ntf
    have k0 : (upd H fo (.lst [])) fo = some (.lst []) := upd_same
    generalize upd H fo (.lst []) = H0 at g0 tp0 k0 ⊢
    walk_at "s"
    refine ⟨G, a, t, ns, k, rfl, tp0, by omega, fun m0 G1 H1 z1 hm0 hb0 g1 tp1 hz1 => ?_⟩
    have g01 := g0.tt g1 tp0
    have k1 := g1.hh _ _ nft k0
    have gf1 := g1.fr _ _ k0 gfo
    walk_at "s"
    refine ⟨G1, a, t, ns, k + 1, 15, rfl, tp1, by omega, by decide, fun v2 H2 hv2 g2 tp2 => ?_⟩
    have g02 := g01.tt g2 tp1
    have k2 := g2.hh _ _ nft k1
    walk_at "s"
    refine ⟨fun m σ H5 => ∃ (G5 : Hp) (fs : List Frm) (acc : List V) (zm : V) (mm : Met) (key : Int) (k' : Nat), m = lasts - begs fs fs.length ∧ σ = [some (.ref a), some (.ref t), some (.int lasts), some (.ref fo), some (.int (begs fs fs.length : Nat)), some zm, some (.int key)] ∧
        Grow (At t) G H G5 H5 ∧ Tp K G5 H5 a t ns k' ∧ k' ≤ k + 2 + 4 * fs.length ∧ H5 fo = some (.lst acc) ∧ G5 fo = none ∧ DpAll K G5 acc (fs.map frmD) ∧ Dp K G5 zm (metD mm) ∧ MetOk mm ∧ 36 ≤ mm.bar ∧ -7 ≤ key ∧ key ≤ 7 ∧ 36 * fs.length ≤ begs fs fs.length ∧ (lasts ≤ begs fs fs.length → fs ≠ []) ∧ 36 * (fs.length - 1) < lasts ∧
        ∀ (i : Nat) f, fs[i]? = some f → f.begin = begs fs i ∧ begs fs i < lasts ∧ MetOk f.met ∧ -7 ≤ f.key ∧ f.key ≤ 7,
      ⟨lasts - 0, G1, [], [], z1, m0, (v2 : Int) - 7, k + 1 + 1, rfl, rfl, g02, tp2, by simp, k2, gf1, .nil, hz1, hm0, hb0, by omega, by omega, Nat.zero_le _, fun h => (by have : lasts ≤ 0 := h; omega), by simp; omega, fun i f h => by simp at h⟩, ?_⟩
    rintro m σ H5 ⟨G5, fs, acc, zm, mm, key, k', rfl, rfl, g5, tp5, hk5, ef5, gf5, hacc, hzm, hmm, hbm, hk1, hk2, hbeg, hstop, hfl, hat⟩
    have hal := hacc.len
    rw [List.length_map] at hal
    walk_at "s"
    by_cases hlt : begs fs fs.length < lasts
    · refine iteD (by omega) ?_
      refine ⟨fun σ H5 => ∃ m', m' < lasts - begs fs fs.length ∧ ∃ (G5 : Hp) (fs : List Frm) (acc : List V) (zm : V) (mm : Met) (key : Int) (k' : Nat), m' = lasts - begs fs fs.length ∧ σ = [some (.ref a), some (.ref t), some (.int lasts), some (.ref fo), some (.int (begs fs fs.length : Nat)), some zm, some (.int key)] ∧
        Grow (At t) G H G5 H5 ∧ Tp K G5 H5 a t ns k' ∧ k' ≤ k + 2 + 4 * fs.length ∧ H5 fo = some (.lst acc) ∧ G5 fo = none ∧ DpAll K G5 acc (fs.map frmD) ∧ Dp K G5 zm (metD mm) ∧ MetOk mm ∧ 36 ≤ mm.bar ∧ -7 ≤ key ∧ key ≤ 7 ∧ 36 * fs.length ≤ begs fs fs.length ∧ (lasts ≤ begs fs fs.length → fs ≠ []) ∧ 36 * (fs.length - 1) < lasts ∧
        ∀ (i : Nat) f, fs[i]? = some f → f.begin = begs fs i ∧ begs fs i < lasts ∧ MetOk f.met ∧ -7 ≤ f.key ∧ f.key ≤ 7, fun σ' H' h => h, ?_⟩
      have hfs23 : fs.length ≤ 22 := by omega
      refine maybe (j := 5) (Pr := fun v G => ∃ m, Dp K G v (metD m) ∧ MetOk m ∧ 36 ≤ m.bar) (fun v G G' e ⟨m, h1, h2⟩ => ⟨m, h1.mono e, h2⟩) rfl rfl rfl rfl ⟨mm, hzm, hmm, hbm⟩ tp5 (by omega) ef5 hacc ?_ ?_
      · intro G6 H6 k6 Q' tp6 hk6 hq
        refine ⟨_, rfl, _, rfl, ?_⟩
        exact ⟨G6, a, t, ns, k6, rfl, tp6, by omega, fun m G7 H7 z hm hb g7 tp7 hz => hq z G7 H7 _ ⟨m, hz, hm, hb⟩ g7 tp7 (Nat.le_refl _)⟩
      rintro zm2 G6 H6 k6 ⟨mm2, hzm2, hmm2, hbm2⟩ g6 tp6 hk6
      have g56 := g5.tt g6 tp5
      have ef6 := g6.hh _ _ nft ef5
      have gf6 := g6.fr _ _ ef5 gf5
      refine maybe (j := 6) (Pr := fun v G => ∃ key : Int, v = .int key ∧ -7 ≤ key ∧ key ≤ 7) (fun v G G' e h => h) rfl rfl rfl rfl ⟨key, rfl, hk1, hk2⟩ tp6 (by omega) ef6 (hacc.mono g6.gg) ?_ ?_
      · intro G7 H7 k7 Q' tp7 hk7 hq
        refine ⟨_, rfl, _, rfl, ?_⟩
        refine ⟨G7, a, t, ns, k7, 15, rfl, tp7, by omega, by decide, fun v H8 hv g8 tp8 => ?_⟩
        refine ⟨_, _, rfl, rfl, ?_⟩
        exact hq (V.int ((v : Int) - 7)) G7 H8 _ (show ∃ key : Int, V.int ((v : Int) - 7) = .int key ∧ -7 ≤ key ∧ key ≤ 7 from ⟨(v : Int) - 7, rfl, by omega, by omega⟩) g8 tp8 (Nat.le_refl _)
      rintro vk G7 H7 k7 ⟨key2, rfl, hk21, hk22⟩ g7 tp7 hk7
      have g57 := g56.tt g7 tp6
      have ef7 := g7.hh _ _ nft ef6
      have gf7 := g7.fr _ _ ef6 gf6
      have hzm7 := hzm2.mono g7.gg
      have hacc7 := hacc.mono (g6.gg.trans g7.gg)
      walk_at "s"
      refine ⟨.inl ⟨rfl, _, sqlU ef7⟩, ?_⟩
      walk_at "s"
      refine ⟨by show 3 ≤ sizeLine; decide, fun pt hpt => ?_⟩
      have npf : fo ≠ pt := ne_of_none ef7 hpt
      have ntp := tp7.ne hpt
      have g8 := g57.imm (o := .tup [.int (begs fs fs.length : Nat), zm2, .int key2]) hpt fun o _ m => ntp m.symm
      have tp8 := tp7.imm (o := .tup [.int (begs fs fs.length : Nat), zm2, .int key2]) hpt
      have s8 := same_new (o := .tup [.int (begs fs fs.length : Nat), zm2, .int key2]) (g57.gh.free hpt)
      have dp8 : Dp K (upd G7 pt (.tup [.int (begs fs fs.length : Nat), zm2, .int key2])) (.ref pt) (frmD ⟨begs fs fs.length, mm2, key2⟩) := .tupU upd_same (.cons (.int _) (.cons (hzm7.mono s8) (.cons (.int _) .nil)))
      have ef8 : (upd H7 pt (.tup [.int (begs fs fs.length : Nat), zm2, .int key2])) fo = some (.lst acc) := by rw [upd_ne npf]; exact ef7
      have gf8 : (upd G7 pt (.tup [.int (begs fs fs.length : Nat), zm2, .int key2])) fo = none := by rw [upd_ne npf]; exact gf7
      have hacc8 := (hacc7.mono s8).snoc dp8
      have hzm8 := hzm7.mono s8
      generalize upd G7 pt _ = G8 at g8 tp8 dp8 gf8 hacc8 hzm8
      generalize upd H7 pt _ = H8 at g8 tp8 ef8 ⊢
      refine ⟨fo, acc, _, rfl, rfl, ef8, szl (by omega), ?_⟩
      have g9 := g8.put (o := .lst (acc ++ [.ref pt])) gf8 (.inl hfo)
      have tp9 : Tp K G8 (upd H8 fo (.lst (acc ++ [.ref pt]))) a t ns k7 := tp8.put gf8 ntf
      have k9 : (upd H8 fo (.lst (acc ++ [.ref pt]))) fo = some (.lst (acc ++ [.ref pt])) := upd_same
      generalize upd H8 fo (.lst (acc ++ [.ref pt])) = H9 at g9 tp9 k9 ⊢
      obtain ⟨ma, mx, hzeq, hmt, _, _⟩ := dpM (hzm8.mono g9.gh)
      subst hzeq
      have hb' := hmm2.b0
      have ht' := hmm2.t1
      walk_at "s"
      refine ⟨_, _, _, _, rfl, rfl, hmt, atI_0, ?_⟩
      walk_at "s"
      refine ⟨.inr ⟨by decide, by decide⟩, ?_⟩
      refine ⟨_, rfl, _, _, _, _, rfl, rfl, hmt, atI_1, ?_⟩
      refine ⟨_, _, rfl, rfl, ⟨by omega, by omega⟩, ?_⟩
      have ebar : ((mm2.top : Nat) : Int) * 96 / ((mm2.bot : Nat) : Int) = ((mm2.bar : Nat) : Int) := by
        unfold Met.bar
        rw [Int.natCast_ediv, Int.natCast_mul]
        rfl
      have enew : begs (fs ++ [Frm.mk (begs fs fs.length) mm2 key2]) (fs ++ [Frm.mk (begs fs fs.length) mm2 key2]).length = begs fs fs.length + mm2.bar := by
        rw [List.length_append, List.length_singleton, begs_succ (f := ⟨begs fs fs.length, mm2, key2⟩) (by rw [List.getElem?_append_right (Nat.le_refl _), Nat.sub_self]; rfl), begs_app (Nat.le_refl _)]
      walk_at "s"
      refine ⟨lasts - (begs fs fs.length + mm2.bar), by omega, G8, fs ++ [⟨begs fs fs.length, mm2, key2⟩], acc ++ [.ref pt], .ref ma, mm2, key2, k7, by rw [enew], ?_, g9, tp9, by rw [List.length_append, List.length_singleton]; omega, k9, gf8, by rw [List.map_append]; exact hacc8, hzm8, hmm2, hbm2, hk21, hk22, ?_, ?_, ?_, ?_⟩
      · rw [enew, show ((begs fs fs.length + mm2.bar : Nat) : Int) = ((begs fs fs.length : Nat) : Int) + ((mm2.bar : Nat) : Int) by omega, ← ebar]
        rfl
      · rw [enew, List.length_append, List.length_singleton]; omega
      · intro _; simp
      · rw [List.length_append, List.length_singleton]; omega
      · intro i f hf
        by_cases hi : i < fs.length
        · rw [List.getElem?_append_left hi] at hf
          rw [begs_app (by omega)]
          exact hat i f hf
        · have : i = fs.length := by
            have := (List.getElem?_eq_some_iff.mp hf).1
            rw [List.length_append, List.length_singleton] at this
            omega
          subst this
          rw [List.getElem?_append_right (Nat.le_refl _), Nat.sub_self] at hf
          cases (Option.some.inj hf)
          rw [begs_app (Nat.le_refl _)]
          exact ⟨rfl, hlt, hmm2, hk21, hk22⟩
    · refine iteDF (by omega) ?_
      walk_at "s"
      have g6 := g5.fix ef5 hfo gf5
      have s6 : Same G5 (upd G5 fo (.lst acc)) := fun b u e => by rw [upd_ne (ne_of_none e gf5)]; exact e
      exact q fs _ _ _ k' ⟨hstop (by omega), by omega, hat, by omega⟩ g6 ⟨g6.gh, s6.seq tp5.sc, tp5.nl, by rw [upd_ne ntf]; exact tp5.gt, tp5.ht⟩ (by omega) (.lstU upd_same (hacc.mono s6))
end
end BW
set_option Elab.async false
set_option linter.all false
set_option maxRecDepth 100000
set_option maxHeartbeats 4000000
set_option pp.maxSteps 3000
namespace BW
open PySem PySem.Spec PyProof.Rows L2
open C8 (Cal Met Mak pe_c pe_mk pe_mt pe_mt0 pe_gc sl_txt fnBody fnScope fnArgs)
local macro_rules | `(tactic| walk_at "v") => `(tactic| refine ⟨_, rfl, ?_⟩)
local macro_rules | `(tactic| walk_at "i2") => `(tactic| refine ⟨_, _, rfl, rfl, ?_⟩)
local macro_rules | `(tactic| walk_at "k") => `(tactic| exact (by decide +kernel))
local macro_rules | `(tactic| walk_at "s") => `(tactic| repeat (first | refine ⟨_, rfl, ?_⟩ | refine ⟨_, _, rfl, rfl, ?_⟩ | refine ⟨rfl, ?_⟩ | refine ⟨⟨_, rfl⟩, ?_⟩ | refine iteT ?_ | refine iteF ?_ | refine ⟨_, _, _, _, _, rfl, .ty _, tyI, kit_ty kit_int_int, ?_⟩ | refine ⟨_, _, _, _, _, rfl, .ty _, tyI, kit_ty kit_int_bool, ?_⟩ | refine ⟨_, _, _, _, _, rfl, .ty _, tyS, kit_ty kit_str_str, ?_⟩ | refine ⟨_, _, _, _, _, rfl, .ty _, tyB, kit_ty kit_bool_bool, ?_⟩ | refine ⟨_, _, _, _, _, rfl, by assumption, by assumption, by assumption, rfl, ?_⟩))
local macro_rules | `(tactic| walk_at "o") => `(tactic| repeat (first | refine ⟨_, rfl, ?_⟩ | refine ⟨_, _, rfl, rfl, ?_⟩ | refine ⟨rfl, ?_⟩ | refine ⟨⟨_, rfl⟩, ?_⟩ | refine iteT ?_ | refine iteF ?_ | refine ⟨_, _, _, _, _, rfl, .ty _, tyI, kit_ty kit_int_int, ?_⟩ | refine ⟨_, _, _, _, _, rfl, .ty _, tyI, kit_ty kit_int_bool, ?_⟩ | refine ⟨_, _, _, _, _, rfl, .ty _, tyS, kit_ty kit_str_str, ?_⟩ | refine ⟨_, _, _, _, _, rfl, .ty _, tyB, kit_ty kit_bool_bool, ?_⟩ | refine ⟨_, _, _, _, _, rfl, by assumption, by assumption, by assumption, rfl, ?_⟩ | refine iteDF (by omega) ?_ | refine iteD (by omega) ?_ | refine ⟨_, _, _, rfl, by omega, by omega, ?_⟩ | refine And.intro (by omega) ?_))

open SX (S)
def chs {α : Type} [DecidableEq α] : Nat → Option α → List α → List (Nat × α)
  | _, _, [] => []
  | n, last, x :: r => if last = some x then chs (n + 1) (some x) r else (n + 1, x) :: chs (n + 1) (some x) r
section
variable {α : Type} [DecidableEq α]
theorem chs_none (n : Nat) (x : α) (r : List α) : chs n none (x :: r) = (n + 1, x) :: chs (n + 1) (some x) r := by
  show (if none = some x then _ else _) = _
  rw [if_neg (by simp)]
theorem chs_last : ∀ (xs : List α) (n : Nat) (p : Nat × α), ∃ b, (p :: chs n (some p.2) xs).getLast? = some (b, (xs.getLast?).getD p.2)
  | [], n, p => ⟨p.1, rfl⟩
  | x :: r, n, p => by
    show ∃ b, (p :: (if some p.2 = some x then _ else _)).getLast? = _
    by_cases h : some p.2 = some x
    · rw [if_pos h]
      obtain ⟨b, hb⟩ := chs_last r (n + 1) p
      have e : p.2 = x := Option.some.inj h
      refine ⟨b, ?_⟩
      rw [← e, hb, List.getLast?_cons]
      simp
    · rw [if_neg h]
      obtain ⟨b, hb⟩ := chs_last r (n + 1) (n + 1, x)
      refine ⟨b, ?_⟩
      rw [List.getLast?_cons_cons, hb, List.getLast?_cons]
      simp
theorem chs_snoc : ∀ (xs : List α) (n : Nat) (last : Option α) (x : α), chs n last (xs ++ [x]) = chs n last xs ++ (if (xs.getLast?).or last = some x then [] else [(n + xs.length + 1, x)])
  | [], n, last, x => by
    by_cases h : last = some x <;> simp [chs, h]
  | y :: r, n, last, x => by
    have ih := chs_snoc r (n + 1) (some y) x
    have e : (y :: r).getLast?.or last = (r.getLast?).or (some y) := by
      rw [List.getLast?_cons]
      cases r.getLast? <;> rfl
    rw [e]
    have e2 : n + (y :: r).length + 1 = n + 1 + r.length + 1 := by simp; omega
    rw [e2]
    show (if last = some y then chs (n + 1) (some y) (r ++ [x]) else (n + 1, y) :: chs (n + 1) (some y) (r ++ [x])) = (if last = some y then chs (n + 1) (some y) r else (n + 1, y) :: chs (n + 1) (some y) r) ++ _
    rw [ih]
    split <;> rfl
theorem chs_bar : ∀ (xs : List α) (n : Nat) (last : Option α), ∀ p ∈ chs n last xs, n + 1 ≤ p.1 ∧ p.1 ≤ n + xs.length ∧ p.2 ∈ xs
  | [], _, _, p, h => by cases h
  | x :: r, n, last, p, h => by
    have h : p ∈ (if last = some x then chs (n + 1) (some x) r else (n + 1, x) :: chs (n + 1) (some x) r) := h
    have key : p ∈ chs (n + 1) (some x) r → n + 1 ≤ p.1 ∧ p.1 ≤ n + (x :: r).length ∧ p.2 ∈ x :: r := fun h => by
      obtain ⟨a, b, c⟩ := chs_bar r (n + 1) (some x) p h
      exact ⟨by omega, by simp; omega, List.mem_cons_of_mem _ c⟩
    split at h
    · exact key h
    · rcases List.mem_cons.mp h with rfl | h
      · exact ⟨Nat.le_refl _, by simp, List.mem_cons_self⟩
      · exact key h
theorem chs_len : ∀ (xs : List α) (n : Nat) (last : Option α), (chs n last xs).length ≤ xs.length
  | [], _, _ => Nat.le_refl _
  | x :: r, n, last => by
    have ih := chs_len r (n + 1) (some x)
    show (if last = some x then chs (n + 1) (some x) r else (n + 1, x) :: chs (n + 1) (some x) r).length ≤ _
    split
    · simp; omega
    · simp; omega
theorem chs_rise : ∀ (xs : List α) (n : Nat) (p : Nat × α), p.1 ≤ n → ∀ (i : Nat) a b, (p :: chs n (some p.2) xs)[i]? = some a → (p :: chs n (some p.2) xs)[i + 1]? = some b → a.1 < b.1 ∧ a.2 ≠ b.2
  | [], n, p, _, i, a, b, _, h => by
    have h : ([] : List (Nat × α))[i]? = some b := h
    simp at h
  | x :: r, n, p, hp, i, a, b, ha, hb => by
    have e : chs n (some p.2) (x :: r) = if some p.2 = some x then chs (n + 1) (some x) r else (n + 1, x) :: chs (n + 1) (some x) r := rfl
    rw [e] at ha hb
    by_cases h : some p.2 = some x
    · rw [if_pos h, ← h] at ha hb
      exact chs_rise r (n + 1) p (by omega) i a b ha hb
    · rw [if_neg h] at ha hb
      cases i with
      | zero =>
        cases (Option.some.inj ha)
        cases (Option.some.inj hb)
        exact ⟨by show p.1 < n + 1; omega, fun z => h (congrArg some z)⟩
      | succ i => exact chs_rise r (n + 1) (n + 1, x) (Nat.le_refl _) i a b ha hb
theorem chs_fil : ∀ (xs : List α) (n j : Nat) (last : Option α), (chs n last xs).filter (fun r => decide (r.1 ≤ n + j)) = chs n last (xs.take j)
  | [], _, _, _ => by rw [List.take_nil]; rfl
  | x :: r, n, 0, last => by
    rw [List.take_zero]
    show _ = []
    rw [List.filter_eq_nil_iff]
    intro p hp
    have := (chs_bar _ _ _ p hp).1
    simp
    omega
  | x :: r, n, j + 1, last => by
    have ih := chs_fil r (n + 1) j (some x)
    rw [show n + 1 + j = n + (j + 1) by omega] at ih
    show (if last = some x then chs (n + 1) (some x) r else (n + 1, x) :: chs (n + 1) (some x) r).filter _ = if last = some x then chs (n + 1) (some x) (r.take j) else (n + 1, x) :: chs (n + 1) (some x) (r.take j)
    split
    · exact ih
    · rw [List.filter_cons_of_pos (by simp), ih]
theorem lastAt_chs {xs : List α} {i : Nat} {x : α} (h : xs[i]? = some x) : LastAt (chs 0 none xs) (i + 1) x := by
  have e := chs_fil xs 0 (i + 1) none
  rw [Nat.zero_add] at e
  unfold LastAt
  rw [e]
  cases xs with
  | nil => simp at h
  | cons y r =>
    rw [List.take_succ_cons, chs_none]
    obtain ⟨b, hb⟩ := chs_last (r.take i) 1 (1, y)
    refine ⟨b, ?_⟩
    have e2 : ((r.take i).getLast?).getD y = x := by
      cases i with
      | zero => cases (Option.some.inj h); simp
      | succ i =>
        have h : r[i]? = some x := h
        have hi := (List.getElem?_eq_some_iff.mp h).1
        rw [List.take_add_one, h]
        simp
    rw [← e2]
    exact hb
theorem chg_chs {enc : α → PyData} (he : ∀ x y, PyData.eqv (enc x) (enc y) = decide (x = y)) (hl : ∀ x, Ly 4 (enc x)) {xs : List α} (hne : xs ≠ []) (h24 : xs.length ≤ 24) : Chg enc (chs 0 none xs) := by
  cases xs with
  | nil => exact absurd rfl hne
  | cons x r =>
    refine ⟨⟨x, by rw [chs_none]; rfl⟩, fun i p q hp hq => ?_, fun p _ => hl p.2, Nat.le_trans (chs_len _ _ _) (by omega)⟩
    rw [chs_none] at hp hq
    obtain ⟨h1, h2⟩ := chs_rise r 1 (1, x) (Nat.le_refl _) i p q hp hq
    exact ⟨h1, by rw [he]; exact decide_eq_false h2⟩
end
def allF : Nat → Option Met → Option Int → List Frm → List (Nat × What)
  | _, _, _, [] => []
  | n, lm, lk, f :: r => (if lm = some f.met then [] else [(n + 1, .met f.met)]) ++ ((if lk = some f.key then [] else [(n + 1, .key f.key)]) ++ allF (n + 1) (some f.met) (some f.key) r)
theorem metsOf_app : ∀ (a b : List (Nat × What)), metsOf (a ++ b) = metsOf a ++ metsOf b
  | [], _ => rfl
  | (n, .met m) :: r, b => by show _ :: metsOf (r ++ b) = _ :: _; rw [metsOf_app r b] <;> rfl
  | (n, .key m) :: r, b => metsOf_app r b
theorem keysOf_app : ∀ (a b : List (Nat × What)), keysOf (a ++ b) = keysOf a ++ keysOf b
  | [], _ => rfl
  | (n, .key m) :: r, b => by show _ :: keysOf (r ++ b) = _ :: _; rw [keysOf_app r b] <;> rfl
  | (n, .met m) :: r, b => keysOf_app r b
theorem allF_mets : ∀ (fs : List Frm) (n : Nat) (lm : Option Met) (lk : Option Int), metsOf (allF n lm lk fs) = chs n lm (fs.map (·.met)) ∧ keysOf (allF n lm lk fs) = chs n lk (fs.map (·.key))
  | [], _, _, _ => ⟨rfl, rfl⟩
  | f :: r, n, lm, lk => by
    obtain ⟨h1, h2⟩ := allF_mets r (n + 1) (some f.met) (some f.key)
    constructor
    · show metsOf (_ ++ (_ ++ _)) = if lm = some f.met then _ else _
      rw [metsOf_app, metsOf_app, h1]
      split <;> split <;> rfl
    · show keysOf (_ ++ (_ ++ _)) = if lk = some f.key then _ else _
      rw [keysOf_app, keysOf_app, h2]
      split <;> split <;> rfl
theorem allF_mem : ∀ (fs : List Frm) (n : Nat) (lm : Option Met) (lk : Option Int), ∀ p ∈ allF n lm lk fs, n + 1 ≤ p.1 ∧ p.1 ≤ n + fs.length ∧ ∃ f ∈ fs, p.2 = .met f.met ∨ p.2 = .key f.key
  | [], _, _, _, p, h => by cases h
  | f :: r, n, lm, lk, p, h => by
    rcases List.mem_append.mp h with h | h
    · split at h
      · cases h
      · rw [List.mem_singleton.mp h]
        exact ⟨Nat.le_refl _, by simp, f, List.mem_cons_self, .inl rfl⟩
    · rcases List.mem_append.mp h with h | h
      · split at h
        · cases h
        · rw [List.mem_singleton.mp h]
          exact ⟨Nat.le_refl _, by simp, f, List.mem_cons_self, .inr rfl⟩
      · obtain ⟨a, b, g, hg, c⟩ := allF_mem r (n + 1) _ _ p h
        exact ⟨by omega, by simp; omega, g, List.mem_cons_of_mem _ hg, c⟩
theorem allF_lt : ∀ (fs : List Frm) (n : Nat) (lm : Option Met) (lk : Option Int), (allF n lm lk fs).Pairwise ltW
  | [], _, _, _ => .nil
  | f :: r, n, lm, lk => by
    have ih := allF_lt r (n + 1) (some f.met) (some f.key)
    have h1 : ∀ p ∈ allF (n + 1) (some f.met) (some f.key) r, n + 1 < p.1 := fun p hp => by
      have := (allF_mem r (n + 1) _ _ p hp).1
      omega
    show List.Pairwise ltW (_ ++ (_ ++ _))
    rw [List.pairwise_append, List.pairwise_append]
    refine ⟨by split <;> simp, ⟨by split <;> simp, ih, fun a ha b hb => ?_⟩, fun a ha b hb => ?_⟩
    · split at ha
      · cases ha
      · rw [List.mem_singleton.mp ha]; exact .inl (h1 b hb)
    · split at ha
      · cases ha
      · rw [List.mem_singleton.mp ha]
        rcases List.mem_append.mp hb with hb | hb
        · split at hb
          · cases hb
          · rw [List.mem_singleton.mp hb]; exact .inr ⟨rfl, by show 0 < 1; decide⟩
        · exact .inl (h1 b hb)
theorem allF_cons (f : Frm) (r : List Frm) : allF 0 none none (f :: r) = (1, .met f.met) :: (1, .key f.key) :: allF 1 (some f.met) (some f.key) r := by
  show (if none = some f.met then [] else _) ++ ((if none = some f.key then [] else _) ++ _) = _
  rw [if_neg (by simp), if_neg (by simp)]
  rfl
theorem laid_of {fs : List Frm} {lasts : Nat} (h : FrmsOk fs lasts) : Laid (chs 0 none (fs.map (·.met))) (chs 0 none (fs.map (·.key))) fs lasts where
  at_ i f hf := by
    obtain ⟨a, b, c, _⟩ := h.at_ i f hf
    exact ⟨a, b, lastAt_chs (by rw [List.getElem?_map, hf]; rfl), lastAt_chs (by rw [List.getElem?_map, hf]; rfl), c⟩
  tot := h.tot
  len := h.ln
  lm p hp := by
    have := (chs_bar _ _ _ p (List.mem_of_getLast? hp)).2.1
    rw [List.length_map] at this
    omega
  lk p hp := by
    have := (chs_bar _ _ _ p (List.mem_of_getLast? hp)).2.1
    rw [List.length_map] at this
    omega
section
variable {P : Program} {w : World} {K : PySem.W.Frag} {mg : Str → Option Value} {base : Heap} {A : Ad}
def sp__law_changes (K : PySem.W.Frag) : Sp := fun vs H Q _ => ∃ (G : Hp) (v : V) (fs : List Frm) (part : Nat) (α : Type) (_ : DecidableEq α) (enc : α → PyData) (sel : Frm → α), vs = [v, .int part] ∧ Same G H ∧ Dp K G v (.list (fs.map frmD)) ∧ fs.length ≤ 24 ∧
  (∀ G' x f, Dp K G' x (frmD f) → ∃ a xs z, x = .ref a ∧ SqT K G' a xs ∧ atI xs (part : Int) = some z ∧ Dp K G' z (enc (sel f))) ∧ (∀ x, Ly 4 (enc x)) ∧ (∀ x y, PyData.eqv (enc x) (enc y) = decide (x = y)) ∧
  ∀ G' H' z, Grow No G H G' H' → Dp K G' z (chgsD enc (chs 0 none (fs.map sel))) → Q z H'
theorem ok__law_changes (T : Txt w K mg A) : Cal P w K mg base 1 "_law_changes" (sp__law_changes K) [] := by
  obtain ⟨f, d⟩ := T.d__law_changes
  refine cal_of d sc__law_changes (fun vs H Q E h => ?_) (fun cdv A' outer s H vs Q E hr h => ?_)
  · obtain ⟨G, v, fs, part, α, _, enc, sel, rfl, _⟩ := h; rfl
  · obtain ⟨G, v, fs, part, α, _, enc, sel, rfl, sm, hv, h24, hsel, hly, heq, q⟩ := h
    obtain ⟨a, ws, rfl, hws, hwd⟩ := dpL hv
    have hwl := hwd.len
    rw [List.length_map] at hwl
    refine ⟨_, (pss_cons (ps_set (i := 2) sc__law_changes.nd rfl (Or.inl rfl) (pe_lst pa_nil))
    (pss_cons (ps_for PassesOwn.never rfl (pi_enum (by rfl) T.n_enumerate (pa_cons (pv 0) pa_nil)) (pg_tup rfl (pgs_cons (pg_name (i := 3) sc__law_changes.nd rfl (Or.inl rfl)) (pgs_cons (pg_name (i := 4) sc__law_changes.nd rfl (Or.inl rfl)) pgs_nil))) (pss_one (ps_if (PW.pt (pw_or (pt_cmpR (op_eqD hr.units) (pv 2) (pe_lst pa_nil) (nomark _)) (pw_or1 (pt_cmpR (op_neD hr.units) (pe_ix ix_tup (pe_ix ix_list (pv 2) (pe_un un_neg pe_int) (fun _ _ => rfl)) pe_int (fun _ _ => rfl)) (pe_ix ix_tup (pv 4) (pv 1) (fun _ _ => rfl)) (nomark _))))) (pss_one (ps_expr (pe_bm PySem.F.plainAttrs_list PySem.F.slot_list_append PySem.F.type_list_append mt_append (pv 2) (pa_cons (pe_tup (pa_cons (pe_op op_add (pv 3) pe_int) (pa_cons (pe_ix ix_tup (pv 4) (pv 1) (fun _ _ => rfl)) pa_nil))) pa_nil)))) pss_nil)))
    (pss_one (ps_ret (pv 2))))), ?_⟩
    refine ⟨Nat.zero_le _, fun fo hfo => ?_⟩
    have gfo := sm.free hfo
    walk_at "s"
    refine ⟨_, ws, rfl, (same_new hfo).seq (sm.seq hws), ?_⟩
    refine for_it walk_enum (fun i σ H' => ∃ G1 acc y3 y4, σ = [some (.ref a), some (.int part), some (.ref fo), y3, y4] ∧ Grow No G H G1 H' ∧ G1 fo = none ∧ H' fo = some (.lst acc) ∧ DpAll K G1 acc ((chs 0 none ((fs.take i).map sel)).map (chgD enc))) ⟨G, [], none, none, rfl, (Grow.refl sm).put gfo (.inl hfo), gfo, upd_same, .nil⟩ (fun i σ H' _ ⟨_, _, _, _, _, g, _⟩ => g.s0.seq hws) ?_ ?_
    · rintro i x σ H1 H1' hi ⟨G1, acc, y3, y4, rfl, g1, gf1, ef1, hacc⟩ ⟨T, xi, x, rfl, hT, rfl, hxi, hx⟩
      cases (Option.some.inj hxi)
      have hx : ws[i]? = some x := hx
      obtain ⟨dd, hdd, hd⟩ := hwd.get hx
      rw [List.getElem?_map] at hdd
      cases hf : fs[i]? with
      | none => rw [hf] at hdd; cases hdd
      | some f =>
      rw [hf] at hdd
      cases hdd
      have hal := hacc.len
      rw [List.length_map] at hal
      have hcl := chs_len ((fs.take i).map sel) 0 none
      rw [List.length_map, List.length_take] at hcl
      have sT := same_new (o := .tup [.int (i : Nat), x]) hT
      have g2 := g1.tr (Grow.of_same g1.gh sT)
      have ef2 := sT _ _ ef1
      have kT : (upd H1 T (.tup [.int (i : Nat), x])) T = some (.tup [.int (i : Nat), x]) := upd_same
      obtain ⟨fa, fx, fz, rfl, hft, hfz, hfd⟩ := hsel G1 x f (hd.mono g1.gg)
      generalize upd H1 T _ = H2 at g2 ef2 kT ⊢
      refine ⟨T, _, rfl, sqtU kT, rfl, _, _, rfl, _, _, rfl, rfl, ?_⟩
      walk_at "s"
      refine ⟨Nat.zero_le _, fun ne hne => ?_⟩
      have sne := same_new (o := .lst []) hne
      have g3 := g2.tr (Grow.of_same g2.gh sne)
      have ef3 := sne _ _ ef2
      have hlyc : SeqAt.shaped (.list ((chs 0 none ((fs.take i).map sel)).map (chgD enc))) = true := (ly_chgs (enc := enc) fun r _ => hly r.2).shaped (by decide)
      refine ⟨.list ((chs 0 none ((fs.take i).map sel)).map (chgD enc)), .list [], .lstU ef3 (hacc.mono g3.gh), .lstU upd_same .nil, hlyc, rfl, ?_⟩
      generalize upd H2 ne _ = H3 at g3 ef3 ⊢
      have etake : (fs.take (i + 1)).map sel = (fs.take i).map sel ++ [sel f] := by rw [List.take_add_one, hf, List.map_append]; rfl
      have elen : ((fs.take i).map sel).length = i := by rw [List.length_map, List.length_take]; omega
      have step : ∀ {G4 H4} (pt : Addr), Grow No G H G4 H4 → G4 fo = none → H4 fo = some (.lst acc) → DpAll K G4 acc ((chs 0 none ((fs.take i).map sel)).map (chgD enc)) → Dp K G4 (.ref pt) (chgD enc (i + 1, sel f)) → (((fs.take i).map sel).getLast?.or none ≠ some (sel f)) →
          Grow No G H G4 (upd H4 fo (.lst (acc ++ [.ref pt]))) ∧ G4 fo = none ∧ (upd H4 fo (.lst (acc ++ [.ref pt]))) fo = some (.lst (acc ++ [.ref pt])) ∧ DpAll K G4 (acc ++ [.ref pt]) ((chs 0 none ((fs.take (i + 1)).map sel)).map (chgD enc)) := fun {G4 H4} pt g4 gf4 ef4 h4 hd4 hn => by
        refine ⟨g4.put gf4 (.inl hfo), gf4, upd_same, ?_⟩
        rw [etake, chs_snoc, if_neg hn, elen, Nat.zero_add, List.map_append]
        exact h4.snoc hd4
      cases hxs : (fs.take i).map sel with
      | nil =>
        have ei : i = 0 := by rw [← elen, hxs]; rfl
        rw [show PyData.eqv (.list ((chs 0 none ([] : List α)).map (chgD enc))) (.list []) = true by show PyData.eqv (.list []) (.list []) = true; rw [PyData.eqv, PyData.eqvAll]]
        walk_at "s"
        refine ⟨.inl ⟨rfl, _, sqlU ef3⟩, ?_⟩
        walk_at "s"
        refine ⟨_, _, _, _, rfl, rfl, sqT_mono g3.gh hft, hfz, ?_⟩
        refine ⟨by show 2 ≤ sizeLine; decide, fun pt hpt => ?_⟩
        have npf : fo ≠ pt := ne_of_none ef3 hpt
        have ecast : ((i : Nat) : Int) + 1 = ((i + 1 : Nat) : Int) := by omega
        have s4 := same_new (o := .tup [.int (((i : Nat) : Int) + 1), fz]) (g3.gh.free hpt)
        obtain ⟨h1, h2, h3, h4⟩ := step pt (g3.immN (o := .tup [.int (((i : Nat) : Int) + 1), fz]) hpt) (by rw [upd_ne npf]; exact gf1) (by rw [upd_ne npf]; exact ef3) (hacc.mono s4) (.tupU upd_same (.cons (by rw [ecast]; exact .int _) (.cons (hfd.mono s4) .nil))) (by rw [hxs]; simp)
        exact ⟨fo, acc, _, rfl, rfl, by rw [upd_ne npf]; exact ef3, szl (by omega), _, _, _, _, rfl, h1, h2, h3, h4⟩
      | cons y0 yr =>
        rw [eqv_ne (by rw [chs_none]; simp)]
        obtain ⟨bl, hbl⟩ := chs_last yr 1 (1, y0)
        have hlast : ((fs.take i).map sel).getLast?.or none = some ((yr.getLast?).getD y0) := by
          rw [hxs, List.getLast?_cons]
          rfl
        rw [hxs] at hacc
        have hacc0 := hacc
        rw [chs_none] at hacc0
        obtain ⟨init, hin⟩ := List.getLast?_eq_some_iff.mp hbl
        rw [hin, List.map_append] at hacc0
        obtain ⟨us, u, rfl, hus, hu⟩ := dp_unsnoc hacc0
        obtain ⟨ua, uz, ux, rfl, hut, _, hud⟩ := dpT2 hu
        walk_at "s"
        refine ⟨_, _, _, _, rfl, rfl, sqlU ef3, atI_last _ _, ?_⟩
        walk_at "s"
        refine ⟨_, _, _, _, rfl, rfl, sqT_mono g3.gh hut, atI_1, ?_⟩
        walk_at "s"
        refine ⟨_, _, _, _, rfl, rfl, sqT_mono g3.gh hft, hfz, ?_⟩
        refine ⟨enc ((yr.getLast?).getD y0), enc (sel f), hud.mono g3.gh, hfd.mono g3.gh, (hly _).shaped (by decide), (hly _).shaped (by decide), ?_⟩
        rw [heq]
        by_cases hsame : (yr.getLast?).getD y0 = sel f
        · rw [decide_eq_true hsame]
          walk_at "s"
          refine ⟨G1, us ++ [.ref ua], _, _, rfl, g3, gf1, ef3, ?_⟩
          rw [etake, chs_snoc, hlast, if_pos (by rw [hsame]), List.append_nil, hxs]
          exact hacc
        · rw [decide_eq_false hsame]
          walk_at "s"
          refine ⟨.inl ⟨rfl, _, sqlU ef3⟩, ?_⟩
          walk_at "s"
          refine ⟨_, _, _, _, rfl, rfl, sqT_mono g3.gh hft, hfz, ?_⟩
          refine ⟨by show 2 ≤ sizeLine; decide, fun pt hpt => ?_⟩
          have npf : fo ≠ pt := ne_of_none ef3 hpt
          have ecast : ((i : Nat) : Int) + 1 = ((i + 1 : Nat) : Int) := by omega
          have s4 := same_new (o := .tup [.int (((i : Nat) : Int) + 1), fz]) (g3.gh.free hpt)
          obtain ⟨h1, h2, h3, h4⟩ := step pt (g3.immN (o := .tup [.int (((i : Nat) : Int) + 1), fz]) hpt) (by rw [upd_ne npf]; exact gf1) (by rw [upd_ne npf]; exact ef3) (by rw [hxs]; exact hacc.mono s4) (.tupU upd_same (.cons (by rw [ecast]; exact .int _) (.cons (hfd.mono s4) .nil))) (by rw [hlast]; exact fun z => hsame (Option.some.inj z))
          refine ⟨fo, _, _, rfl, rfl, by rw [upd_ne npf]; exact ef3, szl (by omega), _, _, _, _, rfl, h1, h2, h3, h4⟩
    · rintro σ H1 ⟨G1, acc, y3, y4, rfl, g1, gf1, ef1, hacc⟩
      rw [hwl, List.take_length] at hacc
      walk_at "s"
      exact q _ _ _ (g1.fix ef1 hfo gf1) (.lstU upd_same (hacc.mono fun b u e => by rw [upd_ne (ne_of_none e gf1)]; exact e))
end
end BW
set_option Elab.async false
set_option linter.all false
set_option maxRecDepth 100000
set_option maxHeartbeats 4000000
set_option pp.maxSteps 3000
namespace BW
open PySem PySem.Spec PyProof.Rows L2
open C8 (Cal Met Mak pe_c pe_mk pe_mt pe_mt0 pe_gc sl_txt fnBody fnScope fnArgs)
local macro_rules | `(tactic| walk_at "v") => `(tactic| refine ⟨_, rfl, ?_⟩)
local macro_rules | `(tactic| walk_at "i2") => `(tactic| refine ⟨_, _, rfl, rfl, ?_⟩)
local macro_rules | `(tactic| walk_at "k") => `(tactic| exact (by decide +kernel))
local macro_rules | `(tactic| walk_at "s") => `(tactic| repeat (first | refine ⟨_, rfl, ?_⟩ | refine ⟨_, _, rfl, rfl, ?_⟩ | refine ⟨rfl, ?_⟩ | refine ⟨⟨_, rfl⟩, ?_⟩ | refine iteT ?_ | refine iteF ?_ | refine ⟨_, _, _, _, _, rfl, .ty _, tyI, kit_ty kit_int_int, ?_⟩ | refine ⟨_, _, _, _, _, rfl, .ty _, tyI, kit_ty kit_int_bool, ?_⟩ | refine ⟨_, _, _, _, _, rfl, .ty _, tyS, kit_ty kit_str_str, ?_⟩ | refine ⟨_, _, _, _, _, rfl, .ty _, tyB, kit_ty kit_bool_bool, ?_⟩ | refine ⟨_, _, _, _, _, rfl, by assumption, by assumption, by assumption, rfl, ?_⟩))
local macro_rules | `(tactic| walk_at "o") => `(tactic| repeat (first | refine ⟨_, rfl, ?_⟩ | refine ⟨_, _, rfl, rfl, ?_⟩ | refine ⟨rfl, ?_⟩ | refine ⟨⟨_, rfl⟩, ?_⟩ | refine iteT ?_ | refine iteF ?_ | refine ⟨_, _, _, _, _, rfl, .ty _, tyI, kit_ty kit_int_int, ?_⟩ | refine ⟨_, _, _, _, _, rfl, .ty _, tyI, kit_ty kit_int_bool, ?_⟩ | refine ⟨_, _, _, _, _, rfl, .ty _, tyS, kit_ty kit_str_str, ?_⟩ | refine ⟨_, _, _, _, _, rfl, .ty _, tyB, kit_ty kit_bool_bool, ?_⟩ | refine ⟨_, _, _, _, _, rfl, by assumption, by assumption, by assumption, rfl, ?_⟩ | refine iteDF (by omega) ?_ | refine iteD (by omega) ?_ | refine ⟨_, _, _, rfl, by omega, by omega, ?_⟩ | refine And.intro (by omega) ?_))

open SX (S)
theorem op_mul_str2 {X : Cx} : OpR X (binaryOp .Mult) (fun x y H Q => ∃ z n, x = .str z ∧ y = .int n ∧ z.length ≤ 2 ∧ (n = 0 ∨ n = 1) ∧ Q (.str (if n = 1 then z else Str.empty)) H) := by
  intro pins s σ H x y v u Q I rx ry h
  obtain ⟨z, n, rfl, rfl, hz, hn, q⟩ := h
  obtain ⟨t, rfl⟩ := rx
  obtain ⟨t', rfl⟩ := ry
  rcases hn with rfl | rfl
  · refine PySem.P.mul_str rfl (fun hn _ => absurd hn (by decide)) (fun hn _ => absurd hn (by decide)) ?_
    exact ⟨by decide, .str _, H, I.tok _, ⟨_, rfl⟩, q⟩
  · refine PySem.P.mul_str rfl (fun hn _ => ?_) (fun hn _ => ?_) ?_
    · have : (z.length : Int) ≤ 2 := by omega
      omega
    · have : 1000 ≤ sizeLine := by decide
      unfold PySem.Builtin.Str.tooLong
      have e : z.length * (1 : Int).toNat = z.length := Nat.mul_one _
      rw [e]
      exact decide_eq_false (by omega)
    · exact ⟨.str z, H, I, ⟨_, rfl⟩, q⟩
theorem str_int_ok {i : Int} (h1 : -100000 < i) (h2 : i < 100000) : i.natAbs.log2 < 1920 := by
  by_cases h : i.natAbs = 0
  · rw [h]; decide
  · rw [Nat.log2_lt h]
    refine Nat.lt_of_lt_of_le (show i.natAbs < 2 ^ 17 by omega) ?_
    exact Nat.pow_le_pow_right (by decide) (by decide)
def redP (p : Nat × Nat) (d : Nat) : Nat × Nat := if p.1 % d = 0 ∧ p.2 % d = 0 then (p.1 / d, p.2 / d) else p
def redL : List Nat := [2, 2, 2, 2, 2, 3]
theorem red_is {n : Nat} (h0 : 1 ≤ n) (h : n < 1000) : redL.foldl redP (n, 96) = (n / Nat.gcd n 96, 96 / Nat.gcd n 96) := by
  have : ∀ m, m < 1000 → (m = 0 ∨ redL.foldl redP (m, 96) = (m / Nat.gcd m 96, 96 / Nat.gcd m 96)) := by decide +kernel
  rcases this n h with h | h
  · omega
  · exact h
def lawAmt (times n : Nat) : List Nat := if 96 / Nat.gcd n 96 = 1 ∧ times = 1 then TL.numL (n / Nat.gcd n 96) else TL.numL (n / Nat.gcd n 96 * times) ++ 47 :: TL.numL (96 / Nat.gcd n 96 * times)
theorem lawAmt_one {n : Nat} : lawAmt 1 n = amtC n := by
  unfold lawAmt amtC fracC
  rw [Nat.mul_one, Nat.mul_one]
  by_cases h : 96 / Nat.gcd n 96 = 1
  · rw [if_pos ⟨h, rfl⟩, if_pos h]
  · rw [if_neg (fun z => h z.1), if_neg h]
theorem lawAmt_ok {times n : Nat} (ht : 1 ≤ times) (ht7 : times ≤ 7) (h1 : 1 ≤ n) (h2 : n < 1000) : AmtW (lawAmt times n) n := by
  have g0 : 0 < Nat.gcd n 96 := Nat.gcd_pos_of_pos_left _ (by omega)
  have d1 := Nat.gcd_dvd_left n 96
  have d2 := Nat.gcd_dvd_right n 96
  have l1 := Nat.div_le_self n (Nat.gcd n 96)
  have l2 := Nat.div_le_self 96 (Nat.gcd n 96)
  have p1 := Nat.div_pos (Nat.le_of_dvd (by omega) d1) g0
  have p2 := Nat.div_pos (Nat.le_of_dvd (by omega) d2) g0
  have e : 96 * (n / Nat.gcd n 96) = n * (96 / Nat.gcd n 96) := by rw [← Nat.mul_div_assoc _ d1, ← Nat.mul_div_assoc _ d2, Nat.mul_comm]
  unfold lawAmt
  generalize n / Nat.gcd n 96 = x at *
  generalize 96 / Nat.gcd n 96 = y at *
  split
  · rename_i h
    exact ⟨x, 1, by omega, by omega, by omega, by omega, by rw [e, h.1], by omega, .inl ⟨rfl, rfl⟩⟩
  · refine ⟨x * times, y * times, Nat.mul_pos p1 ht, ?_, Nat.mul_pos p2 ht, ?_, ?_, by omega, .inr rfl⟩
    · calc x * times ≤ 999 * 7 := Nat.mul_le_mul (by omega) ht7
        _ < 10000 := by decide
    · calc y * times ≤ 96 * 7 := Nat.mul_le_mul (by omega) ht7
        _ < 10000 := by decide
    · rw [← Nat.mul_assoc, e, Nat.mul_assoc]
section
variable {P : Program} {w : World} {K : PySem.W.Frag} {mg : Str → Option Value} {base : Heap} {A : Ad}
def sp__law_amount : Sp := fun vs H Q _ => ∃ n times : Nat, vs = [.int n, .int times] ∧ 1 ≤ n ∧ n < 1000 ∧ 1 ≤ times ∧ times ≤ 7 ∧ ∀ H', Same H H' → Q (.str (S (lawAmt times n))) H'
theorem ok__law_amount (T : Txt w K mg A) : Cal P w K mg base 1 "_law_amount" sp__law_amount [] := by
  obtain ⟨f, d⟩ := T.d__law_amount
  refine cal_of d sc__law_amount (fun vs H Q E h => ?_) (fun cdv A' outer s H vs Q E hr h => ?_)
  · obtain ⟨n, times, rfl, _⟩ := h; rfl
  · obtain ⟨n, times, rfl, hn1, hn2, ht1, ht2, q⟩ := h
    refine ⟨_, (pss_cons (ps_par (by rfl) sc__law_amount.nd (i := 2) (j := 3) rfl rfl (by decide) rfl rfl (pa_cons (pv 0) (pa_cons pe_int pa_nil)) (by rfl))
    (pss_cons (ps_for PassesOwn.never rfl (pi_list (pe_lst (pa_cons pe_int (pa_cons pe_int (pa_cons pe_int (pa_cons pe_int (pa_cons pe_int (pa_cons pe_int pa_nil)))))))) (pg_name (i := 4) sc__law_amount.nd rfl (Or.inl rfl)) (pss_one (ps_if (PW.pt (pw_and (pt_cmpR op_eq (pe_op op_mod (pv 2) (pv 4)) pe_int (nomark _)) (pw_and1 (pt_cmpR op_eq (pe_op op_mod (pv 3) (pv 4)) pe_int (nomark _))))) (pss_cons (ps_set (i := 2) sc__law_amount.nd rfl (Or.inl rfl) (pe_op op_fdiv (pv 2) (pv 4)))
        (pss_one (ps_set (i := 3) sc__law_amount.nd rfl (Or.inl rfl) (pe_op op_fdiv (pv 3) (pv 4))))) pss_nil)))
    (pss_cons (ps_if (PW.pt (pw_and (pt_cmpR op_eq (pv 3) pe_int (nomark _)) (pw_and1 (pt_cmpR op_eq (pv 1) pe_int (nomark _))))) (pss_one (ps_ret (pe_callTy call_str_int (by rfl) T.n_str boot_str_ (pa_cons (pv 2) pa_nil)))) pss_nil)
    (pss_one (ps_ret (pe_op op_add_str (pe_op op_add_str (pe_callTy call_str_int (by rfl) T.n_str boot_str_ (pa_cons (pe_op op_mul (pv 2) (pv 1)) pa_nil)) pe_str) (pe_callTy call_str_int (by rfl) T.n_str boot_str_ (pa_cons (pe_op op_mul (pv 3) (pv 1)) pa_nil)))))))), ?_⟩
    walk_at "s"
    refine ⟨_, _, rfl, ?_⟩
    refine ⟨by show 6 ≤ sizeLine; decide, fun lp hlp => ?_⟩
    have s1 := same_new (o := .lst [.int 2, .int 2, .int 2, .int 2, .int 2, .int 3]) hlp
    have k1 : (upd H lp (.lst [.int 2, .int 2, .int 2, .int 2, .int 2, .int 3])) lp = some (.lst (redL.map fun d : Nat => V.int (d : Int))) := upd_same
    generalize upd H lp _ = H1 at s1 k1 ⊢
    walk_at "s"
    refine ⟨⟨_, sqlU k1⟩, ?_⟩
    refine for_it walk_list (fun i σ H' => ∃ y, σ = [some (.int n), some (.int times), some (.int ((redL.take i).foldl redP (n, 96)).1), some (.int ((redL.take i).foldl redP (n, 96)).2), y] ∧ H' = H1) ⟨none, rfl, rfl⟩ (fun i σ H' _ ⟨_, _, e⟩ => by rw [e]; exact sqlU k1) ?_ ?_
    · rintro i x σ H2 H2' hi ⟨y, rfl, rfl⟩ ⟨rfl, hx⟩
      rw [List.getElem?_map] at hx
      cases hd : redL[i]? with
      | none => rw [hd] at hx; cases hx
      | some dd =>
      rw [hd] at hx
      cases (Option.some.inj hx)
      have hdp : dd = 2 ∨ dd = 3 := by
        have := List.mem_of_getElem? hd
        revert this
        simp only [redL, List.mem_cons, List.not_mem_nil, or_false]
        omega
      have efold : (redL.take (i + 1)).foldl redP (n, 96) = redP ((redL.take i).foldl redP (n, 96)) dd := by rw [List.take_add_one, hd, List.foldl_append]; rfl
      generalize (redL.take i).foldl redP (n, 96) = p at efold ⊢
      walk_at "s"
      refine ⟨show (0 : Int) < dd by omega, ?_⟩
      walk_at "s"
      have e0 : ∀ x : Nat, decide (V.int ((x : Int) % (dd : Int)) = V.int 0) = decide (x % dd = 0) := fun x => decide_eq_decide.mpr ⟨fun z => by injection z with z; omega, fun z => by rw [show (x : Int) % (dd : Int) = ((x % dd : Nat) : Int) from rfl, z]; rfl⟩
      rw [e0]
      by_cases h1 : p.1 % dd = 0
      · rw [decide_eq_true h1]
        walk_at "s"
        refine ⟨show (0 : Int) < dd by omega, ?_⟩
        walk_at "s"
        rw [e0]
        by_cases h2 : p.2 % dd = 0
        · rw [decide_eq_true h2]
          walk_at "s"
          refine ⟨⟨by omega, by omega⟩, ?_⟩
          walk_at "s"
          refine ⟨⟨by omega, by omega⟩, ?_⟩
          refine ⟨some (.int dd), ?_, rfl⟩
          rw [efold]
          unfold redP
          rw [if_pos ⟨h1, h2⟩]
          rfl
        · rw [decide_eq_false h2]
          walk_at "s"
          refine ⟨some (.int dd), ?_, rfl⟩
          rw [efold]
          unfold redP
          rw [if_neg (fun z => h2 z.2)]
          rfl
      · rw [decide_eq_false h1]
        walk_at "s"
        refine ⟨some (.int dd), ?_, rfl⟩
        rw [efold]
        unfold redP
        rw [if_neg (fun z => h1 z.1)]
        rfl
    · rintro σ H2 ⟨y, rfl, rfl⟩
      rw [List.length_map, List.take_length, red_is hn1 hn2]
      have l1 := Nat.div_le_self n (Nat.gcd n 96)
      have l2 := Nat.div_le_self 96 (Nat.gcd n 96)
      unfold lawAmt at q
      show _
      dsimp only
      generalize n / Nat.gcd n 96 = x at *
      generalize 96 / Nat.gcd n 96 = y' at *
      have m1 : x * times ≤ 999 * 7 := Nat.mul_le_mul (by omega) ht2
      have m2 : y' * times ≤ 96 * 7 := Nat.mul_le_mul (by omega) ht2
      have far : ¬(y' = 1 ∧ times = 1) → ∀ H', Same H H' → Q (.str (S (TL.numL (x * times)) ++ Str.ofString "/" ++ S (TL.numL (y' * times)))) H' := fun h H' s => by
        have := q H' s
        rw [if_neg h] at this
        rw [lit_ "/" [47] (by decide +kernel), SX.S_cat, SX.S_cat, List.append_assoc]
        exact this
      have t5 : times < 10000 := by omega
      have sok : ∀ (z : Nat), z < 100000 → ((z : Nat) : Int).natAbs.log2 < 1920 := fun z hz => str_int_ok (by omega) (by omega)
      have far2 : ¬(y' = 1 ∧ times = 1) → tRet (tOp (fun x y H Q => ∃ i j, x = V.str i ∧ y = V.str j ∧ i.length + j.length ≤ sizeLine ∧ Q (V.str (i ++ j)) H)
          (tOp (fun x y H Q => ∃ i j, x = V.str i ∧ y = V.str j ∧ i.length + j.length ≤ sizeLine ∧ Q (V.str (i ++ j)) H)
            (tCB (fun xs H Q => ∃ i, xs = [V.int i] ∧ i.natAbs.log2 < 1920 ∧ Q (V.str (Str.ofString (toString i))) H) (tCons (tOp (rI CMul fun i j => V.int (i * j)) (tVar 2) (tVar 1)) tNil)) (tC (V.str (Str.ofString "/"))))
          (tCB (fun xs H Q => ∃ i, xs = [V.int i] ∧ i.natAbs.log2 < 1920 ∧ Q (V.str (Str.ofString (toString i))) H) (tCons (tOp (rI CMul fun i j => V.int (i * j)) (tVar 3) (tVar 1)) tNil)))
          { nx := fun x H' => Q V.non H', rt := Q } [some (V.int ↑n), some (V.int ↑times), some (V.int ↑x), some (V.int ↑y'), y] H2 := fun hne => by
        have k1 := numL_len4 (n := x * times) (by omega)
        have k2 := numL_len4 (n := y' * times) (by omega)
        refine ⟨_, rfl, _, rfl, _, _, rfl, rfl, .inl ⟨by omega, by omega⟩, ((x * times : Nat) : Int), (by rw [Int.natCast_mul]), sok _ (by omega), ?_⟩
        rw [str_num (by omega), numC_nat]
        refine ⟨_, _, rfl, rfl, sz (by rw [S_len']; have : (Str.ofString "/").length = 1 := by decide +kernel
                                       omega), ?_⟩
        refine ⟨_, rfl, _, rfl, _, _, rfl, rfl, .inl ⟨by omega, by omega⟩, ((y' * times : Nat) : Int), (by rw [Int.natCast_mul]), sok _ (by omega), ?_⟩
        rw [str_num (by omega), numC_nat]
        refine ⟨_, _, rfl, rfl, sz (by rw [lit_ "/" [47] (by decide +kernel), SX.S_cat, S_len', S_len', List.length_append]; simp; omega), ?_⟩
        exact far hne _ s1
      refine ⟨_, rfl, rfl, _, rfl, ?_⟩
      rw [dec1]
      by_cases hy : y' = 1
      · rw [decide_eq_true hy]
        refine ⟨_, rfl, rfl, _, rfl, ?_⟩
        rw [dec1]
        by_cases ht : times = 1
        · rw [decide_eq_true ht]
          refine ⟨_, rfl, _, rfl, sok _ (by omega), ?_⟩
          rw [str_num (by omega), numC_nat]
          have := q _ s1
          rw [if_pos ⟨hy, ht⟩] at this
          exact this
        · rw [decide_eq_false ht]
          exact far2 fun z => ht z.2
      · rw [decide_eq_false hy]
        exact far2 fun z => hy z.1
end
end BW
set_option Elab.async false
set_option linter.all false
set_option maxRecDepth 100000
set_option maxHeartbeats 4000000
set_option pp.maxSteps 3000
namespace BW
open PySem PySem.Spec PyProof.Rows L2
open C8 (Cal Met Mak pe_c pe_mk pe_mt pe_mt0 pe_gc sl_txt fnBody fnScope fnArgs)
local macro_rules | `(tactic| walk_at "v") => `(tactic| refine ⟨_, rfl, ?_⟩)
local macro_rules | `(tactic| walk_at "i2") => `(tactic| refine ⟨_, _, rfl, rfl, ?_⟩)
local macro_rules | `(tactic| walk_at "k") => `(tactic| exact (by decide +kernel))
local macro_rules | `(tactic| walk_at "s") => `(tactic| repeat (first | refine ⟨_, rfl, ?_⟩ | refine ⟨_, _, rfl, rfl, ?_⟩ | refine ⟨rfl, ?_⟩ | refine ⟨⟨_, rfl⟩, ?_⟩ | refine iteT ?_ | refine iteF ?_ | refine ⟨_, _, _, _, _, rfl, .ty _, tyI, kit_ty kit_int_int, ?_⟩ | refine ⟨_, _, _, _, _, rfl, .ty _, tyI, kit_ty kit_int_bool, ?_⟩ | refine ⟨_, _, _, _, _, rfl, .ty _, tyS, kit_ty kit_str_str, ?_⟩ | refine ⟨_, _, _, _, _, rfl, .ty _, tyB, kit_ty kit_bool_bool, ?_⟩ | refine ⟨_, _, _, _, _, rfl, by assumption, by assumption, by assumption, rfl, ?_⟩))
local macro_rules | `(tactic| walk_at "o") => `(tactic| repeat (first | refine ⟨_, rfl, ?_⟩ | refine ⟨_, _, rfl, rfl, ?_⟩ | refine ⟨rfl, ?_⟩ | refine ⟨⟨_, rfl⟩, ?_⟩ | refine iteT ?_ | refine iteF ?_ | refine ⟨_, _, _, _, _, rfl, .ty _, tyI, kit_ty kit_int_int, ?_⟩ | refine ⟨_, _, _, _, _, rfl, .ty _, tyI, kit_ty kit_int_bool, ?_⟩ | refine ⟨_, _, _, _, _, rfl, .ty _, tyS, kit_ty kit_str_str, ?_⟩ | refine ⟨_, _, _, _, _, rfl, .ty _, tyB, kit_ty kit_bool_bool, ?_⟩ | refine ⟨_, _, _, _, _, rfl, by assumption, by assumption, by assumption, rfl, ?_⟩ | refine iteDF (by omega) ?_ | refine iteD (by omega) ?_ | refine ⟨_, _, _, rfl, by omega, by omega, ?_⟩ | refine And.intro (by omega) ?_))

open SX (S)
section
variable {P : Program} {w : World} {K : PySem.W.Frag} {mg : Str → Option Value} {base : Heap} {A : Ad}
theorem ok__law_metre_text (T : Txt w K mg A) : Cal P w K mg base 1 "_law_metre_text" (sp_metre_text K) [] := by
  obtain ⟨f, d⟩ := T.d__law_metre_text
  refine cal_of d sc__law_metre_text (fun vs H Q E h => ?_) (fun cdv A' outer s H vs Q E hr h => ?_)
  · obtain ⟨v, p, rfl, _⟩ := h; rfl
  · obtain ⟨v, m, rfl, hp, hm, q⟩ := h
    obtain ⟨a, g, rfl, ht, hg, hd⟩ := dpM hp
    have hb := hm.b0
    have h0 := hm.t0
    have h1 := hm.t1
    have h2 := hm.g1
    have k1 := numL_len4 (n := m.top) (by omega)
    have k2 := numL_len4 (n := m.bot) (by omega)
    have k5 : (TL.joinL [43] (m.gs.map TL.numL)).length ≤ (4 + 1) * (m.gs.map TL.numL).length := joinL_len fun x hx => by
      obtain ⟨g, hg, rfl⟩ := List.mem_map.mp hx
      exact numL_len4 (by have := (hm.g0 g hg).2; omega)
    rw [List.length_map] at k5
    refine ⟨_, (pss_cons (ps_set (i := 1) sc__law_metre_text.nd rfl (Or.inl rfl) (pe_op op_add_str (pe_op op_add_str (pe_callTy call_str_int (by rfl) T.n_str boot_str_ (pa_cons (pe_ix ix_tup (pv 0) pe_int (fun _ _ => rfl)) pa_nil)) pe_str) (pe_callTy call_str_int (by rfl) T.n_str boot_str_ (pa_cons (pe_ix ix_tup (pv 0) pe_int (fun _ _ => rfl)) pa_nil))))
    (pss_cons (ps_if (pt_cmpR (op_neD hr.units) (pe_ix ix_tup (pv 0) pe_int (fun _ _ => rfl)) (pe_tup pa_nil) (nomark _)) (pss_one (ps_set (i := 1) sc__law_metre_text.nd rfl (Or.inl rfl) (pe_op op_add_str (pe_op op_add_str (pv 1) pe_str) (pe_join pe_str (pe_lc (own := [("_law_one", 2)]) (g := (gName 2)) (tt := tYes) (by rfl) sc__law_metre_text.nd (pi_tup (pe_ix ix_tup (pv 0) pe_int (fun _ _ => rfl))) (blkOk_by (N := N__law_metre_text) (sc := (defScope s__law_metre_text)) (by decide +kernel)) (fun _ _ _ _ _ => (pg_name (i := 2) sc__law_metre_text.nd rfl (Or.inl rfl))) (fun _ _ _ _ _ => pts_nil) (fun _ _ _ _ _ => (pe_callTy call_str_int (by rfl) T.n_str boot_str_ (pa_cons (pv 2) pa_nil)))))))) pss_nil)
    (pss_one (ps_ret (pv 1))))), ?_⟩
    walk_at "s"
    refine ⟨_, _, _, _, rfl, rfl, ht, atI_0, ?_⟩
    walk_at "s"
    refine ⟨str_int_ok (by omega) (by omega), ?_⟩
    rw [str_num (by omega), numC_nat, lit_ "/" [47] (by decide +kernel)]
    refine ⟨_, _, rfl, rfl, sz (by rw [S_len', S_len']; simp; omega), ?_⟩
    rw [SX.S_cat]
    walk_at "s"
    refine ⟨_, _, _, _, rfl, rfl, ht, atI_1, ?_⟩
    walk_at "s"
    refine ⟨str_int_ok (by omega) (by omega), ?_⟩
    rw [str_num (by omega), numC_nat]
    refine ⟨_, _, rfl, rfl, sz (by rw [S_len', S_len']; simp; omega), ?_⟩
    rw [SX.S_cat]
    walk_at "s"
    refine ⟨_, _, _, _, rfl, rfl, ht, atI_2, ?_⟩
    refine ⟨Nat.zero_le _, fun p hp2 => ?_⟩
    have s2 : Same H (upd H p (.tup [])) := same_new hp2
    refine ⟨.tuple (intsD m.gs), .tuple [], hd.mono s2, .tupU upd_same .nil, by rw [intsD_eq]; exact shaped_ints _, shaped_nil, ?_⟩
    rw [intsD_eq, eqv_tupNil]
    refine ⟨_, rfl, ?_⟩
    by_cases hn : m.gs = []
    · refine iteN (by rw [hn]; rfl) ?_
      walk_at "s"
      have e : metC m = TL.numL m.top ++ [47] ++ TL.numL m.bot := by
        unfold metC
        rw [if_pos hn, List.append_nil, List.append_assoc]
        rfl
      rw [e] at q
      exact q _ s2
    · refine iteNF (fun z => hn (List.map_eq_nil_iff.mp z)) ?_
      walk_at "s"
      rw [lit_ ":" [58] (by decide +kernel)]
      refine ⟨sz (by simp only [S_len', List.length_append, List.length_cons, List.length_nil]; omega), ?_⟩
      rw [SX.S_cat]
      walk_at "s"
      refine ⟨_, _, _, _, rfl, rfl, sqT_mono s2 ht, atI_2, ?_⟩
      walk_at "s"
      refine ⟨⟨_, sqT_mono s2 hg⟩, fun D hD => ?_⟩
      have hlen : ((m.gs.map fun g : Nat => (g : Int)).map V.int).length ≤ 100000 := by
        rw [List.length_map, List.length_map]
        omega
      refine lc_pure walk_tup hD (Same.refl _) (fun _ i v => ∃ z, m.gs[i]? = some z ∧ v = .str (S (TL.numL z))) hlen (fun _ _ _ _ _ h => h) (fun G1 H1 g1 => sqT_mono (s2.trans g1.same) hg) ?_ ?_
      · rintro i v G1 H1 H1' hi g1 ⟨rfl, hv⟩ Q' hq
        obtain ⟨z, hz, rfl⟩ := ints_at hv
        have hz' := hm.g0 z (List.mem_of_getElem? hz)
        refine ⟨rfl, ?_⟩
        walk_at "s"
        refine ⟨str_int_ok (by omega) (by omega), ?_⟩
        rw [str_num (by omega), numC_nat]
        exact hq _ _ _ (Grow.refl g1.gh) ⟨z, hz, rfl⟩
      · intro G' H' acc g' gD eD el er
        have eacc : acc = ((m.gs.map TL.numL).map S).map V.str := by
          refine List.ext_getElem? fun i => ?_
          rw [List.length_map, List.length_map] at el
          by_cases hi : i < acc.length
          · obtain ⟨z, hz, e⟩ := er i _ (List.getElem?_eq_getElem hi)
            rw [List.getElem?_eq_getElem hi, e]
            simp [hz]
          · rw [List.getElem?_eq_none (by omega), List.getElem?_eq_none (by simp; omega)]
        rw [eacc] at eD
        refine ⟨_, D, (m.gs.map TL.numL).map S, rfl, rfl, .inl (sqlU eD), ?_, ?_⟩
        · rw [SX.lens, List.length_map]
          have : ((m.gs.map TL.numL).map (·.length)).sum ≤ 4 * (m.gs.map TL.numL).length := sum_le fun x hx => by
            obtain ⟨g, hg, rfl⟩ := List.mem_map.mp hx
            exact numL_len4 (by have := (hm.g0 g hg).2; omega)
          rw [List.length_map] at this ⊢
          have e1 : (Str.ofString "+").length = 1 := by decide +kernel
          rw [e1]
          omega
        rw [lit_ "+" [43] (by decide +kernel), SX.join_S]
        refine ⟨_, _, rfl, rfl, sz (by simp only [S_len', List.length_append, List.length_cons, List.length_nil]; omega), ?_⟩
        rw [SX.S_cat]
        walk_at "s"
        have e : metC m = TL.numL m.top ++ [47] ++ TL.numL m.bot ++ [58] ++ TL.joinL [43] (m.gs.map TL.numL) := by
          unfold metC
          rw [if_neg hn]
          simp
        rw [e] at q
        exact q _ (s2.trans g'.same)
theorem step_sign {s : Int} (h0 : 0 ≤ s) (h1 : s ≤ 6) : atI (Str.ofString "cdefgab").cps.toList s = some (stepC s) := at_step h0 h1
theorem lean_at {l : Int} (h0 : -2 ≤ l) (h1 : l ≤ 2) : atI [V.str (Str.ofString "--"), V.str (Str.ofString "-"), V.str (Str.ofString ""), V.str (Str.ofString "+"), V.str (Str.ofString "++")] (l + 2) = some (.str (S (leanC l))) := by
  rcases lean5 h0 h1 with rfl | rfl | rfl | rfl | rfl <;> decide +kernel
def sp__law_row (K : PySem.W.Frag) : Sp := fun vs H Q _ => ∃ (v : V) (s : Snd) (times : Nat), vs = [v, .int times] ∧ Dp K H v (sndD s) ∧ SndOk s ∧ s.len < 1000 ∧ 1 ≤ times ∧ times ≤ 7 ∧ ∀ H', Same H H' → Q (.str (S (TL.joinL [32] (sndWs (lawAmt times) s)))) H'
theorem ok__law_row (T : Txt w K mg A) : Cal P w K mg base 2 "_law_row" (sp__law_row K) [] := by
  obtain ⟨f, d⟩ := T.d__law_row
  refine cal_of d sc__law_row (fun vs H Q E h => ?_) (fun cdv A' outer s H vs Q E hr h => ?_)
  · obtain ⟨v, s, times, rfl, _⟩ := h; rfl
  · obtain ⟨v, x, times, rfl, hv, ok, hx1000, ht1, ht7, q⟩ := h
    have hlen := snd_len ok
    have ham := (amt_wd (lawAmt_ok (n := x.len) ht1 ht7 (by omega) hx1000)).2.2.2
    refine ⟨_, (pss_cons (ps_if (pt_cmpR op_eq (pe_ix ix_tup (pv 0) pe_int (fun _ _ => rfl)) pe_str (nomark _)) (pss_one (ps_ret (pe_op op_add_str pe_str (pe_c (ok__law_amount T) hr (by decide) rfl (pa_cons (pe_ix ix_tup (pv 0) pe_int (fun _ _ => rfl)) (pa_cons (pv 1) pa_nil)))))) pss_nil)
    (pss_cons (ps_set (i := 2) sc__law_row.nd rfl (Or.inl rfl) (pe_lst pa_nil))
    (pss_cons (ps_for PassesOwn.never rfl (pi_list (pe_ix ix_tup (pv 0) pe_int (fun _ _ => rfl))) (pg_tup rfl (pgs_cons (pg_name (i := 3) sc__law_row.nd rfl (Or.inl rfl)) (pgs_cons (pg_name (i := 4) sc__law_row.nd rfl (Or.inl rfl)) (pgs_cons (pg_name (i := 5) sc__law_row.nd rfl (Or.inl rfl)) pgs_nil)))) (pss_one (ps_expr (pe_bm PySem.F.plainAttrs_list PySem.F.slot_list_append PySem.F.type_list_append mt_append (pv 2) (pa_cons (pe_op op_add_str (pe_op op_add_str (pe_ix ix_str pe_str (pv 3) (fun _ _ => rfl)) (pe_ix ix_list (pe_lst (pa_cons pe_str (pa_cons pe_str (pa_cons pe_str (pa_cons pe_str (pa_cons pe_str pa_nil)))))) (pe_op op_add (pv 4) pe_int) (fun _ _ => rfl))) (pe_callTy call_str_int (by rfl) T.n_str boot_str_ (pa_cons (pv 5) pa_nil))) pa_nil)))))
    (pss_cons (ps_set (i := 6) sc__law_row.nd rfl (Or.inl rfl) (pe_op op_add_str (pe_op op_add_str (pe_join pe_str (pv 2)) pe_str) (pe_c (ok__law_amount T) hr (by decide) rfl (pa_cons (pe_ix ix_tup (pv 0) pe_int (fun _ _ => rfl)) (pa_cons (pv 1) pa_nil)))))
    (pss_cons (ps_set (i := 6) sc__law_row.nd rfl (Or.inl rfl) (pe_op op_add_str (pe_op op_add_str (pv 6) (pe_op op_mul_str2 pe_str (pe_callTy call_int1 (by rfl) T.n_int boot_int_ (pa_cons (pe_ix ix_tup (pv 0) pe_int (fun _ _ => rfl)) pa_nil)))) (pe_op op_mul_str2 pe_str (pe_callTy call_int1 (by rfl) T.n_int boot_int_ (pa_cons (pe_ix ix_tup (pv 0) pe_int (fun _ _ => rfl)) pa_nil)))))
    (pss_cons (ps_if (pt_cmpR op_ne (pe_ix ix_tup (pv 0) pe_int (fun _ _ => rfl)) pe_str (nomark _)) (pss_one (ps_set (i := 6) sc__law_row.nd rfl (Or.inl rfl) (pe_op op_add_str (pe_op op_add_str (pv 6) pe_str) (pe_ix ix_tup (pv 0) pe_int (fun _ _ => rfl))))) pss_nil)
    (pss_one (ps_ret (pv 6))))))))), ?_⟩
    walk_at "s"
    cases x with
    | rest n =>
      obtain ⟨a, rfl, ht⟩ := dpRest hv
      have hlen : 2 ≤ n ∧ n ≤ 4608 := hlen
      have hx1000 : n < 1000 := hx1000
      have ham : (lawAmt times n).length ≤ 100 := ham
      refine ⟨_, _, _, _, rfl, rfl, ht, atI_0, ?_⟩
      walk_at "s"
      refine ⟨_, _, _, _, rfl, rfl, ht, atI_1, ?_⟩
      walk_at "s"
      refine ⟨n, times, rfl, by omega, by omega, ht1, ht7, fun H1 s1 => ?_⟩
      rw [lit_ "r " [114, 32] (by decide +kernel)]
      refine ⟨_, _, rfl, rfl, sz (by simp only [S_len', List.length_append, List.length_cons, List.length_nil]; omega), ?_⟩
      rw [SX.S_cat]
      exact q _ s1
    | tones ps n wd o c =>
      obtain ⟨a, pl, rfl, ht, hpl⟩ := dpTones hv
      have hlen : 2 ≤ n ∧ n ≤ 4608 := hlen
      have hx1000 : n < 1000 := hx1000
      have ham : (lawAmt times n).length ≤ 100 := ham
      have hne : ps ≠ [] := fun e => by have := ok.p0; rw [e] at this; exact absurd this (by decide)
      have hjl := (pits_wd hne ok.p1 ok.p2).2.2.2
      have hp1 := ok.p1
      have hwl : wd.length ≤ 12 := by
        rcases ok.w0 with rfl | h
        · exact Nat.zero_le _
        · exact h.2.1
      obtain ⟨pa, pvs, rfl, hpv, hdp⟩ := dpL hpl
      have hplen := hdp.len
      rw [List.length_map] at hplen
      refine ⟨_, _, _, _, rfl, rfl, ht, atI_0, ?_⟩
      walk_at "s"
      refine ⟨Nat.zero_le _, fun fo hfo => ?_⟩
      have g0 : Grow No H H H (upd H fo (.lst [])) := (Grow.refl (Same.refl H)).put hfo (.inl hfo)
      have k0 : (upd H fo (.lst [])) fo = some (.lst []) := upd_same
      generalize upd H fo (.lst []) = H0 at g0 k0 ⊢
      walk_at "s"
      refine ⟨_, _, _, _, rfl, rfl, sqT_mono g0.gh ht, atI_1, ?_⟩
      walk_at "s"
      refine ⟨⟨_, g0.gh.seq hpv⟩, ?_⟩
      refine for_it walk_list (fun i σ H' => ∃ y3 y4 y5 y6, σ = [some (.ref a), some (.int times), some (.ref fo), y3, y4, y5, y6] ∧ Grow No H H H H' ∧ H' fo = some (.lst ((((ps.take i).map pitC).map S).map V.str))) ⟨none, none, none, none, rfl, g0, k0⟩ (fun i σ H' _ ⟨_, _, _, _, _, g, _⟩ => g.gh.seq hpv) ?_ ?_
      · rintro i x σ H1 H1' hi ⟨y3, y4, y5, y6, rfl, g1, k1⟩ ⟨rfl, hx⟩
        obtain ⟨z, hz, hd⟩ := ps_at hdp hx
        obtain ⟨ta, x1, x2, x3, rfl, htt, r1, r2, r3⟩ := dpT3 hd
        cases dpI r1; cases dpI r2; cases dpI r3
        obtain ⟨z1, z2, z3, z4, z5, z6⟩ := ok.p2 z (List.mem_of_getElem? hz)
        refine ⟨ta, _, rfl, sqT_mono g1.gh htt, rfl, _, _, rfl, _, _, rfl, _, _, rfl, rfl, ?_⟩
        walk_at "s"
        refine ⟨.inl ⟨rfl, _, sqlU k1⟩, ?_⟩
        walk_at "s"
        refine ⟨_, _, _, rfl, rfl, by show (Str.ofString "cdefgab").cps.size ≤ sizeLine; exact sz (by decide +kernel), step_sign z1 z2, ?_⟩
        refine ⟨by show 5 ≤ sizeLine; decide, fun lp hlp => ?_⟩
        have s2 := same_new (o := .lst [.str (Str.ofString "--"), .str (Str.ofString "-"), .str (Str.ofString ""), .str (Str.ofString "+"), .str (Str.ofString "++")]) hlp
        walk_at "s"
        refine ⟨_, _, _, _, rfl, rfl, sqlU upd_same, lean_at z3 z4, ?_⟩
        rw [show (⟨#[stepC z.step]⟩ : Str) = S [stepC z.step] from rfl]
        have hll := leanC_len (l := z.lean)
        refine ⟨_, _, rfl, rfl, sz (by rw [S_len', S_len']; simp; omega), ?_⟩
        rw [SX.S_cat]
        walk_at "s"
        refine ⟨str_int_ok (by omega) (by omega), ?_⟩
        rw [str_num (by omega)]
        have eoct : numC z.oct = [48 + z.oct.toNat] := by
          rcases oct9 z5 z6 with h | h | h | h | h | h | h | h | h <;> rw [h] <;> decide +kernel
        rw [eoct]
        refine ⟨_, _, rfl, rfl, sz (by rw [S_len', S_len']; simp; omega), ?_⟩
        rw [SX.S_cat]
        have g2 := g1.tr (Grow.of_same g1.gh s2)
        have k2 := s2 _ _ k1
        refine ⟨fo, _, _, rfl, rfl, k2, szl (by simp; omega), ?_⟩
        refine ⟨_, _, _, _, rfl, g2.put hfo (.inl hfo), ?_⟩
        rw [upd_same, List.take_add_one, hz]
        simp [pitC]
      · rintro σ H1 ⟨y3, y4, y5, y6, rfl, g1, k1⟩
        rw [hplen, List.take_length] at k1
        have sH := g1.same
        walk_at "s"
        refine ⟨_, fo, (ps.map pitC).map S, rfl, rfl, .inl (sqlU k1), ?_, ?_⟩
        · rw [SX.lens, List.length_map]
          have : ((ps.map pitC).map (·.length)).sum ≤ 4 * (ps.map pitC).length := sum_le fun x hx => by
            obtain ⟨g, hg, rfl⟩ := List.mem_map.mp hx
            rw [pitC_len]
            have := leanC_len (l := g.lean)
            omega
          rw [List.length_map] at this ⊢
          have e1 : (Str.ofString ",").length = 1 := by decide +kernel
          rw [e1]
          omega
        rw [lit_ "," [44] (by decide +kernel), lit_ " " [32] (by decide +kernel), lit_ " (" [32, 40] (by decide +kernel), lit_ " )" [32, 41] (by decide +kernel), SX.join_S]
        refine ⟨_, _, rfl, rfl, sz (by simp only [S_len', List.length_append, List.length_cons, List.length_nil]; omega), ?_⟩
        rw [SX.S_cat]
        walk_at "s"
        refine ⟨_, _, _, _, rfl, rfl, sqT_mono sH ht, atI_2, ?_⟩
        walk_at "s"
        refine ⟨n, times, rfl, by omega, by omega, ht1, ht7, fun H2 s2 => ?_⟩
        have sH2 := sH.trans s2
        refine ⟨_, _, rfl, rfl, sz (by simp only [S_len', List.length_append, List.length_cons, List.length_nil]; omega), ?_⟩
        rw [SX.S_cat]
        walk_at "s"
        refine ⟨_, _, _, _, rfl, rfl, sqT_mono sH2 ht, atI_4, ?_⟩
        walk_at "s"
        have esg : ∀ (b : Bool) (z : List Nat), (if (if b = true then (1 : Int) else 0) = 1 then S z else Str.empty) = S (if b = true then z else []) := fun b z => by cases b <;> rfl
        have eln : ∀ (b : Bool) (z : List Nat), (if b = true then z else []).length ≤ z.length := fun b z => by cases b <;> simp
        have ebn : ∀ b : Bool, (if b = true then (1 : Int) else 0) = 0 ∨ (if b = true then (1 : Int) else 0) = 1 := fun b => by cases b <;> simp
        have l1 := eln o [32, 40]
        have l2 := eln c [32, 41]
        simp only [List.length_cons, List.length_nil] at l1 l2
        refine .inr ⟨_, rfl, ?_⟩
        refine ⟨_, _, rfl, rfl, by rw [S_len']; exact Nat.le_refl 2, ebn o, ?_⟩
        rw [esg]
        refine ⟨_, _, rfl, rfl, sz (by simp only [S_len', List.length_append, List.length_cons, List.length_nil]; omega), ?_⟩
        rw [SX.S_cat]
        walk_at "s"
        refine ⟨_, _, _, _, rfl, rfl, sqT_mono sH2 ht, atI_5, ?_⟩
        refine .inr ⟨_, rfl, ?_⟩
        refine ⟨_, _, rfl, rfl, by rw [S_len']; exact Nat.le_refl 2, ebn c, ?_⟩
        rw [esg]
        refine ⟨_, _, rfl, rfl, sz (by simp only [S_len', List.length_append, List.length_cons, List.length_nil]; omega), ?_⟩
        rw [SX.S_cat]
        walk_at "s"
        refine ⟨_, _, _, _, rfl, rfl, sqT_mono sH2 ht, atI_3, ?_⟩
        rw [lit_ "" [] (by decide +kernel)]
        walk_at "s"
        by_cases hn : wd = []
        · subst hn
          refine iteN rfl ?_
          walk_at "s"
          exact Eq.mp (congrArg (fun z => Q (.str (S z)) H2) (by cases o <;> cases c <;> simp [sndWs, sigW, cW, tlW, TL.joinL])) (q _ sH2)
        · refine iteNF (fun z => hn (SX.S_inj (by injection z))) ?_
          walk_at "s"
          refine ⟨sz (by simp only [S_len', List.length_append, List.length_cons, List.length_nil]; omega), ?_⟩
          rw [SX.S_cat]
          walk_at "s"
          refine ⟨_, _, _, _, rfl, rfl, sqT_mono sH2 ht, atI_3, ?_⟩
          refine ⟨_, _, rfl, rfl, sz (by simp only [S_len', List.length_append, List.length_cons, List.length_nil]; omega), ?_⟩
          rw [SX.S_cat]
          walk_at "s"
          exact Eq.mp (congrArg (fun z => Q (.str (S z)) H2) (by cases o <;> cases c <;> simp [sndWs, sigW, cW, tlW, TL.joinL, hn])) (q _ sH2)
end
end BW
set_option Elab.async false
set_option linter.all false
set_option maxRecDepth 100000
set_option maxHeartbeats 4000000
set_option pp.maxSteps 3000
namespace BW
open PySem PySem.Spec PyProof.Rows L2
open C8 (Cal Met Mak pe_c pe_mk pe_mt pe_mt0 pe_gc sl_txt fnBody fnScope fnArgs)
local macro_rules | `(tactic| walk_at "v") => `(tactic| refine ⟨_, rfl, ?_⟩)
local macro_rules | `(tactic| walk_at "i2") => `(tactic| refine ⟨_, _, rfl, rfl, ?_⟩)
local macro_rules | `(tactic| walk_at "k") => `(tactic| exact (by decide +kernel))
local macro_rules | `(tactic| walk_at "s") => `(tactic| repeat (first | refine ⟨_, rfl, ?_⟩ | refine ⟨_, _, rfl, rfl, ?_⟩ | refine ⟨rfl, ?_⟩ | refine ⟨⟨_, rfl⟩, ?_⟩ | refine iteT ?_ | refine iteF ?_ | refine ⟨_, _, _, _, _, rfl, .ty _, tyI, kit_ty kit_int_int, ?_⟩ | refine ⟨_, _, _, _, _, rfl, .ty _, tyI, kit_ty kit_int_bool, ?_⟩ | refine ⟨_, _, _, _, _, rfl, .ty _, tyS, kit_ty kit_str_str, ?_⟩ | refine ⟨_, _, _, _, _, rfl, .ty _, tyB, kit_ty kit_bool_bool, ?_⟩ | refine ⟨_, _, _, _, _, rfl, by assumption, by assumption, by assumption, rfl, ?_⟩))
local macro_rules | `(tactic| walk_at "o") => `(tactic| repeat (first | refine ⟨_, rfl, ?_⟩ | refine ⟨_, _, rfl, rfl, ?_⟩ | refine ⟨rfl, ?_⟩ | refine ⟨⟨_, rfl⟩, ?_⟩ | refine iteT ?_ | refine iteF ?_ | refine ⟨_, _, _, _, _, rfl, .ty _, tyI, kit_ty kit_int_int, ?_⟩ | refine ⟨_, _, _, _, _, rfl, .ty _, tyI, kit_ty kit_int_bool, ?_⟩ | refine ⟨_, _, _, _, _, rfl, .ty _, tyS, kit_ty kit_str_str, ?_⟩ | refine ⟨_, _, _, _, _, rfl, .ty _, tyB, kit_ty kit_bool_bool, ?_⟩ | refine ⟨_, _, _, _, _, rfl, by assumption, by assumption, by assumption, rfl, ?_⟩ | refine iteDF (by omega) ?_ | refine iteD (by omega) ?_ | refine ⟨_, _, _, rfl, by omega, by omega, ?_⟩ | refine And.intro (by omega) ?_))

open SX (S)
theorem allF_snoc : ∀ (fs : List Frm) (n : Nat) (lm : Option Met) (lk : Option Int) (f : Frm), allF n lm lk (fs ++ [f]) = allF n lm lk fs ++ ((if (fs.getLast?.map (·.met)).or lm = some f.met then [] else [(n + fs.length + 1, What.met f.met)]) ++ (if (fs.getLast?.map (·.key)).or lk = some f.key then [] else [(n + fs.length + 1, What.key f.key)]))
  | [], n, lm, lk, f => by
    by_cases h1 : lm = some f.met <;> by_cases h2 : lk = some f.key <;> simp [allF, h1, h2]
  | g :: r, n, lm, lk, f => by
    have ih := allF_snoc r (n + 1) (some g.met) (some g.key) f
    have e1 : ((g :: r).getLast?.map (·.met)).or lm = (r.getLast?.map (·.met)).or (some g.met) := by
      rw [List.getLast?_cons]
      cases r.getLast? <;> rfl
    have e2 : ((g :: r).getLast?.map (·.key)).or lk = (r.getLast?.map (·.key)).or (some g.key) := by
      rw [List.getLast?_cons]
      cases r.getLast? <;> rfl
    rw [e1, e2, show n + (g :: r).length + 1 = n + 1 + r.length + 1 by simp; omega]
    show (_ ++ (_ ++ allF (n + 1) (some g.met) (some g.key) (r ++ [f]))) = (_ ++ (_ ++ allF (n + 1) (some g.met) (some g.key) r)) ++ _
    rw [ih]
    simp only [List.append_assoc]
theorem allF_len : ∀ (fs : List Frm) (n : Nat) (lm : Option Met) (lk : Option Int), (allF n lm lk fs).length ≤ 2 * fs.length
  | [], _, _, _ => Nat.le_refl _
  | f :: r, n, lm, lk => by
    have := allF_len r (n + 1) (some f.met) (some f.key)
    show ((if lm = some f.met then ([] : List (Nat × What)) else [(n + 1, .met f.met)]) ++ ((if lk = some f.key then ([] : List (Nat × What)) else [(n + 1, .key f.key)]) ++ allF (n + 1) (some f.met) (some f.key) r)).length ≤ _
    rw [List.length_append, List.length_append]
    have h1 : (if lm = some f.met then ([] : List (Nat × What)) else [(n + 1, .met f.met)]).length ≤ 1 := by split <;> simp
    have h2 : (if lk = some f.key then ([] : List (Nat × What)) else [(n + 1, .key f.key)]).length ≤ 1 := by split <;> simp
    simp only [List.length_cons]
    omega
def rowT (WS : List (List (List Nat))) : List V := ((WS.map (TL.joinL [32])).map S).map V.str
theorem rowT_app (a b : List (List (List Nat))) : rowT (a ++ b) = rowT a ++ rowT b := by unfold rowT; simp
theorem rowT_one (w : List (List Nat)) : rowT [w] = [V.str (S (TL.joinL [32] w))] := rfl
theorem rowT_len (a : List (List (List Nat))) : (rowT a).length = a.length := by unfold rowT; simp
section
variable {P : Program} {w : World} {K : PySem.W.Frag} {mg : Str → Option Value} {base : Heap} {A : Ad}
def sp__law_rows (K : PySem.W.Frag) : Sp := fun vs H Q _ => ∃ (G : Hp) (vf vv : V) (fs : List Frm) (vss : List (List Snd)) (times : Nat), vs = [vf, vv, .int times] ∧ Same G H ∧ Dp K G vf (.list (fs.map frmD)) ∧ Dp K G vv (vossD vss) ∧ fs ≠ [] ∧ fs.length ≤ 24 ∧ (∀ f ∈ fs, MetOk f.met ∧ -7 ≤ f.key ∧ f.key ≤ 7) ∧
  1 ≤ times ∧ times ≤ 7 ∧ vss.length ≤ 2 ∧ (∀ ss ∈ vss, ss.length ≤ 96 ∧ ∀ s ∈ ss, SndOk s ∧ s.len < 1000) ∧ ∀ H' p, Same H H' → H' p = some (.lst (rowT (rowsW (lawAmt times) (allF 0 none none fs) vss))) → Q (.ref p) H'
theorem ok__law_rows (T : Txt w K mg A) : Cal P w K mg base 3 "_law_rows" (sp__law_rows K) [] := by
  obtain ⟨f, d⟩ := T.d__law_rows
  refine cal_of d sc__law_rows (fun vs H Q E h => ?_) (fun cdv A' outer s H vs Q E hr h => ?_)
  · obtain ⟨G, vf, vv, fs, vss, times, rfl, _⟩ := h; rfl
  · obtain ⟨G, vf, vv, fs, vss, times, rfl, sm, hvf, hvv, hne, h24, hfok, ht1, ht7, hv2, hvok, q⟩ := h
    obtain ⟨af, xf, rfl, hlf, rf⟩ := dpL hvf
    have elf := rf.len
    rw [List.length_map] at elf
    obtain ⟨av, xv, rfl, hlv, rv⟩ := dpL hvv
    have elv := rv.len
    rw [List.length_map] at elv
    have fr_at : ∀ (i : Nat) f, fs[i]? = some f → ∃ ta z, atI xf (i : Int) = some (.ref ta) ∧ SqT K G ta [.int f.begin, z, .int f.key] ∧ Dp K G z (metD f.met) := fun i f hf => by
      obtain ⟨v, hv, hd⟩ := rf.getD (i := i) (d := frmD f) (by rw [List.getElem?_map, hf]; rfl)
      obtain ⟨ta, x1, x2, x3, rfl, htt, r1, r2, r3⟩ := dpT3 hd
      cases dpI r1; cases dpI r3
      exact ⟨ta, x2, atI_nat hv, htt, r2⟩
    obtain ⟨f0, fr, efs⟩ : ∃ a b, fs = a :: b := by
      cases fs with
      | nil => exact absurd rfl hne
      | cons a b => exact ⟨a, b, rfl⟩
    obtain ⟨t0, z0, ha0, ht0, hz0⟩ := fr_at 0 f0 (by rw [efs]; rfl)
    obtain ⟨hm0, hk01, hk02⟩ := hfok f0 (by rw [efs]; exact List.mem_cons_self)
    have hcl : ∀ k : Int, -7 ≤ k → k ≤ 7 → (numC k).length ≤ 100 := fun k h1 h2 => (what_wd (x := .key k) ⟨h1, h2⟩).2.2.2.2
    refine ⟨_, (pss_cons (ps_set (i := 3) sc__law_rows.nd rfl (Or.inl rfl) (pe_lst (pa_cons (pe_op op_add_str pe_str (pe_c (ok__law_metre_text T) hr (by decide) rfl (pa_cons (pe_ix ix_tup (pe_ix ix_list (pv 0) pe_int (fun _ _ => rfl)) pe_int (fun _ _ => rfl)) pa_nil))) (pa_cons (pe_op op_add_str pe_str (pe_callTy call_str_int (by rfl) T.n_str boot_str_ (pa_cons (pe_ix ix_tup (pe_ix ix_list (pv 0) pe_int (fun _ _ => rfl)) pe_int (fun _ _ => rfl)) pa_nil))) pa_nil))))
    (pss_cons (ps_for PassesOwn.never rfl (pi_range2 (by rfl) T.n_range (pa_cons pe_int (pa_cons (pe_callB call_len_seq (by rfl) T.n_len boot_len_ (pa_cons (pv 0) pa_nil)) pa_nil))) (pg_name (i := 4) sc__law_rows.nd rfl (Or.inl rfl)) (pss_cons (ps_set (i := 5) sc__law_rows.nd rfl (Or.inl rfl) (pe_op op_add_str pe_str (pe_callTy call_str_int (by rfl) T.n_str boot_str_ (pa_cons (pe_op op_add (pv 4) pe_int) pa_nil))))
      (pss_cons (ps_if (pt_cmpR (op_neD hr.units) (pe_ix ix_tup (pe_ix ix_list (pv 0) (pv 4) (fun _ _ => rfl)) pe_int (fun _ _ => rfl)) (pe_ix ix_tup (pe_ix ix_list (pv 0) (pe_op op_sub (pv 4) pe_int) (fun _ _ => rfl)) pe_int (fun _ _ => rfl)) (nomark _)) (pss_one (ps_expr (pe_bm PySem.F.plainAttrs_list PySem.F.slot_list_append PySem.F.type_list_append mt_append (pv 3) (pa_cons (pe_op op_add_str (pe_op op_add_str (pv 5) pe_str) (pe_c (ok__law_metre_text T) hr (by decide) rfl (pa_cons (pe_ix ix_tup (pe_ix ix_list (pv 0) (pv 4) (fun _ _ => rfl)) pe_int (fun _ _ => rfl)) pa_nil))) pa_nil)))) pss_nil)
      (pss_one (ps_if (pt_cmpR op_ne (pe_ix ix_tup (pe_ix ix_list (pv 0) (pv 4) (fun _ _ => rfl)) pe_int (fun _ _ => rfl)) (pe_ix ix_tup (pe_ix ix_list (pv 0) (pe_op op_sub (pv 4) pe_int) (fun _ _ => rfl)) pe_int (fun _ _ => rfl)) (nomark _)) (pss_one (ps_expr (pe_bm PySem.F.plainAttrs_list PySem.F.slot_list_append PySem.F.type_list_append mt_append (pv 3) (pa_cons (pe_op op_add_str (pe_op op_add_str (pv 5) pe_str) (pe_callTy call_str_int (by rfl) T.n_str boot_str_ (pa_cons (pe_ix ix_tup (pe_ix ix_list (pv 0) (pv 4) (fun _ _ => rfl)) pe_int (fun _ _ => rfl)) pa_nil))) pa_nil)))) pss_nil)))))
    (pss_cons (ps_for PassesOwn.never rfl (pi_list (pv 1)) (pg_name (i := 6) sc__law_rows.nd rfl (Or.inl rfl)) (pss_cons (ps_expr (pe_bm PySem.F.plainAttrs_list PySem.F.slot_list_append PySem.F.type_list_append mt_append (pv 3) (pa_cons pe_str pa_nil)))
      (pss_one (ps_expr (pe_bm PySem.F.plainAttrs_list PySem.F.slot_list_extend PySem.F.type_list_extend mt_extend (pv 3) (pa_cons (pe_lc (own := [("_law_told", 7)]) (g := (gName 7)) (tt := tYes) (by rfl) sc__law_rows.nd (pi_list (pv 6)) (blkOk_by (N := N__law_rows) (sc := (defScope s__law_rows)) (by decide +kernel)) (fun _ _ _ _ _ => (pg_name (i := 7) sc__law_rows.nd rfl (Or.inl rfl))) (fun _ _ _ _ _ => pts_nil) (fun _ _ _ _ _ => (pe_c (ok__law_row T) hr (by decide) rfl (pa_cons (pv 7) (pa_cons (pv 2) pa_nil))))) pa_nil))))))
    (pss_one (ps_ret (pv 3)))))), ?_⟩
    walk_at "s"
    refine ⟨_, _, _, _, rfl, rfl, sm.seq hlf, ha0, ?_⟩
    walk_at "s"
    refine ⟨_, _, _, _, rfl, rfl, sqT_mono sm ht0, atI_1, ?_⟩
    refine ⟨_, f0.met, rfl, hz0.mono sm, hm0, fun H1 s1 => ?_⟩
    have hml := metC_len hm0
    rw [lit_ "metre " [109, 101, 116, 114, 101, 32] (by decide +kernel)]
    refine ⟨_, _, rfl, rfl, sz (by simp only [S_len', List.length_append, List.length_cons, List.length_nil]; omega), ?_⟩
    rw [SX.S_cat]
    have t1 := sm.trans s1
    walk_at "s"
    refine ⟨_, _, _, _, rfl, rfl, t1.seq hlf, ha0, ?_⟩
    walk_at "s"
    refine ⟨_, _, _, _, rfl, rfl, sqT_mono t1 ht0, atI_2, ?_⟩
    walk_at "s"
    refine ⟨str_int_ok (by omega) (by omega), ?_⟩
    rw [str_num (by omega), lit_ "key " [107, 101, 121, 32] (by decide +kernel)]
    have hk0l := hcl f0.key hk01 hk02
    refine ⟨_, _, rfl, rfl, sz (by simp only [S_len', List.length_append, List.length_cons, List.length_nil]; omega), ?_⟩
    rw [SX.S_cat]
    refine ⟨by show 2 ≤ sizeLine; decide, fun ro hro => ?_⟩
    have hro0 : H ro = none := s1.free hro
    have gro : G ro = none := t1.free hro
    have g1 : Grow No G H G (upd H1 ro (.lst [.str (S ([109, 101, 116, 114, 101, 32] ++ metC f0.met)), .str (S ([107, 101, 121, 32] ++ numC f0.key))])) := (Grow.of_same sm s1).put gro (.inl hro0)
    have k1 : (upd H1 ro (.lst [.str (S ([109, 101, 116, 114, 101, 32] ++ metC f0.met)), .str (S ([107, 101, 121, 32] ++ numC f0.key))])) ro = some (.lst (rowT ((allF 0 none none (fs.take 1)).map chWs))) := by
      rw [upd_same, efs]
      rfl
    generalize upd H1 ro _ = H2 at g1 k1 ⊢
    walk_at "s"
    refine ⟨_, _, rfl, .inl (g1.s0.seq hlf), ?_⟩
    rw [elf]
    refine ⟨1, _, rfl, ⟨by omega, by omega, by omega, by omega⟩, ?_⟩
    have hpos : 1 ≤ fs.length := by rw [efs]; simp
    rw [show (((fs.length : Nat) : Int) - 1).toNat = fs.length - 1 by omega]
    refine for_it walk_range (fun i σ H' => ∃ y4 y5 y6 y7, σ = [some (.ref af), some (.ref av), some (.int times), some (.ref ro), y4, y5, y6, y7] ∧ Grow No G H G H' ∧ H' ro = some (.lst (rowT ((allF 0 none none (fs.take (i + 1))).map chWs)))) ⟨none, none, none, none, rfl, g1, k1⟩ (fun _ _ _ _ _ => trivial) ?_ ?_
    · rintro i v σ H3 H3' hi ⟨y4, y5, y6, y7, rfl, g3, k3⟩ ⟨rfl, rfl⟩
      obtain ⟨fp, hfp⟩ : ∃ f, fs[i]? = some f := ⟨fs[i]'(by omega), List.getElem?_eq_getElem _⟩
      obtain ⟨fc, hfc⟩ : ∃ f, fs[i + 1]? = some f := ⟨fs[i + 1]'(by omega), List.getElem?_eq_getElem _⟩
      obtain ⟨tp, zp, hap, htp, hzp⟩ := fr_at i fp hfp
      obtain ⟨tc, zc, hac, htc, hzc⟩ := fr_at (i + 1) fc hfc
      obtain ⟨hmc, hkc1, hkc2⟩ := hfok fc (List.mem_of_getElem? hfc)
      have hmcl := metC_len hmc
      have hkcl := hcl fc.key hkc1 hkc2
      have eplace : (1 : Int) + (i : Int) = ((i + 1 : Nat) : Int) := by omega
      have hac' : atI xf ((1 : Int) + (i : Int)) = some (.ref tc) := by rw [eplace]; exact hac
      have hap' : atI xf ((1 : Int) + (i : Int) - 1) = some (.ref tp) := by rw [show (1 : Int) + (i : Int) - 1 = (i : Int) by omega]; exact hap
      have hnl := numL_len4 (n := i + 2) (by omega)
      have esn : allF 0 none none (fs.take (i + 2)) = allF 0 none none (fs.take (i + 1)) ++ ((if fp.met = fc.met then [] else [(i + 2, What.met fc.met)]) ++ (if fp.key = fc.key then [] else [(i + 2, What.key fc.key)])) := by
        rw [show i + 2 = (i + 1) + 1 by omega, List.take_add_one, hfc]
        have el : (fs.take (i + 1)).length = i + 1 := by rw [List.length_take]; omega
        have elast : (fs.take (i + 1)).getLast? = some fp := by rw [List.take_add_one, hfp]; simp
        show allF 0 none none (fs.take (i + 1) ++ [fc]) = _
        rw [allF_snoc, elast, el]
        simp
      have hlenA := allF_len (fs.take (i + 1)) 0 none none
      rw [List.length_take] at hlenA
      generalize eWS : (allF 0 none none (fs.take (i + 1))).map chWs = WS at k3
      have hWS : WS.length ≤ 60 := by rw [← eWS, List.length_map]; omega
      have eT : ∀ x : What, TL.joinL [32] (chWs (i + 2, x)) = [97, 116, 32] ++ TL.numL (i + 2) ++ ([32] ++ (x.w ++ ([32] ++ x.c))) := fun x => by
        rw [chT, if_pos (by show 1 < i + 2; omega)]
        simp [whatT, TL.joinL]
      walk_at "s"
      refine ⟨str_int_ok (by omega) (by omega), ?_⟩
      rw [str_num (by omega), show (1 : Int) + (i : Int) + 1 = ((i + 2 : Nat) : Int) by omega, numC_nat, lit_ "at " [97, 116, 32] (by decide +kernel)]
      refine ⟨_, _, rfl, rfl, sz (by simp only [S_len', List.length_append, List.length_cons, List.length_nil]; omega), ?_⟩
      rw [SX.S_cat]
      walk_at "s"
      refine ⟨_, _, _, _, rfl, rfl, g3.s0.seq hlf, hac', ?_⟩
      walk_at "s"
      refine ⟨_, _, _, _, rfl, rfl, sqT_mono g3.s0 htc, atI_1, ?_⟩
      walk_at "s"
      refine ⟨_, _, _, _, rfl, rfl, g3.s0.seq hlf, hap', ?_⟩
      walk_at "s"
      refine ⟨_, _, _, _, rfl, rfl, sqT_mono g3.s0 htp, atI_1, ?_⟩
      refine ⟨metD fc.met, metD fp.met, hzc.mono g3.s0, hzp.mono g3.s0, ly_met.shaped (by decide), ly_met.shaped (by decide), ?_⟩
      rw [eqv_metD]
      refine ⟨_, rfl, ?_⟩
      by_cases hmeq : fc.met = fp.met
      · refine iteN hmeq ?_
        have k4 := k3
        have g4 := g3
        have ems : (if fp.met = fc.met then ([] : List (Nat × What)) else [(i + 2, What.met fc.met)]) = [] := if_pos hmeq.symm
        have hWS4 : WS.length ≤ 61 := by omega
        generalize eWS4 : WS = WS4 at k4 hWS4
        have eW4 : WS4 = (allF 0 none none (fs.take (i + 1)) ++ []).map chWs := by rw [← eWS4, ← eWS]; simp
        walk_at "s"
        refine ⟨_, _, _, _, rfl, rfl, g4.s0.seq hlf, hac', ?_⟩
        walk_at "s"
        refine ⟨_, _, _, _, rfl, rfl, sqT_mono g4.s0 htc, atI_2, ?_⟩
        walk_at "s"
        refine ⟨_, _, _, _, rfl, rfl, g4.s0.seq hlf, hap', ?_⟩
        walk_at "s"
        refine ⟨_, _, _, _, rfl, rfl, sqT_mono g4.s0 htp, atI_2, ?_⟩
        refine ⟨rfl, _, rfl, ?_⟩
        by_cases hkeq : fc.key = fp.key
        · refine iteN (by rw [hkeq]) ?_
          walk_at "s"
          refine ⟨_, _, _, _, rfl, g4, ?_⟩
          rw [k4, esn, ems, if_pos hkeq.symm, List.append_nil, eW4]
        · refine iteNF (fun z => hkeq (by injection z)) ?_
          walk_at "s"
          refine ⟨.inl ⟨rfl, _, sqlU k4⟩, ?_⟩
          walk_at "s"
          rw [lit_ " key " [32, 107, 101, 121, 32] (by decide +kernel)]
          refine ⟨sz (by simp only [S_len', List.length_append, List.length_cons, List.length_nil]; omega), ?_⟩
          rw [SX.S_cat]
          walk_at "s"
          refine ⟨_, _, _, _, rfl, rfl, g4.s0.seq hlf, hac', ?_⟩
          walk_at "s"
          refine ⟨_, _, _, _, rfl, rfl, sqT_mono g4.s0 htc, atI_2, ?_⟩
          walk_at "s"
          refine ⟨str_int_ok (by omega) (by omega), ?_⟩
          rw [str_num (by omega)]
          refine ⟨_, _, rfl, rfl, sz (by simp only [S_len', List.length_append, List.length_cons, List.length_nil]; omega), ?_⟩
          rw [SX.S_cat]
          refine ⟨ro, _, _, rfl, rfl, k4, szl (by rw [rowT_len]; omega), ?_⟩
          refine ⟨_, _, _, _, rfl, g4.put gro (.inl hro0), ?_⟩
          rw [upd_same, esn, ems, if_neg (fun z => hkeq z.symm), ← List.append_assoc, List.map_append, ← eW4, rowT_app]
          show _ = some (HO.lst (rowT WS4 ++ [V.str (S (TL.joinL [32] (chWs (i + 2, .key fc.key))))]))
          rw [eT]
          simp [What.w, What.c]
      · refine iteNF hmeq ?_
        walk_at "s"
        refine ⟨.inl ⟨rfl, _, sqlU k3⟩, ?_⟩
        walk_at "s"
        rw [lit_ " metre " [32, 109, 101, 116, 114, 101, 32] (by decide +kernel)]
        refine ⟨sz (by simp only [S_len', List.length_append, List.length_cons, List.length_nil]; omega), ?_⟩
        rw [SX.S_cat]
        walk_at "s"
        refine ⟨_, _, _, _, rfl, rfl, g3.s0.seq hlf, hac', ?_⟩
        walk_at "s"
        refine ⟨_, _, _, _, rfl, rfl, sqT_mono g3.s0 htc, atI_1, ?_⟩
        refine ⟨_, fc.met, rfl, hzc.mono g3.s0, hmc, fun H5 s5 => ?_⟩
        refine ⟨_, _, rfl, rfl, sz (by simp only [S_len', List.length_append, List.length_cons, List.length_nil]; omega), ?_⟩
        rw [SX.S_cat]
        have g5 := g3.tr (Grow.of_same g3.gh s5)
        refine ⟨ro, _, _, rfl, rfl, s5 _ _ k3, szl (by rw [rowT_len]; omega), ?_⟩
        have g4 := g5.put (o := .lst (rowT WS ++ [.str (S ([97, 116, 32] ++ TL.numL (i + 2) ++ [32, 109, 101, 116, 114, 101, 32] ++ metC fc.met))])) gro (.inl hro0)
        have ems : (if fp.met = fc.met then ([] : List (Nat × What)) else [(i + 2, What.met fc.met)]) = [(i + 2, What.met fc.met)] := if_neg fun z => hmeq z.symm
        have k4 : (upd H5 ro (.lst (rowT WS ++ [.str (S ([97, 116, 32] ++ TL.numL (i + 2) ++ [32, 109, 101, 116, 114, 101, 32] ++ metC fc.met))]))) ro = some (.lst (rowT (WS ++ [chWs (i + 2, .met fc.met)]))) := by
          rw [upd_same, rowT_app, rowT_one, eT]
          simp [What.w, What.c]
        generalize upd H5 ro _ = H4 at g4 k4 ⊢
        have hWS4 : (WS ++ [chWs (i + 2, .met fc.met)]).length ≤ 61 := by simp; omega
        generalize eWS4 : WS ++ [chWs (i + 2, .met fc.met)] = WS4 at k4 hWS4
        have eW4 : WS4 = (allF 0 none none (fs.take (i + 1)) ++ [(i + 2, What.met fc.met)]).map chWs := by rw [← eWS4, ← eWS]; simp
        walk_at "s"
        refine ⟨_, _, _, _, rfl, rfl, g4.s0.seq hlf, hac', ?_⟩
        walk_at "s"
        refine ⟨_, _, _, _, rfl, rfl, sqT_mono g4.s0 htc, atI_2, ?_⟩
        walk_at "s"
        refine ⟨_, _, _, _, rfl, rfl, g4.s0.seq hlf, hap', ?_⟩
        walk_at "s"
        refine ⟨_, _, _, _, rfl, rfl, sqT_mono g4.s0 htp, atI_2, ?_⟩
        refine ⟨rfl, _, rfl, ?_⟩
        by_cases hkeq : fc.key = fp.key
        · refine iteN (by rw [hkeq]) ?_
          walk_at "s"
          refine ⟨_, _, _, _, rfl, g4, ?_⟩
          rw [k4, esn, ems, if_pos hkeq.symm, List.append_nil, eW4]
        · refine iteNF (fun z => hkeq (by injection z)) ?_
          walk_at "s"
          refine ⟨.inl ⟨rfl, _, sqlU k4⟩, ?_⟩
          walk_at "s"
          rw [lit_ " key " [32, 107, 101, 121, 32] (by decide +kernel)]
          refine ⟨sz (by simp only [S_len', List.length_append, List.length_cons, List.length_nil]; omega), ?_⟩
          rw [SX.S_cat]
          walk_at "s"
          refine ⟨_, _, _, _, rfl, rfl, g4.s0.seq hlf, hac', ?_⟩
          walk_at "s"
          refine ⟨_, _, _, _, rfl, rfl, sqT_mono g4.s0 htc, atI_2, ?_⟩
          walk_at "s"
          refine ⟨str_int_ok (by omega) (by omega), ?_⟩
          rw [str_num (by omega)]
          refine ⟨_, _, rfl, rfl, sz (by simp only [S_len', List.length_append, List.length_cons, List.length_nil]; omega), ?_⟩
          rw [SX.S_cat]
          refine ⟨ro, _, _, rfl, rfl, k4, szl (by rw [rowT_len]; omega), ?_⟩
          refine ⟨_, _, _, _, rfl, g4.put gro (.inl hro0), ?_⟩
          rw [upd_same, esn, ems, if_neg (fun z => hkeq z.symm), ← List.append_assoc, List.map_append, ← eW4, rowT_app]
          show _ = some (HO.lst (rowT WS4 ++ [V.str (S (TL.joinL [32] (chWs (i + 2, .key fc.key))))]))
          rw [eT]
          simp [What.w, What.c]
    · rintro σ H3 ⟨y4, y5, y6, y7, rfl, g3, k3⟩
      rw [show fs.length - 1 + 1 = fs.length by omega, List.take_length] at k3
      have hlenA := allF_len fs 0 none none
      walk_at "s"
      refine ⟨⟨_, g3.s0.seq hlv⟩, ?_⟩
      refine for_it walk_list (fun i σ H' => ∃ y4 y5 y6 y7, σ = [some (.ref af), some (.ref av), some (.int times), some (.ref ro), y4, y5, y6, y7] ∧ Grow No G H G H' ∧ H' ro = some (.lst (rowT ((allF 0 none none fs).map chWs ++ ((vss.take i).map (voiceR (lawAmt times))).flatten)))) ⟨_, _, _, _, rfl, g3, by rw [k3]; simp⟩ (fun i σ H' _ ⟨_, _, _, _, _, g, _⟩ => g.s0.seq hlv) ?_ ?_
      · rintro i v σ H4 H4' hi ⟨y4, y5, y6, y7, rfl, g4, k4⟩ ⟨rfl, hx⟩
        obtain ⟨dd, hdd, hd⟩ := rv.get hx
        rw [List.getElem?_map] at hdd
        cases hss : vss[i]? with
        | none => rw [hss] at hdd; cases hdd
        | some ss =>
        rw [hss] at hdd
        cases hdd
        obtain ⟨hs96, hsok⟩ := hvok ss (List.mem_of_getElem? hss)
        obtain ⟨az, zs, rfl, hlz, rz⟩ := dpL hd
        have ezl := rz.len
        rw [List.length_map] at ezl
        have hxl : ((allF 0 none none fs).map chWs ++ ((vss.take i).map (voiceR (lawAmt times))).flatten).length ≤ 500 := by
          have := voice_len (amt := lawAmt times) (vss := vss.take i) (by rw [List.length_take]; omega) fun ss hs => (hvok ss (List.mem_of_mem_take hs)).1
          rw [List.length_append, List.length_map]
          omega
        generalize eWS : (allF 0 none none fs).map chWs ++ ((vss.take i).map (voiceR (lawAmt times))).flatten = WS at k4 hxl
        walk_at "s"
        refine ⟨.inl ⟨rfl, _, sqlU k4⟩, ?_⟩
        refine ⟨ro, _, _, rfl, rfl, k4, szl (by rw [rowT_len]; omega), ?_⟩
        rw [lit_ "voice" [118, 111, 105, 99, 101] (by decide +kernel)]
        have g5 := g4.put (o := .lst (rowT WS ++ [.str (S [118, 111, 105, 99, 101])])) gro (.inl hro0)
        have k5 : (upd H4' ro (.lst (rowT WS ++ [.str (S [118, 111, 105, 99, 101])]))) ro = some (.lst (rowT WS ++ [.str (S [118, 111, 105, 99, 101])])) := upd_same
        generalize upd H4' ro _ = H5 at g5 k5 ⊢
        walk_at "s"
        refine ⟨.inl ⟨rfl, _, sqlU k5⟩, ?_⟩
        walk_at "s"
        refine ⟨⟨_, g5.s0.seq hlz⟩, fun D hD => ?_⟩
        refine lc_pure walk_list hD g5.gh (fun _ i v => ∃ s, ss[i]? = some s ∧ v = .str (S (TL.joinL [32] (sndWs (lawAmt times) s)))) (by omega) (fun _ _ _ _ _ h => h) (fun G2 H2 g2 => (g5.gg.trans g2.s0).seq hlz) ?_ ?_
        · rintro j v G6 H6 H6' hj g6 ⟨rfl, hx⟩ Q' hq
          obtain ⟨dd, hdd, hd⟩ := rz.get hx
          rw [List.getElem?_map] at hdd
          cases hs : ss[j]? with
          | none => rw [hs] at hdd; cases hdd
          | some s' =>
          rw [hs] at hdd
          cases hdd
          obtain ⟨so1, so2⟩ := hsok s' (List.mem_of_getElem? hs)
          refine ⟨rfl, ?_⟩
          walk_at "s"
          refine ⟨_, s', times, rfl, hd.mono (g5.gg.trans g6.s0), so1, so2, ht1, ht7, fun H7 s7 => ?_⟩
          exact hq _ _ _ (Grow.of_same g6.gh s7) ⟨s', hs, rfl⟩
        · intro G6 H6 acc g6 gD eD el er
          have eacc : acc = rowT (ss.map (sndWs (lawAmt times))) := by
            refine List.ext_getElem? fun j => ?_
            unfold rowT
            by_cases hj : j < acc.length
            · obtain ⟨s', hs, e⟩ := er j _ (List.getElem?_eq_getElem hj)
              rw [List.getElem?_eq_getElem hj, e]
              simp [hs]
            · rw [List.getElem?_eq_none (by omega), List.getElem?_eq_none (by simp; omega)]
          refine ⟨ro, D, _, _, rfl, rfl, g6.same _ _ k5, eD, sz (by rw [List.length_append, rowT_len]; simp; omega), ?_⟩
          refine ⟨_, _, _, _, rfl, ⟨Same.refl _, same_mut (g5.gg.trans g6.s0) gro, fun b o n e => ?_, fun _ _ _ e => e⟩, ?_⟩
          · by_cases hb : b = ro
            · subst hb; rw [hro0] at e; cases e
            · rw [upd_ne hb]; exact g6.same _ _ (g5.same _ _ e)
          · rw [upd_same, rows_take hss, ← List.append_assoc, eWS, eacc]
            unfold voiceR
            rw [show WS ++ voW :: ss.map (sndWs (lawAmt times)) = (WS ++ [voW]) ++ ss.map (sndWs (lawAmt times)) by simp, rowT_app, rowT_app, rowT_one]
            rfl
      · rintro σ H4 ⟨y4, y5, y6, y7, rfl, g4, k4⟩
        rw [elv, List.take_length] at k4
        walk_at "s"
        exact q _ _ g4.same k4
end
end BW
set_option Elab.async false
set_option linter.all false
set_option maxRecDepth 100000
set_option maxHeartbeats 4000000
set_option pp.maxSteps 3000
namespace BW
open PySem PySem.Spec PyProof.Rows L2
open C8 (Cal Met Mak pe_c pe_mk pe_mt pe_mt0 pe_gc sl_txt fnBody fnScope fnArgs)
local macro_rules | `(tactic| walk_at "v") => `(tactic| refine ⟨_, rfl, ?_⟩)
local macro_rules | `(tactic| walk_at "i2") => `(tactic| refine ⟨_, _, rfl, rfl, ?_⟩)
local macro_rules | `(tactic| walk_at "k") => `(tactic| exact (by decide +kernel))
local macro_rules | `(tactic| walk_at "s") => `(tactic| repeat (first | refine ⟨_, rfl, ?_⟩ | refine ⟨_, _, rfl, rfl, ?_⟩ | refine ⟨rfl, ?_⟩ | refine ⟨⟨_, rfl⟩, ?_⟩ | refine iteT ?_ | refine iteF ?_ | refine ⟨_, _, _, _, _, rfl, .ty _, tyI, kit_ty kit_int_int, ?_⟩ | refine ⟨_, _, _, _, _, rfl, .ty _, tyI, kit_ty kit_int_bool, ?_⟩ | refine ⟨_, _, _, _, _, rfl, .ty _, tyS, kit_ty kit_str_str, ?_⟩ | refine ⟨_, _, _, _, _, rfl, .ty _, tyB, kit_ty kit_bool_bool, ?_⟩ | refine ⟨_, _, _, _, _, rfl, by assumption, by assumption, by assumption, rfl, ?_⟩))
local macro_rules | `(tactic| walk_at "o") => `(tactic| repeat (first | refine ⟨_, rfl, ?_⟩ | refine ⟨_, _, rfl, rfl, ?_⟩ | refine ⟨rfl, ?_⟩ | refine ⟨⟨_, rfl⟩, ?_⟩ | refine iteT ?_ | refine iteF ?_ | refine ⟨_, _, _, _, _, rfl, .ty _, tyI, kit_ty kit_int_int, ?_⟩ | refine ⟨_, _, _, _, _, rfl, .ty _, tyI, kit_ty kit_int_bool, ?_⟩ | refine ⟨_, _, _, _, _, rfl, .ty _, tyS, kit_ty kit_str_str, ?_⟩ | refine ⟨_, _, _, _, _, rfl, .ty _, tyB, kit_ty kit_bool_bool, ?_⟩ | refine ⟨_, _, _, _, _, rfl, by assumption, by assumption, by assumption, rfl, ?_⟩ | refine iteDF (by omega) ?_ | refine iteD (by omega) ?_ | refine ⟨_, _, _, rfl, by omega, by omega, ?_⟩ | refine And.intro (by omega) ?_))

open SX (S)
theorem slRun_split : ∀ {l : List Snd} {r : List Snd} {b b2 : Bool}, slRun b (l ++ r) b2 → ∃ b1, slRun b l b1 ∧ slRun b1 r b2
  | [], _, b, _, h => ⟨b, rfl, h⟩
  | .rest _ :: l, _, _, _, h => slRun_split (l := l) h
  | .tones _ _ _ _ _ :: l, _, _, _, ⟨h1, h2, h3⟩ => by
    obtain ⟨b1, a, b⟩ := slRun_split (l := l) h3
    exact ⟨b1, ⟨h1, h2, a⟩, b⟩
theorem slurs_run : ∀ {ss : List Snd} {b : Bool}, slurs b ss → slRun b ss false
  | [], _, h => h
  | .rest _ :: ss, _, h => slurs_run (ss := ss) h
  | .tones _ _ _ _ _ :: ss, _, ⟨h1, h2, h3⟩ => ⟨h1, h2, slurs_run (ss := ss) h3⟩
theorem slRun_rest {init : List Snd} {n : Nat} {b b2 : Bool} (h : slRun b (init ++ [.rest n]) b2) : slRun b init b2 := by
  obtain ⟨b1, h1, h2⟩ := slRun_split h
  have : b1 = b2 := h2
  rw [← this]; exact h1
theorem fold_run {ss : List Snd} : ∀ {b b2 : Bool}, slRun b ss b2 → slRun b (fold ss) b2 := by
  refine snocInd (P := fun ss => ∀ {b b2 : Bool}, slRun b ss b2 → slRun b (fold ss) b2) (fun h => h) (fun ss s ih b b2 h => ?_) ss
  obtain ⟨b1, h1, h2⟩ := slRun_split h
  have h3 := ih h1
  rw [fold_snoc]
  rcases List.eq_nil_or_concat (fold ss) with e | ⟨init, x, e⟩
  · rw [e] at h3 ⊢
    rw [tidyStep_nil]
    have : b = b1 := h3
    rw [this]; exact h2
  · rw [List.concat_eq_append] at e
    rw [e] at h3 ⊢
    rw [tidyStep_snoc]
    cases s with
    | tones => exact slRun_app h3 h2
    | rest n =>
      cases x with
      | tones => exact slRun_app h3 h2
      | rest m =>
        have : b1 = b2 := h2
        rw [← this]
        exact slRun_app (r := [.rest (m + n)]) (slRun_rest h3) rfl
theorem tidy_cases (ss : List Snd) (h : ss ≠ []) : ∃ init x, fold ss = init ++ [x] ∧ tidyL ss = if x.isRest = true then init else init ++ [x] := by
  rcases List.eq_nil_or_concat (fold ss) with e0 | ⟨init, l, e0⟩
  · exact absurd e0 (fold_ne h)
  · rw [List.concat_eq_append] at e0
    exact ⟨init, l, e0, by rw [tidyL_eq, e0, tidyCut_snoc]⟩
theorem tidy_run {ss : List Snd} (hne : ss ≠ []) (h : slurs false ss) : slurs false (tidyL ss) := by
  obtain ⟨init, x, e1, e2⟩ := tidy_cases ss hne
  have h1 := fold_run (slurs_run h)
  rw [e1] at h1
  rw [e2]
  cases x with
  | rest n => exact slRun_slurs (slRun_rest h1)
  | tones => exact slRun_slurs h1
theorem tidy_mem {ss : List Snd} (hne : ss ≠ []) : ∀ s ∈ tidyL ss, s ∈ fold ss := by
  obtain ⟨init, x, e1, e2⟩ := tidy_cases ss hne
  intro s hs
  rw [e2] at hs
  rw [e1]
  split at hs
  · exact List.mem_append_left _ hs
  · exact hs
theorem tidy_lens {ss : List Snd} (hne : ss ≠ []) : BW.lens (tidyL ss) ≤ BW.lens ss := by
  obtain ⟨init, x, e1, e2⟩ := tidy_cases ss hne
  have := fold_lens ss
  rw [e1, BW.lens_append] at this
  rw [e2]
  split
  · omega
  · rw [BW.lens_append]; omega
theorem len_mem : ∀ {l : List Snd} {s : Snd}, s ∈ l → s.len ≤ BW.lens l
  | x :: l, s, h => by
    show s.len ≤ x.len + BW.lens l
    rcases List.mem_cons.mp h with rfl | h
    · omega
    · have := len_mem h; omega
def SndL : Snd → Prop
  | .rest n => 2 ≤ n
  | .tones ps n wd _ _ => TonesOk ps n wd
theorem fold_l {ss : List Snd} : (∀ s ∈ ss, SndL s) → ∀ s ∈ fold ss, SndL s := by
  refine snocInd (P := fun ss => (∀ s ∈ ss, SndL s) → ∀ s ∈ fold ss, SndL s) (fun _ s hs => by cases hs) (fun ss s ih h => ?_) ss
  have ih := ih fun x hx => h x (List.mem_append_left _ hx)
  have hs := h s (List.mem_append_right _ List.mem_cons_self)
  rw [fold_snoc]
  rcases List.eq_nil_or_concat (fold ss) with e | ⟨init, x, e⟩
  · rw [e, tidyStep_nil]
    intro y hy
    rw [List.mem_singleton.mp hy]; exact hs
  · rw [List.concat_eq_append] at e
    rw [e] at ih
    rw [e, tidyStep_snoc]
    intro y hy
    cases s with
    | tones =>
      rcases List.mem_append.mp hy with hy | hy
      · exact ih y hy
      · rw [List.mem_singleton.mp hy]; exact hs
    | rest n =>
      cases x with
      | tones =>
        rcases List.mem_append.mp hy with hy | hy
        · exact ih y hy
        · rw [List.mem_singleton.mp hy]; exact hs
      | rest m =>
        rcases List.mem_append.mp hy with hy | hy
        · exact ih y (List.mem_append_left _ hy)
        · rw [List.mem_singleton.mp hy]
          have : 2 ≤ n := hs
          show 2 ≤ m + n
          omega
def Neat (l : List Snd) : Prop := ∀ (i : Nat) s t, l[i]? = some s → l[i + 1]? = some t → s.isRest = true → t.isRest = false
theorem neat_pre {l r : List Snd} (h : Neat (l ++ r)) : Neat l := fun i s t h1 h2 => h i s t (by rw [List.getElem?_append_left (List.getElem?_eq_some_iff.mp h1).1]; exact h1) (by rw [List.getElem?_append_left (List.getElem?_eq_some_iff.mp h2).1]; exact h2)
theorem neat_snoc {l : List Snd} {x s : Snd} (h : Neat (l ++ [x])) (hs : x.isRest = true → s.isRest = false) : Neat (l ++ [x] ++ [s]) := by
  intro i a b h1 h2 ha
  by_cases hi : i + 1 < (l ++ [x]).length
  · rw [List.getElem?_append_left hi] at h2
    rw [List.getElem?_append_left (by omega)] at h1
    exact h i a b h1 h2 ha
  · have h3 := (List.getElem?_eq_some_iff.mp h2).1
    rw [List.length_append, List.length_singleton] at h3
    have e : i + 1 = (l ++ [x]).length := by omega
    rw [e, List.getElem?_append_right (Nat.le_refl _), Nat.sub_self] at h2
    cases (Option.some.inj h2)
    rw [List.length_append, List.length_singleton] at e
    have e2 : i = l.length := by omega
    rw [e2, List.getElem?_append_left (by simp), List.getElem?_append_right (Nat.le_refl _), Nat.sub_self] at h1
    cases (Option.some.inj h1)
    exact hs ha
theorem neat_one (s : Snd) : Neat [s] := fun i a b _ h2 => by simp at h2
theorem fold_neat {ss : List Snd} : Neat (fold ss) := by
  refine snocInd (P := fun ss => Neat (fold ss)) (fun i s t h => by simp [fold] at h) (fun ss s ih => ?_) ss
  rw [fold_snoc]
  rcases List.eq_nil_or_concat (fold ss) with e | ⟨init, x, e⟩
  · rw [e, tidyStep_nil]; exact neat_one s
  · rw [List.concat_eq_append] at e
    rw [e] at ih
    rw [e, tidyStep_snoc]
    cases s with
    | tones => exact neat_snoc ih fun _ => rfl
    | rest n =>
      cases x with
      | tones => exact neat_snoc ih fun h => by cases h
      | rest m =>
        intro i a b h1 h2 ha
        have hl : (init ++ [Snd.rest m]).length = init.length + 1 := by simp
        by_cases hi : i + 1 < init.length
        · rw [List.getElem?_append_left hi] at h2
          rw [List.getElem?_append_left (by omega)] at h1
          exact ih i a b (by rw [List.getElem?_append_left (by omega)]; exact h1) (by rw [List.getElem?_append_left hi]; exact h2) ha
        · have h3 := (List.getElem?_eq_some_iff.mp h2).1
          rw [List.length_append, List.length_singleton] at h3
          have e2 : i + 1 = init.length := by omega
          rw [List.getElem?_append_left (by omega)] at h1
          have := ih i a (.rest m) (by rw [List.getElem?_append_left (by omega)]; exact h1) (by rw [e2, List.getElem?_append_right (Nat.le_refl _), Nat.sub_self]; rfl) ha
          cases this
theorem fold_of_neat {ss : List Snd} : Neat ss → fold ss = ss := by
  refine snocInd (P := fun ss => Neat ss → fold ss = ss) (fun _ => rfl) (fun ss s ih h => ?_) ss
  rw [fold_snoc, ih (neat_pre h)]
  rcases List.eq_nil_or_concat ss with e | ⟨init, x, e⟩
  · rw [e, tidyStep_nil]; rfl
  · rw [List.concat_eq_append] at e
    subst e
    rw [tidyStep_snoc]
    cases s with
    | tones => rfl
    | rest n =>
      cases x with
      | tones => rfl
      | rest m =>
        have := h init.length (.rest m) (.rest n) (by rw [List.getElem?_append_left (by simp), List.getElem?_append_right (Nat.le_refl _), Nat.sub_self]; rfl) (by rw [List.getElem?_append_right (by simp)]; simp) rfl
        cases this
theorem tidy_tidy {ss : List Snd} (hne : ss ≠ []) (ht : tidyL ss ≠ []) : tidyL (tidyL ss) = tidyL ss := by
  obtain ⟨init, x, e1, e2⟩ := tidy_cases ss hne
  have hn : Neat (init ++ [x]) := e1 ▸ fold_neat
  rw [e2] at ht ⊢
  cases hx : x.isRest with
  | false =>
    rw [if_neg (by decide)]
    rw [tidyL_eq, fold_of_neat hn, tidyCut_snoc, hx]
    rfl
  | true =>
    rw [hx, if_pos rfl] at ht
    rw [if_pos rfl]
    rw [tidyL_eq, fold_of_neat (neat_pre hn)]
    rcases List.eq_nil_or_concat init with e | ⟨i2, y, e⟩
    · exact absurd e ht
    · rw [List.concat_eq_append] at e
      subst e
      rw [tidyCut_snoc]
      have := hn i2.length y x (by rw [List.getElem?_append_left (by simp), List.getElem?_append_right (Nat.le_refl _), Nat.sub_self]; rfl) (by rw [List.getElem?_append_right (by simp)]; simp)
      cases hy : y.isRest with
      | false => rfl
      | true => have := this hy; rw [hx] at this; cases this
theorem tidy_ok {ss : List Snd} (h : VoiceOk ss) (hl : BW.lens ss ≤ 810) : VoiceOk (tidyL ss) ∧ BW.lens (tidyL ss) ≤ 810 ∧ 2 ≤ BW.lens (tidyL ss) ∧ ∀ s ∈ tidyL ss, SndOk s ∧ s.len < 1000 := by
  have hne : ss ≠ [] := fun e => by have := h.l0; rw [e] at this; exact absurd this (by decide)
  have h1 := tidy_lens hne
  have hL : ∀ s ∈ tidyL ss, SndL s := fun s hs => fold_l (fun s hs => by
    have := h.ok s hs
    cases s with
    | rest n => exact this.1
    | tones => exact this) s (tidy_mem hne s hs)
  have hok : ∀ s ∈ tidyL ss, SndOk s ∧ s.len < 1000 := fun s hs => by
    have h2 := len_mem hs
    have h3 := hL s hs
    cases s with
    | rest n =>
      have h2 : n ≤ BW.lens (tidyL ss) := h2
      exact ⟨⟨h3, by omega⟩, by show n < 1000; omega⟩
    | tones => exact ⟨h3, by omega⟩
  have h2 : 2 ≤ BW.lens (tidyL ss) := by
    cases e : tidyL ss with
    | nil => exact absurd e h.ne
    | cons s r =>
      have h3 := len_mem (l := s :: r) (s := s) List.mem_cons_self
      have h4 := snd_len (hok s (by rw [e]; exact List.mem_cons_self)).1
      omega
  refine ⟨⟨?_, Nat.le_trans (tidyL_len ss) h.l1, fun s hs => (hok s hs).1, tidy_run hne h.sl, by rw [tidy_tidy hne h.ne]; exact h.ne, by omega⟩, by omega, h2, hok⟩
  exact List.length_pos_iff.mpr h.ne
theorem maxL_bound : ∀ {l : List Nat} {b : Nat}, (∀ n ∈ l, n ≤ b) → maxL l ≤ b
  | [], _, _ => Nat.zero_le _
  | n :: r, b, h => Nat.max_le.mpr ⟨h n List.mem_cons_self, maxL_bound fun x hx => h x (List.mem_cons_of_mem _ hx)⟩
end BW
set_option Elab.async false
set_option linter.all false
set_option maxRecDepth 100000
set_option maxHeartbeats 4000000
set_option pp.maxSteps 3000
namespace BW
open PySem PySem.Spec PyProof.Rows L2
open C8 (Cal Met Mak pe_c pe_mk pe_mt pe_mt0 pe_gc sl_txt fnBody fnScope fnArgs)
local macro_rules | `(tactic| walk_at "v") => `(tactic| refine ⟨_, rfl, ?_⟩)
local macro_rules | `(tactic| walk_at "i2") => `(tactic| refine ⟨_, _, rfl, rfl, ?_⟩)
local macro_rules | `(tactic| walk_at "k") => `(tactic| exact (by decide +kernel))
local macro_rules | `(tactic| walk_at "s") => `(tactic| repeat (first | refine ⟨_, rfl, ?_⟩ | refine ⟨_, _, rfl, rfl, ?_⟩ | refine ⟨rfl, ?_⟩ | refine ⟨⟨_, rfl⟩, ?_⟩ | refine iteT ?_ | refine iteF ?_ | refine ⟨_, _, _, _, _, rfl, .ty _, tyI, kit_ty kit_int_int, ?_⟩ | refine ⟨_, _, _, _, _, rfl, .ty _, tyI, kit_ty kit_int_bool, ?_⟩ | refine ⟨_, _, _, _, _, rfl, .ty _, tyS, kit_ty kit_str_str, ?_⟩ | refine ⟨_, _, _, _, _, rfl, .ty _, tyB, kit_ty kit_bool_bool, ?_⟩ | refine ⟨_, _, _, _, _, rfl, by assumption, by assumption, by assumption, rfl, ?_⟩))
local macro_rules | `(tactic| walk_at "o") => `(tactic| repeat (first | refine ⟨_, rfl, ?_⟩ | refine ⟨_, _, rfl, rfl, ?_⟩ | refine ⟨rfl, ?_⟩ | refine ⟨⟨_, rfl⟩, ?_⟩ | refine iteT ?_ | refine iteF ?_ | refine ⟨_, _, _, _, _, rfl, .ty _, tyI, kit_ty kit_int_int, ?_⟩ | refine ⟨_, _, _, _, _, rfl, .ty _, tyI, kit_ty kit_int_bool, ?_⟩ | refine ⟨_, _, _, _, _, rfl, .ty _, tyS, kit_ty kit_str_str, ?_⟩ | refine ⟨_, _, _, _, _, rfl, .ty _, tyB, kit_ty kit_bool_bool, ?_⟩ | refine ⟨_, _, _, _, _, rfl, by assumption, by assumption, by assumption, rfl, ?_⟩ | refine iteDF (by omega) ?_ | refine iteD (by omega) ?_ | refine ⟨_, _, _, rfl, by omega, by omega, ?_⟩ | refine And.intro (by omega) ?_))

open SX (S)
def toldL (t : Tn) : List PyData := [chgsD metD t.ms, chgsD PyData.int t.ks, .list (t.fs.map frmD)] ++ t.vss.map fun ss => PyData.list (ss.map sndD)
def toldD (t : Tn) : PyData := .list (toldL t)
section
variable {P : Program} {w : World} {K : PySem.W.Frag} {mg : Str → Option Value} {base : Heap} {A : Ad}
def sp__law_all_told (K : PySem.W.Frag) (A : Ad) : Sp := fun vs H Q _ => ∃ (G : Hp) (v : V) (t : Tn), vs = [v] ∧ Same G H ∧ TuneAt K A G v t ∧ t.vss.length ≤ 2 ∧ (∀ ss ∈ t.vss, ss.length ≤ 96) ∧ ∀ G' H' z, Grow No G H G' H' → Dp K G' z (toldD t) → Q z H'
theorem ok__law_all_told (T : Txt w K mg A) : Cal P w K mg base 3 "_law_all_told" (sp__law_all_told K A) [] := by
  obtain ⟨f, d⟩ := T.d__law_all_told
  refine cal_of d sc__law_all_told (fun vs H Q E h => ?_) (fun cdv A' outer s H vs Q E hr h => ?_)
  · obtain ⟨G, v, t, rfl, _⟩ := h; rfl
  · obtain ⟨G, v, t, rfl, sm, ta, hv2, h96, q⟩ := h
    have ta2 := ta
    obtain ⟨ad, dx, vm, vk, vv, vb, hv, hob, _⟩ := ta2
    subst hv
    refine ⟨_, (pss_cons (ps_set (i := 1) sc__law_all_told.nd rfl (Or.inl rfl) (pe_lst (pa_cons (pe_mt0 (mt_Tune_metres_told T) hr (by decide) (pv 0)) (pa_cons (pe_mt0 (mt_Tune_keys_told T) hr (by decide) (pv 0)) (pa_cons (pe_mt0 (mt_Tune_frames T) hr (by decide) (pv 0)) pa_nil)))))
    (pss_one (ps_ret (pe_op op_cat (pv 1) (pe_lc (own := [("_law_k", 2)]) (g := (gName 2)) (tt := tYes) (by rfl) sc__law_all_told.nd (pi_range1 (by rfl) T.n_range (pa_cons (pe_mt0 (mt_Tune_many T) hr (by decide) (pv 0)) pa_nil)) (blkOk_by (N := N__law_all_told) (sc := (defScope s__law_all_told)) (by decide +kernel)) (fun _ _ _ _ _ => (pg_name (i := 2) sc__law_all_told.nd rfl (Or.inl rfl))) (fun _ _ _ _ _ => pts_nil) (fun _ _ _ _ _ => (pe_mt (mt_Tune_sounds_told T) hr (by decide) (pv 0) (pa_cons (pe_op op_add (pv 2) pe_int) pa_nil)))))))), ?_⟩
    walk_at "s"
    refine ⟨ad, dx, _, rfl, sm _ _ hob, rfl, ?_⟩
    refine ⟨G, _, t, rfl, sm, ta, fun G1 H1 z1 g1 hz1 => ?_⟩
    have hz1 : Dp K G1 z1 (chgsD metD t.ms) := hz1
    walk_at "s"
    refine ⟨ad, dx, _, rfl, g1.s0 _ _ hob, rfl, ?_⟩
    refine ⟨G1, _, t, rfl, g1.gh, ta.mono g1.gg, fun G2 H2 z2 g2 hz2 => ?_⟩
    have hz2 : Dp K G2 z2 (chgsD PyData.int t.ks) := hz2
    have g12 := g1.tr g2
    walk_at "s"
    refine ⟨ad, dx, _, rfl, g12.s0 _ _ hob, rfl, ?_⟩
    refine ⟨G2, _, t, rfl, g12.gh, ta.mono g12.gg, fun G3 H3 z3 g3 hz3 => ?_⟩
    have hz3 : Dp K G3 z3 (.list (t.fs.map frmD)) := hz3
    have g13 := g12.tr g3
    refine ⟨by show 3 ≤ sizeLine; decide, fun lf hlf => ?_⟩
    have s4 := same_new (o := .lst [z1, z2, z3]) hlf
    have g4 := g13.tr (Grow.of_same g13.gh s4)
    have k4 : (upd H3 lf (.lst [z1, z2, z3])) lf = some (.lst [z1, z2, z3]) := upd_same
    generalize upd H3 lf _ = H4 at g4 k4 ⊢
    have dz : DpAll K G3 [z1, z2, z3] [chgsD metD t.ms, chgsD PyData.int t.ks, .list (t.fs.map frmD)] := .cons (hz1.mono (g2.gg.trans g3.gg)) (.cons (hz2.mono g3.gg) (.cons hz3 .nil))
    walk_at "s"
    refine ⟨ad, dx, _, rfl, g4.s0 _ _ hob, rfl, ?_⟩
    refine ⟨_, t, rfl, ta.mono g4.s0, ?_⟩
    refine ⟨_, rfl, by omega, by omega, fun D hD => ?_⟩
    rw [show ((t.vss.length : Nat) : Int).toNat = t.vss.length from rfl]
    refine lc_pure walk_range hD g4.gh (fun G i v => ∃ ss, t.vss[i]? = some ss ∧ Dp K G v (.list (ss.map sndD))) (by omega) (fun _ _ _ _ e ⟨ss, h1, h2⟩ => ⟨ss, h1, h2.mono e⟩) (fun _ _ _ => trivial) ?_ ?_
    · rintro i v G5 H5 H5' hi g5 ⟨rfl, rfl⟩ Q' hq
      obtain ⟨ss, hss⟩ : ∃ ss, t.vss[i]? = some ss := ⟨t.vss[i], List.getElem?_eq_getElem hi⟩
      refine ⟨rfl, ?_⟩
      walk_at "s"
      refine ⟨ad, dx, _, rfl, (g4.gg.trans g5.s0) _ _ hob, rfl, ?_⟩
      walk_at "s"
      exact ⟨G5, _, t, i, ss, by rw [Int.zero_add]; rfl, g5.gh, ta.mono (g4.gg.trans g5.gg), hss, h96 ss (List.mem_of_getElem? hss), fun G6 H6 z g6 hz => hq _ _ _ g6 ⟨ss, hss, hz⟩⟩
    · intro G5 H5 acc g5 gD eD el er
      refine ⟨lf, D, _, _, rfl, rfl, g5.same _ _ k4, eD, sz (by simp; omega), fun p hp => ?_⟩
      have g6 := (g4.tr g5).immN (o := .lst ([z1, z2, z3] ++ acc)) hp
      have s6 := same_new (o := .lst ([z1, z2, z3] ++ acc)) (g5.gh.free hp)
      refine q _ _ _ g6 (.lstU upd_same ((dz.mono (g5.gg.trans s6)).app (DpAll.of (by rw [List.length_map]; exact el) fun i v hv => ?_)))
      obtain ⟨ss, h1, h2⟩ := er i v hv
      exact ⟨_, by rw [List.getElem?_map, h1]; rfl, h2.mono s6⟩
def sp__law_drawn (K : PySem.W.Frag) : Sp := fun vs H Q _ => ∃ (G : Hp) (a t : Addr) (ns : List Int) (k : Nat), vs = [.ref a, .ref t] ∧ Tp K G H a t ns k ∧ k + 8300 ≤ 800000 ∧
  ∀ (vss : List (List Snd)) (fs : List Frm) G' H' p vv vt vf k', 1 ≤ vss.length → vss.length ≤ 2 → (∀ ss ∈ vss, VoiceOk ss ∧ BW.lens ss ≤ 810) → FrmsOk fs (lastsL (vss.map tidyL)) → Grow (At t) G H G' H' → Tp K G' H' a t ns k' → k' ≤ k + 8300 →
    SqT K G' p [vv, vt, vf] → Dp K G' vv (vossD vss) → (∃ b xs, vt = .ref b ∧ G' b = some (.lst xs) ∧ DpAll K G' xs ((vss.map tidyL).map fun ss => .list (ss.map sndD))) → Dp K G' vf (.list (fs.map frmD)) → Q (.ref p) H'
theorem ok__law_drawn (T : Txt w K mg A) : Cal P w K mg base 5 "_law_drawn" (sp__law_drawn K) [] := by
  obtain ⟨f, d⟩ := T.d__law_drawn
  refine cal_of d sc__law_drawn (fun vs H Q E h => ?_) (fun cdv A' outer s H vs Q E hr h => ?_)
  · obtain ⟨G, a, t, ns, k, rfl, _⟩ := h; rfl
  · obtain ⟨G, a, t, ns, k, rfl, tp, hk, q⟩ := h
    refine ⟨_, (pss_cons (ps_set (i := 2) sc__law_drawn.nd rfl (Or.inl rfl) (pe_c (ok__law_voices T) hr (by decide) rfl (pa_cons (pv 0) (pa_cons (pv 1) (pa_cons (pe_ix ix_list (pe_lst (pa_cons pe_int (pa_cons pe_int (pa_cons pe_int (pa_cons pe_int pa_nil))))) (pe_c (ok__law_draw T) hr (by decide) rfl (pa_cons (pv 0) (pa_cons (pv 1) (pa_cons pe_int pa_nil)))) (fun _ _ => rfl)) pa_nil)))))
    (pss_cons (ps_setLc (i := 3) (own := [("_law_voice_here", 4)]) (g := (gName 4)) (tt := tYes) (by rfl) sc__law_drawn.nd rfl rfl (sw_true rfl rfl rfl (by decide +kernel)) (pi_list (pv 2)) (blkOk_by (N := N__law_drawn) (sc := (defScope s__law_drawn)) (by decide +kernel)) (fun _ _ _ _ _ => (pg_name (i := 4) sc__law_drawn.nd rfl (Or.inl rfl))) (fun _ _ _ _ _ => pts_nil) (fun _ _ _ _ _ => (pe_c (ok__law_tidy T) hr (by decide) rfl (pa_cons (pv 4) pa_nil))))
    (pss_one (ps_ret (pe_tup (pa_cons (pv 2) (pa_cons (pv 3) (pa_cons (pe_c (ok__law_frames T) hr (by decide) rfl (pa_cons (pv 0) (pa_cons (pv 1) (pa_cons (pe_c (ok__law_lasts T) hr (by decide) rfl (pa_cons (pv 3) pa_nil)) pa_nil)))) pa_nil)))))))), ?_⟩
    walk_at "s"
    refine ⟨by show 4 ≤ sizeLine; decide, fun lp hlp => ?_⟩
    have s2 := same_new (o := .lst [.int 200, .int 200, .int 400, .int 780]) hlp
    have tp2 := tp.same s2
    have g2 : Grow (At t) G H G (upd H lp (.lst [.int 200, .int 200, .int 400, .int 780])) := Grow.of_same tp.sm s2
    have k2 : (upd H lp (.lst [.int 200, .int 200, .int 400, .int 780])) lp = some (.lst [.int 200, .int 200, .int 400, .int 780]) := upd_same
    generalize upd H lp _ = H2 at tp2 g2 k2 ⊢
    walk_at "s"
    refine ⟨G, a, t, ns, k, 4, rfl, tp2, by omega, by decide, fun v3 H3 hv3 g3 tp3 => ?_⟩
    have nlt : lp ≠ t := fun z => by rw [z, tp.ht] at hlp; cases hlp
    have k3 := g3.hh _ _ nlt k2
    obtain ⟨c, hc, hc1, hc2⟩ : ∃ c : Nat, [V.int 200, V.int 200, V.int 400, V.int 780][v3]? = some (.int (c : Nat)) ∧ 200 ≤ c ∧ c ≤ 780 := by
      have : v3 = 0 ∨ v3 = 1 ∨ v3 = 2 ∨ v3 = 3 := by omega
      rcases this with rfl | rfl | rfl | rfl
      · exact ⟨200, rfl, by decide, by decide⟩
      · exact ⟨200, rfl, by decide, by decide⟩
      · exact ⟨400, rfl, by decide, by decide⟩
      · exact ⟨780, rfl, by decide, by decide⟩
    refine ⟨_, _, _, _, rfl, rfl, sqlU k3, atI_nat hc, ?_⟩
    have g23 := g2.tt g3 tp2
    refine ⟨G, a, t, ns, k + 1, c, rfl, tp3, by omega, hc1, hc2, fun vss G4 H4 zv k4 hl1 hl2 hvok g4 tp4 hk4 hzv => ?_⟩
    have g24 := g23.tt g4 tp3
    obtain ⟨av, xv, rfl, hlv, rv⟩ := dpL hzv
    have elv := rv.len
    rw [List.length_map] at elv
    walk_at "s"
    refine ⟨⟨_, tp4.sm.seq hlv⟩, fun D hD => ?_⟩
    have ntD := tp4.ne hD
    refine lc_pure walk_list hD tp4.sm (fun G i v => ∃ ss, vss[i]? = some ss ∧ Dp K G v (.list ((tidyL ss).map sndD))) (by omega) (fun _ _ _ _ e ⟨ss, h1, h2⟩ => ⟨ss, h1, h2.mono e⟩) (fun G1 H1 g1 => g1.s0.seq hlv) ?_ ?_
    · rintro i v G5 H5 H5' hi g5 ⟨rfl, hx⟩ Q' hq
      obtain ⟨dd, hdd, hd⟩ := rv.get hx
      rw [List.getElem?_map] at hdd
      cases hss : vss[i]? with
      | none => rw [hss] at hdd; cases hdd
      | some ss =>
      rw [hss] at hdd
      cases hdd
      obtain ⟨vo, _⟩ := hvok ss (List.mem_of_getElem? hss)
      refine ⟨rfl, ?_⟩
      walk_at "s"
      exact ⟨G5, _, ss, rfl, g5.gh, hd.mono g5.gg, (fun e => by have := vo.l0; rw [e] at this; exact absurd this (by decide)), vo.l1, vo.ok, fun G6 H6 z g6 hz => hq _ _ _ g6 ⟨ss, hss, hz⟩⟩
    · intro G5 H5 acc g5 gD eD el er
      have g6 := g5.fix eD hD gD
      have s6 : Same G5 (upd G5 D (.lst acc)) := fun b u e => by rw [upd_ne (ne_of_none e gD)]; exact e
      have kD : (upd G5 D (.lst acc)) D = some (.lst acc) := upd_same
      have dta : DpAll K (upd G5 D (.lst acc)) acc ((vss.map tidyL).map fun ss => .list (ss.map sndD)) := (DpAll.of (by rw [List.length_map, List.length_map]; omega) fun i v hv => by
        obtain ⟨ss, h1, h2⟩ := er i v hv
        exact ⟨.list ((tidyL ss).map sndD), by rw [List.getElem?_map, List.getElem?_map, h1]; rfl, h2.mono s6⟩)
      have dt : Dp K (upd G5 D (.lst acc)) (.ref D) (vossD (vss.map tidyL)) := .lstU kD dta
      have tp6 := tp4.no g6
      have g26 := g24.tt (g6.no (M := At t)) tp4
      have dv6 : Dp K (upd G5 D (.lst acc)) (.ref av) (vossD vss) := hzv.mono (g5.gg.trans s6)
      generalize upd G5 D (.lst acc) = G6 at g6 dt tp6 g26 dv6 kD dta
      have hlast : ∀ n ∈ (vss.map tidyL).map BW.lens, n ≤ 810 := fun n hn => by
        obtain ⟨x, hx, rfl⟩ := List.mem_map.mp hn
        obtain ⟨ss, hss, rfl⟩ := List.mem_map.mp hx
        exact (tidy_ok (hvok ss hss).1 (hvok ss hss).2).2.1
      have hb : lastsL (vss.map tidyL) ≤ 810 := maxL_bound hlast
      obtain ⟨s0, sr, es⟩ : ∃ a b, vss = a :: b := by
        cases vss with
        | nil => exact absurd hl1 (by decide)
        | cons a b => exact ⟨a, b, rfl⟩
      have hpos : 1 ≤ lastsL (vss.map tidyL) := by
        have h1 := (tidy_ok (hvok s0 (by rw [es]; exact List.mem_cons_self)).1 (hvok s0 (by rw [es]; exact List.mem_cons_self)).2).2.2.1
        have h2 : BW.lens (tidyL s0) ≤ lastsL (vss.map tidyL) := maxL_le (List.mem_map.mpr ⟨tidyL s0, List.mem_map.mpr ⟨s0, by rw [es]; exact List.mem_cons_self, rfl⟩, rfl⟩)
        omega
      walk_at "s"
      refine ⟨G6, _, vss.map tidyL, rfl, g6.gh, dt, (fun e => by rw [es] at e; cases e), by rw [List.length_map]; exact hl2, fun ss hs => ?_, fun H7 s7 => ?_⟩
      · obtain ⟨x, hx, rfl⟩ := List.mem_map.mp hs
        exact Nat.le_trans (tidyL_len x) (hvok x hx).1.l1
      have tp7 := tp6.same s7
      refine ⟨G6, a, t, ns, k4, lastsL (vss.map tidyL), rfl, tp7, by omega, hpos, by omega, fun fs G8 H8 zf k8 hfs g8 tp8 hk8 hzf => ?_⟩
      have g28 := (g26.tt (Grow.of_same g26.gh s7) tp6).tt g8 tp7
      refine ⟨by show 3 ≤ sizeLine; decide, fun p hp => ?_⟩
      have ntp := tp8.ne hp
      have s9 := same_new (o := .tup [.ref av, .ref D, zf]) (g28.gh.free hp)
      exact q vss fs _ _ p _ _ _ k8 hl1 hl2 hvok hfs (g28.imm hp fun o _ m => ntp m.symm) (tp8.imm hp) (by omega) (sqtU upd_same) (dv6.mono (g8.gg.trans s9)) ⟨D, acc, rfl, (g8.gg.trans s9) _ _ kD, dta.mono (g8.gg.trans s9)⟩ (hzf.mono s9)
end
end BW
set_option Elab.async false
set_option linter.all false
set_option maxRecDepth 100000
set_option maxHeartbeats 4000000
set_option pp.maxSteps 3000
namespace BW
open PySem PySem.Spec PyProof.Rows L2
open C8 (Cal Met Mak pe_c pe_mk pe_mt pe_mt0 pe_gc sl_txt fnBody fnScope fnArgs)
local macro_rules | `(tactic| walk_at "v") => `(tactic| refine ⟨_, rfl, ?_⟩)
local macro_rules | `(tactic| walk_at "i2") => `(tactic| refine ⟨_, _, rfl, rfl, ?_⟩)
local macro_rules | `(tactic| walk_at "k") => `(tactic| exact (by decide +kernel))
local macro_rules | `(tactic| walk_at "s") => `(tactic| repeat (first | refine ⟨_, rfl, ?_⟩ | refine ⟨_, _, rfl, rfl, ?_⟩ | refine ⟨rfl, ?_⟩ | refine ⟨⟨_, rfl⟩, ?_⟩ | refine iteT ?_ | refine iteF ?_ | refine ⟨_, _, _, _, _, rfl, .ty _, tyI, kit_ty kit_int_int, ?_⟩ | refine ⟨_, _, _, _, _, rfl, .ty _, tyI, kit_ty kit_int_bool, ?_⟩ | refine ⟨_, _, _, _, _, rfl, .ty _, tyS, kit_ty kit_str_str, ?_⟩ | refine ⟨_, _, _, _, _, rfl, .ty _, tyB, kit_ty kit_bool_bool, ?_⟩ | refine ⟨_, _, _, _, _, rfl, by assumption, by assumption, by assumption, rfl, ?_⟩))
local macro_rules | `(tactic| walk_at "o") => `(tactic| repeat (first | refine ⟨_, rfl, ?_⟩ | refine ⟨_, _, rfl, rfl, ?_⟩ | refine ⟨rfl, ?_⟩ | refine ⟨⟨_, rfl⟩, ?_⟩ | refine iteT ?_ | refine iteF ?_ | refine ⟨_, _, _, _, _, rfl, .ty _, tyI, kit_ty kit_int_int, ?_⟩ | refine ⟨_, _, _, _, _, rfl, .ty _, tyI, kit_ty kit_int_bool, ?_⟩ | refine ⟨_, _, _, _, _, rfl, .ty _, tyS, kit_ty kit_str_str, ?_⟩ | refine ⟨_, _, _, _, _, rfl, .ty _, tyB, kit_ty kit_bool_bool, ?_⟩ | refine ⟨_, _, _, _, _, rfl, by assumption, by assumption, by assumption, rfl, ?_⟩ | refine iteDF (by omega) ?_ | refine iteD (by omega) ?_ | refine ⟨_, _, _, rfl, by omega, by omega, ?_⟩ | refine And.intro (by omega) ?_))

open SX (S)
theorem lawAmt1 : lawAmt 1 = amtC := funext fun _ => lawAmt_one
theorem txt_ok {fs : List Frm} {vss : List (List Snd)} {lasts times : Nat} (hf : FrmsOk fs lasts) (ht1 : 1 ≤ times) (ht7 : times ≤ 7) (h2 : vss.length ≤ 2) (hv : ∀ ss ∈ vss, VoiceOk ss ∧ BW.lens ss ≤ 810) : TxtOk (lawAmt times) (allF 0 none none fs) vss where
  ne e := by
    have h := hf.ne
    cases fs with
    | nil => exact h rfl
    | cons f r => rw [allF_cons] at e; cases e
  ch c hc := by
    obtain ⟨a, b, f, hfm, h⟩ := allF_mem fs 0 none none c hc
    have hl := hf.ln
    obtain ⟨i, hi, e⟩ := List.getElem_of_mem hfm
    obtain ⟨_, _, hm, hk1, hk2⟩ := hf.at_ i f (by rw [← e]; exact List.getElem?_eq_getElem hi)
    refine ⟨by omega, by omega, ?_⟩
    rcases h with h | h
    · rw [h]; exact hm
    · rw [h]; exact ⟨hk1, hk2⟩
  ln := by
    have := allF_len fs 0 none none
    have := hf.ln
    omega
  v2 := h2
  sl ss hs := ⟨(hv ss hs).1.l0, (hv ss hs).1.l1⟩
  ok ss hs := (hv ss hs).1.ok
  am ss hs s hm := by
    have h1 := snd_len ((hv ss hs).1.ok s hm)
    have h3 := len_mem hm
    have h4 := (hv ss hs).2
    exact lawAmt_ok ht1 ht7 (by omega) (by omega)
def tnOf (fs : List Frm) (vss : List (List Snd)) : Tn := ⟨metsOf (allF 0 none none fs), keysOf (allF 0 none none fs), vss, fs⟩
theorem tn_ok {fs : List Frm} {vss : List (List Snd)} (hf : FrmsOk fs (lastsL (vss.map tidyL))) (h1 : 1 ≤ vss.length) (h2 : vss.length ≤ 2) (hv : ∀ ss ∈ vss, VoiceOk ss ∧ BW.lens ss ≤ 810) : TnOk (metsOf (allF 0 none none fs)) (keysOf (allF 0 none none fs)) vss fs := by
  obtain ⟨e1, e2⟩ := allF_mets fs 0 none none
  have hch := (txt_ok (times := 1) hf (by decide) (by decide) h2 hv).ch
  have hl := hf.ln
  refine ⟨?_, ?_, fun r hr => (hch _ (mem_ch.1 r hr)).2.2, fun r hr => (hch _ (mem_ch.2 r hr)).2.2, h1, h2, fun ss hs => (hv ss hs).1, ?_⟩
  · rw [e1]
    exact chg_chs (fun _ _ => eqv_metD) (fun _ => ly_met.mono (by decide)) (fun e => hf.ne (List.map_eq_nil_iff.mp e)) (by rw [List.length_map]; exact hl)
  · rw [e2]
    refine chg_chs (fun x y => ?_) (fun _ => Ly.int) (fun e => hf.ne (List.map_eq_nil_iff.mp e)) (by rw [List.length_map]; exact hl)
    rw [PyData.eqv]
    by_cases h : x = y <;> simp [h]
  · rw [e1, e2]
    exact laid_of hf
theorem ly_told {fs : List Frm} {vss : List (List Snd)} (h : ∀ ss ∈ vss, ∀ s ∈ ss, SndOk s) : Ly 8 (toldD (tnOf fs vss)) := by
  refine Ly.list (n := 7) fun d hd => ?_
  rcases List.mem_append.mp hd with hd | hd
  · simp only [List.mem_cons, List.not_mem_nil, or_false] at hd
    rcases hd with rfl | rfl | rfl
    · exact (ly_chgs fun r _ => ly_met.mono (by decide)).mono (by decide)
    · exact (ly_chgs (enc := PyData.int) fun r _ => Ly.int).mono (by decide)
    · exact (Ly.list (n := 4) fun d hd => by
        obtain ⟨f, _, rfl⟩ := List.mem_map.mp hd
        exact ly_frm).mono (by decide)
  · obtain ⟨ss, hss, rfl⟩ := List.mem_map.mp hd
    exact (Ly.list (n := 3) fun d hd => by
      obtain ⟨s, hs, rfl⟩ := List.mem_map.mp hd
      exact ly_snd (sndC_of (h ss hss s hs))).mono (by decide)
theorem join_size {rws : List (List (List Nat))} (h : RowsOk rws) : ((((rws.map (TL.joinL [32])).map S).map (·.length)).sum + ((rws.map (TL.joinL [32])).map S).length * (Str.ofString "\n").length) ≤ 16777216 := by
  rw [SX.lens, List.length_map]
  have : ((rws.map (TL.joinL [32])).map (·.length)).sum ≤ 1000 * (rws.map (TL.joinL [32])).length := sum_le fun x hx => by
    obtain ⟨g, hg, rfl⟩ := List.mem_map.mp hx
    exact (h.ok g hg).ln
  have h3 := h.ln
  rw [List.length_map] at this ⊢
  have e1 : (Str.ofString "\n").length = 1 := by decide +kernel
  rw [e1]
  omega
theorem join_text (rws : List (List (List Nat))) : Txt.join (Str.ofString "\n") ((rws.map (TL.joinL [32])).map S) = S (textC rws) := by
  rw [lit_ "\n" [10] (by decide +kernel), SX.join_S]
  rfl
theorem tidyAll {vss : List (List Snd)} (hv : ∀ ss ∈ vss, VoiceOk ss ∧ BW.lens ss ≤ 810) : (∀ ss ∈ vss.map tidyL, VoiceOk ss ∧ BW.lens ss ≤ 810) ∧ (vss.map tidyL).map tidyL = vss.map tidyL := by
  refine ⟨fun ss hs => ?_, ?_⟩
  · obtain ⟨x, hx, rfl⟩ := List.mem_map.mp hs
    obtain ⟨a, b, _⟩ := tidy_ok (hv x hx).1 (hv x hx).2
    exact ⟨a, b⟩
  · rw [List.map_map]
    refine List.map_congr_left fun ss hs => ?_
    have h := (hv ss hs).1
    exact tidy_tidy (fun e => by have := h.l0; rw [e] at this; exact absurd this (by decide)) h.ne
section
variable {K : PySem.W.Frag} {A : Ad}
theorem read_ok {G H : Hp} {fs : List Frm} {vss : List (List Snd)} {times : Nat} {Q : VK} {E : XK} (sm : Same G H) (hf : FrmsOk fs (lastsL (vss.map tidyL))) (ht1 : 1 ≤ times) (ht7 : times ≤ 7) (h1 : 1 ≤ vss.length) (h2 : vss.length ≤ 2) (hv : ∀ ss ∈ vss, VoiceOk ss ∧ BW.lens ss ≤ 810)
    (q : ∀ G' H' z, Grow No G H G' H' → TuneAt K A G' z (tnOf fs (vss.map tidyL)) → Q z H') : sp_read_tune K A [.str (S (textC (rowsW (lawAmt times) (allF 0 none none fs) vss)))] H Q E := by
  have tn := tn_ok hf h1 h2 hv
  have tx := txt_ok hf ht1 ht7 h2 hv
  have hp := allF_lt fs 0 none none
  unfold tnOf at q
  cases fs with
  | nil => exact absurd rfl hf.ne
  | cons f r =>
    rw [allF_cons] at tn tx hp q ⊢
    exact ⟨G, _, f.met, f.key, allF 1 (some f.met) (some f.key) r, vss, f :: r, rfl, sm, textW_of tx (fun c hc => (allF_mem r 1 _ _ c hc).1) hp, tn, q⟩
theorem text_ok {G H : Hp} {v : V} {fs : List Frm} {vss : List (List Snd)} {lasts : Nat} {Q : VK} {E : XK} (sm : Same G H) (ta : TuneAt K A G v (tnOf fs vss)) (hf : FrmsOk fs lasts) (h2 : vss.length ≤ 2) (hv : ∀ ss ∈ vss, VoiceOk ss ∧ BW.lens ss ≤ 810)
    (q : ∀ H', Same H H' → Q (.str (S (textC (rowsW (lawAmt 1) (allF 0 none none fs) vss)))) H') : sp_tune_text K A [v] H Q E := by
  have tx := txt_ok (times := 1) hf (by decide) (by decide) h2 hv
  rw [lawAmt1] at tx q
  exact ⟨G, v, tnOf fs vss, allF 0 none none fs, rfl, sm, ta, rfl, rfl, allF_lt fs 0 none none, tx, q⟩
theorem told_ok {G H : Hp} {v : V} {fs : List Frm} {vss : List (List Snd)} {Q : VK} {E : XK} (sm : Same G H) (ta : TuneAt K A G v (tnOf fs vss)) (h2 : vss.length ≤ 2) (hv : ∀ ss ∈ vss, VoiceOk ss ∧ BW.lens ss ≤ 810)
    (q : ∀ G' H' z, Grow No G H G' H' → Dp K G' z (toldD (tnOf fs vss)) → Q z H') : sp__law_all_told K A [v] H Q E :=
  ⟨G, v, tnOf fs vss, rfl, sm, ta, h2, fun ss hs => (hv ss hs).1.l1, q⟩
theorem rows_ok {G H : Hp} {vf vv : V} {fs : List Frm} {vss : List (List Snd)} {times lasts : Nat} {Q : VK} {E : XK} (sm : Same G H) (df : Dp K G vf (.list (fs.map frmD))) (dv : Dp K G vv (vossD vss)) (hf : FrmsOk fs lasts) (ht1 : 1 ≤ times) (ht7 : times ≤ 7) (h2 : vss.length ≤ 2) (hv : ∀ ss ∈ vss, VoiceOk ss ∧ BW.lens ss ≤ 810)
    (q : ∀ H' p, Same H H' → H' p = some (.lst (rowT (rowsW (lawAmt times) (allF 0 none none fs) vss))) → Q (.ref p) H') : sp__law_rows K [vf, vv, .int times] H Q E :=
  ⟨G, vf, vv, fs, vss, times, rfl, sm, df, dv, hf.ne, hf.ln, fun f hm => by
    obtain ⟨i, hi, e⟩ := List.getElem_of_mem hm
    obtain ⟨_, _, a, b, c⟩ := hf.at_ i f (by rw [← e]; exact List.getElem?_eq_getElem hi)
    exact ⟨a, b, c⟩, ht1, ht7, h2, fun ss hs => ⟨(hv ss hs).1.l1, fun s hm => ⟨(hv ss hs).1.ok s hm, by have := len_mem hm; have := (hv ss hs).2; omega⟩⟩, q⟩
theorem chm_ok {G H : Hp} {vf : V} {fs : List Frm} {lasts : Nat} {Q : VK} {E : XK} (sm : Same G H) (df : Dp K G vf (.list (fs.map frmD))) (hf : FrmsOk fs lasts)
    (q : ∀ G' H' z, Grow No G H G' H' → Dp K G' z (chgsD metD (metsOf (allF 0 none none fs))) → Q z H') : sp__law_changes K [vf, .int 1] H Q E := by
  rw [(allF_mets fs 0 none none).1] at q
  refine ⟨G, vf, fs, 1, Met, inferInstance, metD, (·.met), rfl, sm, df, hf.ln, fun G' x f hd => ?_, fun _ => ly_met.mono (by decide), fun _ _ => eqv_metD, q⟩
  obtain ⟨ta, x1, x2, x3, rfl, htt, r1, r2, r3⟩ := dpT3 hd
  exact ⟨ta, _, x2, rfl, htt, atI_1, r2⟩
theorem chk_ok {G H : Hp} {vf : V} {fs : List Frm} {lasts : Nat} {Q : VK} {E : XK} (sm : Same G H) (df : Dp K G vf (.list (fs.map frmD))) (hf : FrmsOk fs lasts)
    (q : ∀ G' H' z, Grow No G H G' H' → Dp K G' z (chgsD PyData.int (keysOf (allF 0 none none fs))) → Q z H') : sp__law_changes K [vf, .int 2] H Q E := by
  rw [(allF_mets fs 0 none none).2] at q
  refine ⟨G, vf, fs, 2, Int, inferInstance, PyData.int, (·.key), rfl, sm, df, hf.ln, fun G' x f hd => ?_, fun _ => Ly.int, fun x y => ?_, q⟩
  · obtain ⟨ta, x1, x2, x3, rfl, htt, r1, r2, r3⟩ := dpT3 hd
    exact ⟨ta, _, x3, rfl, htt, atI_2, r3⟩
  · rw [PyData.eqv]
    by_cases h : x = y <;> simp [h]
end
end BW
set_option Elab.async false
set_option linter.all false
set_option maxRecDepth 100000
set_option maxHeartbeats 4000000
set_option pp.maxSteps 3000
namespace BW
open PySem PySem.Spec PyProof.Rows L2
open C8 (Cal Met Mak pe_c pe_mk pe_mt pe_mt0 pe_gc sl_txt fnBody fnScope fnArgs)
local macro_rules | `(tactic| walk_at "v") => `(tactic| refine ⟨_, rfl, ?_⟩)
local macro_rules | `(tactic| walk_at "i2") => `(tactic| refine ⟨_, _, rfl, rfl, ?_⟩)
local macro_rules | `(tactic| walk_at "k") => `(tactic| exact (by decide +kernel))
local macro_rules | `(tactic| walk_at "s") => `(tactic| repeat (first | refine ⟨_, rfl, ?_⟩ | refine ⟨_, _, rfl, rfl, ?_⟩ | refine ⟨rfl, ?_⟩ | refine ⟨⟨_, rfl⟩, ?_⟩ | refine iteT ?_ | refine iteF ?_ | refine ⟨_, _, _, _, _, rfl, .ty _, tyI, kit_ty kit_int_int, ?_⟩ | refine ⟨_, _, _, _, _, rfl, .ty _, tyI, kit_ty kit_int_bool, ?_⟩ | refine ⟨_, _, _, _, _, rfl, .ty _, tyS, kit_ty kit_str_str, ?_⟩ | refine ⟨_, _, _, _, _, rfl, .ty _, tyB, kit_ty kit_bool_bool, ?_⟩ | refine ⟨_, _, _, _, _, rfl, by assumption, by assumption, by assumption, rfl, ?_⟩))
local macro_rules | `(tactic| walk_at "o") => `(tactic| repeat (first | refine ⟨_, rfl, ?_⟩ | refine ⟨_, _, rfl, rfl, ?_⟩ | refine ⟨rfl, ?_⟩ | refine ⟨⟨_, rfl⟩, ?_⟩ | refine iteT ?_ | refine iteF ?_ | refine ⟨_, _, _, _, _, rfl, .ty _, tyI, kit_ty kit_int_int, ?_⟩ | refine ⟨_, _, _, _, _, rfl, .ty _, tyI, kit_ty kit_int_bool, ?_⟩ | refine ⟨_, _, _, _, _, rfl, .ty _, tyS, kit_ty kit_str_str, ?_⟩ | refine ⟨_, _, _, _, _, rfl, .ty _, tyB, kit_ty kit_bool_bool, ?_⟩ | refine ⟨_, _, _, _, _, rfl, by assumption, by assumption, by assumption, rfl, ?_⟩ | refine iteDF (by omega) ?_ | refine iteD (by omega) ?_ | refine ⟨_, _, _, rfl, by omega, by omega, ?_⟩ | refine And.intro (by omega) ?_))

open SX (S)
theorem st_eq {i : Nat} {v : V} {σ σ' : L2.St} {H : Hp} {Q : L2.St → Hp → Prop} (h : σ.set i (some v) = σ') (q : Q σ' H) : gName i v σ H Q := by
  show Q (σ.set i (some v)) H
  rw [h]
  exact q
theorem read_parts {fs : List Frm} {vss : List (List Snd)} {times : Nat} (hf : FrmsOk fs (lastsL (vss.map tidyL))) (ht1 : 1 ≤ times) (ht7 : times ≤ 7) (h1 : 1 ≤ vss.length) (h2 : vss.length ≤ 2) (hv : ∀ ss ∈ vss, VoiceOk ss ∧ BW.lens ss ≤ 810) :
    ∃ m0 k0 ch, allF 0 none none fs = (1, .met m0) :: (1, .key k0) :: ch ∧ TextW (rowsW (lawAmt times) (allF 0 none none fs) vss) m0 k0 ch vss ∧ TnOk (metsOf ((1, .met m0) :: (1, .key k0) :: ch)) (keysOf ((1, .met m0) :: (1, .key k0) :: ch)) vss fs := by
  have tn := tn_ok hf h1 h2 hv
  have tx := txt_ok hf ht1 ht7 h2 hv
  have hp := allF_lt fs 0 none none
  cases fs with
  | nil => exact absurd rfl hf.ne
  | cons f r =>
    rw [allF_cons] at tn tx hp ⊢
    exact ⟨f.met, f.key, allF 1 (some f.met) (some f.key) r, rfl, textW_of tx (fun c hc => (allF_mem r 1 _ _ c hc).1) hp, tn⟩
theorem frs_ok {fs : List Frm} {lasts : Nat} (hf : FrmsOk fs lasts) : ∀ f ∈ fs, MetOk f.met ∧ -7 ≤ f.key ∧ f.key ≤ 7 := fun f hm => by
  obtain ⟨i, hi, e⟩ := List.getElem_of_mem hm
  obtain ⟨_, _, a, b, c⟩ := hf.at_ i f (by rw [← e]; exact List.getElem?_eq_getElem hi)
  exact ⟨a, b, c⟩
theorem vs_ok {vss : List (List Snd)} (hv : ∀ ss ∈ vss, VoiceOk ss ∧ BW.lens ss ≤ 810) : ∀ ss ∈ vss, ss.length ≤ 96 ∧ ∀ s ∈ ss, SndOk s ∧ s.len < 1000 := fun ss hs => ⟨(hv ss hs).1.l1, fun s hm => ⟨(hv ss hs).1.ok s hm, by have := len_mem hm; have := (hv ss hs).2; omega⟩⟩
theorem sel_met {K : PySem.W.Frag} : ∀ G' x f, Dp K G' x (frmD f) → ∃ a xs z, x = .ref a ∧ SqT K G' a xs ∧ atI xs ((1 : Nat) : Int) = some z ∧ Dp K G' z (metD f.met) := fun G' x f hd => by
  obtain ⟨ta, x1, x2, x3, rfl, htt, r1, r2, r3⟩ := dpT3 hd
  exact ⟨ta, _, x2, rfl, htt, atI_1, r2⟩
theorem sel_key {K : PySem.W.Frag} : ∀ G' x f, Dp K G' x (frmD f) → ∃ a xs z, x = .ref a ∧ SqT K G' a xs ∧ atI xs ((2 : Nat) : Int) = some z ∧ Dp K G' z (PyData.int f.key) := fun G' x f hd => by
  obtain ⟨ta, x1, x2, x3, rfl, htt, r1, r2, r3⟩ := dpT3 hd
  exact ⟨ta, _, x3, rfl, htt, atI_2, r3⟩
theorem eqv_int2 : ∀ x y : Int, PyData.eqv (.int x) (.int y) = decide (x = y) := fun x y => by
  rw [PyData.eqv]
  by_cases h : x = y <;> simp [h]
section
variable {P : Program} {w : World} {K : PySem.W.Frag} {mg : Str → Option Value} {base : Heap} {A : Ad}
def sp_law (K : PySem.W.Frag) : Sp := fun vs H Q _ => ∃ (a : Addr) (ns : List Int), vs = [.ref a] ∧ SqL K H a (ns.map V.int) ∧ ns.length ≤ 63 ∧ ∀ H', Q (.bl true) H'
set_option maxHeartbeats 0 in
theorem body_law (T : Txt w K mg A) {f : Addr} {cdv : Value} {A' : Around} {outer : List Env} {s : Shared} {H : Hp} {vs : List V} {Q : VK} {E : XK} (hr : Room 10 (A'.deeper (envOfC "law" (fnScope s_law) s.heap.objs.size f cdv))) (h : sp_law K vs H Q E) :
    ∃ t, PSs (cxOf C8.CX0 P w K mg base N_law "law" (fnScope s_law) f cdv A' outer s H E).nox (fnBody s_law) t ∧ t { nx := fun _ H' => Q .non H', rt := Q } (start N_law vs) H := by
  obtain ⟨a, ns, rfl, hsc, hnl, q⟩ := h
  refine ⟨_, (pss_cons (ps_set (i := 1) sc_law.nd rfl (Or.inl rfl) (pe_lst (pa_cons pe_int pa_nil)))
    (pss_cons (ps_asg (pe_c (ok__law_drawn T) hr (by decide) rfl (pa_cons (pv 0) (pa_cons (pv 1) pa_nil))) (pg_tup rfl (pgs_cons (pg_name (i := 2) sc_law.nd rfl (Or.inl rfl)) (pgs_cons (pg_name (i := 3) sc_law.nd rfl (Or.inl rfl)) (pgs_cons (pg_name (i := 4) sc_law.nd rfl (Or.inl rfl)) pgs_nil)))))
    (pss_cons (ps_set (i := 5) sc_law.nd rfl (Or.inl rfl) (pe_ix ix_list (pe_lst (pa_cons pe_int (pa_cons pe_int (pa_cons pe_int (pa_cons pe_int (pa_cons pe_int (pa_cons pe_int pa_nil))))))) (pe_c (ok__law_draw T) hr (by decide) rfl (pa_cons (pv 0) (pa_cons (pv 1) (pa_cons pe_int pa_nil)))) (fun _ _ => rfl)))
    (pss_cons (ps_set (i := 6) sc_law.nd rfl (Or.inl rfl) (pe_op op_cat (pe_lst (pa_cons (pe_c (ok__law_changes T) hr (by decide) rfl (pa_cons (pv 4) (pa_cons pe_int pa_nil))) (pa_cons (pe_c (ok__law_changes T) hr (by decide) rfl (pa_cons (pv 4) (pa_cons pe_int pa_nil))) (pa_cons (pv 4) pa_nil)))) (pv 3)))
    (pss_cons (ps_set (i := 7) sc_law.nd rfl (Or.inl rfl) (pe_join pe_str (pe_c (ok__law_rows T) hr (by decide) rfl (pa_cons (pv 4) (pa_cons (pv 3) (pa_cons pe_int pa_nil))))))
    (pss_cons (ps_set (i := 8) sc_law.nd rfl (Or.inr rfl) (pe_c (ok_read_tune T) hr (by decide) rfl (pa_cons (pe_join pe_str (pe_c (ok__law_rows T) hr (by decide) rfl (pa_cons (pv 4) (pa_cons (pv 2) (pa_cons (pv 5) pa_nil))))) pa_nil)))
    (pss_cons (ps_if (pt_cmpR (op_neD hr.units) (pe_c (ok__law_all_told T) hr (by decide) rfl (pa_cons (pv 8) pa_nil)) (pv 6) (nomark _)) (pss_one (ps_ret pe_bl)) pss_nil)
    (pss_cons (ps_asg (pe_c (ok__law_drawn T) hr (by decide) rfl (pa_cons (pv 0) (pa_cons (pv 1) pa_nil))) (pg_tup rfl (pgs_cons (pg_name (i := 9) sc_law.nd rfl (Or.inl rfl)) (pgs_cons (pg_name (i := 10) sc_law.nd rfl (Or.inl rfl)) (pgs_cons (pg_name (i := 11) sc_law.nd rfl (Or.inl rfl)) pgs_nil)))))
    (pss_cons (ps_set (i := 12) sc_law.nd rfl (Or.inl rfl) (pe_c (ok_read_tune T) hr (by decide) rfl (pa_cons (pe_join pe_str (pe_c (ok__law_rows T) hr (by decide) rfl (pa_cons (pv 11) (pa_cons (pv 9) (pa_cons pe_int pa_nil))))) pa_nil)))
    (pss_cons (ps_if (pt_cmpR op_ne (pe_c (ok_tune_text T) hr (by decide) rfl (pa_cons (pv 12) pa_nil)) (pe_join pe_str (pe_c (ok__law_rows T) hr (by decide) rfl (pa_cons (pv 11) (pa_cons (pv 10) (pa_cons pe_int pa_nil))))) (nomark _)) (pss_one (ps_ret pe_bl)) pss_nil)
    (pss_cons (ps_set (i := 13) sc_law.nd rfl (Or.inl rfl) (pe_c (ok_tune_text T) hr (by decide) rfl (pa_cons (pv 8) pa_nil)))
    (pss_cons (ps_if (PW.pt (pw_or (pt_not (pt_val (pe_callB call_isi (by rfl) T.n_isinstance boot_isinstance_ (pa_cons (pv 13) (pa_cons (pe_ty (by rfl) T.n_str boot_str_) pa_nil))))) (pw_or1 (pt_cmpR op_ne (pv 13) (pv 7) (nomark _))))) (pss_one (ps_ret pe_bl)) pss_nil)
    (pss_cons (ps_set (i := 14) sc_law.nd rfl (Or.inl rfl) (pe_c (ok_read_tune T) hr (by decide) rfl (pa_cons (pv 13) pa_nil)))
    (pss_cons (ps_if (PW.pt (pw_or (pt_cmpR (op_neD hr.units) (pe_c (ok__law_all_told T) hr (by decide) rfl (pa_cons (pv 14) pa_nil)) (pv 6) (nomark _)) (pw_or1 (pt_cmpR op_ne (pe_c (ok_tune_text T) hr (by decide) rfl (pa_cons (pv 14) pa_nil)) (pv 7) (nomark _))))) (pss_one (ps_ret pe_bl)) pss_nil)
    (pss_cons (ps_set (i := 15) sc_law.nd rfl (Or.inl rfl) (pe_mk (mk_Tune T) hr (by decide) rfl (pa_cons (pe_mt0 (mt_Tune_metres_told T) hr (by decide) (pv 8)) (pa_cons (pe_mt0 (mt_Tune_keys_told T) hr (by decide) (pv 8)) (pa_cons (pe_lc (own := [("_law_k", 16)]) (g := (gName 16)) (tt := tYes) (by rfl) sc_law.nd (pi_range1 (by rfl) T.n_range (pa_cons (pe_callB call_len_seq (by rfl) T.n_len boot_len_ (pa_cons (pv 3) pa_nil)) pa_nil)) (blkOk_by (N := N_law) (sc := (defScope s_law)) (by decide +kernel)) (fun _ _ _ _ _ => (pg_name (i := 16) sc_law.nd rfl (Or.inl rfl))) (fun _ _ _ _ _ => pts_nil) (fun _ _ _ _ _ => (pe_mt (mt_Tune_sounds_told T) hr (by decide) (pv 8) (pa_cons (pe_op op_add (pv 16) pe_int) pa_nil)))) pa_nil)))))
    (pss_one (ps_ret (pe_and (pe_cmpR op_eq (pe_c (ok_tune_text T) hr (by decide) rfl (pa_cons (pv 15) pa_nil)) (pv 7) (nomark _)) (pe_one (pe_cmpR (op_eqD hr.units) (pe_c (ok__law_all_told T) hr (by decide) rfl (pa_cons (pv 8) pa_nil)) (pv 6) (nomark _))))))))))))))))))))), ?_⟩
  refine ⟨by show 1 ≤ sizeLine; decide, fun t ht => ?_⟩
  have s0 := same_new (o := .lst [.int 0]) ht
  have tp0 : Tp K H (upd H t (.lst [.int 0])) a t ns 0 := ⟨s0, hsc, hnl, ht, upd_same⟩
  generalize upd H t (.lst [.int 0]) = H0 at tp0 ⊢
  walk_at "s"
  refine ⟨H, a, t, ns, 0, rfl, tp0, by omega, fun vss fs G1 H1 p1 vv vt vf k1 hl1 hl2 hvok hfs g1 tp1 hk1 hp1 dv1 ⟨at1, xt1, evt, kt1, dt1⟩ df1 => ?_⟩
  subst evt
  obtain ⟨hvt, htt⟩ := tidyAll hvok
  refine ⟨p1, _, rfl, sqT_mono g1.gh hp1, rfl, _, _, rfl, _, _, rfl, _, _, rfl, rfl, ?_⟩
  walk_at "s"
  refine ⟨by show 6 ≤ sizeLine; decide, fun lp hlp => ?_⟩
  have s2 := same_new (o := .lst [.int 1, .int 1, .int 2, .int 3, .int 5, .int 7]) hlp
  have tp2 := tp1.same s2
  have k2 : (upd H1 lp (.lst [.int 1, .int 1, .int 2, .int 3, .int 5, .int 7])) lp = some (.lst [.int 1, .int 1, .int 2, .int 3, .int 5, .int 7]) := upd_same
  generalize upd H1 lp _ = H2 at tp2 k2 ⊢
  walk_at "s"
  refine ⟨G1, a, t, ns, k1, 6, rfl, tp2, by omega, by decide, fun v3 H3 hv3 g3 tp3 => ?_⟩
  have nlt : lp ≠ t := fun z => by rw [z, tp1.ht] at hlp; cases hlp
  have k3 := g3.hh _ _ nlt k2
  obtain ⟨c, hc, hc1, hc2⟩ : ∃ c : Nat, [V.int 1, V.int 1, V.int 2, V.int 3, V.int 5, V.int 7][v3]? = some (.int (c : Nat)) ∧ 1 ≤ c ∧ c ≤ 7 := by
    have : v3 = 0 ∨ v3 = 1 ∨ v3 = 2 ∨ v3 = 3 ∨ v3 = 4 ∨ v3 = 5 := by omega
    rcases this with rfl | rfl | rfl | rfl | rfl | rfl
    · exact ⟨1, rfl, by decide, by decide⟩
    · exact ⟨1, rfl, by decide, by decide⟩
    · exact ⟨2, rfl, by decide, by decide⟩
    · exact ⟨3, rfl, by decide, by decide⟩
    · exact ⟨5, rfl, by decide, by decide⟩
    · exact ⟨7, rfl, by decide, by decide⟩
  refine ⟨_, _, _, _, rfl, rfl, sqlU k3, atI_nat hc, ?_⟩
  clear k2 k3 hc hv3 tp2
  walk_at "s"
  refine ⟨G1, vf, fs, 1, Met, inferInstance, metD, (·.met), rfl, tp3.sm, df1, hfs.ln, sel_met, fun _ => ly_met.mono (by decide), fun _ _ => eqv_metD, fun G4 H4 z4 g4 hz4 => ?_⟩
  have hz4 : Dp K G4 z4 (chgsD metD (metsOf (allF 0 none none fs))) := by rw [(allF_mets fs 0 none none).1]; exact hz4
  have tp4 := tp3.no g4
  walk_at "s"
  refine ⟨G4, vf, fs, 2, Int, inferInstance, PyData.int, (·.key), rfl, tp4.sm, df1.mono g4.gg, hfs.ln, sel_key, fun _ => Ly.int, eqv_int2, fun G5 H5 z5 g5 hz5 => ?_⟩
  have hz5 : Dp K G5 z5 (chgsD PyData.int (keysOf (allF 0 none none fs))) := by rw [(allF_mets fs 0 none none).2]; exact hz5
  have tp5 := tp4.no g5
  have g45 := g4.gg.trans g5.gg
  walk_at "s"
  refine ⟨by show 3 ≤ sizeLine; decide, fun ld hld => ?_⟩
  have s6 := same_new (o := .lst [z4, z5, vf]) hld
  have tp6 := tp5.same s6
  have k6 : (upd H5 ld (.lst [z4, z5, vf])) ld = some (.lst [z4, z5, vf]) := upd_same
  generalize upd H5 ld _ = H6 at tp6 k6 ⊢
  have dz : DpAll K G5 [z4, z5, vf] [chgsD metD (metsOf (allF 0 none none fs)), chgsD PyData.int (keysOf (allF 0 none none fs)), .list (fs.map frmD)] := .cons (hz4.mono g5.gg) (.cons hz5 (.cons (df1.mono g45) .nil))
  have kt5 := g45 _ _ kt1
  have dt5 := dt1.mono g45
  walk_at "s"
  refine ⟨ld, at1, _, _, rfl, rfl, k6, tp6.sm _ _ kt5, sz (by have := dt1.len; rw [List.length_map, List.length_map] at this; simp; omega), fun pd hpd => ?_⟩
  have tp7 := tp6.imm (o := .lst ([z4, z5, vf] ++ xt1)) hpd
  have s7 := same_new (o := .lst ([z4, z5, vf] ++ xt1)) (tp6.sm.free hpd)
  have due : Dp K (upd G5 pd (.lst ([z4, z5, vf] ++ xt1))) (.ref pd) (toldD (tnOf fs (vss.map tidyL))) := .lstU upd_same ((dz.app dt5).mono s7)
  have df7 := df1.mono (g45.trans s7)
  have dv7 := dv1.mono (g45.trans s7)
  have dt7 : Dp K (upd G5 pd (.lst ([z4, z5, vf] ++ xt1))) (.ref at1) (vossD (vss.map tidyL)) := .lstU (s7 _ _ kt5) (dt5.mono s7)
  have kt7 := s7 _ _ kt5
  generalize upd G5 pd _ = G7 at tp7 due df7 dv7 dt7 kt7
  generalize upd H6 pd _ = H7 at tp7 ⊢
  clear dz k6 dt5 kt5
  have hl2t : (vss.map tidyL).length ≤ 2 := by rw [List.length_map]; exact hl2
  have hl1t : 1 ≤ (vss.map tidyL).length := by rw [List.length_map]; exact hl1
  have hfst : FrmsOk fs (lastsL ((vss.map tidyL).map tidyL)) := by rw [htt]; exact hfs
  have okT := rowsW_ok (txt_ok (times := 1) hfs (by decide) (by decide) hl2t hvt)
  refine st_eq (σ' := [some (.ref a), some (.ref t), some vv, some (.ref at1), some vf, some (.int c), some (.ref pd), none, none, none, none, none, none, none, none, none, none]) rfl ?_
  walk_at "s"
  refine ⟨_, _, _, fs, vss.map tidyL, 1, rfl, tp7.sm, df7, dt7, hfs.ne, hfs.ln, frs_ok hfs, (by decide), (by decide), hl2t, vs_ok hvt, fun H8 p8 s8 e8 => ?_⟩
  have tp8 := tp7.same s8
  refine ⟨_, p8, _, rfl, rfl, .inl (sqlU e8), join_size okT, ?_⟩
  rw [join_text, lawAmt1]
  walk_at "s"
  refine ⟨_, _, _, fs, vss, c, rfl, tp8.sm, df7, dv7, hfs.ne, hfs.ln, frs_ok hfs, hc1, hc2, hl2, vs_ok hvok, fun H9 p9 s9 e9 => ?_⟩
  have tp9 := tp8.same s9
  refine ⟨_, p9, _, rfl, rfl, .inl (sqlU e9), join_size (rowsW_ok (txt_ok (times := c) hfs hc1 hc2 hl2 hvok)), ?_⟩
  rw [join_text]
  obtain ⟨m0H10, k0H10, chH10, eallH10, twH10, tnH10⟩ := read_parts (times := c) hfs hc1 hc2 hl1 hl2 hvok
  refine ⟨_, _, m0H10, k0H10, chH10, vss, fs, rfl, tp9.sm, twH10, tnH10, fun G10 H10 zt g10 ta10 => ?_⟩
  rw [← eallH10] at ta10
  have tp10 := tp9.no g10
  refine st_eq (σ' := [some (.ref a), some (.ref t), some vv, some (.ref at1), some vf, some (.int c), some (.ref pd), some (.str (S (textC (rowsW amtC (allF 0 none none fs) (vss.map tidyL))))), some zt, none, none, none, none, none, none, none, none]) rfl ?_
  walk_at "s"
  refine ⟨_, _, tnOf fs (vss.map tidyL), rfl, tp10.sm, ta10, hl2t, fun ss hs => (hvt ss hs).1.l1, fun G11 H11 z11 g11 hz11 => ?_⟩
  have tp11 := tp10.no g11
  have lyd := ly_told (fs := fs) (vss := vss.map tidyL) fun ss hs => (hvt ss hs).1.ok
  have due11 := due.mono (g10.gg.trans g11.gg)
  walk_at "s"
  refine ⟨_, _, hz11.mono tp11.sm, due11.mono tp11.sm, lyd.shaped (by decide), lyd.shaped (by decide), ?_⟩
  rw [lyd.refl]
  walk_at "s"
  have ta11 := ta10.mono g11.gg
  refine ⟨G11, a, t, ns, k1 + 1, rfl, tp11, by omega, fun vss2 fs2 G12 H12 p12 vv2 vt2 vf2 k12 hl12 hl22 hvok2 hfs2 g12 tp12 hk12 hp12 dv12 ⟨at2, xt2, evt2, kt12, dt12⟩ df12 => ?_⟩
  subst evt2
  obtain ⟨hvt2, htt2⟩ := tidyAll hvok2
  have hl2t2 : (vss2.map tidyL).length ≤ 2 := by rw [List.length_map]; exact hl22
  have due12 := due11.mono g12.gg
  have ta12 := ta11.mono g12.gg
  have dtid2 : Dp K G12 (.ref at2) (vossD (vss2.map tidyL)) := .lstU kt12 dt12
  refine ⟨p12, _, rfl, sqT_mono g12.gh hp12, rfl, _, _, rfl, _, _, rfl, _, _, rfl, rfl, ?_⟩
  walk_at "s"
  refine ⟨_, _, _, fs2, vss2, 1, rfl, tp12.sm, df12, dv12, hfs2.ne, hfs2.ln, frs_ok hfs2, (by decide), (by decide), hl22, vs_ok hvok2, fun H13 p13 s13 e13 => ?_⟩
  have tp13 := tp12.same s13
  refine ⟨_, p13, _, rfl, rfl, .inl (sqlU e13), join_size (rowsW_ok (txt_ok (times := 1) hfs2 (by decide) (by decide) hl22 hvok2)), ?_⟩
  rw [join_text]
  obtain ⟨m0H14, k0H14, chH14, eallH14, twH14, tnH14⟩ := read_parts (times := 1) hfs2 (by decide) (by decide) hl12 hl22 hvok2
  refine ⟨_, _, m0H14, k0H14, chH14, vss2, fs2, rfl, tp13.sm, twH14, tnH14, fun G14 H14 zo g14 ta14 => ?_⟩
  rw [← eallH14] at ta14
  have tp14 := tp13.no g14
  refine st_eq (σ' := [some (.ref a), some (.ref t), some vv, some (.ref at1), some vf, some (.int c), some (.ref pd), some (.str (S (textC (rowsW amtC (allF 0 none none fs) (vss.map tidyL))))), some zt, some vv2, some (.ref at2), some vf2, some zo, none, none, none, none]) rfl ?_
  walk_at "s"
  refine ⟨_, _, tnOf fs2 (vss2.map tidyL), allF 0 none none fs2, rfl, tp14.sm, ta14, rfl, rfl, allF_lt _ _ _ _, lawAmt1 ▸ txt_ok (times := 1) hfs2 (by decide) (by decide) hl2t2 hvt2, fun H15 s15 => ?_⟩
  have tp15 := tp14.same s15
  walk_at "s"
  refine ⟨_, _, _, fs2, vss2.map tidyL, 1, rfl, tp15.sm, (df12.mono g14.gg), (dtid2.mono g14.gg), hfs2.ne, hfs2.ln, frs_ok hfs2, (by decide), (by decide), hl2t2, vs_ok hvt2, fun H16 p16 s16 e16 => ?_⟩
  have tp16 := tp15.same s16
  refine ⟨_, p16, _, rfl, rfl, .inl (sqlU e16), join_size (rowsW_ok (txt_ok (times := 1) hfs2 (by decide) (by decide) hl2t2 hvt2)), ?_⟩
  rw [join_text, lawAmt1]
  refine ⟨rfl, _, rfl, iteN rfl ?_⟩
  have due14 := due12.mono g14.gg
  have ta14' := ta12.mono g14.gg
  walk_at "s"
  refine ⟨_, _, tnOf fs (vss.map tidyL), allF 0 none none fs, rfl, tp16.sm, ta14', rfl, rfl, allF_lt _ _ _ _, lawAmt1 ▸ txt_ok (times := 1) hfs (by decide) (by decide) hl2t hvt, fun H17 s17 => ?_⟩
  have tp17 := tp16.same s17
  walk_at "s"
  refine iteN rfl ?_
  walk_at "s"
  obtain ⟨m0H18, k0H18, chH18, eallH18, twH18, tnH18⟩ := read_parts (times := 1) hfst (by decide) (by decide) hl1t hl2t hvt
  rw [lawAmt1] at twH18
  refine ⟨_, _, m0H18, k0H18, chH18, vss.map tidyL, fs, rfl, tp17.sm, twH18, tnH18, fun G18 H18 za g18 ta18 => ?_⟩
  rw [← eallH18] at ta18
  rw [htt] at ta18
  have tp18 := tp17.no g18
  walk_at "s"
  refine ⟨_, _, tnOf fs (vss.map tidyL), rfl, tp18.sm, ta18, hl2t, fun ss hs => (hvt ss hs).1.l1, fun G19 H19 z19 g19 hz19 => ?_⟩
  have tp19 := tp18.no g19
  have due19 := due14.mono (g18.gg.trans g19.gg)
  walk_at "s"
  refine ⟨_, _, hz19.mono tp19.sm, due19.mono tp19.sm, lyd.shaped (by decide), lyd.shaped (by decide), ?_⟩
  rw [lyd.refl]
  walk_at "s"
  refine ⟨_, _, tnOf fs (vss.map tidyL), allF 0 none none fs, rfl, tp19.sm, (ta18.mono g19.gg), rfl, rfl, allF_lt _ _ _ _, lawAmt1 ▸ txt_ok (times := 1) hfs (by decide) (by decide) hl2t hvt, fun H20 s20 => ?_⟩
  have tp20 := tp19.same s20
  walk_at "s"
  refine iteN rfl ?_
  have ta20 := ta14'.mono (g18.gg.trans g19.gg)
  have ta20' := ta20
  obtain ⟨ad, dx, vm, vk, vv', vb, eta, hob, _⟩ := ta20'
  subst eta
  walk_at "s"
  refine ⟨ad, dx, _, rfl, tp20.sm _ _ hob, rfl, ?_⟩
  refine ⟨G19, _, tnOf fs (vss.map tidyL), rfl, tp20.sm, ta20, fun G21 H21 z21 g21 hz21 => ?_⟩
  have hz21 : Dp K G21 z21 (chgsD metD (metsOf (allF 0 none none fs))) := hz21
  have tp21 := tp20.no g21
  walk_at "s"
  refine ⟨ad, dx, _, rfl, (g21.gg.trans tp21.sm) _ _ hob, rfl, ?_⟩
  refine ⟨G21, _, tnOf fs (vss.map tidyL), rfl, tp21.sm, ta20.mono g21.gg, fun G22 H22 z22 g22 hz22 => ?_⟩
  have hz22 : Dp K G22 z22 (chgsD PyData.int (keysOf (allF 0 none none fs))) := hz22
  have tp22 := tp21.no g22
  have kt22 := (g10.gg.trans (g11.gg.trans (g12.gg.trans (g14.gg.trans (g18.gg.trans (g19.gg.trans (g21.gg.trans g22.gg))))))) _ _ kt7
  have hob22 := (g21.gg.trans g22.gg) _ _ hob
  have ta22 := ta20.mono (g21.gg.trans g22.gg)
  have elt : xt1.length = (vss.map tidyL).length := by have := dt1.len; rw [List.length_map] at this; exact this
  walk_at "s"
  refine ⟨_, _, rfl, .inl (sqlU (tp22.sm _ _ kt22)), ?_⟩
  rw [elt]
  refine ⟨_, rfl, by omega, by omega, fun D hD => ?_⟩
  rw [show (((vss.map tidyL).length : Nat) : Int).toNat = (vss.map tidyL).length from rfl]
  refine lc_pure walk_range hD tp22.sm (fun G i v => ∃ ss, (vss.map tidyL)[i]? = some ss ∧ Dp K G v (.list (ss.map sndD))) (by omega) (fun _ _ _ _ e ⟨ss, h1, h2⟩ => ⟨ss, h1, h2.mono e⟩) (fun _ _ _ => trivial) ?_ ?_
  · rintro i v G23 H23 H23' hi g23 ⟨rfl, rfl⟩ Q' hq
    obtain ⟨ss, hss⟩ : ∃ ss, (vss.map tidyL)[i]? = some ss := ⟨(vss.map tidyL)[i], List.getElem?_eq_getElem hi⟩
    refine ⟨rfl, ?_⟩
    walk_at "s"
    refine ⟨ad, dx, _, rfl, g23.s0 _ _ hob22, rfl, ?_⟩
    walk_at "s"
    exact ⟨G23, _, tnOf fs (vss.map tidyL), i, ss, by rw [Int.zero_add]; rfl, g23.gh, ta22.mono g23.gg, hss, (hvt ss (List.mem_of_getElem? hss)).1.l1, fun G24 H24 z g24 hz => hq _ _ _ g24 ⟨ss, hss, hz⟩⟩
  · intro G23 H23 acc g23 gD eD el er
    have g24 := g23.fix eD hD gD
    have s24 : Same G23 (upd G23 D (.lst acc)) := fun b u e => by rw [upd_ne (ne_of_none e gD)]; exact e
    have dvv : Dp K (upd G23 D (.lst acc)) (.ref D) (vossD (vss.map tidyL)) := .lstU upd_same (DpAll.of (by rw [List.length_map]; exact el) fun i v hv => by
      obtain ⟨ss, h1, h2⟩ := er i v hv
      exact ⟨_, by rw [List.getElem?_map, h1]; rfl, h2.mono s24⟩)
    have tp24 := tp22.no g24
    have s2224 := g24.gg
    generalize upd G23 D (.lst acc) = G24 at g24 dvv tp24 s2224
    have hz21' := hz21.mono (g22.gg.trans s2224)
    have hz22' := hz22.mono s2224
    have ta24 := ta22.mono s2224
    have due24 := due19.mono (g21.gg.trans (g22.gg.trans s2224))
    walk_at "s"
    intro x dx2 nx ndx2 ne2
    have g25 : Grow No G24 H23 G24 (upd H23 dx2 (.own x)) := (Grow.refl tp24.sm).put (tp24.sm.free ndx2) (.inl ndx2)
    have g26 := g25.put (o := .ins A.cTune dx2 []) (tp24.sm.free nx) (.inl nx)
    refine ⟨G24, x, dx2, z21, z22, .ref D, _, _, vss.map tidyL, fs, rfl, g26.gh, tp24.sm.free nx, upd_same, hz21', hz22', dvv, tn_ok hfst hl1t hl2t hvt, fun G27 H27 vm7 vk7 vv7 vb7 g27 gx27 ex27 d1 d2 d3 d4 => ⟨rfl, ?_⟩⟩
    rw [htt] at d3
    have g28 := g26.trD g27 nx ⟨_, upd_same⟩
    obtain ⟨g29, ta29⟩ := TuneAt.mk (K := K) (A := A) (t := tnOf fs (vss.map tidyL)) g28 nx gx27 ex27 d1 d2 d3 d4
    have tp29 := tp24.no g29
    generalize upd G27 x _ = G29 at g29 ta29 tp29
    walk_at "s"
    refine ⟨_, _, tnOf fs (vss.map tidyL), allF 0 none none fs, rfl, tp29.sm, ta29, rfl, rfl, allF_lt _ _ _ _, lawAmt1 ▸ txt_ok (times := 1) hfs (by decide) (by decide) hl2t hvt, fun H30 s30 => ?_⟩
    have tp30 := tp29.same s30
    walk_at "s"
    refine iteD rfl ?_
    walk_at "s"
    refine ⟨_, _, tnOf fs (vss.map tidyL), rfl, tp30.sm, ta24.mono g29.gg, hl2t, fun ss hs => (hvt ss hs).1.l1, fun G31 H31 z31 g31 hz31 => ?_⟩
    have tp31 := tp30.no g31
    walk_at "s"
    refine ⟨_, _, hz31.mono tp31.sm, (due24.mono (g29.gg.trans g31.gg)).mono tp31.sm, lyd.shaped (by decide), lyd.shaped (by decide), ?_⟩
    rw [lyd.refl]
    exact q _
end
end BW
set_option Elab.async false
open PySem PySem.W PyProof.Rows
set_option maxRecDepth 100000
set_option maxHeartbeats 0
open_top BWhead for PySem.Challenge.rw_barwright_k10_whole_texts_of_tunes
set_option Elab.async false
set_option linter.all false
set_option maxRecDepth 100000
set_option maxHeartbeats 4000000
set_option pp.maxSteps 300
namespace BW
open PySem PySem.Spec PyProof.Rows L2
open C8 (Cal Met Mak fnBody fnScope fnArgs)

theorem leans_mk {w : World} {K : PySem.W.Frag} {d : Addr} {es : Array DictEntry} {n : Nat} {t0 t1 t2 t3 t4 : Tok} (a : K.lookup d = some ⟨.type "dict", none, .dict es n, #[]⟩) (b : PySem.W.KeysLit w.params es.toList) (c : (d == sysModules) = false)
    (e0 : PySem.W.nsIn K d "--" = some (some (.int (-2) t0))) (e1 : PySem.W.nsIn K d "-" = some (some (.int (-1) t1))) (e2 : PySem.W.nsIn K d "" = some (some (.int 0 t2))) (e3 : PySem.W.nsIn K d "+" = some (some (.int 1 t3))) (e4 : PySem.W.nsIn K d "++" = some (some (.int 2 t4))) : KGet K w "LEANS" d leansT := by
  refine ⟨es, n, ⟨a, b, c⟩, fun z r h => ?_⟩
  unfold leansT at h
  split at h
  · rename_i q; subst q; cases h; exact ⟨_, e0, t0, rfl⟩
  · split at h
    · rename_i q; subst q; cases h; exact ⟨_, e1, t1, rfl⟩
    · split at h
      · rename_i q; subst q; cases h; exact ⟨_, e2, t2, rfl⟩
      · split at h
        · rename_i q; subst q; cases h; exact ⟨_, e3, t3, rfl⟩
        · split at h
          · rename_i q; subst q; cases h; exact ⟨_, e4, t4, rfl⟩
          · cases h
theorem litX {p : Params} {x0 x1 x2 x3 x4 : Str} {t0 t1 t2 t3 t4 : Tok} {v0 v1 v2 v3 v4 : Value} {h0 h1 h2 h3 h4 : Int} (e0 : h0 = PyData.keyHash p x0 := by rfl) (e1 : h1 = PyData.keyHash p x1 := by rfl) (e2 : h2 = PyData.keyHash p x2 := by rfl) (e3 : h3 = PyData.keyHash p x3 := by rfl) (e4 : h4 = PyData.keyHash p x4 := by rfl) :
    PySem.W.KeysLit p [⟨h0, .str x0 t0, v0⟩, ⟨h1, .str x1 t1, v1⟩, ⟨h2, .str x2 t2, v2⟩, ⟨h3, .str x3 t3, v3⟩, ⟨h4, .str x4 t4, v4⟩] :=
  ⟨⟨_, _, rfl, e0⟩, ⟨_, _, rfl, e1⟩, ⟨_, _, rfl, e2⟩, ⟨_, _, rfl, e3⟩, ⟨_, _, rfl, e4⟩, trivial⟩
theorem kit_self {K : PySem.W.Frag} {C : Addr} : PySem.W.kitOne K (.ref C) (.ref C) = some true := if_pos (beq_self_eq_true _)
theorem kit_no {K : PySem.W.Frag} {C D : Addr} {b : Bool} (n : (Value.ref D == Value.ref C) = false) (i : PySem.W.isClsIn K C = true) (t : PySem.W.typeIn K (.ref C) = some (.type "type")) (s : PySem.W.subIn K (.ref D) (.ref C) = some b) : PySem.W.kitOne K (.ref D) (.ref C) = some b := by
  have i' : (PySem.W.clsIn K C).isSome = true := i
  have t' : (PySem.W.typeIn K (.ref C) == some (.type "type")) = true := by rw [t]; exact beq_self_eq_true _
  unfold PySem.W.kitOne PySem.W.kitCls
  rw [if_neg (by rw [n]; decide)]
  show (if ((PySem.W.clsIn K C).isSome && PySem.W.typeIn K (.ref C) == some (.type "type")) = true then PySem.W.subIn K (.ref D) (.ref C) else none) = some b
  rw [i', t']
  exact s
theorem clsF_mk {K : PySem.W.Frag} {C f : Addr} {mc : Value} {oc : Value} {od an : Option Addr} {osl : Array (Option Value)} {kV doc pm cdv ct : Value} (a : PySem.W.readsIn K C mc = true) (b : PySem.W.specialIn K (.ref C) "__getattribute__" = some (some (.builtin "type.__getattribute__")))
    (c : PySem.W.findCls K (.ref C) mc "__init__" = some (.val (.ref f))) (k : PySem.W.keepIn K (.ref f) = true)
    (l : K.lookup f = some ⟨oc, od, .func (PySem.W.fnOf "__init__" "Sound.__init__" (C8.fnArgs s_Sound___init__) (C8.fnBody s_Sound___init__) (C8.fnScope s_Sound___init__) .none kV doc pm an cdv ct), osl⟩) (cd : PySem.W.codeIn K cdv "Sound.__init__" = true)
    (bb : ∀ us : List Value, us.length = P_Sound___init__.length → bindArgs (PySem.W.fnOf "__init__" "Sound.__init__" (C8.fnArgs s_Sound___init__) (C8.fnBody s_Sound___init__) (C8.fnScope s_Sound___init__) .none kV doc pm an cdv ct) ⟨us, []⟩ = pure (P_Sound___init__.zip us)) :
    ∃ (mc : Value) (f : Addr) (fd : FuncData), ClX.CRead K C mc ∧ ClX.CVal K C mc "__init__" (.ref f) (.ref f) ∧ PySem.W.keepIn K (.ref f) = true ∧ C8.Fun K "__init__" "Sound.__init__" s_Sound___init__ f fd ∧ Binds K fd P_Sound___init__ [] :=
  ⟨mc, f, _, ⟨a, b⟩, ⟨c, rfl⟩, k, funX l cd, bindsX (f := f) (oc := oc) (od := od) (osl := osl) bb⟩
abbrev lawLevel : Nat := 11
theorem fin {P : Program} {w : World} {K : PySem.W.Frag} {h : Heap} {mg : Str → Option Value} {fa f cSound cRest cTones cTune cRows dLEANS fmetre_of fkey_of fis_metre fis_key : Addr} {oc : Value} {od an : Option Addr} {osl : Array (Option Value)} {kV doc pm cdv ct : Value} (X : K.In h) (G : h.Ns mainGlobals mg) (hfa : mg "law" = some (.ref fa))
    (a : PySem.W.nsIn K mainGlobals "law" = some (some (.ref f))) (l : K.lookup f = some ⟨oc, od, .func (PySem.W.fnOf "law" "law" (fnArgs s_law) (fnBody s_law) (fnScope s_law) .none kV doc pm an cdv ct), osl⟩) (c : PySem.W.codeIn K cdv "law" = true) (k : PySem.W.keepIn K (.ref f) = true)
    (b : ∀ (s : Shared) (v : Value), BindsTo s (PySem.W.fnOf "law" "law" (fnArgs s_law) (fnBody s_law) (fnScope s_law) .none kV doc pm an cdv ct) ⟨[v], []⟩ [("_law_script", v)]) (aSound : PySem.W.nsIn K mainGlobals "Sound" = some (some (.ref cSound))) (aRest : PySem.W.nsIn K mainGlobals "Rest" = some (some (.ref cRest))) (aTones : PySem.W.nsIn K mainGlobals "Tones" = some (some (.ref cTones))) (aTune : PySem.W.nsIn K mainGlobals "Tune" = some (some (.ref cTune))) (aRows : PySem.W.nsIn K mainGlobals "Rows" = some (some (.ref cRows))) (aLEANS : PySem.W.nsIn K mainGlobals "LEANS" = some (some (.ref dLEANS))) (ametre_of : PySem.W.nsIn K mainGlobals "metre_of" = some (some (.ref fmetre_of))) (akey_of : PySem.W.nsIn K mainGlobals "key_of" = some (some (.ref fkey_of))) (ais_metre : PySem.W.nsIn K mainGlobals "is_metre" = some (some (.ref fis_metre))) (ais_key : PySem.W.nsIn K mainGlobals "is_key" = some (some (.ref fis_key))) (T : Txt w K mg ⟨cSound, cRest, cTones, cTune, cRows, dLEANS, fmetre_of, fkey_of, fis_metre, fis_key⟩) :
    ∃ fd : FuncData, (∀ (s : Shared) (v : Value), BindsTo s fd ⟨[v], []⟩ [("_law_script", v)]) ∧ ∀ base : Heap, K.In base → base.Ns mainGlobals mg → FnOk P w K mg base C8.CX0 lawLevel fa fd ["_law_script"] (sp_law K) := by
  have hf := PySem.W.mg_of X G a
  rw [hfa] at hf
  cases hf
  exact ⟨_, b, fun base _ _ => C8.fn0 (funX l c) sc_law (fun vs H Q E h => by obtain ⟨a, ns, rfl, _⟩ := h; rfl) (fun cdv A' outer s H vs Q E hr h => body_law T hr h)⟩
end BW
open PySem PySem.W PyProof.Rows
set_option maxHeartbeats 0 in
theorem PySem.Challenge.cw_barwright_k10_whole_texts_of_tunes_holds : PySem.Challenge.rw_barwright_k10_whole_texts_of_tunes.Holds :=
  BWhead (by
  k_fill
  refine L2.walk_of (l := PySem.Challenge.rw_barwright_k10_whole_texts_of_tunes) (n := 63) (k := BW.lawLevel) (x := "_law_script") (CX := fun _ => C8.CX0) (sp := fun w => BW.sp_law _) rfl (by decide) rfl ⟨rfl, by decide, by decide⟩ (fun w h Y => PySem.W.kIn_of Y) ?F (fun _ _ a ns hl _ hS => ⟨a, ns, rfl, hS, hl, fun _ => rfl⟩) (fun _ _ _ _ _ h => h)
  case F =>
    intro w mg fa h KX G hmg
    refine' BW.fin KX G hmg ?a ?l ?c ?k (fun _ _ => .of_eq rfl) ?aSound ?aRest ?aTones ?aTune ?aRows ?aLEANS ?ametre_of ?akey_of ?ais_metre ?ais_key ?T
    (case a => k_is); (case l => k_is); (case c => k_is); (case k => k_is)
    (case aSound => k_is)
    (case aRest => k_is)
    (case aTones => k_is)
    (case aTune => k_is)
    (case aRows => k_is)
    (case aLEANS => k_is)
    (case ametre_of => k_is)
    (case akey_of => k_is)
    (case ais_metre => k_is)
    (case ais_key => k_is)
    case T =>
      refine' BW.Txt.mk ?n_isinstance ?n_int ?n_bool ?n_str ?n_tuple ?n_list ?n_len ?n_all ?n_sum ?n_max ?n_range ?n_zip ?n_enumerate ?n_divmod ?n_sorted ?c_FIGURES ?c_SYLLABLE ?c_MOST_FIGURES ?c_MOST_LETTERS ?c_GRAINS ?c_MOST_GRAINS ?c_STEPS ?c_OCTAVES ?c_MOST_LEAN ?c_MOST_OCTAVE ?c_MOST_KEY ?c_MOST_TOP ?c_MOST_BAR ?c_LEAST_LENGTH ?c_MOST_TONE ?c_MOST_REST ?c_MOST_PITCHES ?c_MOST_SOUNDS ?c_MOST_BARS ?c_MOST_VOICES ?c_LEANS ?leans ?v_Sound ?v_Rest ?v_Tones ?v_metre_of ?v_key_of ?v_is_metre ?v_is_key ?d_is_whole ?d_is_among ?d_is_made_of ?d_number_of ?d_number_text ?d_is_syllable ?d_words_of ?d_common ?d_pair_of ?d_amount_text ?d_grains_of ?d_is_pitch ?d_pitch_of ?d_lean_text ?d_pitch_text ?d_line ?d_is_key ?d_bar_grains ?d_is_metre ?d_metre_of ?d_metre_text ?d_are_pitches ?d_is_rest ?d_is_tones ?d_sound_of ?d_need_slurs ?d_tidied ?d_voice_of ?d_need_changes ?d_last_at ?d_laid ?d_key_of ?d_told_by ?d_change_by ?d_signs_by ?d_sound_by ?d_voice_by ?d_read_tune ?d_sound_row ?d_tune_text ?d__law_draw ?d__law_metre ?d__law_pitches ?d__law_syllable ?d__law_length ?d__law_voice ?d__law_tidy ?d__law_lasts ?d__law_frames ?d__law_changes ?d__law_voices ?d__law_amount ?d__law_row ?d__law_metre_text ?d__law_rows ?d__law_all_told ?d__law_drawn ?d_law ?o_Rest ?o_Tones ?o_Tune ?o_Rows ?no_Rest_length ?no_Tones_length ?no_Tones_pitches ?no_Tones_word ?no_Tones_opens ?no_Tones_closes ?no_Tune_by_metre ?no_Tune_by_key ?no_Tune_voices ?no_Tune_bars ?no_Rows_rows ?no_Rows_place ?k_Rest_Rest ?k_Rest_Tones ?k_Tones_Rest ?k_Tones_Tones ?m_Rest_told ?m_Tones_told ?m_Tune_metres_told ?m_Tune_keys_told ?m_Tune_sounds_told ?m_Tune_many ?m_Tune_lasts ?m_Tune_frames ?m_Rows_is_over ?m_Rows_next_words ?m_Rows_begins ?m_Rows_step ?i_Rest ?i_Tones ?i_Tune ?i_Rows ?f_Sound
      case n_isinstance => exact PySem.W.mg_none_of KX G (by k_is)
      case n_int => exact PySem.W.mg_none_of KX G (by k_is)
      case n_bool => exact PySem.W.mg_none_of KX G (by k_is)
      case n_str => exact PySem.W.mg_none_of KX G (by k_is)
      case n_tuple => exact PySem.W.mg_none_of KX G (by k_is)
      case n_list => exact PySem.W.mg_none_of KX G (by k_is)
      case n_len => exact PySem.W.mg_none_of KX G (by k_is)
      case n_all => exact PySem.W.mg_none_of KX G (by k_is)
      case n_sum => exact PySem.W.mg_none_of KX G (by k_is)
      case n_max => exact PySem.W.mg_none_of KX G (by k_is)
      case n_range => exact PySem.W.mg_none_of KX G (by k_is)
      case n_zip => exact PySem.W.mg_none_of KX G (by k_is)
      case n_enumerate => exact PySem.W.mg_none_of KX G (by k_is)
      case n_divmod => exact PySem.W.mg_none_of KX G (by k_is)
      case n_sorted => exact PySem.W.mg_none_of KX G (by k_is)
      case c_FIGURES => exact BW.conS KX G (by k_is)
      case c_SYLLABLE => exact BW.conS KX G (by k_is)
      case c_MOST_FIGURES => exact BW.conI KX G (by k_is)
      case c_MOST_LETTERS => exact BW.conI KX G (by k_is)
      case c_GRAINS => exact BW.conI KX G (by k_is)
      case c_MOST_GRAINS => exact BW.conI KX G (by k_is)
      case c_STEPS => exact BW.conS KX G (by k_is)
      case c_OCTAVES => exact BW.conS KX G (by k_is)
      case c_MOST_LEAN => exact BW.conI KX G (by k_is)
      case c_MOST_OCTAVE => exact BW.conI KX G (by k_is)
      case c_MOST_KEY => exact BW.conI KX G (by k_is)
      case c_MOST_TOP => exact BW.conI KX G (by k_is)
      case c_MOST_BAR => exact BW.conI KX G (by k_is)
      case c_LEAST_LENGTH => exact BW.conI KX G (by k_is)
      case c_MOST_TONE => exact BW.conI KX G (by k_is)
      case c_MOST_REST => exact BW.conI KX G (by k_is)
      case c_MOST_PITCHES => exact BW.conI KX G (by k_is)
      case c_MOST_SOUNDS => exact BW.conI KX G (by k_is)
      case c_MOST_BARS => exact BW.conI KX G (by k_is)
      case c_MOST_VOICES => exact BW.conI KX G (by k_is)
      case c_LEANS => exact BW.conR KX G (by k_is)
      case leans => (refine' BW.leans_mk ?a ?b ?c ?e0 ?e1 ?e2 ?e3 ?e4; (case a => k_is); (case b => exact BW.litX); (case c => rfl); (case e0 => k_is); (case e1 => k_is); (case e2 => k_is); (case e3 => k_is); (case e4 => k_is))
      case v_Sound => exact BW.conR KX G (by k_is)
      case v_Rest => exact BW.conR KX G (by k_is)
      case v_Tones => exact BW.conR KX G (by k_is)
      case v_metre_of => exact BW.conR KX G (by k_is)
      case v_key_of => exact BW.conR KX G (by k_is)
      case v_is_metre => exact BW.conR KX G (by k_is)
      case v_is_key => exact BW.conR KX G (by k_is)
      case d_is_whole => (refine' ⟨_, BW.defX_mk KX G ?a ?l ?c ?k ?b⟩; (case a => k_is); (case l => k_is); (case c => k_is); (case k => k_is); (case b => exact fun us hl => match us, hl with | [_], _ => rfl))
      case d_is_among => (refine' ⟨_, BW.defX_mk KX G ?a ?l ?c ?k ?b⟩; (case a => k_is); (case l => k_is); (case c => k_is); (case k => k_is); (case b => exact fun us hl => match us, hl with | [_, _, _], _ => rfl))
      case d_is_made_of => (refine' ⟨_, BW.defX_mk KX G ?a ?l ?c ?k ?b⟩; (case a => k_is); (case l => k_is); (case c => k_is); (case k => k_is); (case b => exact fun us hl => match us, hl with | [_, _, _], _ => rfl))
      case d_number_of => (refine' ⟨_, BW.defX_mk KX G ?a ?l ?c ?k ?b⟩; (case a => k_is); (case l => k_is); (case c => k_is); (case k => k_is); (case b => exact fun us hl => match us, hl with | [_], _ => rfl))
      case d_number_text => (refine' ⟨_, BW.defX_mk KX G ?a ?l ?c ?k ?b⟩; (case a => k_is); (case l => k_is); (case c => k_is); (case k => k_is); (case b => exact fun us hl => match us, hl with | [_], _ => rfl))
      case d_is_syllable => (refine' ⟨_, BW.defX_mk KX G ?a ?l ?c ?k ?b⟩; (case a => k_is); (case l => k_is); (case c => k_is); (case k => k_is); (case b => exact fun us hl => match us, hl with | [_], _ => rfl))
      case d_words_of => (refine' ⟨_, BW.defX_mk KX G ?a ?l ?c ?k ?b⟩; (case a => k_is); (case l => k_is); (case c => k_is); (case k => k_is); (case b => exact fun us hl => match us, hl with | [_], _ => rfl))
      case d_common => (refine' ⟨_, BW.defX_mk KX G ?a ?l ?c ?k ?b⟩; (case a => k_is); (case l => k_is); (case c => k_is); (case k => k_is); (case b => exact fun us hl => match us, hl with | [_, _], _ => rfl))
      case d_pair_of => (refine' ⟨_, BW.defX_mk KX G ?a ?l ?c ?k ?b⟩; (case a => k_is); (case l => k_is); (case c => k_is); (case k => k_is); (case b => exact fun us hl => match us, hl with | [_], _ => rfl))
      case d_amount_text => (refine' ⟨_, BW.defX_mk KX G ?a ?l ?c ?k ?b⟩; (case a => k_is); (case l => k_is); (case c => k_is); (case k => k_is); (case b => exact fun us hl => match us, hl with | [_], _ => rfl))
      case d_grains_of => (refine' ⟨_, BW.defX_mk KX G ?a ?l ?c ?k ?b⟩; (case a => k_is); (case l => k_is); (case c => k_is); (case k => k_is); (case b => exact fun us hl => match us, hl with | [_], _ => rfl))
      case d_is_pitch => (refine' ⟨_, BW.defX_mk KX G ?a ?l ?c ?k ?b⟩; (case a => k_is); (case l => k_is); (case c => k_is); (case k => k_is); (case b => exact fun us hl => match us, hl with | [_], _ => rfl))
      case d_pitch_of => (refine' ⟨_, BW.defX_mk KX G ?a ?l ?c ?k ?b⟩; (case a => k_is); (case l => k_is); (case c => k_is); (case k => k_is); (case b => exact fun us hl => match us, hl with | [_], _ => rfl))
      case d_lean_text => (refine' ⟨_, BW.defX_mk KX G ?a ?l ?c ?k ?b⟩; (case a => k_is); (case l => k_is); (case c => k_is); (case k => k_is); (case b => exact fun us hl => match us, hl with | [_], _ => rfl))
      case d_pitch_text => (refine' ⟨_, BW.defX_mk KX G ?a ?l ?c ?k ?b⟩; (case a => k_is); (case l => k_is); (case c => k_is); (case k => k_is); (case b => exact fun us hl => match us, hl with | [_], _ => rfl))
      case d_line => (refine' ⟨_, BW.defX_mk KX G ?a ?l ?c ?k ?b⟩; (case a => k_is); (case l => k_is); (case c => k_is); (case k => k_is); (case b => exact fun us hl => match us, hl with | [_], _ => rfl))
      case d_is_key => (refine' BW.defX_mk KX G ?a ?l ?c ?k ?b; (case a => k_is); (case l => k_is); (case c => k_is); (case k => k_is); (case b => exact fun us hl => match us, hl with | [_], _ => rfl))
      case d_bar_grains => (refine' ⟨_, BW.defX_mk KX G ?a ?l ?c ?k ?b⟩; (case a => k_is); (case l => k_is); (case c => k_is); (case k => k_is); (case b => exact fun us hl => match us, hl with | [_], _ => rfl))
      case d_is_metre => (refine' BW.defX_mk KX G ?a ?l ?c ?k ?b; (case a => k_is); (case l => k_is); (case c => k_is); (case k => k_is); (case b => exact fun us hl => match us, hl with | [_], _ => rfl))
      case d_metre_of => (refine' BW.defX_mk KX G ?a ?l ?c ?k ?b; (case a => k_is); (case l => k_is); (case c => k_is); (case k => k_is); (case b => exact fun us hl => match us, hl with | [_], _ => rfl))
      case d_metre_text => (refine' ⟨_, BW.defX_mk KX G ?a ?l ?c ?k ?b⟩; (case a => k_is); (case l => k_is); (case c => k_is); (case k => k_is); (case b => exact fun us hl => match us, hl with | [_], _ => rfl))
      case d_are_pitches => (refine' ⟨_, BW.defX_mk KX G ?a ?l ?c ?k ?b⟩; (case a => k_is); (case l => k_is); (case c => k_is); (case k => k_is); (case b => exact fun us hl => match us, hl with | [_], _ => rfl))
      case d_is_rest => (refine' ⟨_, BW.defX_mk KX G ?a ?l ?c ?k ?b⟩; (case a => k_is); (case l => k_is); (case c => k_is); (case k => k_is); (case b => exact fun us hl => match us, hl with | [_], _ => rfl))
      case d_is_tones => (refine' ⟨_, BW.defX_mk KX G ?a ?l ?c ?k ?b⟩; (case a => k_is); (case l => k_is); (case c => k_is); (case k => k_is); (case b => exact fun us hl => match us, hl with | [_], _ => rfl))
      case d_sound_of => (refine' ⟨_, BW.defX_mk KX G ?a ?l ?c ?k ?b⟩; (case a => k_is); (case l => k_is); (case c => k_is); (case k => k_is); (case b => exact fun us hl => match us, hl with | [_], _ => rfl))
      case d_need_slurs => (refine' ⟨_, BW.defX_mk KX G ?a ?l ?c ?k ?b⟩; (case a => k_is); (case l => k_is); (case c => k_is); (case k => k_is); (case b => exact fun us hl => match us, hl with | [_], _ => rfl))
      case d_tidied => (refine' ⟨_, BW.defX_mk KX G ?a ?l ?c ?k ?b⟩; (case a => k_is); (case l => k_is); (case c => k_is); (case k => k_is); (case b => exact fun us hl => match us, hl with | [_], _ => rfl))
      case d_voice_of => (refine' ⟨_, BW.defX_mk KX G ?a ?l ?c ?k ?b⟩; (case a => k_is); (case l => k_is); (case c => k_is); (case k => k_is); (case b => exact fun us hl => match us, hl with | [_], _ => rfl))
      case d_need_changes => (refine' ⟨_, BW.defX_mk KX G ?a ?l ?c ?k ?b⟩; (case a => k_is); (case l => k_is); (case c => k_is); (case k => k_is); (case b => exact fun us hl => match us, hl with | [_, _], _ => rfl))
      case d_last_at => (refine' ⟨_, BW.defX_mk KX G ?a ?l ?c ?k ?b⟩; (case a => k_is); (case l => k_is); (case c => k_is); (case k => k_is); (case b => exact fun us hl => match us, hl with | [_, _], _ => rfl))
      case d_laid => (refine' ⟨_, BW.defX_mk KX G ?a ?l ?c ?k ?b⟩; (case a => k_is); (case l => k_is); (case c => k_is); (case k => k_is); (case b => exact fun us hl => match us, hl with | [_, _, _], _ => rfl))
      case d_key_of => (refine' BW.defX_mk KX G ?a ?l ?c ?k ?b; (case a => k_is); (case l => k_is); (case c => k_is); (case k => k_is); (case b => exact fun us hl => match us, hl with | [_], _ => rfl))
      case d_told_by => (refine' ⟨_, BW.defX_mk KX G ?a ?l ?c ?k ?b⟩; (case a => k_is); (case l => k_is); (case c => k_is); (case k => k_is); (case b => exact fun us hl => match us, hl with | [_, _, _], _ => rfl))
      case d_change_by => (refine' ⟨_, BW.defX_mk KX G ?a ?l ?c ?k ?b⟩; (case a => k_is); (case l => k_is); (case c => k_is); (case k => k_is); (case b => exact fun us hl => match us, hl with | [_, _], _ => rfl))
      case d_signs_by => (refine' ⟨_, BW.defX_mk KX G ?a ?l ?c ?k ?b⟩; (case a => k_is); (case l => k_is); (case c => k_is); (case k => k_is); (case b => exact fun us hl => match us, hl with | [_, _], _ => rfl))
      case d_sound_by => (refine' ⟨_, BW.defX_mk KX G ?a ?l ?c ?k ?b⟩; (case a => k_is); (case l => k_is); (case c => k_is); (case k => k_is); (case b => exact fun us hl => match us, hl with | [_], _ => rfl))
      case d_voice_by => (refine' ⟨_, BW.defX_mk KX G ?a ?l ?c ?k ?b⟩; (case a => k_is); (case l => k_is); (case c => k_is); (case k => k_is); (case b => exact fun us hl => match us, hl with | [_], _ => rfl))
      case d_read_tune => (refine' ⟨_, BW.defX_mk KX G ?a ?l ?c ?k ?b⟩; (case a => k_is); (case l => k_is); (case c => k_is); (case k => k_is); (case b => exact fun us hl => match us, hl with | [_], _ => rfl))
      case d_sound_row => (refine' ⟨_, BW.defX_mk KX G ?a ?l ?c ?k ?b⟩; (case a => k_is); (case l => k_is); (case c => k_is); (case k => k_is); (case b => exact fun us hl => match us, hl with | [_], _ => rfl))
      case d_tune_text => (refine' ⟨_, BW.defX_mk KX G ?a ?l ?c ?k ?b⟩; (case a => k_is); (case l => k_is); (case c => k_is); (case k => k_is); (case b => exact fun us hl => match us, hl with | [_], _ => rfl))
      case d__law_draw => (refine' ⟨_, BW.defX_mk KX G ?a ?l ?c ?k ?b⟩; (case a => k_is); (case l => k_is); (case c => k_is); (case k => k_is); (case b => exact fun us hl => match us, hl with | [_, _, _], _ => rfl))
      case d__law_metre => (refine' ⟨_, BW.defX_mk KX G ?a ?l ?c ?k ?b⟩; (case a => k_is); (case l => k_is); (case c => k_is); (case k => k_is); (case b => exact fun us hl => match us, hl with | [_, _], _ => rfl))
      case d__law_pitches => (refine' ⟨_, BW.defX_mk KX G ?a ?l ?c ?k ?b⟩; (case a => k_is); (case l => k_is); (case c => k_is); (case k => k_is); (case b => exact fun us hl => match us, hl with | [_, _], _ => rfl))
      case d__law_syllable => (refine' ⟨_, BW.defX_mk KX G ?a ?l ?c ?k ?b⟩; (case a => k_is); (case l => k_is); (case c => k_is); (case k => k_is); (case b => exact fun us hl => match us, hl with | [_, _], _ => rfl))
      case d__law_length => (refine' ⟨_, BW.defX_mk KX G ?a ?l ?c ?k ?b⟩; (case a => k_is); (case l => k_is); (case c => k_is); (case k => k_is); (case b => exact fun us hl => match us, hl with | [_, _], _ => rfl))
      case d__law_voice => (refine' ⟨_, BW.defX_mk KX G ?a ?l ?c ?k ?b⟩; (case a => k_is); (case l => k_is); (case c => k_is); (case k => k_is); (case b => exact fun us hl => match us, hl with | [_, _, _], _ => rfl))
      case d__law_tidy => (refine' ⟨_, BW.defX_mk KX G ?a ?l ?c ?k ?b⟩; (case a => k_is); (case l => k_is); (case c => k_is); (case k => k_is); (case b => exact fun us hl => match us, hl with | [_], _ => rfl))
      case d__law_lasts => (refine' ⟨_, BW.defX_mk KX G ?a ?l ?c ?k ?b⟩; (case a => k_is); (case l => k_is); (case c => k_is); (case k => k_is); (case b => exact fun us hl => match us, hl with | [_], _ => rfl))
      case d__law_frames => (refine' ⟨_, BW.defX_mk KX G ?a ?l ?c ?k ?b⟩; (case a => k_is); (case l => k_is); (case c => k_is); (case k => k_is); (case b => exact fun us hl => match us, hl with | [_, _, _], _ => rfl))
      case d__law_changes => (refine' ⟨_, BW.defX_mk KX G ?a ?l ?c ?k ?b⟩; (case a => k_is); (case l => k_is); (case c => k_is); (case k => k_is); (case b => exact fun us hl => match us, hl with | [_, _], _ => rfl))
      case d__law_voices => (refine' ⟨_, BW.defX_mk KX G ?a ?l ?c ?k ?b⟩; (case a => k_is); (case l => k_is); (case c => k_is); (case k => k_is); (case b => exact fun us hl => match us, hl with | [_, _, _], _ => rfl))
      case d__law_amount => (refine' ⟨_, BW.defX_mk KX G ?a ?l ?c ?k ?b⟩; (case a => k_is); (case l => k_is); (case c => k_is); (case k => k_is); (case b => exact fun us hl => match us, hl with | [_, _], _ => rfl))
      case d__law_row => (refine' ⟨_, BW.defX_mk KX G ?a ?l ?c ?k ?b⟩; (case a => k_is); (case l => k_is); (case c => k_is); (case k => k_is); (case b => exact fun us hl => match us, hl with | [_, _], _ => rfl))
      case d__law_metre_text => (refine' ⟨_, BW.defX_mk KX G ?a ?l ?c ?k ?b⟩; (case a => k_is); (case l => k_is); (case c => k_is); (case k => k_is); (case b => exact fun us hl => match us, hl with | [_], _ => rfl))
      case d__law_rows => (refine' ⟨_, BW.defX_mk KX G ?a ?l ?c ?k ?b⟩; (case a => k_is); (case l => k_is); (case c => k_is); (case k => k_is); (case b => exact fun us hl => match us, hl with | [_, _, _], _ => rfl))
      case d__law_all_told => (refine' ⟨_, BW.defX_mk KX G ?a ?l ?c ?k ?b⟩; (case a => k_is); (case l => k_is); (case c => k_is); (case k => k_is); (case b => exact fun us hl => match us, hl with | [_], _ => rfl))
      case d__law_drawn => (refine' ⟨_, BW.defX_mk KX G ?a ?l ?c ?k ?b⟩; (case a => k_is); (case l => k_is); (case c => k_is); (case k => k_is); (case b => exact fun us hl => match us, hl with | [_, _], _ => rfl))
      case d_law => (refine' ⟨_, BW.defX_mk KX G ?a ?l ?c ?k ?b⟩; (case a => k_is); (case l => k_is); (case c => k_is); (case k => k_is); (case b => exact fun us hl => match us, hl with | [_], _ => rfl))
      case o_Rest => (refine' BW.ownC_mk ?a ?b ?c ?d ?e ?f ?g ?i; (case a => k_is); (case b => k_is); (case c => k_is); (case d => k_is); (case e => k_is); (case f => k_is); (case g => k_is); (case i => k_is))
      case o_Tones => (refine' BW.ownC_mk ?a ?b ?c ?d ?e ?f ?g ?i; (case a => k_is); (case b => k_is); (case c => k_is); (case d => k_is); (case e => k_is); (case f => k_is); (case g => k_is); (case i => k_is))
      case o_Tune => (refine' BW.ownC_mk ?a ?b ?c ?d ?e ?f ?g ?i; (case a => k_is); (case b => k_is); (case c => k_is); (case d => k_is); (case e => k_is); (case f => k_is); (case g => k_is); (case i => k_is))
      case o_Rows => (refine' BW.ownC_mk ?a ?b ?c ?d ?e ?f ?g ?i; (case a => k_is); (case b => k_is); (case c => k_is); (case d => k_is); (case e => k_is); (case f => k_is); (case g => k_is); (case i => k_is))
      case no_Rest_length => (unfold L2.NoAttr; k_is)
      case no_Tones_length => (unfold L2.NoAttr; k_is)
      case no_Tones_pitches => (unfold L2.NoAttr; k_is)
      case no_Tones_word => (unfold L2.NoAttr; k_is)
      case no_Tones_opens => (unfold L2.NoAttr; k_is)
      case no_Tones_closes => (unfold L2.NoAttr; k_is)
      case no_Tune_by_metre => (unfold L2.NoAttr; k_is)
      case no_Tune_by_key => (unfold L2.NoAttr; k_is)
      case no_Tune_voices => (unfold L2.NoAttr; k_is)
      case no_Tune_bars => (unfold L2.NoAttr; k_is)
      case no_Rows_rows => (unfold L2.NoAttr; k_is)
      case no_Rows_place => (unfold L2.NoAttr; k_is)
      case k_Rest_Rest => exact BW.kit_self
      case k_Rest_Tones => (refine' BW.kit_no ?n ?i ?t ?s; (case n => decide); (case i => k_is); (case t => k_is); (case s => k_is))
      case k_Tones_Rest => (refine' BW.kit_no ?n ?i ?t ?s; (case n => decide); (case i => k_is); (case t => k_is); (case s => k_is))
      case k_Tones_Tones => exact BW.kit_self
      case m_Rest_told => (refine' BW.methX_mk ?a ?i ?l ?c ?k ?b; (case a => k_is); (case i => k_is); (case l => k_is); (case c => k_is); (case k => k_is); (case b => exact fun us hl => match us, hl with | [_], _ => rfl))
      case m_Tones_told => (refine' BW.methX_mk ?a ?i ?l ?c ?k ?b; (case a => k_is); (case i => k_is); (case l => k_is); (case c => k_is); (case k => k_is); (case b => exact fun us hl => match us, hl with | [_], _ => rfl))
      case m_Tune_metres_told => (refine' BW.methX_mk ?a ?i ?l ?c ?k ?b; (case a => k_is); (case i => k_is); (case l => k_is); (case c => k_is); (case k => k_is); (case b => exact fun us hl => match us, hl with | [_], _ => rfl))
      case m_Tune_keys_told => (refine' BW.methX_mk ?a ?i ?l ?c ?k ?b; (case a => k_is); (case i => k_is); (case l => k_is); (case c => k_is); (case k => k_is); (case b => exact fun us hl => match us, hl with | [_], _ => rfl))
      case m_Tune_sounds_told => (refine' BW.methX_mk ?a ?i ?l ?c ?k ?b; (case a => k_is); (case i => k_is); (case l => k_is); (case c => k_is); (case k => k_is); (case b => exact fun us hl => match us, hl with | [_, _], _ => rfl))
      case m_Tune_many => (refine' BW.methX_mk ?a ?i ?l ?c ?k ?b; (case a => k_is); (case i => k_is); (case l => k_is); (case c => k_is); (case k => k_is); (case b => exact fun us hl => match us, hl with | [_], _ => rfl))
      case m_Tune_lasts => (refine' BW.methX_mk ?a ?i ?l ?c ?k ?b; (case a => k_is); (case i => k_is); (case l => k_is); (case c => k_is); (case k => k_is); (case b => exact fun us hl => match us, hl with | [_], _ => rfl))
      case m_Tune_frames => (refine' BW.methX_mk ?a ?i ?l ?c ?k ?b; (case a => k_is); (case i => k_is); (case l => k_is); (case c => k_is); (case k => k_is); (case b => exact fun us hl => match us, hl with | [_], _ => rfl))
      case m_Rows_is_over => (refine' BW.methX_mk ?a ?i ?l ?c ?k ?b; (case a => k_is); (case i => k_is); (case l => k_is); (case c => k_is); (case k => k_is); (case b => exact fun us hl => match us, hl with | [_], _ => rfl))
      case m_Rows_next_words => (refine' BW.methX_mk ?a ?i ?l ?c ?k ?b; (case a => k_is); (case i => k_is); (case l => k_is); (case c => k_is); (case k => k_is); (case b => exact fun us hl => match us, hl with | [_], _ => rfl))
      case m_Rows_begins => (refine' BW.methX_mk ?a ?i ?l ?c ?k ?b; (case a => k_is); (case i => k_is); (case l => k_is); (case c => k_is); (case k => k_is); (case b => exact fun us hl => match us, hl with | [_, _], _ => rfl))
      case m_Rows_step => (refine' BW.methX_mk ?a ?i ?l ?c ?k ?b; (case a => k_is); (case i => k_is); (case l => k_is); (case c => k_is); (case k => k_is); (case b => exact fun us hl => match us, hl with | [_], _ => rfl))
      case i_Rest => (refine' BW.makX_mk KX G ?n ?m ?a ?i ?kc ?l ?c ?b; (case n => k_is); (case m => k_is); (case a => k_is); (case i => k_is); (case kc => k_is); (case l => k_is); (case c => k_is); (case b => exact fun us hl => match us, hl with | [_, _], _ => rfl))
      case i_Tones => (refine' BW.makX_mk KX G ?n ?m ?a ?i ?kc ?l ?c ?b; (case n => k_is); (case m => k_is); (case a => k_is); (case i => k_is); (case kc => k_is); (case l => k_is); (case c => k_is); (case b => exact fun us hl => match us, hl with | [_, _, _, _, _, _], _ => rfl))
      case i_Tune => (refine' BW.makX_mk KX G ?n ?m ?a ?i ?kc ?l ?c ?b; (case n => k_is); (case m => k_is); (case a => k_is); (case i => k_is); (case kc => k_is); (case l => k_is); (case c => k_is); (case b => exact fun us hl => match us, hl with | [_, _, _, _], _ => rfl))
      case i_Rows => (refine' BW.makX_mk KX G ?n ?m ?a ?i ?kc ?l ?c ?b; (case n => k_is); (case m => k_is); (case a => k_is); (case i => k_is); (case kc => k_is); (case l => k_is); (case c => k_is); (case b => exact fun us hl => match us, hl with | [_, _], _ => rfl))
      case f_Sound => (refine' BW.clsF_mk (mc := .type "type") ?a ?b ?c ?k ?l ?cd ?bb; (case a => k_is); (case b => k_is); (case c => k_is); (case k => k_is); (case l => k_is); (case cd => k_is); (case bb => exact fun us hl => match us, hl with | [_, _], _ => rfl)))
