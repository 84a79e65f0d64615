import PyProof.Rows.All
import Wide.All
import OpenK.AllK
import Wide.FinOn
import HandS.ForMost
import HandS.Strs
import HandS.Exc
import HandS.WordsExc
import HandS.ExcOwn
import HandS.IsInst
import HandS.Property
import HandS.ClsMeth
import HandS.Wide
import HandS.SortInts
import HandS.RaiseMore
import HandS.Deep
import HandS.More
import HandS.Conv
import PySem.Challenge.RW_indexlogs_k48_missing_and_usable_of_long
set_option Elab.async false
set_option linter.all false
set_option maxRecDepth 100000
set_option maxHeartbeats 4000000
/-! len(set(xs)), xs a list of texts of any length below some thousands -/
namespace U
open PySem PySem.Spec PyProof.Rows L2

/-- the texts of a list, each once -/
def ddS (acc : List Str) (x : Str) : List Str := if acc.any (· == x) = true then acc else acc ++ [x]
def dd (xs : List Str) : List Str := xs.foldl ddS []
theorem ddS_any (acc : List Str) (x k : Str) : (ddS acc x).any (· == k) = (acc.any (· == k) || decide (k = x)) := by
  unfold ddS
  by_cases c : acc.any (· == x) = true
  · rw [if_pos c]
    by_cases q : k = x
    · subst q; rw [c]; simp
    · simp [q]
  · rw [if_neg c, List.any_append]
    by_cases q : k = x
    · subst q; simp
    · have z : (x == k) = false := by
        rw [beq_eq_false_iff_ne]; exact fun e => q e.symm
      simp [z, q]
theorem ddS_len (acc : List Str) (x : Str) : (ddS acc x).length = if acc.any (· == x) = true then acc.length else acc.length + 1 := by
  unfold ddS; split <;> simp
theorem dd_take {xs : List Str} {i : Nat} (h : i < xs.length) : dd (xs.take (i + 1)) = ddS (dd (xs.take i)) (xs.getD i Str.empty) := by
  unfold dd
  have e : xs.take (i + 1) = xs.take i ++ [xs.getD i Str.empty] := by
    rw [List.take_add_one, List.getElem?_eq_getElem h]; simp [List.getD, h]
  rw [e, List.foldl_append]; rfl
theorem dd_le (xs : List Str) : (dd xs).length ≤ xs.length := by
  unfold dd
  suffices h : ∀ (l acc : List Str), (l.foldl ddS acc).length ≤ acc.length + l.length by simpa using h xs []
  intro l
  induction l with
  | nil => intro acc; simp
  | cons x l ih =>
    intro acc
    have h1 := ih (ddS acc x)
    have h2 : (ddS acc x).length ≤ acc.length + 1 := by rw [ddS_len]; split <;> omega
    simp only [List.foldl_cons, List.length_cons]
    omega

section
variable {prog : Program} {w : World} {A : Around} {R : Result → Shared → Prop} {I : Addr} {fp wr : List Addr} {G : Array GenState → Array GenState → Prop} {n : Nat} {P : Nat → Value → Prop} {St : Nat → Shared → Prop}
abbrev HasT (prog : Program) (w : World) (h : Heap) (S : Addr) (l : List Str) : Prop := h.SetOf (PySem.strKind prog w) S (fun k => l.any (· == k)) l.length
theorem HasT.moved {h h' : Heap} {S : Addr} {l : List Str} (x : HasT prog w h S l) (k : ∀ o, h.get? S = some o → h'.get? S = some o) : HasT prog w h' S l := by
  obtain ⟨o, es, ep, t, q, r⟩ := x
  exact ⟨o, es, ep, t, k o q, r⟩
theorem loopT (W : WalksS prog w A.in1 I fp wr G n P St) {S : Addr} (hS : S ∉ fp) {xs : List Str} (hl : xs.length = n) (hb : n + 1 < scanBound) (hv : ∀ i v, P i v → ∃ t, v = .str (xs.getD i Str.empty) t) :
    ∀ (m i : Nat) (s : Shared), m = n - i → i ≤ n → St i s → HasT prog w s.heap S (dd (xs.take i)) →
      (∀ s', Moved (S :: wr) G s s' → HasT prog w s'.heap S (dd xs) → R (.ok (.ret .none)) s') → codeAny (model prog w) A (.builtin "set.update.loop" ⟨[.ref S, .ref I], []⟩) R s := by
  have nw : S ∉ wr := fun z => hS (W.sub _ z)
  have up : ∀ b ∈ wr, b ∈ S :: wr := fun b z => List.mem_cons_of_mem _ z
  intro m
  induction m with
  | zero =>
    intro i s hm hi st x fin
    obtain rfl : i = n := by omega
    refine codeAny_builtin PyProof.Rows.F.entry_set_update_loop ?_
    rw [Around.under_plainId PyProof.Rows.F.plain_set_update_loop _]
    refine (show wpAny _ A.in1 (pyNext (.ref I) >>= _) _ _ s from wpAny_bind (W.done s _ _ st fun s' mv => ?_))
    refine (show wpAny _ A.in1 (ret Value.none) _ _ s' from wpAny_pure (fin s' (mv.mono up) ?_))
    have y := HasT.moved x fun o q => mv.heap S _ nw q
    rwa [← hl, List.take_length] at y
  | succ m ih =>
    intro i s hm hi st x fin
    have lt : i < n := by omega
    refine codeAny_builtin PyProof.Rows.F.entry_set_update_loop ?_
    rw [Around.under_plainId PyProof.Rows.F.plain_set_update_loop _]
    refine (show wpAny _ A.in1 (pyNext (.ref I) >>= _) _ _ s from wpAny_bind (W.item i s _ _ lt st fun v s' pv st' mv => ?_))
    obtain ⟨t, rfl⟩ := hv i v pv
    have y := HasT.moved x fun o q => mv.heap S _ nw q
    refine (show wpAny _ A.in1 (holding [Value.str (xs.getD i Str.empty) t] (setAdd S (.str (xs.getD i Str.empty) t)) >>= _) _ _ s' from wpAny_bind (wpAny_holding ?_))
    unfold setAdd
    refine wpAny_holding (wpAny_bind ((PySem.strKind prog w).pyHash (k := xs.getD i Str.empty) (strKind_is _ _ _ _) ?_))
    have few : (dd (xs.take i)).length + 1 < scanBound := by
      have := dd_le (xs.take i)
      rw [List.length_take] at this
      omega
    refine wpAny_setAddHashed_of (knd := PySem.strKind prog w) (s := { s' with toks := s'.toks + 1 }) (strKind_is _ _ _ _) rfl y few fun h' sb z => ?_
    have z' : HasT prog w h' S (dd (xs.take (i + 1))) := by
      have e := dd_take (xs := xs) (i := i) (by omega)
      exact SetOf_congr z (fun k => by rw [e, ddS_any]) (by rw [e, ddS_len])
    refine wpAny_pure ⟨plainId_quiet PyProof.Rows.F.plain_set_update_loop _, ih (i + 1) _ (by omega) lt (W.frame _ s' _ _ st' (Nat.le_succ _) fun b hb o e => ?_) z' fun s2 mv2 z2 => ?_⟩
    · rw [sb.2 b fun q : b = S => hS (q ▸ hb)]
      exact e
    · refine fin s2 (Moved.trans W.gtrans ((mv.mono up).then_heap (Nat.le_succ _) fun b o hb e => ?_) mv2) z2
      rw [sb.2 b fun q : b = S => hb (q ▸ List.mem_cons_self)]
      exact e
end

section
variable {prog : Program} {w : World} {A : Around} {E : Value → Shared → Prop} {s : Shared}
abbrev nilSet (led : Bool) : Obj := { cls := .type "set", dict := none, data := .set #[] 0 (.fresh 0 0 led) }
set_option maxHeartbeats 6400000 in
theorem set_of_texts {l : Addr} {items : Array Value} {xs : List Str} {Q : Value → Shared → Prop} (calm : A.handled = none) (hl : s.heap.IsList l items) (hi : StrsAre items.toList xs) (hb : xs.length + 1 < scanBound)
    (h : ∀ (h' : Heap) (tk : Nat), HasT prog w h' s.heap.objs.size (dd xs) → (∀ b o, b < s.heap.objs.size → s.heap.get? b = some o → h'.get? b = some o) → Q (.ref s.heap.objs.size) { s with heap := h', toks := tk }) :
    wpAny (model prog w) A (call (.type "set") [.ref l]) Q E s := by
  obtain ⟨c, tl, hmro⟩ := PySem.F.called_set.mro
  have hmade := PySem.F.called_set.made; have hsub := PySem.F.called_set.sub
  refine wpAny_call (codeAny_of_tree (show wpAny _ _ (callAny (.type "set") _) _ _ _ from wpAny_pure ⟨Code.quiet_builtin _ (by decide +kernel), codeAny_builtin PySem.F.entry_type_call ?_⟩))
  rw [Around.under_plain (weight_type_call_type "set" [.ref l] []) rfl]
  have g1 := PySem.F.called_set.notType; have g2 := PySem.F.called_set.canCreate; have g3 := PySem.F.typeCall_set_1 (.ref l)
  repeat (any_goals (first | assumption | wp_step))
  refine codeAny_mono (code_set_new_1 (.ref l) (E := E) (Q₁ := fun obj s₁ => ∃ led : Bool, obj = .ref s.heap.objs.size ∧ s₁ = { s with heap := s.heap.push (nilSet led) }) fun led => ⟨led, rfl, rfl⟩) fun r s₁ hr => ?_
  match r, hr with
  | .error e, hr => exact hr
  | .ok (.ret obj), hr =>
    obtain ⟨led, rfl, rfl⟩ := hr
    have here : (s.heap.push (nilSet led)).get? s.heap.objs.size = some (nilSet led) := Heap.get?_push_size _ rfl
    have ty : Shared.TypeIs { s with heap := s.heap.push (nilSet led) } (.ref s.heap.objs.size) "set" := ⟨_, here, rfl⟩
    have q1 := PySem.F.called_set.init.lookup; have q2 := PySem.F.called_set.init.bind (.ref s.heap.objs.size)
    repeat (any_goals (first | assumption | wp_step))
    refine codeAny_mono (codeAny_call_builtin (R := wants (fun r s₂ => r = .none ∧ ∃ h' tk, s₂ = { s with heap := h', toks := tk } ∧ HasT prog w h' s.heap.objs.size (dd xs) ∧ (∀ b o, b < s.heap.objs.size → s.heap.get? b = some o → h'.get? b = some o)) E)
      PySem.F.called_set.init.plain PySem.F.entry_set_init (check_set_init_1 ty ?_)) fun r₂ s₂ hr₂ => ?_
    · obtain ⟨ol, hol, hcl, nl, hdl⟩ := hl
      obtain ⟨ocls, odict, odata, oslots⟩ := ol
      simp only at hcl hdl
      subst hcl; subst hdl
      have hol' : (s.heap.push (nilSet led)).get? l = some { cls := .type "list", dict := odict, data := .seq items nl, slots := oslots } := Heap.get?_push_of_some _ hol
      have w1 := PySem.F.sub_list_set; have w2 := PySem.F.sub_list_frozenset
      have w3 : (Value.type "list" == Value.type "dict") = false := by decide
      have il : (s.heap.push (nilSet led)).IsList l items := ⟨_, hol', rfl, nl, rfl⟩
      unfold Builtin.«set.__init__» noKeywords Builtin.Frozenset.updateFrom
      generalize hPI : pyIter = PI
      wp_walk
      subst hPI
      refine wpAny_pyIter_list il (wpAny_bind (wpAny_runValue ?_))
      have ll : l < s.heap.objs.size := Heap.lt_size hol
      have c3 : A.in1.in1.in1.handled = none := by simp [calm]
      have ne : l ≠ (s.heap.push (nilSet led)).objs.size := by rw [Heap.size_push]; exact Nat.ne_of_lt (Nat.lt_succ_of_lt ll)
      have nf : s.heap.objs.size ∉ [(s.heap.push (nilSet led)).objs.size, l] := by
        rw [Heap.size_push]
        simp only [List.mem_cons, List.not_mem_nil, or_false, not_or]
        exact ⟨Nat.ne_of_lt (Nat.lt_succ_self _), Nat.ne_of_gt ll⟩
      have sz : xs.length = items.size := by rw [← StrsAre.len_eq hi, Array.length_toList]
      have vl : ∀ (i : Nat) (v : Value), items[i]? = some v → ∃ t, v = .str (xs.getD i Str.empty) t := fun i v hv => SS.strs_at hi i v (by rw [Array.getElem?_toList]; exact hv)
      refine loopT (Walks.list c3 _ l ne items).toS nf sz (by rw [← sz]; exact hb) vl (items.size - 0) 0 _ rfl (Nat.zero_le _) ⟨⟨_, Heap.get?_push_size _ rfl, rfl, rfl⟩, il.push _⟩ ?b0 ?b1
      case b0 =>
        have hget : ((s.heap.push (nilSet led)).push { cls := .type "list_iterator", data := .fields #[.ref l, .int 0 0] }).get? s.heap.objs.size = some (nilSet led) := Heap.get?_push_of_some _ here
        exact SetOf_congr ((setObjOf_fresh (knd := PySem.strKind prog w) led).setOf hget (by unfold scanBound; omega)) (fun _ => rfl) rfl
      case b1 =>
        intro s' mv z
        obtain ⟨h', g', d', tk', os'⟩ := s'
        obtain rfl : g' = s.gens := mv.gens
        obtain rfl : d' = s.drawn := mv.drawn
        obtain rfl : os' = s.os := mv.os
        refine (show wpAny _ _ _ _ _ _ from wpAny_pure (show wpAny _ _ (ret Value.none) _ _ _ from wpAny_pure ⟨rfl, h', tk', rfl, z, fun b o hb e => ?_⟩))
        refine mv.heap b o ?_ (Heap.get?_push_of_some _ (Heap.get?_push_of_some _ e))
        rw [Heap.size_push]
        simp only [List.mem_cons, List.not_mem_nil, or_false, not_or]
        exact ⟨Nat.ne_of_lt hb, Nat.ne_of_lt (Nat.lt_succ_of_lt hb)⟩
    · match r₂, hr₂ with
      | .error e, hr₂ => exact hr₂
      | .ok (.ret r), hr₂ =>
        obtain ⟨rfl, h', tk, rfl, z, k⟩ := hr₂
        repeat (any_goals (first | assumption | wp_step))
        exact h _ _ z k
end

section
variable {X : Cx}
/-- len(set(xs)): how many different texts -/
def tLenSetT (K : PySem.W.Frag) (ta : TE) : TE := fun σ H Q => ta σ H fun x H1 => ∃ l, ∃ xs : List Str, x = .ref l ∧ SqL K H1 l (xs.map V.str) ∧ xs.length ≤ 1000 ∧ Q (.int (dd xs).length) H1
theorem pe_lenSetT {a : Expr} {ta : TE} {p p2 q pos : Pos} (hg : Gl X "len") (hm : X.mg "len" = none) (hg2 : Gl X "set") (hm2 : X.mg "set" = none) (ha : PE X a ta) (hc : X.calm = true := by rfl)
    (na : starEach [a] X.env = (false, eval a X.env) :: starEach [] X.env := by rfl) : PE X (.Call (.Name "len" p) [.Call (.Name "set" p2) [a] [] q] [] pos) (tLenSetT X.K ta) := by
  refine ⟨fun pins s σ H Q I h => Call_ (ld_blt I hg hm boot_len (PyProof.Rows.callWith_builtin1 (PyProof.Rows.args_cons ?_ rfl) rfl rfl))⟩
  refine Call_ (ld_blt I hg2 hm2 boot_set (PyProof.Rows.callWith_type1 (PyProof.Rows.args_cons (thn (ha.run pins s σ H _ I h) fun v s1 ⟨x, H1, I1, r1, q1⟩ => PyProof.Rows.args_nil ?_) na) na rfl))
  obtain ⟨l, xs, rfl, hq, few, q1⟩ := q1
  cases r1
  obtain ⟨its, r, pl, hz⟩ := I1.list hq
  refine set_of_texts (I1.ok.hd hc) pl.isList (by simpa using strsAre_of r) (by unfold scanBound; omega) fun h' tk x k => PyProof.Rows.args_nil ?_
  obtain ⟨o, es, ep, t, ho, hex, hd, _, _, _, hf, hn⟩ := x
  have I2 : Inv X pins σ H1 { s1 with heap := h', toks := tk } := I1.kept fun b o e => k b o (Heap.lt_size e) e
  have dl := dd_le xs
  exact call_len_set ho hex hd hf (by rw [hn] <;> omega) ⟨.int (dd xs).length, H1, I2.tok _, ⟨_, by rw [hn]⟩, q1⟩
end
end U
/-! rules by the construct alone: what is asked is found by the values -/
namespace U
open PySem PySem.Spec PyProof.Rows L2 ClX

/-! ### defs, classes, methods as they may be called; what they may raise goes to E -/
structure Fn (P : Program) (w : World) (K : PySem.W.Frag) (mg : Str → Option Value) (base : Heap) (k : Nat) (x : Str) (sp : Sp) : Prop where
  ex : ∃ (f : Addr) (fd : FuncData) (ps : List Str), FnOk P w K mg base (L2.CX P w) k f fd ps sp ∧ mg x = some (.ref f) ∧ PySem.W.keepIn K (.ref f) = true ∧ Binds K fd ps []
structure Mkr (P : Program) (w : World) (K : PySem.W.Frag) (mg : Str → Option Value) (base : Heap) (k : Nat) (x : Str) (C : Addr) (sp : Sp) : Prop where
  ex : ∃ (f : Addr) (fd : FuncData) (ps : List Str), Mk K C f ∧ FnOk P w K mg base (L2.CX P w) k f fd ps sp ∧ mg x = some (.ref C) ∧ Binds K fd ps []
structure Mth (P : Program) (w : World) (K : PySem.W.Frag) (mg : Str → Option Value) (base : Heap) (k : Nat) (C : Addr) (m : Str) (sp : Sp) : Prop where
  ex : ∃ (f : Addr) (fd : FuncData) (ps : List Str), Cls K C ∧ Meth K C m f ∧ FnOk P w K mg base (L2.CX P w) k f fd ps sp ∧ Binds K fd ps []

/-- where a call stands: the level at hand and what becomes of an exception (E); in a comprehension's block E is E0 -/
structure At (X : Cx) (j : Nat) (E : XK) : Prop where
  hr : Room j X.A
  hx : Passes (L2.CX X.prog X.w) X E
theorem At.e0 {X : Cx} {j : Nat} (hr : Room j X.A) : At X j E0 := ⟨hr, passL⟩
theorem At.of {X : Cx} {j : Nat} {E : XK} (hr : Room j X.A) (tk : Takes X (fun cls d _ H => E cls d H)) : At X j E := ⟨hr, passes_call tk fun _ _ _ _ h => h⟩

def tFn (P : Program) (w : World) (K : PySem.W.Frag) (mg : Str → Option Value) (base : Heap) (x : Str) (j : Nat) (E : XK) (t : TA) : TE := fun σ H Q => ∃ k sp, Fn P w K mg base k x sp ∧ k ≤ j ∧ t σ H fun vs H1 => sp vs H1 Q E
def tMkr (P : Program) (w : World) (K : PySem.W.Frag) (mg : Str → Option Value) (base : Heap) (x : Str) (j : Nat) (E : XK) (t : TA) : TE := fun σ H Q => ∃ k C sp, Mkr P w K mg base k x C sp ∧ k + 1 ≤ j ∧ t σ H fun vs H1 =>
  ∀ p dx, H1 p = none → H1 dx = none → dx ≠ p → sp (.ref p :: vs) (upd (upd H1 dx (.own p)) p (.ins C dx [])) (fun v H' => v = .non ∧ Q (.ref p) H') E
def tMth (P : Program) (w : World) (K : PySem.W.Frag) (mg : Str → Option Value) (base : Heap) (m : Str) (j : Nat) (E : XK) (ta : TE) (t : TA) : TE := fun σ H Q => ta σ H fun x H1 => ∃ a C dx fs k sp, x = .ref a ∧ H1 a = some (.ins C dx fs) ∧ Mth P w K mg base k C m sp ∧ k ≤ j ∧ fs.lookup m = none ∧
  t σ H1 fun vs H2 => sp (.ref a :: vs) H2 Q E

section
variable {X : Cx} {j : Nat} {E : XK} {x m : Str} {e o : Expr} {es : List Expr} {t : TA} {ta tb te : TE} {p pos apos : Pos}
theorem pe_fn (a : At X j E) (hg : Gl X x) (ha : PA X (e :: es) t)
    (hdb : (x == ("__debug__" : Str)) = false := by decide) (he : starEach (e :: es) X.env = (false, eval e X.env) :: starEach es X.env := by rfl) (hpl : (backTo pos (starEach es X.env)).any (·.1) = false := by rfl) :
    PE X (.Call (.Name x p) (e :: es) [] pos) (tFn X.prog X.w X.K X.mg X.base x j E t) := by
  refine ⟨fun pins s σ H Q I h => ?_⟩
  obtain ⟨k, sp, F, hk, h⟩ := h
  obtain ⟨f, fd, ps, F, hm, kp, b⟩ := F.ex
  exact (pe_call F (a.hr.mono hk) hg hm kp b .nil a.hx ha hdb he hpl).run pins s σ H Q I (by simpa only [tCall, List.append_nil] using h)
theorem pe_fn0 (a : At X j E) (hg : Gl X x) (hdb : (x == ("__debug__" : Str)) = false := by decide) : PE X (.Call (.Name x p) [] [] pos) (tFn X.prog X.w X.K X.mg X.base x j E tNil) := by
  refine ⟨fun pins s σ H Q I h => ?_⟩
  obtain ⟨k, sp, F, hk, h⟩ := h
  obtain ⟨f, fd, ps, F, hm, kp, b⟩ := F.ex
  exact (pe_call0 F (a.hr.mono hk) hg hm kp b .nil a.hx hdb).run pins s σ H Q I (by simpa only [tCall, List.append_nil] using h)
theorem pe_mkr (a : At X j E) (hg : Gl X x) (ha : PA X (e :: es) t)
    (hdb : (x == ("__debug__" : Str)) = false := by decide) (he : starEach (e :: es) X.env = (false, eval e X.env) :: starEach es X.env := by rfl) (hpl : (backTo pos (starEach es X.env)).any (·.1) = false := by rfl) :
    PE X (.Call (.Name x p) (e :: es) [] pos) (tMkr X.prog X.w X.K X.mg X.base x j E t) := by
  refine ⟨fun pins s σ H Q I h => ?_⟩
  obtain ⟨k, C, sp, F, hk, h⟩ := h
  obtain ⟨f, fd, ps, M, F, hm, b⟩ := F.ex
  exact (pe_make M F (a.hr.mono hk) hg hm b .nil a.hx ha hdb he hpl).run pins s σ H Q I (by simpa only [tMake, List.append_nil] using h)
theorem pe_mth {pl : Sem Bool} (a : At X j E) (ho : PE X o ta) (ha : PA X (e :: es) t)
    (hst : starEach (e :: es) X.env = (false, eval e X.env) :: starEach es X.env := by rfl) (hpl : (backTo pos (starEach es X.env)).any (·.1) = false := by rfl)
    (ht : eval (.Call (.Attribute o m apos) (e :: es) [] pos) X.env = (do
      let ov ← eval o X.env
      standAt apos.atName
      let (f, first) ← holding [ov] (getMethod ov m pl)
      callWith pos f first (backTo pos (starEach (e :: es) X.env)) (backToKw pos (keywordEach [] X.env))) := by rfl) :
    PE X (.Call (.Attribute o m apos) (e :: es) [] pos) (tMth X.prog X.w X.K X.mg X.base m j E ta t) := by
  refine ⟨fun pins s σ H Q I h => PySem.W.methodCall_KW (pl := pl) (thn (ho.run pins s σ H _ I h) fun u s1 ⟨x, H1, I1, rx, y, C, dx, fs, k, sp, ex, ea, M, hk, l, q⟩ => ?_) ht⟩
  subst ex
  obtain rfl : u = Value.ref y := rx
  obtain ⟨f, fd, ps, c, hm, F, b⟩ := M.ex
  refine getmeth_ok I1 ea c hm l (PySem.W.callWith_K (first := [.ref y]) (h₀ := X.base) I.ok.mod.kin hm.kp (thn (ha.run pos pins s1 σ H1 _ I1 q) fun us s2 ⟨vs, H2, I2, r, q2⟩ => ⟨I2.kIn, ?_⟩) hst hpl)
  exact run_fn (us := .ref y :: us) (vs := .ref y :: vs) F (a.hr.mono hk) b .nil a.hx I2 (.cons rfl r) (by rw [List.append_nil]; exact q2)

/-! ### attributes -/
/-- reading the attribute f of what stands at a gives v -/
inductive Att (P : Program) (w : World) (K : PySem.W.Frag) (mg : Str → Option Value) (base : Heap) (H : Hp) (a : Addr) (f : Str) (v : V) : Prop where
  | fld {C dx : Addr} {fs : List (Str × V)} (h : H a = some (.ins C dx fs)) (c : Cls K C) (n : NoAttr K C f) (l : fs.lookup f = some v)
  | con {C dx : Addr} {fs : List (Str × V)} {u : Value} (h : H a = some (.ins C dx fs)) (c : Cls K C) (k : Con K C f v u) (l : fs.lookup f = none)
  | prop {C dx p g : Addr} {fs : List (Str × V)} {f' : Str} {fd : FuncData} (h : H a = some (.ins C dx fs)) (c : Cls K C) (pr : PropOf K C f p g) (F : FnOk P w K mg base (L2.CX P w) 1 g fd ["self"] (getSp C f')) (b : Binds K fd ["self"] []) (l : fs.lookup f' = some v)
  | cls {mc u : Value} (r : CRead K a mc) (k : CVal K a mc f v u)
def tAtt (P : Program) (w : World) (K : PySem.W.Frag) (mg : Str → Option Value) (base : Heap) (f : Str) (ta : TE) : TE := fun σ H Q => ta σ H fun x H1 => ∃ a v, x = .ref a ∧ Att P w K mg base H1 a f v ∧ Q v H1
theorem pe_att {f : Str} (hr : Room j X.A) (he : PE X e ta) (hj : 2 ≤ j := by decide) (hab : attributeBase e f X.env (eval e X.env) = eval e X.env := by rfl) : PE X (.Attribute e f pos) (tAtt X.prog X.w X.K X.mg X.base f ta) := by
  refine ⟨fun pins s σ H Q I h => attr_of hab (thn (he.run pins s σ H _ I h) fun u s1 ⟨x, H1, I1, rx, a, v, ex, at_, q⟩ => ?_)⟩
  subst ex
  obtain rfl : u = Value.ref a := rx
  cases at_ with
  | fld h c n l => exact getattr_ok I1 h c n l fun u' s2 I2 ru => ⟨v, H1, I2, ru, q⟩
  | con h c k l => exact getcon_ok I1 h c k l fun s2 I2 => ⟨v, H1, I2, k.rel, q⟩
  | prop h c pr F b l => exact getprop_ok (E := E0) (dvs := []) I1 h c pr F (hr.mono hj) b .nil passL ⟨a, _, _, v, rfl, h, l, q⟩
  | cls r k => exact getcval_ok I1 r k fun s2 I2 => ⟨v, H1, I2, k.rel, q⟩

/-! ### operators by the values -/
def uAdd : R2 := fun x y H Q => match x, y with
  | .int i, .int j => Q (.int (i + j)) H
  | .str a, .str b => a.length + b.length ≤ sizeLine ∧ Q (.str (a ++ b)) H
  | .ref l, .ref b => ∃ xs zs, H l = some (.lst xs) ∧ H b = some (.lst zs) ∧ xs.length + zs.length ≤ sizeLine ∧ ∀ p, H p = none → Q (.ref p) (upd H p (.lst (xs ++ zs)))
  | _, _ => False
theorem op_uAdd : OpR X (binaryOp .Add) uAdd := by
  intro pins s σ H x y v u Q I rx ry h
  match x, y, h with
  | .int i, .int j, h => exact op_add pins s σ H _ _ v u Q I rx ry ⟨i, j, rfl, rfl, h⟩
  | .str a, .str b, h => exact op_add_str pins s σ H _ _ v u Q I rx ry ⟨a, b, rfl, rfl, h⟩
  | .ref l, .ref b, h =>
    obtain ⟨xs, zs, h⟩ := h
    exact op_cat pins s σ H _ _ v u Q I rx ry ⟨l, b, xs, zs, rfl, rfl, h⟩
def uSub : R2 := fun x y H Q => match x, y with
  | .int i, .int j => Q (.int (i - j)) H
  | _, _ => False
theorem op_uSub : OpR X (binaryOp .Sub) uSub := by
  intro pins s σ H x y v u Q I rx ry h
  match x, y, h with
  | .int i, .int j, h => exact op_sub pins s σ H _ _ v u Q I rx ry ⟨i, j, rfl, rfl, h⟩
def uMul : R2 := fun x y H Q => match x, y with
  | .int i, .int j => CMul i j ∧ Q (.int (i * j)) H
  | .ref l, .int k => ∃ xs, H l = some (.lst xs) ∧ -(2 ^ 63) ≤ k ∧ k < 2 ^ 63 ∧ xs.length * k.toNat ≤ sizeLine ∧ ∀ p, H p = none → Q (.ref p) (upd H p (.lst (List.replicate k.toNat xs).flatten))
  | _, _ => False
theorem op_uMul : OpR X (binaryOp .Mult) uMul := by
  intro pins s σ H x y v u Q I rx ry h
  match x, y, h with
  | .int i, .int j, h => exact op_mul pins s σ H _ _ v u Q I rx ry ⟨i, j, rfl, rfl, h⟩
  | .ref l, .int k, h =>
    obtain ⟨xs, h⟩ := h
    exact op_rep pins s σ H _ _ v u Q I rx ry ⟨l, k, xs, rfl, rfl, h⟩
def uDiv : R2 := fun x y H Q => match x, y with
  | .int i, .int j => (0 < j ∧ j.natAbs.log2 < 9000) ∧ Q (.int (i / j)) H
  | _, _ => False
theorem op_uDiv : OpR X (binaryOp .FloorDiv) uDiv := by
  intro pins s σ H x y v u Q I rx ry h
  match x, y, h with
  | .int i, .int j, h => exact op_fdivW pins s σ H _ _ v u Q I rx ry ⟨i, j, rfl, rfl, h⟩
def uMod : R2 := fun x y H Q => match x, y with
  | .int i, .int j => 0 < j ∧ Q (.int (i % j)) H
  | _, _ => False
theorem op_uMod : OpR X (binaryOp .Mod) uMod := by
  intro pins s σ H x y v u Q I rx ry h
  match x, y, h with
  | .int i, .int j, h => exact op_mod pins s σ H _ _ v u Q I rx ry ⟨i, j, rfl, rfl, h⟩
def uPow : R2 := fun x y H Q => match x, y with
  | .int i, .int j => (0 ≤ j ∧ (Builtin.Int.intBits i : Int) * j ≤ 2 ^ 27) ∧ Q (.int (i ^ j.toNat)) H
  | _, _ => False
theorem op_uPow : OpR X (binaryOp .Pow) uPow := by
  intro pins s σ H x y v u Q I rx ry h
  match x, y, h with
  | .int i, .int j, h =>
    exact opI (C := fun i j => 0 ≤ j ∧ (Builtin.Int.intBits i : Int) * j ≤ 2 ^ 27) (g := fun i j => i ^ j.toNat) (fun _ _ _ _ _ _ _ hc q => pow_int hc.1 hc.2 q) pins s σ H _ _ v u Q I rx ry ⟨i, j, rfl, rfl, h⟩
def uCmp (g : Int → Int → Bool) (gs : List Nat → List Nat → Bool) : R2 := fun x y H Q => match x, y with
  | .int i, .int j => Q (.bl (g i j)) H
  | .str a, .str b => Q (.bl (gs a.cps.toList b.cps.toList)) H
  | _, _ => False
def uLt : R2 := uCmp (fun i j => decide (i < j)) (fun a b => decide (a < b))
def uLe : R2 := uCmp (fun i j => decide (i ≤ j)) (fun a b => !decide (b < a))
def uGt : R2 := uCmp (fun i j => decide (j < i)) (fun a b => decide (b < a))
def uGe : R2 := uCmp (fun i j => decide (j ≤ i)) (fun a b => !decide (a < b))
theorem op_uLt : OpR X (compareOp .Lt) uLt := by
  intro pins s σ H x y v u Q I rx ry h
  match x, y, h with
  | .int i, .int j, h => exact op_lt pins s σ H _ _ v u Q I rx ry ⟨i, j, rfl, rfl, h⟩
  | .str i, .str j, h => exact op_lt_str pins s σ H _ _ v u Q I rx ry ⟨i, j, rfl, rfl, h⟩
theorem op_uLe : OpR X (compareOp .LtE) uLe := by
  intro pins s σ H x y v u Q I rx ry h
  match x, y, h with
  | .int i, .int j, h => exact op_le pins s σ H _ _ v u Q I rx ry ⟨i, j, rfl, rfl, h⟩
  | .str i, .str j, h => exact op_le_str pins s σ H _ _ v u Q I rx ry ⟨i, j, rfl, rfl, h⟩
theorem op_uGt : OpR X (compareOp .Gt) uGt := by
  intro pins s σ H x y v u Q I rx ry h
  match x, y, h with
  | .int i, .int j, h => exact op_gt pins s σ H _ _ v u Q I rx ry ⟨i, j, rfl, rfl, h⟩
  | .str i, .str j, h => exact op_gt_str pins s σ H _ _ v u Q I rx ry ⟨i, j, rfl, rfl, h⟩
theorem op_uGe : OpR X (compareOp .GtE) uGe := by
  intro pins s σ H x y v u Q I rx ry h
  match x, y, h with
  | .int i, .int j, h => exact op_ge pins s σ H _ _ v u Q I rx ry ⟨i, j, rfl, rfl, h⟩
  | .str i, .str j, h => exact op_ge_str pins s σ H _ _ v u Q I rx ry ⟨i, j, rfl, rfl, h⟩
/-- x == y: scalars; else data of any depth, or two lists of unlike lengths -/
def uEqB (K : PySem.W.Frag) (neg : Bool) : R2 := fun x y H Q =>
  (∃ d e, Dp K H x d ∧ Dp K H y e ∧ SeqAt.shaped d = true ∧ SeqAt.shaped e = true ∧ Q (.bl (if neg = true then !PyData.eqv d e else PyData.eqv d e)) H) ∨
  (∃ p q xs ys, x = .ref p ∧ y = .ref q ∧ SqL K H p xs ∧ SqL K H q ys ∧ xs.length ≠ ys.length ∧ Q (.bl neg) H)
def uEq (K : PySem.W.Frag) : R2 := fun x y H Q => if scal x y = true then Q (.bl (decide (x = y))) H else uEqB K false x y H Q
def uNe (K : PySem.W.Frag) : R2 := fun x y H Q => if scal x y = true then Q (.bl (!decide (x = y))) H else uEqB K true x y H Q
theorem len_ne {p q : Addr} {xs ys : List V} {pins : List (Addr × Obj)} {s : Shared} {σ : L2.St} {H : Hp} (I : Inv X pins σ H s) (h1 : SqL X.K H p xs) (h2 : SqL X.K H q ys) (hn : xs.length ≠ ys.length) :
    ∃ its its2 : Array Value, s.heap.IsList p its ∧ s.heap.IsList q its2 ∧ (its.size != its2.size) = true := by
  obtain ⟨its, r, pl, _⟩ := I.list h1
  obtain ⟨its2, r2, pl2, _⟩ := I.list h2
  refine ⟨_, _, pl.isList, pl2.isList, ?_⟩
  have e1 := r.length
  have e2 := r2.length
  simp only [List.size_toArray, bne_iff_ne, ne_eq]
  omega
theorem op_uEq (hr : Room j X.A) : OpR X (compareOp .Eq) (uEq X.K) := by
  intro pins s σ H x y v u Q I rx ry h
  unfold uEq at h
  split at h
  · rename_i c; exact op_eq pins s σ H _ _ v u Q I rx ry ⟨c, h⟩
  · rcases h with h | ⟨p, q, xs, ys, rfl, rfl, h1, h2, hn, h⟩
    · exact op_eqD hr.units pins s σ H _ _ v u Q I rx ry h
    · cases rx
      cases ry
      obtain ⟨its, its2, l1, l2, ne⟩ := len_ne I h1 h2 hn
      exact SeqAt.RcAt.lists_lengths l1 l2 ne hr.units0 X.prog X.w _ _ ⟨.bl false, H, I, rfl, h⟩
theorem op_uNe (hr : Room j X.A) : OpR X (compareOp .NotEq) (uNe X.K) := by
  intro pins s σ H x y v u Q I rx ry h
  unfold uNe at h
  split at h
  · rename_i c; exact op_ne pins s σ H _ _ v u Q I rx ry ⟨c, h⟩
  · rcases h with h | ⟨p, q, xs, ys, rfl, rfl, h1, h2, hn, h⟩
    · exact op_neD hr.units pins s σ H _ _ v u Q I rx ry h
    · cases rx
      cases ry
      obtain ⟨its, its2, l1, l2, ne⟩ := len_ne I h1 h2 hn
      exact SeqAt.RcNeAt.lists_lengths l1 l2 ne hr.units0 X.prog X.w _ _ ⟨.bl true, H, I, rfl, h⟩
/-- in, not in: a sign in a text, a flat value in a list or tuple -/
def uIn (K : PySem.W.Frag) (neg : Bool) : R2 := fun x y H Q => match y with
  | .str z => ∃ c : Nat, x = .str ⟨#[c]⟩ ∧ Q (.bl (if neg = true then !decide (c ∈ z.cps.toList) else decide (c ∈ z.cps.toList))) H
  | .ref p => (∃ xs, (SqL K H p xs ∨ SqT K H p xs) ∧ flatV x = true ∧ xs.all flatV = true ∧ Q (.bl (if neg = true then !inV x xs else inV x xs)) H) ∨
    ∃ d ds, Dp K H x d ∧ Dp K H (.ref p) (.list ds) ∧ SeqAt.shaped d = true ∧ SeqAt.shaped (.list ds) = true ∧ Q (.bl (if neg = true then !ds.any fun z => PyData.eqv z d else ds.any fun z => PyData.eqv z d)) H
  | _ => False
theorem units65 (hr : Room j X.A) : X.A.units + 65 < cLine := by
  have := hr.un
  omega
theorem op_uIn (hr : Room j X.A) : OpR X (compareOp .In) (uIn X.K false) := by
  intro pins s σ H x y v u Q I rx ry h
  match y, h with
  | .str z, h => obtain ⟨c, e, h⟩ := h; exact op_in_sign pins s σ H _ _ v u Q I rx ry ⟨c, z, e, rfl, h⟩
  | .ref p, .inl h => obtain ⟨xs, h1, h2, h3, h⟩ := h; exact op_in_seq pins s σ H _ _ v u Q I rx ry ⟨p, xs, rfl, h1, h2, h3, h⟩
  | .ref p, .inr h => exact op_inD (units65 hr) pins s σ H _ _ v u Q I rx ry h
theorem op_uNotIn (hr : Room j X.A) : OpR X (compareOp .NotIn) (uIn X.K true) := by
  intro pins s σ H x y v u Q I rx ry h
  match y, h with
  | .str z, h => obtain ⟨c, e, h⟩ := h; exact op_notIn_sign pins s σ H _ _ v u Q I rx ry ⟨c, z, e, rfl, h⟩
  | .ref p, .inl h => obtain ⟨xs, h1, h2, h3, h⟩ := h; exact op_notIn_seq pins s σ H _ _ v u Q I rx ry ⟨p, xs, rfl, h1, h2, h3, h⟩
  | .ref p, .inr h => exact op_notInD (units65 hr) pins s σ H _ _ v u Q I rx ry h
/-- x is None -/
def uIs : R2 := fun x y H Q => y = .non ∧ Q (.bl (decide (x = .non))) H
def uIsNot : R2 := fun x y H Q => y = .non ∧ Q (.bl (!decide (x = .non))) H
theorem op_uIs : OpR X (compareOp .Is) uIs := op_isN
theorem op_uIsNot : OpR X (compareOp .IsNot) uIsNot := op_notN
/-- x[i] -/
def uIx (K : PySem.W.Frag) : R2 := fun x y H Q => match x, y with
  | .ref p, .int i => ∃ xs v, (SqL K H p xs ∨ SqT K H p xs) ∧ atI xs i = some v ∧ Q v H
  | .str z, .int i => ∃ c, z.length ≤ sizeLine ∧ atI z.cps.toList i = some c ∧ Q (.str ⟨#[c]⟩) H
  | _, _ => False
theorem ix_u : IxR X (uIx X.K) := by
  intro value slice pins s σ H x y v u Q I rx ry h hs
  match x, y, h with
  | .ref p, .int i, h =>
    obtain ⟨xs, v, h1, h2, h⟩ := h
    exact ix_seq value slice pins s σ H _ _ _ u Q I rx ry (h1.elim (fun z => .inl ⟨p, xs, i, v, rfl, rfl, z, h2, h⟩) fun z => .inr (.inl ⟨p, xs, i, v, rfl, rfl, z, h2, h⟩)) hs
  | .str z, .int i, h =>
    obtain ⟨c, h1, h2, h⟩ := h
    exact ix_seq value slice pins s σ H _ _ _ u Q I rx ry (.inr (.inr ⟨z, i, c, rfl, rfl, h1, h2, h⟩)) hs
/-- -x -/
def uNeg : V → Hp → VK → Prop := fun x H Q => match x with
  | .int i => Q (.int (-i)) H
  | _ => False
theorem un_uNeg : UnR X (unaryOp .USub) uNeg := by
  intro pins s σ H x v Q I rx h
  match x, h with
  | .int i, h => exact un_neg pins s σ H _ v Q I rx ⟨i, rfl, h⟩

/-! ### calls of builtins by the values -/
def cLen (K : PySem.W.Frag) : List V → Hp → VK → Prop := fun xs H Q => match xs with
  | [.ref p] => ∃ ys, (SqL K H p ys ∨ SqT K H p ys) ∧ Q (.int ys.length) H
  | [.str z] => z.length ≤ sizeLine ∧ Q (.int z.length) H
  | _ => False
theorem call_cLen : CallR X (.builtin "len") (cLen X.K) := by
  intro pins s σ H xs us Q I r h
  match xs, h with
  | [.ref p], h => obtain ⟨ys, h⟩ := h; exact call_len_seq pins s σ H _ us Q I r ⟨p, ys, rfl, h⟩
  | [.str z], h => exact call_len_str pins s σ H _ us Q I r ⟨z, rfl, h⟩
def cAbs : List V → Hp → VK → Prop := fun xs H Q => match xs with
  | [.int i] => Q (.int (if i < 0 then -i else i)) H
  | _ => False
theorem call_cAbs : CallR X (.builtin "abs") cAbs := by
  intro pins s σ H xs us Q I r h
  match xs, h with
  | [.int i], h => exact call_abs pins s σ H _ us Q I r ⟨i, rfl, h⟩
def cMax (K : PySem.W.Frag) : List V → Hp → VK → Prop := fun xs H Q => match xs with
  | [.int i, .int j] => Q (.int (if j > i then j else i)) H
  | [.ref p] => ∃ ns : List Int, SqL K H p (ns.map V.int) ∧ 0 < ns.length ∧ ∀ m, m ∈ ns → (∀ y ∈ ns, y ≤ m) → Q (.int m) H
  | _ => False
theorem call_cMax (hc : X.calm = true) : CallR X (.builtin "max") (cMax X.K) := by
  intro pins s σ H xs us Q I r h
  match xs, h with
  | [.int i, .int j], h => exact call_max2 hc pins s σ H _ us Q I r ⟨i, j, rfl, h⟩
  | [.ref p], h => obtain ⟨ns, h1, h2, h⟩ := h; exact cr_max hc pins s σ H _ us Q I r ⟨p, ns, rfl, h1, h2, h⟩
def cMin (K : PySem.W.Frag) : List V → Hp → VK → Prop := fun xs H Q => match xs with
  | [.int i, .int j] => Q (.int (if j < i then j else i)) H
  | _ => False
theorem call_cMin (hc : X.calm = true) : CallR X (.builtin "min") (cMin X.K) := by
  intro pins s σ H xs us Q I r h
  match xs, h with
  | [.int i, .int j], h => exact call_min2 hc pins s σ H _ us Q I r ⟨i, j, rfl, h⟩
def cAll (K : PySem.W.Frag) : List V → Hp → VK → Prop := fun xs H Q => match xs with
  | [.ref p] => ∃ bs : List Bool, SqL K H p (bs.map V.bl) ∧ Q (.bl (bs.all id)) H
  | _ => False
theorem call_cAll (hc : X.calm = true) : CallR X (.builtin "all") (cAll X.K) := by
  intro pins s σ H xs us Q I r h
  match xs, h with
  | [.ref p], h => obtain ⟨bs, h⟩ := h; exact cr_all hc pins s σ H _ us Q I r ⟨p, bs, rfl, h⟩
def cList (K : PySem.W.Frag) : List V → Hp → VK → Prop := fun xs H Q => match xs with
  | [.ref p] => ∃ ys, (SqL K H p ys ∨ SqT K H p ys) ∧ ∀ l, H l = none → Q (.ref l) (upd H l (.lst ys))
  | _ => False
theorem call_cList : CallR X (.type "list") (cList X.K) := by
  intro pins s σ H xs us Q I r h
  match xs, h with
  | [.ref p], h => obtain ⟨ys, h⟩ := h; exact call_list_of pins s σ H _ us Q I r ⟨p, ys, rfl, h⟩
/-- sorted of ints -/
def cSort (K : PySem.W.Frag) : List V → Hp → VK → Prop := fun xs H Q => match xs with
  | [.ref p] => ∃ ns : List Int, SqL K H p (ns.map V.int) ∧ ∀ (ns' : List Int) (l : Addr), ns'.Perm ns → ns'.Pairwise (· ≤ ·) → H l = none → Q (.ref l) (upd H l (.lst (ns'.map V.int)))
  | _ => False
/-- isinstance(x, c) -/
def Isi (K : PySem.W.Frag) (H : Hp) (x c : V) (b : Bool) : Prop := ∃ (t u : Value), ClsV c u ∧ TyX K H x t ∧ PySem.W.kitOne K t u = some b
def cIsi (K : PySem.W.Frag) : List V → Hp → VK → Prop := fun xs H Q => match xs with
  | [x, c] => ∃ b, Isi K H x c b ∧ Q (.bl b) H
  | _ => False
theorem call_cIsi : CallR X (.builtin "isinstance") (cIsi X.K) := by
  intro pins s σ H xs us Q I r h
  match xs, h with
  | [x, c], h => obtain ⟨b, ⟨t, u, h1, h2, h3⟩, h⟩ := h; exact call_isi pins s σ H _ us Q I r ⟨x, c, t, u, b, rfl, h1, h2, h3, h⟩
theorem call_cSort : CallR X (.builtin "sorted") (cSort X.K) := by
  intro pins s σ H xs us Q I r h
  match xs, h with
  | [.ref p], h => obtain ⟨ns, h⟩ := h; exact cr_sortedI pins s σ H _ us Q I r ⟨p, ns, rfl, h⟩
/-- sorted of a dict with ints as keys -/
def cSortD : List V → Hp → VK → Prop := fun xs H Q => match xs with
  | [.ref p] => ∃ (kvs : List (Key × V)) (ks : List Int), H p = some (.dK kvs) ∧ kvs.map (·.1) = ks.map Sum.inl ∧ ks.length < 64 ∧ ∀ (ys : List Int) (l : Addr), ys.Perm ks → ys.Pairwise (· ≤ ·) → H l = none → Q (.ref l) (upd H l (.lst (ys.map V.int)))
  | _ => False
theorem call_cSortD (hc : X.calm = true) : CallR X (.builtin "sorted") cSortD := by
  intro pins s σ H xs us Q I r h
  match xs, h with
  | [.ref p], h => obtain ⟨kvs, ks, h1, h2, h3, h⟩ := h; exact call_sortedDI hc pins s σ H _ us Q I r ⟨p, kvs, ks, rfl, .of h1, h2, h3, h⟩
/-- int(x) -/
def cInt : List V → Hp → VK → Prop := fun xs H Q => match xs with
  | [.int i] => Q (.int i) H
  | [.bl k] => Q (.int (if k = true then 1 else 0)) H
  | _ => False
theorem call_cInt : CallR X (.type "int") cInt := by
  intro pins s σ H xs us Q I r h
  match xs, h with
  | [.int i], h => exact call_int1 pins s σ H _ us Q I r (.inl ⟨i, rfl, h⟩)
  | [.bl k], h => exact call_int1 pins s σ H _ us Q I r (.inr ⟨k, rfl, h⟩)
def cTuple (K : PySem.W.Frag) : List V → Hp → VK → Prop := fun xs H Q => match xs with
  | [.ref p] => ∃ ys, (SqL K H p ys ∧ ∀ l, H l = none → Q (.ref l) (upd H l (.tup ys))) ∨ (SqT K H p ys ∧ Q (.ref p) H)
  | _ => False
theorem call_cTuple : CallR X (.type "tuple") (cTuple X.K) := by
  intro pins s σ H xs us Q I r h
  match xs, h with
  | [.ref p], h => obtain ⟨ys, h⟩ := h; exact call_tuple_of pins s σ H _ us Q I r ⟨p, ys, rfl, h⟩
/-- repr(int) -/
def cRepr (K : PySem.W.Frag) : List V → Hp → VK → Prop := fun xs H Q => match xs with
  | [.int i] => i.natAbs.log2 < 1920 ∧ Q (.str (toString i)) H
  | _ => False
theorem call_cRepr : CallR X (.builtin "repr") (cRepr X.K) := by
  intro pins s σ H xs us Q I r h
  match xs, h with
  | [.int i], h => exact SkE.call_repr_int pins s σ H _ us Q I r ⟨i, rfl, h⟩

/-! ### names of the module -/
theorem pe_g {v : V} (hg : Gl X x) (h : ∃ u, X.mg x = some u ∧ RelV v u) (hdb : (x == ("__debug__" : Str)) = false := by decide) : PE X (.Name x pos) (tC v) := by
  obtain ⟨u, hm, r⟩ := h
  exact pe_glob hg hm r hdb
/-! ### a, b, c = x, y, z: three locals -/
def tPar3 (i j k : Nat) (ta : TA) : TS := fun D σ H => ta σ H fun vs H1 => ∃ v w z, vs = [v, w, z] ∧ D.nx (((σ.set i (some v)).set j (some w)).set k (some z)) H1
theorem ps_par3 {i j k : Nat} {x y z : Str} {a b c : Expr} {ta : TA} {px py pz pt : Pos} {kt k2 pt2} (hc : X.calm = true) (hN : X.N.Nodup) (hi : X.N[i]? = some x) (hj : X.N[j]? = some y) (hk : X.N[k]? = some z) (hij : i ≠ j) (hik : i ≠ k) (hjk : j ≠ k)
    (hx : X.env.scope.names.lookup x = some .local) (hy : X.env.scope.names.lookup y = some .local) (hz : X.env.scope.names.lookup z = some .local) (ha : PA X [a, b, c] ta)
    (hw : swappedStores [.Tuple [.Name x px, .Name y py, .Name z pz] kt pt] (.Tuple [a, b, c] k2 pt2) X.env = pure (some [x, y, z]))
    (hs : swapsWithSole [.Tuple [.Name x px, .Name y py, .Name z pz] kt pt] (.Tuple [a, b, c] k2 pt2) pos.line X.env = pure false := by rfl) :
    PS X (.Assign [.Tuple [.Name x px, .Name y py, .Name z pz] kt pt] (.Tuple [a, b, c] k2 pt2) pos) (tPar3 i j k ta) := by
  refine ⟨fun pins s σ H D I h => ?_⟩
  rw [exec_Assign_arm]
  refine wpAny_bind (wpAny_standAt ?_)
  rw [hs]
  refine wpAny_bind (wpAny_pure ?_)
  rw [if_neg (by decide)]
  refine wpAny_bind (Tuple_ (thn (ha.run _ pins s σ H _ I h) fun us s1 ⟨vs, H1, I1, r1, v, w, q, e1, q1⟩ => ?_))
  subst e1
  obtain ⟨u1, u2, u3, rfl, rv, rw', rq⟩ : ∃ u1 u2 u3, us = [u1, u2, u3] ∧ RelV v u1 ∧ RelV w u2 ∧ RelV q u3 := by
    cases r1 with
    | cons a1 r1 =>
      cases r1 with
      | cons a2 r1 =>
        cases r1 with
        | cons a3 r1 => cases r1; exact ⟨_, _, _, rfl, a1, a2, a3⟩
  refine wpAny_newObj_type ?_ (by show 3 ≤ sizeLine; decide)
  have I2 : Inv X pins σ H1 { s1 with heap := s1.heap.push { cls := .type "tuple", data := .seq [u1, u2, u3].toArray } } := I1.kept (t' := s1.toks) fun b o e => Heap.get?_push_of_some _ e
  rw [hw]
  refine wpAny_bind (wpAny_pure ?_)
  unfold assignStores
  refine wpAny_bind (wpAny_rule (wpAny_bind (unpackItems_tuple (items := #[u1, u2, u3]) (I.ok.hd hc) (IsTup.new s1.heap _) fun h' hx' => ?_)))
  have I3 := I2.kept (h' := h') (t' := s1.toks) fun b o e => hx' b o (Nat.ne_of_lt (Heap.lt_size e)) e
  simp only [List.reverse_cons, List.reverse_nil, List.nil_append, List.cons_append, List.map_cons, List.map_nil]
  refine wpAny_bind (assignInOrder_cons (wpAny_bindName (store_ok I3 hN hk (.inl hz) rq (fun s2 I4 => ?_) (.inr hz))))
  refine assignInOrder_cons (wpAny_bindName (store_ok I4 hN hj (.inl hy) rw' (fun s3 I5 => ?_) (.inr hy)))
  refine assignInOrder_cons (wpAny_bindName (store_ok I5 hN hi (.inl hx) rv (fun s4 I6 => assignInOrder_nil (wpAny_pure ?_)) (.inr hx)))
  rw [List.set_comm _ _ (Ne.symm hij), List.set_comm _ _ (Ne.symm hik), List.set_comm _ _ (Ne.symm hjk)] at I6
  exact ⟨_, H1, I6, q1⟩

/-! ### calls by keywords alone (behind the receiver of a method) -/
structure KB (K : PySem.W.Frag) (fd : FuncData) (ps : List Str) (n : Nat) (ks : List Str) (g : List Value → List Value) (gV : List V → List V) : Prop where
  to : ∀ (s : Shared) (us ws : List Value), K.In s.heap → us.length = n → ws.length = ks.length → BindsTo s fd ⟨us, ks.zip ws⟩ (ps.zip (us ++ g ws))
  rel : ∀ {zs : List V} {ws : List Value}, Vals zs ws → Vals (gV zs) (g ws)
structure FnK (P : Program) (w : World) (K : PySem.W.Frag) (mg : Str → Option Value) (base : Heap) (k : Nat) (x : Str) (ks : List Str) (gV : List V → List V) (sp : Sp) : Prop where
  ex : ∃ (f : Addr) (fd : FuncData) (ps : List Str) (g : List Value → List Value), FnOk P w K mg base (L2.CX P w) k f fd ps sp ∧ mg x = some (.ref f) ∧ PySem.W.keepIn K (.ref f) = true ∧ KB K fd ps 0 ks g gV
structure MthK (P : Program) (w : World) (K : PySem.W.Frag) (mg : Str → Option Value) (base : Heap) (k : Nat) (C : Addr) (m : Str) (ks : List Str) (gV : List V → List V) (sp : Sp) : Prop where
  ex : ∃ (f : Addr) (fd : FuncData) (ps : List Str) (g : List Value → List Value), Cls K C ∧ Meth K C m f ∧ FnOk P w K mg base (L2.CX P w) k f fd ps sp ∧ KB K fd ps 1 ks g gV
def tFnK (P : Program) (w : World) (K : PySem.W.Frag) (mg : Str → Option Value) (base : Heap) (x : Str) (ks : List Str) (j : Nat) (E : XK) (t : TA) : TE := fun σ H Q => ∃ k gV sp, FnK P w K mg base k x ks gV sp ∧ k ≤ j ∧ t σ H fun vs H1 => vs.length = ks.length ∧ sp (gV vs) H1 Q E
def tMthK (P : Program) (w : World) (K : PySem.W.Frag) (mg : Str → Option Value) (base : Heap) (m : Str) (ks : List Str) (j : Nat) (E : XK) (ta : TE) (t : TA) : TE := fun σ H Q => ta σ H fun x H1 => ∃ a C dx fs k gV sp, x = .ref a ∧ H1 a = some (.ins C dx fs) ∧ MthK P w K mg base k C m ks gV sp ∧ k ≤ j ∧ fs.lookup m = none ∧
  t σ H1 fun vs H2 => vs.length = ks.length ∧ sp (.ref a :: gV vs) H2 Q E
theorem run_kb {k n : Nat} {f : Addr} {fd : FuncData} {ps ks : List Str} {sp : Sp} {g : List Value → List Value} {gV : List V → List V} {pins : List (Addr × Obj)} {σ : L2.St} {H : Hp} {s : Shared} {Q : VK} {us ws : List Value} {vs zs : List V} (F : FnOk X.prog X.w X.K X.mg X.base (L2.CX X.prog X.w) k f fd ps sp) (a : At X j E) (hk : k ≤ j)
    (hb : KB X.K fd ps n ks g gV) (I : Inv X pins σ H s) (r : Vals vs us) (hn : us.length = n) (rz : Vals zs ws) (hl : zs.length = ks.length) (h : sp (vs ++ gV zs) H Q E) : wpAny (model X.prog X.w) X.A (call (.ref f) us (ks.zip ws)) (EP X pins σ Q) X.xe s := by
  refine wpAny_call (codeAny_mono (F.run X.A X.stack s H ⟨us, ks.zip ws⟩ (us ++ g ws) (vs ++ gV zs) Q E (a.hr.mono hk) I.env0 (hb.to s us ws I.kIn hn (by rw [← rz.length]; exact hl)) (r.append (hb.rel rz)) h) fun r s' hq => ?_)
  cases r with
  | error e => exact a.hx pins σ H s e s' I hq
  | ok fl =>
    cases fl with
    | ret u => exact I.after hq
    | next => exact False.elim hq
    | brk => exact False.elim hq
    | cont => exact False.elim hq
section
variable {ks : List Str} {kws : List Keyword}
theorem pe_fnK (a : At X j E) (hg : Gl X x) (hkw : PK X kws t) (hall : (backToKw pos (keywordEach kws X.env)).all (·.1.isSome) = true := by rfl) (hks : (backToKw pos (keywordEach kws X.env)).filterMap (·.1) = ks := by rfl)
    (hdb : (x == ("__debug__" : Str)) = false := by decide) (hpl : ((backTo pos (starEach [] X.env)).any (·.1) || (backToKw pos (keywordEach kws X.env)).any (·.1.isNone)) = false := by rfl) :
    PE X (.Call (.Name x p) [] kws pos) (tFnK X.prog X.w X.K X.mg X.base x ks j E t) := by
  refine ⟨fun pins s σ H Q I h => ?_⟩
  obtain ⟨k, gV, sp, F, hk, h⟩ := h
  obtain ⟨f, fd, ps, g, F, hm, kp, b⟩ := F.ex
  refine wpAny_Call_Name_kw (ld_glob I hg hm (PySem.W.callWith_KW0 (h₀ := X.base) I.ok.mod.kin kp hall ?_ hpl) hdb)
  refine thn (hkw.run pos pins s σ H _ I h) fun ws s2 ⟨zs, H2, I2, rz, hl, q2⟩ => ⟨I2.kIn, ?_⟩
  rw [hks]
  exact run_kb (us := []) (vs := []) F a hk b I2 .nil rfl rz hl q2
theorem pe_mthK {pl : Sem Bool} (a : At X j E) (ho : PE X o ta) (hkw : PK X kws t) (hall : (backToKw pos (keywordEach kws X.env)).all (·.1.isSome) = true := by rfl) (hks : (backToKw pos (keywordEach kws X.env)).filterMap (·.1) = ks := by rfl)
    (hpl : ((backTo pos (starEach [] X.env)).any (·.1) || (backToKw pos (keywordEach kws X.env)).any (·.1.isNone)) = false := by rfl)
    (ht : eval (.Call (.Attribute o m apos) [] kws pos) X.env = (do
      let ov ← eval o X.env
      standAt apos.atName
      let (f, first) ← holding [ov] (getMethod ov m pl)
      callWith pos f first (backTo pos (starEach [] X.env)) (backToKw pos (keywordEach kws X.env))) := by rfl) :
    PE X (.Call (.Attribute o m apos) [] kws pos) (tMthK X.prog X.w X.K X.mg X.base m ks j E ta t) := by
  refine ⟨fun pins s σ H Q I h => PySem.W.methodCall_KW (pl := pl) (thn (ho.run pins s σ H _ I h) fun u s1 ⟨x, H1, I1, rx, y, C, dx, fs, k, gV, sp, ex, ea, M, hk, l, q⟩ => ?_) ht⟩
  subst ex
  obtain rfl : u = Value.ref y := rx
  obtain ⟨f, fd, ps, g, c, hm, F, b⟩ := M.ex
  refine getmeth_ok I1 ea c hm l (PySem.W.callWith_KW0 (first := [.ref y]) (h₀ := X.base) I.ok.mod.kin hm.kp hall ?_ hpl)
  refine thn (hkw.run pos pins s1 σ H1 _ I1 q) fun ws s2 ⟨zs, H2, I2, rz, hl, q2⟩ => ⟨I2.kIn, ?_⟩
  rw [hks]
  exact run_kb (us := [.ref y]) (vs := [.ref y]) F a hk b I2 (.cons rfl .nil) rfl rz hl q2
end
end

/-! ### isinstance, told by the kinds -/
section
variable {K : PySem.W.Frag} {H : Hp}
theorem isi_int {i : Int} {n : String} {b : Bool} (h : kitB "int" n = some b) : Isi K H (.int i) (.ty n) b := ⟨_, _, .ty n, .base (.int i), kit_ty h⟩
theorem isi_str {z : Str} {n : String} {b : Bool} (h : kitB "str" n = some b) : Isi K H (.str z) (.ty n) b := ⟨_, _, .ty n, .base (.str z), kit_ty h⟩
theorem isi_lst {a : Addr} {xs : List V} {n : String} {b : Bool} (e : H a = some (.lst xs)) (h : kitB "list" n = some b) : Isi K H (.ref a) (.ty n) b := ⟨_, _, .ty n, .base (.lst e), kit_ty h⟩
/-- instances of C are told by their class -/
structure InsTy (K : PySem.W.Frag) (C : Addr) : Prop where
  ha : PySem.W.findIn K (.ref C) "__class__" = some (some (.builtin "object.__class__"))
  hn : PySem.W.specialIn K (.builtin "object.__class__") "__get__" = some (some (.builtin "getset_descriptor.__get__"))
  ht : PySem.W.takesIn K (.builtin "object.__class__") = some true
  hm : PySem.W.mroIn K C (.type "object") = some true
theorem isi_ins {a C D dx : Addr} {fs : List (Str × V)} {b : Bool} (e : H a = some (.ins C dx fs)) (c : Cls K C) (t : InsTy K C) (h : PySem.W.kitOne K (.ref C) (.ref D) = some b) : Isi K H (.ref a) (.ref D) b := ⟨_, _, .own D, .base (.ins e c t.ha t.hn t.ht t.hm), h⟩
end

/-! ### a def, by what is true of its body's reading -/
section
variable {P : Program} {w : World} {K : PySem.W.Frag} {mg : Str → Option Value} {base : Heap}
/-- the def x of the module stands as st -/
structure Df (K : PySem.W.Frag) (mg : Str → Option Value) (x : Str) (st : Stmt) (ps : List Str) : Prop where
  ex : ∃ (f : Addr) (fd : FuncData), Fun K x x st f fd ∧ mg x = some (.ref f) ∧ Binds K fd ps []
/-- the method m of the class at C stands as st (of the class qual names) -/
structure Dm (K : PySem.W.Frag) (C : Addr) (m qual : Str) (st : Stmt) (ps : List Str) : Prop where
  cls : Cls K C
  ex : ∃ (f : Addr) (fd : FuncData), Fun K m qual st f fd ∧ Meth K C m f ∧ Binds K fd ps []
/-- the class x at C is made by the __init__ st -/
structure Dk (K : PySem.W.Frag) (mg : Str → Option Value) (x : Str) (C : Addr) (qual : Str) (st : Stmt) (ps : List Str) : Prop where
  ex : ∃ (f : Addr) (fd : FuncData), Fun K "__init__" qual st f fd ∧ Mk K C f ∧ mg x = some (.ref C) ∧ Binds K fd ps []
abbrev Der (P : Program) (w : World) (K : PySem.W.Frag) (mg : Str → Option Value) (base : Heap) (N : List Str) (qual : Str) (st : Stmt) (lv : Nat) (t : XK → TS) : Prop :=
  ∀ {f : Addr} {cdv : Value} {Ar : Around} {outer : List Env} {s : Shared} {H : Hp} {E : XK}, Room lv (Ar.deeper (PyProof.Rows.envOfC qual (defScope st) s.heap.objs.size f cdv)) → PSs (cxOf (L2.CX P w) P w K mg base N qual (defScope st) f cdv Ar outer s H E) (defBody st) (t E)
abbrev Pur (N ps : List Str) (t : XK → TS) (sp : Sp) : Prop := ∀ vs H Q E, sp vs H Q E → vs.length = ps.length ∧ t E { nx := fun _ H' => Q .non H', rt := Q } (start N vs) H
theorem fnok_of {x qual : Str} {st : Stmt} {f : Addr} {fd : FuncData} {N ps : List Str} {lv : Nat} {t : XK → TS} {sp : Sp} (F : Fun K x qual st f fd) (S : FnScope N ps (defScope st)) (D : Der P w K mg base N qual st lv t) (p : Pur N ps t sp) : FnOk P w K mg base (L2.CX P w) (lv + 1) f fd ps sp :=
  F.okX S (fun vs H Q E h => (p vs H Q E h).1) fun cdv Ar outer s H vs Q E hr h => ⟨t E, D hr, (p vs H Q E h).2⟩
theorem Df.fn {x : Str} {st : Stmt} {N ps : List Str} {lv : Nat} {t : XK → TS} {sp : Sp} (d : Df K mg x st ps) (S : FnScope N ps (defScope st)) (D : Der P w K mg base N x st lv t) (p : Pur N ps t sp) : Fn P w K mg base (lv + 1) x sp := by
  obtain ⟨f, fd, F, hm, b⟩ := d.ex
  exact ⟨f, fd, ps, fnok_of F S D p, hm, F.kp, b⟩
theorem Dm.mth {m qual : Str} {C : Addr} {st : Stmt} {N ps : List Str} {lv : Nat} {t : XK → TS} {sp : Sp} (d : Dm K C m qual st ps) (S : FnScope N ps (defScope st)) (D : Der P w K mg base N qual st lv t) (p : Pur N ps t sp) : Mth P w K mg base (lv + 1) C m sp := by
  obtain ⟨f, fd, F, hm, b⟩ := d.ex
  exact ⟨f, fd, ps, d.cls, hm, fnok_of F S D p, b⟩
theorem Dk.mkr {x qual : Str} {C : Addr} {st : Stmt} {N ps : List Str} {lv : Nat} {t : XK → TS} {sp : Sp} (d : Dk K mg x C qual st ps) (S : FnScope N ps (defScope st)) (D : Der P w K mg base N qual st lv t) (p : Pur N ps t sp) : Mkr P w K mg base (lv + 1) x C sp := by
  obtain ⟨f, fd, F, M, hm, b⟩ := d.ex
  exact ⟨f, fd, ps, M, fnok_of F S D p, hm, b⟩
/-- by one keyword -/
theorem Fun.kb1 {x qual k : Str} {st : Stmt} {f : Addr} {fd : FuncData} (F : Fun K x qual st f fd)
    (h : ∀ (kV doc pm : Value) (an : Option Addr) (cdv ct u : Value), bindArgs (PySem.W.fnOf x qual (defArgs st) (defBody st) (defScope st) .none kV doc pm an cdv ct) ⟨[], [(k, u)]⟩ = pure [(k, u)]) : KB K fd [k] 0 [k] id id := by
  obtain ⟨oc, od, kV, doc, pm, an, cdv, ct, osl, rfl, lk, hcd⟩ := F.ex
  refine ⟨fun s us ws _ hu hw => ?_, fun r => r⟩
  match us, ws, hu, hw with
  | [], [u], _, _ => exact .of_eq (h kV doc pm an cdv ct u)
theorem Df.fnK1 {x k : Str} {st : Stmt} {N : List Str} {lv : Nat} {t : XK → TS} {sp : Sp} (d : Df K mg x st [k]) (S : FnScope N [k] (defScope st)) (D : Der P w K mg base N x st lv t) (p : Pur N [k] t sp)
    (h : ∀ (kV doc pm : Value) (an : Option Addr) (cdv ct u : Value), bindArgs (PySem.W.fnOf x x (defArgs st) (defBody st) (defScope st) .none kV doc pm an cdv ct) ⟨[], [(k, u)]⟩ = pure [(k, u)]) : FnK P w K mg base (lv + 1) x [k] id sp := by
  obtain ⟨f, fd, F, hm, b⟩ := d.ex
  exact ⟨f, fd, [k], id, fnok_of F S D p, hm, F.kp, Fun.kb1 F h⟩
end

/-! ### comprehensions that read alone; loops -/
/-- the body of a comprehension's reading, J walked -/
def LcB (J : It) (g : TG) (tt : TT) (te : TE) (vs : List Nat) (σ : L2.St) (H1 : Hp) (Q : VK) : Prop := ∀ D, H1 D = none → ∃ W : Nat → Nat → Hp → Prop, (∃ m, W 0 m (upd H1 D (.lst []))) ∧ ∀ i m H, W i m H →
  (J.stop i H ∧ Q (.ref D) H) ∨ (J.go i H ∧ ∃ Nx : Hp → Prop, (∀ H', Nx H' → ∃ m', m' < m ∧ W (i + 1) m' H') ∧ ∀ x H', J.yld i H x H' → g x (wipe σ vs) H' fun σ2 H2 => wipe σ2 vs = wipe σ vs ∧ tt σ2 H2 fun b H3 =>
    if b = true then te σ2 H3 fun y H4 => ∃ acc, H4 D = some (.lst acc) ∧ acc.length < sizeLine ∧ Nx (upd H4 D (.lst (acc ++ [y]))) else Nx H3)
theorem tLc_eq (wi : TI) (g : TG) (tt : TT) (te : TE) (vs : List Nat) (σ : L2.St) (H : Hp) (Q : VK) : tLc wi g tt te vs σ H Q = wi σ H fun J H1 => LcB J g tt te vs σ H1 Q := rfl
def ForB (J : It) (g : TG) (tb : TS) (D : Ends) (σ : L2.St) (H1 : Hp) : Prop := ∃ W : Nat → Nat → L2.St → Hp → Prop, (∃ m, W 0 m σ H1) ∧ ∀ i m σ H, W i m σ H →
  (J.stop i H ∧ D.nx σ H) ∨ (J.go i H ∧ ∃ N : L2.St → Hp → Prop, (∀ σ' H', N σ' H' → ∃ m', m' < m ∧ W (i + 1) m' σ' H') ∧ ∀ x H', J.yld i H x H' → g x σ H' fun σ2 H2 => tb { D with nx := N, ct := N, bk := D.nx } σ2 H2)
theorem tFor_eq (wi : TI) (g : TG) (tb : TS) (D : Ends) (σ : L2.St) (H : Hp) : tFor wi g tb D σ H = wi σ H fun J H1 => ForB J g tb D σ H1 := rfl
theorem _root_.L2.Same.new {H : Hp} {p : Addr} {o : HO} (h : H p = none) : Same H (upd H p o) := fun a u e => by rw [upd_ne (ne_of_none e h)]; exact e
theorem _root_.L2.Same.mut {H H' : Hp} {p : Addr} {o : HO} (e : Same H H') (h : H p = none) : Same H (upd H' p o) := fun a u ha => by rw [upd_ne (ne_of_none ha h)]; exact e a u ha
theorem _root_.L2.Same.tup {K : PySem.W.Frag} {H H' : Hp} {a : Addr} {xs : List V} (e : Same H H') (h : SqT K H a xs) : SqT K H' a xs := by
  rcases h with (h | ⟨o, h⟩) | h
  · exact .inl (.inl (e _ _ h))
  · exact .inl (.inr ⟨o, e _ _ h⟩)
  · exact .inr h
/-- te gives v, leaving what is known -/
def Evs (te : TE) (σ : L2.St) (H : Hp) (v : V) : Prop := ∀ Q : VK, (∀ H2, Same H H2 → Q v H2) → te σ H Q
def Evt (tt : TT) (σ : L2.St) (H : Hp) (b : Bool) : Prop := ∀ Q : Bool → Hp → Prop, (∀ H2, Same H H2 → Q b H2) → tt σ H Q
theorem Evt.yes {σ : L2.St} {H : Hp} : Evt tYes σ H true := fun Q q => q H (Same.refl H)
/-- J makes n turns as long as H1 stays; item i is such that R i x H -/
structure Goes (J : It) (H1 : Hp) (n : Nat) (R : Nat → V → Hp → Prop) : Prop where
  go : ∀ i H, i < n → Same H1 H → J.go i H
  stop : ∀ H, Same H1 H → J.stop n H
  yld : ∀ i H x H', i < n → Same H1 H → J.yld i H x H' → Same H H' ∧ R i x H'
theorem goes_list {K : PySem.W.Frag} {H : Hp} {a : Addr} {xs : List V} (h : SqL K H a xs) : Goes (Itl K a) H xs.length (fun i x _ => xs[i]? = some x) where
  go := fun i H' hi e => ⟨xs, xs[i], e.seq h, by simp [hi]⟩
  stop := fun H' e => ⟨xs, e.seq h, Nat.le_refl _⟩
  yld := fun i H' x H2 hi e y => by
    obtain ⟨rfl, y⟩ := y
    exact ⟨Same.refl _, y xs (e.seq h)⟩
theorem goes_tup {K : PySem.W.Frag} {H : Hp} {a : Addr} {xs : List V} (h : SqT K H a xs) : Goes (Itt K a) H xs.length (fun i x _ => xs[i]? = some x) where
  go := fun i H' hi e => ⟨xs, xs[i], e.tup h, by simp [hi]⟩
  stop := fun H' e => ⟨xs, e.tup h, Nat.le_refl _⟩
  yld := fun i H' x H2 hi e y => by
    obtain ⟨rfl, y⟩ := y
    exact ⟨Same.refl _, y xs (e.tup h)⟩
theorem goes_str {z : Str} {H : Hp} : Goes (Its z) H z.cps.size (fun i x _ => ∃ c, z.cps[i]? = some c ∧ x = .str ⟨#[c]⟩) where
  go := fun i H' hi _ => hi
  stop := fun H' _ => Nat.le_refl _
  yld := fun i H' x H2 hi _ y => by
    obtain ⟨rfl, y⟩ := y
    exact ⟨Same.refl _, y⟩
theorem goes_range {lo : Int} {n : Nat} {H : Hp} : Goes (Itr lo n) H n (fun i x _ => x = .int (lo + i)) where
  go := fun i H' hi _ => hi
  stop := fun H' _ => Nat.le_refl _
  yld := fun i H' x H2 hi _ y => by
    obtain ⟨rfl, rfl⟩ := y
    exact ⟨Same.refl _, rfl⟩
theorem goes_enum {K : PySem.W.Frag} {H : Hp} {a : Addr} {xs : List V} (h : SqL K H a xs) : Goes (Ite K a) H xs.length (fun i x H' => ∃ T y, x = .ref T ∧ xs[i]? = some y ∧ H' T = some (.tup [.int (i : Nat), y])) where
  go := fun i H' hi e => ⟨xs, xs[i], e.seq h, by simp [hi]⟩
  stop := fun H' e => ⟨xs, e.seq h, Nat.le_refl _⟩
  yld := fun i H' x H2 hi e y => by
    obtain ⟨T, v, rfl, hn, rfl, y⟩ := y
    exact ⟨Same.new hn, T, v, rfl, y xs (e.seq h), upd_same⟩
theorem goes_zip {K : PySem.W.Frag} {H : Hp} {a b : Addr} {xs ys : List V} (h : SqL K H a xs) (h' : SqL K H b ys) (hl : xs.length = ys.length) : Goes (Itz K a b) H xs.length (fun i x H' => ∃ T u v, x = .ref T ∧ xs[i]? = some u ∧ ys[i]? = some v ∧ H' T = some (.tup [u, v])) where
  go := fun i H' hi e => ⟨xs, ys, xs[i], ys[i]'(by omega), e.seq h, e.seq h', by simp [hi], by simp [show i < ys.length by omega]⟩
  stop := fun H' e => ⟨xs, ys, e.seq h, e.seq h', .inl (Nat.le_refl _)⟩
  yld := fun i H' x H2 hi e y => by
    obtain ⟨T, u, v, rfl, hn, rfl, y1, y2⟩ := y
    exact ⟨Same.new hn, T, u, v, rfl, y1 xs (e.seq h), y2 ys (e.seq h'), upd_same⟩
/-- one turn of a comprehension: the item is taken to σ2; kept as y, or left -/
structure LcT (g : TG) (tt : TT) (te : TE) (vs : List Nat) (σ : L2.St) (x : V) (H : Hp) (sel : Option V) : Prop where
  ex : ∃ σ2, wipe σ2 vs = wipe σ vs ∧ (∀ R : L2.St → Hp → Prop, R σ2 H → g x (wipe σ vs) H R) ∧ (match sel with
    | some y => Evt tt σ2 H true ∧ ∀ H3, Same H H3 → Evs te σ2 H3 y
    | none => Evt tt σ2 H false)
theorem lc_goes {J : It} {g : TG} {tt : TT} {te : TE} {vs : List Nat} {σ : L2.St} {H1 : Hp} {Q : VK} {n : Nat} {R : Nat → V → Hp → Prop} (S : Goes J H1 n R) (sel : Nat → Option V) (hn : n < sizeLine)
    (turn : ∀ i x H, i < n → Same H1 H → R i x H → LcT g tt te vs σ x H (sel i))
    (hq : ∀ D H', H1 D = none → Same H1 H' → H' D = some (.lst ((List.range n).filterMap sel)) → Q (.ref D) H') : LcB J g tt te vs σ H1 Q := by
  intro D hD
  refine ⟨fun i m H => m = n - i ∧ i ≤ n ∧ Same H1 H ∧ H D = some (.lst ((List.range i).filterMap sel)), ⟨n, by simp, Nat.zero_le _, Same.new hD, upd_same⟩, ?_⟩
  rintro i m H ⟨rfl, hi, sm, hl⟩
  by_cases hlt : i < n
  · refine .inr ⟨S.go i H hlt sm, fun H' => Same H1 H' ∧ H' D = some (.lst ((List.range (i + 1)).filterMap sel)), fun H' h => ⟨n - (i + 1), by omega, rfl, hlt, h⟩, fun x H' y => ?_⟩
    obtain ⟨s1, r⟩ := S.yld i H x H' hlt sm y
    obtain ⟨σ2, e2, hg, ht⟩ := (turn i x H' hlt (sm.trans s1) r).ex
    refine hg _ ⟨e2, ?_⟩
    have hl1 := s1 _ _ hl
    cases e : sel i with
    | some y =>
      rw [e] at ht
      refine ht.1 _ fun H2 s2 => ?_
      rw [if_pos rfl]
      refine ht.2 H2 s2 _ fun H3 s3 => ⟨_, s3 _ _ (s2 _ _ hl1), ?_, ((sm.trans s1).trans (s2.trans s3)).mut hD, ?_⟩
      · have := List.length_filterMap_le sel (List.range i)
        rw [List.length_range] at this
        omega
      · rw [upd_same, List.range_succ, List.filterMap_append]
        simp [e]
    | none =>
      rw [e] at ht
      refine ht _ fun H2 s2 => ?_
      rw [if_neg Bool.false_ne_true]
      refine ⟨(sm.trans s1).trans s2, ?_⟩
      rw [s2 _ _ hl1, List.range_succ, List.filterMap_append]
      simp [e]
  · obtain rfl : i = n := by omega
    exact .inl ⟨S.stop H sm, hq D H hD sm hl⟩
theorem range_some {α : Type} (f : Nat → α) (n : Nat) : (List.range n).filterMap (fun i => some (f i)) = (List.range n).map f := by
  induction n with
  | zero => rfl
  | succ n ih => rw [List.range_succ, List.filterMap_append, List.map_append, ih]; rfl
theorem range_list {α β : Type} (f : α → Option β) (xs : List α) : (List.range xs.length).filterMap (fun i => (xs[i]?).bind f) = xs.filterMap f := by
  induction xs with
  | nil => rfl
  | cons x xs ih =>
    rw [List.length_cons, List.range_succ_eq_map, List.filterMap_cons, List.filterMap_map]
    have e : ((fun i => ((x :: xs)[i]?).bind f) ∘ Nat.succ) = fun i => (xs[i]?).bind f := by funext i; simp
    rw [e, ih, List.filterMap_cons]
    simp
/-- [e for v in xs if t], xs a list: e and t by a function of the item -/
theorem lc_lst {K : PySem.W.Frag} {a : Addr} {xs : List V} {g : TG} {tt : TT} {te : TE} {vs : List Nat} {σ : L2.St} {H1 : Hp} {Q : VK} (f : V → Option V) (h : SqL K H1 a xs) (hn : xs.length < sizeLine)
    (turn : ∀ x H, x ∈ xs → Same H1 H → LcT g tt te vs σ x H (f x)) (hq : ∀ D H', H1 D = none → Same H1 H' → H' D = some (.lst (xs.filterMap f)) → Q (.ref D) H') : LcB (Itl K a) g tt te vs σ H1 Q := by
  refine lc_goes (goes_list h) (fun i => (xs[i]?).bind f) hn (fun i x H hi s r => ?_) fun D H' hD s hl => hq D H' hD s (by rw [range_list] at hl; exact hl)
  have q := turn x H (List.mem_of_getElem? r) s
  rw [r]
  exact q

/-! ### data -/
section
variable {K : PySem.W.Frag} {H H' : Hp}
mutual
theorem dp_same (s : Same H H') : ∀ (d : PyData) (v : V), Dp K H v d → Dp K H' v d
  | .none, _, h => by cases h; exact .non
  | .bool _, _, h => by cases h; exact .bl _
  | .int _, _, h => by cases h; exact .int _
  | .str _, _, h => by cases h; exact .str _
  | .list ds, _, h => by
    cases h with
    | lst hs ha => exact .lst (s.seq hs) (dpa_same s ds _ ha)
  | .tuple ds, _, h => by
    cases h with
    | tup hs ha => exact .tup (s.tup hs) (dpa_same s ds _ ha)
  | .dict _, _, h => by cases h
theorem dpa_same (s : Same H H') : ∀ (ds : List PyData) (vs : List V), DpAll K H vs ds → DpAll K H' vs ds
  | [], _, h => by cases h; exact .nil
  | d :: ds, _, h => by
    cases h with
    | cons h1 h2 => exact .cons (dp_same s d _ h1) (dpa_same s ds _ h2)
end
theorem dpa_snoc {v : V} {d : PyData} : ∀ {vs : List V} {ds : List PyData}, DpAll K H vs ds → Dp K H v d → DpAll K H (vs ++ [v]) (ds ++ [d])
  | _, _, .nil, h => .cons h .nil
  | _, _, .cons a b, h => .cons a (dpa_snoc b h)
theorem dpa_map {α : Type} {f : α → V} {g : α → PyData} : ∀ (l : List α), (∀ x ∈ l, Dp K H (f x) (g x)) → DpAll K H (l.map f) (l.map g)
  | [], _ => .nil
  | x :: l, h => .cons (h x List.mem_cons_self) (dpa_map l fun y hy => h y (List.mem_cons_of_mem _ hy))
theorem dpa_len : ∀ {vs : List V} {ds : List PyData}, DpAll K H vs ds → vs.length = ds.length
  | _, _, .nil => rfl
  | _, _, .cons _ b => congrArg (· + 1) (dpa_len b)
/-- the heap without one address -/
def hide (p : Addr) (H : Hp) : Hp := fun b => if b = p then none else H b
theorem hide_same {p : Addr} : Same (hide p H) H := fun b o h => by
  unfold hide at h
  split at h
  · cases h
  · exact h
theorem hide_get {p b : Addr} {o : HO} (h : H b = some o) (n : b ≠ p) : hide p H b = some o := by unfold hide; rw [if_neg n]; exact h
theorem hide_mono {p : Addr} (s : Same H H') : Same (hide p H) (hide p H') := fun b o h => by
  unfold hide at h
  split at h
  · cases h
  · rename_i n; exact hide_get (s b o h) n
theorem hide_upd {p : Addr} {o : HO} : hide p (upd H p o) = hide p H := by
  funext b
  unfold hide upd
  split <;> rfl
/-- data of depth at most n -/
def okD (n : Nat) (d : PyData) : Prop := d.canLay0 = true ∧ d.depth ≤ n
theorem okD.list {n : Nat} {ds : List PyData} (h : ∀ d ∈ ds, okD n d) : okD (n + 1) (.list ds) := by
  have q : PyData.canLayAll0 ds = true ∧ PyData.depthAll ds ≤ n := by
    induction ds with
    | nil => exact ⟨rfl, Nat.zero_le _⟩
    | cons d ds ih =>
      have h1 := h d List.mem_cons_self
      have h2 := ih fun x hx => h x (List.mem_cons_of_mem _ hx)
      exact ⟨by unfold PyData.canLayAll0; rw [h1.1, h2.1]; rfl, Nat.max_le.mpr ⟨h1.2, h2.2⟩⟩
  exact ⟨by unfold PyData.canLay0; exact q.1, by unfold PyData.depth; exact Nat.succ_le_succ q.2⟩
theorem okD.tuple {n : Nat} {ds : List PyData} (h : ∀ d ∈ ds, okD n d) : okD (n + 1) (.tuple ds) := by
  have q := okD.list h
  exact ⟨by have := q.1; unfold PyData.canLay0 at this ⊢; exact this, by have := q.2; unfold PyData.depth at this ⊢; exact this⟩
theorem okD.int {n : Nat} {i : Int} : okD n (.int i) := ⟨rfl, Nat.zero_le _⟩
theorem okD.bool {n : Nat} {i : Bool} : okD n (.bool i) := ⟨rfl, Nat.zero_le _⟩
theorem okD.str {n : Nat} {z : Str} (h : PyData.strOk z = true) : okD n (.str z) := ⟨by unfold PyData.canLay0; exact h, Nat.zero_le _⟩
theorem okD.shaped {n : Nat} {d : PyData} (h : okD n d) (hn : n ≤ 64) : SeqAt.shaped d = true := by
  unfold SeqAt.shaped
  rw [h.1, decide_eq_true (Nat.le_trans h.2 hn)]; rfl
end

/-! ### comprehensions that make new things -/
/-- xs are related to as, item by item -/
structure Rel2 {α : Type} (Rl : V → α → Prop) (xs : List V) (as : List α) : Prop where
  len : xs.length = as.length
  at_ : ∀ (i : Nat) (x : V) (a : α), xs[i]? = some x → as[i]? = some a → Rl x a
theorem Rel2.nil {α : Type} {Rl : V → α → Prop} : Rel2 Rl [] [] := ⟨rfl, fun i x a h => by simp at h⟩
theorem Rel2.imp {α : Type} {Rl Rl' : V → α → Prop} {xs : List V} {as : List α} (h : Rel2 Rl xs as) (q : ∀ x a, Rl x a → Rl' x a) : Rel2 Rl' xs as := ⟨h.len, fun i x a h1 h2 => q x a (h.at_ i x a h1 h2)⟩
theorem Rel2.snoc {α : Type} {Rl : V → α → Prop} {xs : List V} {as : List α} {y : V} {b : α} (h : Rel2 Rl xs as) (hy : Rl y b) : Rel2 Rl (xs ++ [y]) (as ++ [b]) := by
  refine ⟨by simp [h.len], fun i x a h1 h2 => ?_⟩
  have hl := h.len
  by_cases c : i < xs.length
  · rw [List.getElem?_append_left c] at h1
    rw [List.getElem?_append_left (by omega)] at h2
    exact h.at_ i x a h1 h2
  · rw [List.getElem?_append_right (by omega)] at h1
    rw [List.getElem?_append_right (by omega)] at h2
    by_cases e : i = xs.length
    · subst e
      rw [show xs.length - xs.length = 0 by omega] at h1
      rw [show xs.length - as.length = 0 by omega] at h2
      simp at h1 h2
      subst h1; subst h2
      exact hy
    · rw [List.getElem?_eq_none (by simp; omega)] at h1
      cases h1
theorem Rel2.dpa {K : PySem.W.Frag} {H : Hp} : ∀ {xs : List V} {ds : List PyData}, Rel2 (Dp K H) xs ds → DpAll K H xs ds
  | [], [], _ => .nil
  | [], _ :: _, h => absurd h.len (by simp)
  | _ :: _, [], h => absurd h.len (by simp)
  | x :: xs, d :: ds, h => .cons (h.at_ 0 x d rfl rfl) (Rel2.dpa ⟨by have := h.len; simpa using this, fun i y e h1 h2 => h.at_ (i + 1) y e (by simpa using h1) (by simpa using h2)⟩)
theorem lc_rel {α : Type} {Rl : Hp → V → α → Prop} (mono : ∀ H H' y a, Same H H' → Rl H y a → Rl H' y a) {J : It} {g : TG} {tt : TT} {te : TE} {vs : List Nat} {σ : L2.St} {H1 : Hp} {Q : VK} {n : Nat} {R : Nat → V → Hp → Prop} (S : Goes J H1 n R) (sel : Nat → Option α) (hn : n < sizeLine)
    (turn : ∀ i x H D, i < n → Same H1 H → R i x H → H1 D = none → (∃ acc, H D = some (.lst acc)) → ∃ σ2, wipe σ2 vs = wipe σ vs ∧ (∀ R' : L2.St → Hp → Prop, R' σ2 H → g x (wipe σ vs) H R') ∧ (match sel i with
      | some d => Evt tt σ2 H true ∧ ∀ H3, Same H H3 → ∀ Q' : VK, (∀ y H4, Same H3 H4 → Rl (hide D H4) y d → Q' y H4) → te σ2 H3 Q'
      | none => Evt tt σ2 H false))
    (hq : ∀ D H' xs, H1 D = none → Same H1 H' → H' D = some (.lst xs) → Rel2 (Rl (hide D H')) xs ((List.range n).filterMap sel) → Q (.ref D) H') : LcB J g tt te vs σ H1 Q := by
  intro D hD
  refine ⟨fun i m H => m = n - i ∧ i ≤ n ∧ Same H1 H ∧ ∃ xs, H D = some (.lst xs) ∧ Rel2 (Rl (hide D H)) xs ((List.range i).filterMap sel), ⟨n, by simp, Nat.zero_le _, Same.new hD, [], upd_same, Rel2.nil⟩, ?_⟩
  rintro i m H ⟨rfl, hi, sm, xs, hl, rl⟩
  by_cases hlt : i < n
  · refine .inr ⟨S.go i H hlt sm, fun H' => Same H1 H' ∧ ∃ xs, H' D = some (.lst xs) ∧ Rel2 (Rl (hide D H')) xs ((List.range (i + 1)).filterMap sel), fun H' h => ⟨n - (i + 1), by omega, rfl, hlt, h⟩, fun x H' y => ?_⟩
    obtain ⟨s1, r⟩ := S.yld i H x H' hlt sm y
    have hl1 := s1 _ _ hl
    obtain ⟨σ2, e2, hg, ht⟩ := turn i x H' D hlt (sm.trans s1) r hD ⟨xs, hl1⟩
    refine hg _ ⟨e2, ?_⟩
    cases e : sel i with
    | some d =>
      rw [e] at ht
      refine ht.1 _ fun H2 s2 => ?_
      rw [if_pos rfl]
      refine ht.2 H2 s2 _ fun y H3 s3 ry => ⟨xs, s3 _ _ (s2 _ _ hl1), ?_, ((sm.trans s1).trans (s2.trans s3)).mut hD, xs ++ [y], upd_same, ?_⟩
      · have h1 := List.length_filterMap_le sel (List.range i)
        rw [List.length_range] at h1
        have := rl.len
        omega
      · rw [hide_upd, List.range_succ, List.filterMap_append]
        have q := (rl.imp fun z a hz => mono _ _ z a (hide_mono (s1.trans (s2.trans s3))) hz).snoc ry
        simpa [e] using q
    | none =>
      rw [e] at ht
      refine ht _ fun H2 s2 => ?_
      rw [if_neg Bool.false_ne_true]
      refine ⟨(sm.trans s1).trans s2, xs, s2 _ _ hl1, ?_⟩
      rw [List.range_succ, List.filterMap_append]
      have q := rl.imp fun z a hz => mono _ _ z a (hide_mono (s1.trans s2)) hz
      simpa [e] using q
  · obtain rfl : i = n := by omega
    exact .inl ⟨S.stop H sm, hq D H xs hD sm hl rl⟩
theorem seqU {t u : TS} {D : Ends} {σ : L2.St} {H : Hp} (h : ∀ U, U = u D → t { D with nx := U } σ H) : tSeq t u D σ H := h _ rfl
theorem kit_mk {K : PySem.W.Frag} {C D : Addr} {b : Bool} (hc : PySem.W.isClsIn K D = true) (ht : PySem.W.typeIn K (.ref D) = some (.type "type")) (hs : PySem.W.subIn K (.ref C) (.ref D) = some b) (hself : PySem.W.subIn K (.ref D) (.ref D) = some true) : PySem.W.kitOne K (.ref C) (.ref D) = some b := by
  unfold PySem.W.kitOne
  split
  · rename_i e
    have e2 : Value.ref C = Value.ref D := by simpa using e
    rw [e2, hself] at hs
    exact hs
  · have hc' : (PySem.W.clsIn K D).isSome = true := hc
    show (if ((PySem.W.clsIn K D).isSome && PySem.W.typeIn K (.ref D) == some (.type "type")) = true then PySem.W.subIn K (.ref C) (.ref D) else none) = some b
    rw [hc', ht]
    exact hs
end U
/-! closed lists: the mathematics -/
namespace M
/-- r can be set out at the places i, i + 1, .. -/
def CF (i : Nat) (r : List Int) : Prop := ∃ r' : List Int, r'.Perm r ∧ ∀ (j : Nat) (x : Int), r'[j]? = some x → x ≤ i + j
theorem erase_perm {α : Type} : ∀ (l : List α) (j : Nat) (h : j < l.length), (l[j] :: l.eraseIdx j).Perm l
  | _ :: _, 0, _ => List.Perm.refl _
  | x :: l, j + 1, h => (List.Perm.swap _ _ _).trans ((erase_perm l j (by simpa using h)).cons x)
theorem CF.put {i t : Nat} {r : List Int} (h : t < r.length) (hx : r[t] ≤ i) (c : CF (i + 1) (r.eraseIdx t)) : CF i r := by
  obtain ⟨r', p, q⟩ := c
  refine ⟨r[t] :: r', (p.cons _).trans (erase_perm r t h), fun j x e => ?_⟩
  cases j with
  | zero => simp at e; subst e; simpa using hx
  | succ j => have := q j x (by simpa using e); push_cast at this ⊢; omega
theorem CF.take {i : Nat} {r : List Int} (c : CF i r) (hr : r ≠ []) : ∃ (t : Nat) (h : t < r.length), r[t] ≤ i ∧ CF (i + 1) (r.eraseIdx t) := by
  obtain ⟨r', p, q⟩ := c
  cases r' with
  | nil => exact absurd p.symm.eq_nil hr
  | cons y r' =>
    have hm : y ∈ r := p.mem_iff.mp List.mem_cons_self
    obtain ⟨t, h, e⟩ := List.mem_iff_getElem.mp hm
    refine ⟨t, h, ?_, r', ?_, fun j x z => ?_⟩
    · have := q 0 y rfl; rw [e]; simpa using this
    · have h2 := (p.trans (erase_perm r t h).symm)
      rw [e] at h2
      exact h2.cons_inv
    · have := q (j + 1) x (by simpa using z); push_cast at this ⊢; omega
theorem CF.nil {i : Nat} : CF i [] := ⟨[], .refl _, fun j x e => by simp at e⟩
def fac : Nat → Nat | 0 => 1 | n + 1 => (n + 1) * fac n
theorem fac_pos : ∀ n, 1 ≤ fac n
  | 0 => Nat.le_refl _
  | n + 1 => Nat.mul_pos (Nat.succ_pos n) (fac_pos n)
theorem fac_mono : ∀ {m n : Nat}, m ≤ n → fac m ≤ fac n := by
  intro m n h
  induction h with
  | refl => exact Nat.le_refl _
  | step h ih => exact Nat.le_trans ih (Nat.le_mul_of_pos_left _ (Nat.succ_pos _))
/-- what is known of the rests at the place i -/
structure Rests (ns : List Int) (i : Nat) (L : List (List Int)) : Prop where
  len : ∀ r ∈ L, r.length = ns.length - i
  sound : ∀ r ∈ L, CF i r → CF 0 ns
  full : CF 0 ns → ∃ r ∈ L, CF i r
  few : L.length * fac (ns.length - i) ≤ fac ns.length
/-- what is known of the later rests, behind j rests and t places of the next -/
structure Later (i : Nat) (L : List (List Int)) (j t : Nat) (m : Nat) (L' : List (List Int)) : Prop where
  sound : ∀ r' ∈ L', ∃ r ∈ L, ∃ (u : Nat) (h : u < r.length), r[u] ≤ i ∧ r' = r.eraseIdx u
  full : ∀ (k : Nat) (r : List Int), L[k]? = some r → ∀ (u : Nat) (h : u < r.length), (k < j ∨ k = j ∧ u < t) → r[u] ≤ i → r.eraseIdx u ∈ L'
  few : L'.length ≤ j * m + t
theorem Later.start {i m : Nat} {L : List (List Int)} : Later i L 0 0 m [] := ⟨(fun _ h => nomatch h), (fun k r _ u h q => by omega), Nat.zero_le _⟩
theorem Later.next {i j m : Nat} {L L' : List (List Int)} {r : List Int} (h : Later i L j r.length m L') (hr : L[j]? = some r) (hm : r.length = m) : Later i L (j + 1) 0 m L' :=
  ⟨h.sound, fun k r2 e u hu q => by
    rcases q with q | q
    · by_cases c : k = j
      · subst c
        rw [hr] at e; cases e
        exact h.full k r hr u hu (.inr ⟨rfl, hu⟩)
      · exact h.full k r2 e u hu (.inl (by omega))
    · omega, by have := h.few; rw [hm] at this; rw [Nat.add_mul]; omega⟩
theorem Later.skip {i j t m : Nat} {L L' : List (List Int)} {r : List Int} (h : Later i L j t m L') (hr : L[j]? = some r) (ht : t < r.length) (c : r[t] ≤ i → r.eraseIdx t ∈ L') : Later i L j (t + 1) m L' :=
  ⟨h.sound, fun k r2 e u hu q le => by
    by_cases z : k = j ∧ u = t
    · obtain ⟨rfl, rfl⟩ := z
      rw [hr] at e; cases e
      exact c le
    · exact h.full k r2 e u hu (by omega) le, by have := h.few; omega⟩
theorem Later.more {i j t m : Nat} {L L' : List (List Int)} {r : List Int} (h : Later i L j t m L') (hr : L[j]? = some r) (ht : t < r.length) (c : r[t] ≤ i) : Later i L j (t + 1) m (L' ++ [r.eraseIdx t]) :=
  ⟨fun r' hr' => by
    rcases List.mem_append.mp hr' with z | z
    · exact h.sound r' z
    · obtain rfl := List.mem_singleton.mp z
      exact ⟨r, List.mem_of_getElem? hr, t, ht, c, rfl⟩, fun k r2 e u hu q le => by
    by_cases z : k = j ∧ u = t
    · obtain ⟨rfl, rfl⟩ := z
      rw [hr] at e; cases e
      exact List.mem_append_right _ (List.mem_singleton.mpr rfl)
    · exact List.mem_append_left _ (h.full k r2 e u hu (by omega) le), by
    have := h.few
    rw [List.length_append]; simp; omega⟩
theorem Later.done {ns : List Int} {i : Nat} {L L' : List (List Int)} (hi : i < ns.length) (R : Rests ns i L) (h : Later i L L.length 0 (ns.length - i) L') : Rests ns (i + 1) L' := by
  refine ⟨fun r' hr' => ?_, fun r' hr' c => ?_, fun c => ?_, ?_⟩
  · obtain ⟨r, hr, u, hu, _, rfl⟩ := h.sound r' hr'
    rw [List.length_eraseIdx_of_lt hu, R.len r hr]; omega
  · obtain ⟨r, hr, u, hu, le, rfl⟩ := h.sound r' hr'
    exact R.sound r hr (CF.put hu le c)
  · obtain ⟨r, hr, c⟩ := R.full c
    have hl := R.len r hr
    obtain ⟨u, hu, le, c2⟩ := c.take (by intro e; subst e; simp at hl; omega)
    obtain ⟨k, hk, e⟩ := List.mem_iff_getElem.mp hr
    exact ⟨_, h.full k r (by rw [List.getElem?_eq_getElem hk, e]) u hu (.inl hk) le, c2⟩
  · have h1 := h.few
    have h2 := R.few
    have e : ns.length - i = (ns.length - (i + 1)) + 1 := by omega
    rw [e, fac] at h2
    have h3 : L'.length ≤ L.length * (ns.length - (i + 1) + 1) := by rw [← e]; simpa using h1
    calc L'.length * fac (ns.length - (i + 1)) ≤ L.length * (ns.length - (i + 1) + 1) * fac (ns.length - (i + 1)) := Nat.mul_le_mul_right _ h3
      _ = L.length * ((ns.length - (i + 1) + 1) * fac (ns.length - (i + 1))) := Nat.mul_assoc _ _ _
      _ ≤ _ := h2
theorem Rests.bound {ns : List Int} {i : Nat} {L : List (List Int)} (R : Rests ns i L) (hi : i < ns.length) (hn : ns.length ≤ 10) : L.length * (ns.length - i) ≤ 3628800 := by
  have h2 := R.few
  have e : ns.length - i = (ns.length - (i + 1)) + 1 := by omega
  have h4 : fac ns.length ≤ 3628800 := Nat.le_trans (fac_mono hn) (by decide)
  rw [e, fac, ← Nat.mul_assoc] at h2
  rw [e]
  have := Nat.le_mul_of_pos_right (L.length * (ns.length - (i + 1) + 1)) (fac_pos (ns.length - (i + 1)))
  omega
theorem Rests.start {ns ns' : List Int} (p : ns'.Perm ns) : Rests ns 0 [ns'] := by
  refine ⟨fun r hr => ?_, fun r hr c => ?_, fun c => ⟨ns', List.mem_singleton.mpr rfl, ?_⟩, by simp⟩
  · obtain rfl := List.mem_singleton.mp hr; exact p.length_eq
  · obtain rfl := List.mem_singleton.mp hr
    obtain ⟨r', q, h⟩ := c
    exact ⟨r', q.trans p, h⟩
  · obtain ⟨r', q, h⟩ := c
    exact ⟨r', q.trans p.symm, h⟩
theorem Rests.end {ns : List Int} {L : List (List Int)} (R : Rests ns ns.length L) : L ≠ [] ↔ CF 0 ns := by
  constructor
  · intro h
    obtain ⟨r, hr⟩ := List.exists_mem_of_ne_nil _ h
    have := R.len r hr
    have : r = [] := List.length_eq_zero_iff.mp (by omega)
    subst this
    exact R.sound _ hr CF.nil
  · intro c h
    obtain ⟨r, hr, _⟩ := R.full c
    rw [h] at hr
    cases hr
end M
namespace M
def diffs (ns : List Int) : List Int := (List.range ns.length).map fun i => ns.getD i 0 - i
structure IsLM (ns : List Int) (m : Int) : Prop where
  ex : ∃ ns' : List Int, ns'.Perm ns ∧ ns'.Pairwise (· ≤ ·) ∧ m ∈ 0 :: diffs ns' ∧ ∀ y ∈ 0 :: diffs ns', y ≤ m
theorem diffs_at {ns : List Int} {i : Nat} (h : i < ns.length) : ns[i] - i ∈ diffs ns := by
  unfold diffs
  exact List.mem_map.mpr ⟨i, List.mem_range.mpr h, by simp [List.getD, h]⟩
theorem IsLM.nonneg {ns : List Int} {m : Int} (h : IsLM ns m) : 0 ≤ m := by
  obtain ⟨ns', _, _, _, u⟩ := h.ex
  exact u 0 List.mem_cons_self
theorem IsLM.le {ns : List Int} {m B : Int} (h : IsLM ns m) (h0 : 0 ≤ B) (hb : ∀ x ∈ ns, x ≤ B) : m ≤ B := by
  obtain ⟨ns', p, _, hm, _⟩ := h.ex
  rcases List.mem_cons.mp hm with rfl | hm
  · exact h0
  · obtain ⟨i, hi, rfl⟩ := List.mem_map.mp hm
    have hi := List.mem_range.mp hi
    have := hb ns'[i] (p.mem_iff.mp (List.getElem_mem hi))
    simp only [List.getD, List.getElem?_eq_getElem hi, Option.getD_some]
    omega
theorem IsLM.closes {ns : List Int} {m : Int} (h : IsLM ns m) : CF 0 (ns ++ List.replicate m.toNat 0) := by
  have h0 := h.nonneg
  obtain ⟨ns', p, _, _, u⟩ := h.ex
  refine ⟨List.replicate m.toNat 0 ++ ns', (List.perm_append_comm).trans (p.append_right _), fun j x e => ?_⟩
  by_cases c : j < m.toNat
  · rw [List.getElem?_append_left (by simpa using c)] at e
    rw [List.getElem?_replicate, if_pos c] at e
    have := Option.some.inj e
    omega
  · rw [List.getElem?_append_right (by simpa using c), List.length_replicate] at e
    obtain ⟨hj, e⟩ := List.getElem?_eq_some_iff.mp e
    have := u _ (List.mem_cons_of_mem _ (diffs_at hj))
    rw [e] at this
    omega
theorem count_drop {r : List Int} {k : Nat} (h : ∀ (j : Nat) (x : Int), r[j]? = some x → x ≤ j) : r.countP (fun x => decide ((k : Int) ≤ x)) ≤ r.length - k := by
  rw [← List.take_append_drop k r, List.countP_append]
  have z : (r.take k).countP (fun x => decide ((k : Int) ≤ x)) = 0 := by
    rw [List.countP_eq_zero]
    intro x hx
    obtain ⟨j, hj, e⟩ := List.mem_iff_getElem.mp hx
    rw [List.length_take] at hj
    have := h j x (by rw [← e, List.getElem_take, List.getElem?_eq_getElem])
    simp only [decide_eq_true_eq]
    omega
  rw [z, Nat.zero_add]
  refine Nat.le_trans List.countP_le_length ?_
  simp
theorem IsLM.needs {ns more : List Int} {m : Int} (h : IsLM ns m) (hm : 0 < m) (hl : (more.length : Int) = m - 1) : ¬ CF 0 (ns ++ more) := by
  rintro ⟨r', pr, q⟩
  obtain ⟨ns', p, so, me, _⟩ := h.ex
  rcases List.mem_cons.mp me with rfl | me
  · omega
  obtain ⟨i, hi, e⟩ := List.mem_map.mp me
  have hi := List.mem_range.mp hi
  simp only [List.getD, List.getElem?_eq_getElem hi, Option.getD_some] at e
  have c1 := count_drop (r := r') (k := m.toNat + i) fun j x z => by have := q j x z; omega
  rw [pr.length_eq, List.length_append] at c1
  have c2 : (ns ++ more).countP (fun x => decide (((m.toNat + i : Nat) : Int) ≤ x)) = r'.countP (fun x => decide (((m.toNat + i : Nat) : Int) ≤ x)) := (pr.countP_eq _).symm
  have c3 : ns.length - i ≤ ns.countP (fun x => decide (((m.toNat + i : Nat) : Int) ≤ x)) := by
    rw [← p.countP_eq, ← List.take_append_drop i ns', List.countP_append]
    have al : (ns'.drop i).countP (fun x => decide (((m.toNat + i : Nat) : Int) ≤ x)) = (ns'.drop i).length := by
      rw [List.countP_eq_length]
      intro x hx
      obtain ⟨j, hj, ex⟩ := List.mem_iff_getElem.mp hx
      rw [List.length_drop] at hj
      rw [List.getElem_drop] at ex
      have le : ns'[i] ≤ ns'[i + j] := by
        by_cases z : j = 0
        · subst z; simp
        · exact List.pairwise_iff_getElem.mp so i (i + j) hi (by omega) (by omega)
      simp only [decide_eq_true_eq]
      push_cast
      omega
    rw [al, List.length_drop, p.length_eq]
    omega
  rw [List.countP_append] at c2
  have := p.length_eq
  omega
theorem CF.zero {r : List Int} (h : CF 0 r) : CF 0 (r ++ [0]) := by
  obtain ⟨r', p, q⟩ := h
  refine ⟨0 :: r', (p.cons 0).trans (List.perm_append_comm (l₁ := [0])), fun j x e => ?_⟩
  cases j with
  | zero => simp at e; omega
  | succ j => have := q j x (by simpa using e); push_cast at this ⊢; omega
theorem CF.zeros {r : List Int} {a : Nat} (h : CF 0 (r ++ List.replicate a 0)) : ∀ b : Nat, CF 0 (r ++ List.replicate (a + b) 0)
  | 0 => h
  | b + 1 => by
    have := (CF.zeros h b).zero
    rwa [List.append_assoc, ← List.replicate_succ', Nat.add_assoc] at this
theorem IsLM.lt_false {ns : List Int} {m m' : Int} (h : IsLM ns m) (h' : IsLM ns m') (c : m < m') : False := by
  have h0 := h.nonneg
  have z := CF.zeros h.closes (m' - 1 - m).toNat
  refine h'.needs (more := List.replicate (m.toNat + (m' - 1 - m).toNat) 0) (by omega) ?_ z
  rw [List.length_replicate]
  omega
theorem IsLM.uniq {ns : List Int} {m m' : Int} (h : IsLM ns m) (h' : IsLM ns m') : m = m' := by
  rcases Int.lt_trichotomy m m' with c | c | c
  · exact (h.lt_false h' c).elim
  · exact c
  · exact (h'.lt_false h c).elim
end M
/-! closed sets of records: the mathematics -/
namespace M
/-- how many have an index of at most h -/
def cntL (ns : List Int) (h : Nat) : Nat := ns.countP fun x => decide (x ≤ (h : Int))
/-- h is the first height that just its records reach -/
structure Hgt (ns : List Int) (h : Nat) : Prop where
  eq : cntL ns h = h
  lt : ∀ g, g < h → g < cntL ns g
theorem cnt_mono (ns : List Int) {g h : Nat} (l : g ≤ h) : cntL ns g ≤ cntL ns h := by
  unfold cntL
  refine List.countP_mono_left fun x _ hx => ?_
  simp only [decide_eq_true_eq] at hx ⊢
  omega
theorem cnt_le (ns : List Int) (h : Nat) : cntL ns h ≤ ns.length := List.countP_le_length
/-- sorted: the place t holds at most t -/
theorem sorted_at {r : List Int} (so : r.Pairwise (· ≤ ·)) {h : Nat} (hc : ∀ g, g < h → g < cntL r g) {t : Nat} {x : Int} (e : r[t]? = some x) (ht : t < h) : x ≤ t := by
  by_cases c : x ≤ t
  · exact c
  exfalso
  have lt := hc t ht
  obtain ⟨hl, e⟩ := List.getElem?_eq_some_iff.mp e
  unfold cntL at lt
  rw [← List.take_append_drop t r, List.countP_append] at lt
  have z : (r.drop t).countP (fun x => decide (x ≤ (t : Int))) = 0 := by
    rw [List.countP_eq_zero]
    intro y hy
    obtain ⟨j, hj, ey⟩ := List.mem_iff_getElem.mp hy
    rw [List.length_drop] at hj
    rw [List.getElem_drop] at ey
    have le : r[t] ≤ r[t + j] := by
      by_cases z : j = 0
      · subst z; simp
      · exact List.pairwise_iff_getElem.mp so t (t + j) hl (by omega) (by omega)
    simp only [decide_eq_true_eq]
    omega
  have z2 : (r.take t).countP (fun x => decide (x ≤ (t : Int))) ≤ t := Nat.le_trans List.countP_le_length (by simp; omega)
  omega
theorem CF.of_cnt {r : List Int} (hc : ∀ g, g < r.length → g < cntL r g) : CF 0 r := by
  have hp : (r.mergeSort (fun a b => decide (a ≤ b))).Perm r := List.mergeSort_perm r _
  have so : (r.mergeSort (fun a b => decide (a ≤ b))).Pairwise (· ≤ ·) := by
    have := List.pairwise_mergeSort (le := fun a b : Int => decide (a ≤ b)) (fun a b c h1 h2 => by simp only [decide_eq_true_eq] at *; omega) (fun a b => by simp only [Bool.or_eq_true, decide_eq_true_eq]; omega) r
    exact this.imp fun h => by simpa using h
  refine ⟨_, hp, fun j x e => ?_⟩
  have hl := (List.getElem?_eq_some_iff.mp e).1
  rw [hp.length_eq] at hl
  have := sorted_at so (h := r.length) (fun g hg => by rw [cntL, hp.countP_eq]; exact hc g hg) e hl
  omega
/-- a closed list: so many of at most t -/
theorem CF.cnt_ge {r : List Int} (c : CF 0 r) {t : Nat} (ht : t < r.length) : t < cntL r t := by
  obtain ⟨r', p, q⟩ := c
  unfold cntL
  rw [← p.countP_eq, ← List.take_append_drop (t + 1) r', List.countP_append]
  have al : (r'.take (t + 1)).countP (fun x => decide (x ≤ (t : Int))) = (r'.take (t + 1)).length := by
    rw [List.countP_eq_length]
    intro x hx
    obtain ⟨j, hj, e⟩ := List.mem_iff_getElem.mp hx
    rw [List.length_take] at hj
    have := q j x (by rw [← e, List.getElem_take, List.getElem?_eq_getElem])
    simp only [decide_eq_true_eq]
    omega
  have := p.length_eq
  rw [al, List.length_take]
  omega
/-- the slots of the places s -/
def slots (ns : List Int) (s : List Nat) : List Int := s.map fun i => ns.getD i 0
/-- the places of at most h -/
def low (ns : List Int) (h : Nat) : List Nat := (List.range ns.length).filter fun i => decide (ns.getD i 0 ≤ h)
theorem range_getD (ns : List Int) : (List.range ns.length).map (fun i => ns.getD i 0) = ns := by
  apply List.ext_getElem?
  intro i
  rw [List.getElem?_map]
  by_cases h : i < ns.length
  · rw [List.getElem?_range h]; simp [h]
  · rw [List.getElem?_eq_none (by simpa using h), List.getElem?_eq_none (by omega)]; rfl
theorem low_len (ns : List Int) (h : Nat) : (low ns h).length = cntL ns h := by
  unfold low cntL
  rw [← List.countP_eq_length_filter]
  conv => rhs; rw [← range_getD ns]
  rw [List.countP_map]
  rfl
theorem low_cnt (ns : List Int) {h g : Nat} (l : g ≤ h) : cntL (slots ns (low ns h)) g = cntL ns g := by
  unfold slots low cntL
  rw [List.countP_map, List.countP_filter]
  conv => rhs; rw [← range_getD ns]
  rw [List.countP_map]
  refine List.countP_congr fun i _ => ?_
  simp only [Function.comp, Bool.and_eq_true, decide_eq_true_eq]
  constructor
  · exact fun q => q.1
  · exact fun q => ⟨q, by omega⟩
theorem low_closed {ns : List Int} {h : Nat} (H : Hgt ns h) : CF 0 (slots ns (low ns h)) := by
  refine CF.of_cnt fun g hg => ?_
  have e : (slots ns (low ns h)).length = h := by unfold slots; rw [List.length_map, low_len, H.eq]
  rw [e] at hg
  rw [low_cnt ns (Nat.le_of_lt hg)]
  exact H.lt g hg
theorem cnt_sub {ns : List Int} {s : List Nat} (hs : s.Sublist (List.range ns.length)) (h : Nat) : cntL (slots ns s) h ≤ cntL ns h := by
  have := (hs.map fun i => ns.getD i 0).countP_le (p := fun x => decide (x ≤ (h : Int)))
  rw [range_getD] at this
  exact this
theorem closed_low {ns : List Int} {h : Nat} (H : Hgt ns h) {s : List Nat} (hs : s.Sublist (List.range ns.length)) (c : CF 0 (slots ns s)) : s.Sublist (low ns h) := by
  have ls : (slots ns s).length = s.length := by simp [slots]
  have le : s.length ≤ h := by
    apply Classical.byContradiction
    intro n
    have h1 := c.cnt_ge (t := h) (by omega)
    have h2 := cnt_sub hs h
    rw [H.eq] at h2
    omega
  have al : ∀ i ∈ s, decide (ns.getD i 0 ≤ (h : Int)) = true := by
    intro i hi
    by_cases z : s.length = 0
    · rw [List.length_eq_zero_iff.mp z] at hi; cases hi
    have h1 := c.cnt_ge (t := s.length - 1) (by omega)
    have h2 : cntL (slots ns s) (s.length - 1) = (slots ns s).length := by have := cnt_le (slots ns s) (s.length - 1); omega
    have h3 := List.countP_eq_length.mp h2 (ns.getD i 0) (List.mem_map.mpr ⟨i, hi, rfl⟩)
    simp only [decide_eq_true_eq] at h3 ⊢
    omega
  have := hs.filter fun i => decide (ns.getD i 0 ≤ (h : Int))
  rw [List.filter_eq_self.mpr al] at this
  exact this
/-- all sets of n places -/
def sets : Nat → List (List Nat)
  | 0 => [[]]
  | n + 1 => sets n ++ (sets n).map (· ++ [n])
theorem sets_len : ∀ n, (sets n).length = 2 ^ n
  | 0 => rfl
  | n + 1 => by rw [sets, List.length_append, List.length_map, sets_len n, Nat.pow_succ]; omega
theorem sets_sub : ∀ {n : Nat} {s : List Nat}, s ∈ sets n → s.Sublist (List.range n)
  | 0, s, h => by
    obtain rfl := List.mem_singleton.mp h; exact List.Sublist.refl _
  | n + 1, s, h => by
    rw [List.range_succ]
    rcases List.mem_append.mp h with h | h
    · exact (sets_sub h).trans (List.sublist_append_left _ _)
    · obtain ⟨u, hu, rfl⟩ := List.mem_map.mp h
      exact (sets_sub hu).append_right _
theorem sub_sets : ∀ {n : Nat} {s : List Nat}, s.Sublist (List.range n) → s ∈ sets n
  | 0, s, h => by
    have : s = [] := List.sublist_nil.mp h
    subst this; exact List.mem_singleton.mpr rfl
  | n + 1, s, h => by
    rw [List.range_succ] at h
    obtain ⟨a, b, rfl, ha, hb⟩ := List.sublist_append_iff.mp h
    rcases List.sublist_cons_iff.mp hb with hb | ⟨r, rfl, hr⟩
    · have : b = [] := List.sublist_nil.mp hb
      subst this
      rw [List.append_nil]
      exact List.mem_append_left _ (sub_sets ha)
    · have : r = [] := List.sublist_nil.mp hr
      subst this
      exact List.mem_append_right _ (List.mem_map.mpr ⟨a, sub_sets ha, rfl⟩)
theorem low_sub (ns : List Int) (h : Nat) : (low ns h).Sublist (List.range ns.length) := List.filter_sublist
/-- what is known behind the sets L: the best one b, the places ks met -/
structure Best (ns : List Int) (L : List (List Nat)) (b : List Nat) (ks : List Int) : Prop where
  src : b = [] ∨ (b ∈ L ∧ CF 0 (slots ns b))
  most : ∀ s ∈ L, CF 0 (slots ns s) → s.length ≤ b.length
  nd : ks.Nodup
  met : ∀ k : Int, k ∈ ks ↔ ∃ s ∈ L, CF 0 (slots ns s) ∧ ∃ i ∈ s, k = (i : Int)
theorem Best.start {ns : List Int} : Best ns [] [] [] := ⟨.inl rfl, (fun _ h => nomatch h), List.nodup_nil, fun k => ⟨(fun h => nomatch h), fun ⟨_, h, _⟩ => nomatch h⟩⟩
theorem Best.skip {ns : List Int} {L : List (List Nat)} {b s : List Nat} {ks : List Int} (B : Best ns L b ks) (c : ¬ CF 0 (slots ns s)) : Best ns (L ++ [s]) b ks := by
  refine ⟨B.src.imp id fun h => ⟨List.mem_append_left _ h.1, h.2⟩, fun u hu cu => ?_, B.nd, fun k => ?_⟩
  · rcases List.mem_append.mp hu with h | h
    · exact B.most u h cu
    · obtain rfl := List.mem_singleton.mp h; exact absurd cu c
  · rw [B.met]
    constructor
    · rintro ⟨u, hu, q⟩; exact ⟨u, List.mem_append_left _ hu, q⟩
    · rintro ⟨u, hu, cu, q⟩
      rcases List.mem_append.mp hu with h | h
      · exact ⟨u, h, cu, q⟩
      · obtain rfl := List.mem_singleton.mp h; exact absurd cu c
theorem Best.more {ns : List Int} {L : List (List Nat)} {b s : List Nat} {ks ks' : List Int} (B : Best ns L b ks) (c : CF 0 (slots ns s)) (nd : ks'.Nodup) (hk : ∀ k : Int, k ∈ ks' ↔ k ∈ ks ∨ ∃ i ∈ s, k = (i : Int)) : Best ns (L ++ [s]) (if b.length < s.length then s else b) ks' := by
  refine ⟨?_, fun u hu cu => ?_, nd, fun k => ?_⟩
  · split
    · exact .inr ⟨List.mem_append_right _ (List.mem_singleton.mpr rfl), c⟩
    · exact B.src.imp id fun h => ⟨List.mem_append_left _ h.1, h.2⟩
  · rcases List.mem_append.mp hu with h | h
    · have := B.most u h cu
      split <;> omega
    · obtain rfl := List.mem_singleton.mp h
      split <;> omega
  · rw [hk, B.met]
    constructor
    · rintro (⟨u, hu, q⟩ | q)
      · exact ⟨u, List.mem_append_left _ hu, q⟩
      · exact ⟨s, List.mem_append_right _ (List.mem_singleton.mpr rfl), c, q⟩
    · rintro ⟨u, hu, cu, q⟩
      rcases List.mem_append.mp hu with h | h
      · exact .inl ⟨u, h, cu, q⟩
      · obtain rfl := List.mem_singleton.mp h; exact .inr q
theorem Best.end {ns : List Int} {b : List Nat} {ks : List Int} (B : Best ns (sets ns.length) b ks) {h : Nat} (H : Hgt ns h) : b = low ns h := by
  have l1 := B.most (low ns h) (sub_sets (low_sub ns h)) (low_closed H)
  have sub : b.Sublist (low ns h) := by
    rcases B.src with rfl | ⟨hm, c⟩
    · exact List.nil_sublist _
    · exact closed_low H (sets_sub hm) c
  exact sub.eq_of_length_le l1
theorem Best.keys {ns : List Int} {b : List Nat} {ks ys : List Int} (B : Best ns (sets ns.length) b ks) {h : Nat} (H : Hgt ns h) (p : ys.Perm ks) (so : ys.Pairwise (· ≤ ·)) : ys = (low ns h).map Int.ofNat := by
  have sl : ((low ns h).map Int.ofNat).Pairwise (· < ·) := by
    refine List.pairwise_map.mpr ?_
    have := (List.pairwise_lt_range (n := ns.length)).sublist (low_sub ns h)
    exact this.imp fun q => Int.ofNat_lt.mpr q
  have nd : ((low ns h).map Int.ofNat).Nodup := sl.imp fun q => by omega
  have pm : ys.Perm ((low ns h).map Int.ofNat) := by
    refine p.trans ((List.perm_ext_iff_of_nodup B.nd nd).mpr fun k => ?_)
    rw [B.met, List.mem_map]
    constructor
    · rintro ⟨s, hs, c, i, hi, rfl⟩
      exact ⟨i, (closed_low H (sets_sub hs) c).subset hi, rfl⟩
    · rintro ⟨i, hi, rfl⟩
      exact ⟨low ns h, sub_sets (low_sub ns h), low_closed H, i, hi, rfl⟩
  exact pm.eq_of_pairwise (fun a b _ _ h1 h2 => by omega) so (sl.imp fun q => by omega)
/-- the way up -/
theorem Hgt.step {ns : List Int} {h : Nat} (lt : ∀ g, g < h → g < cntL ns g) (ne : cntL ns h ≠ h) : h < cntL ns h := by
  cases h with
  | zero => omega
  | succ h =>
    have h1 := lt h (by omega)
    have h2 := cnt_mono ns (Nat.le_succ h)
    simp only [Nat.succ_eq_add_one] at h2
    omega
end M
namespace M
theorem Hgt.ex (ns : List Int) : ∃ h, Hgt ns h := by
  suffices q : ∀ d h, ns.length - h = d → h ≤ ns.length → (∀ g, g < h → g < cntL ns g) → ∃ h, Hgt ns h from q _ 0 rfl (Nat.zero_le _) fun g hg => by omega
  intro d
  induction d with
  | zero =>
    intro h hd hl lt
    have : h = ns.length := by omega
    subst this
    refine ⟨_, ?_, lt⟩
    apply Classical.byContradiction
    intro ne
    have := Hgt.step lt ne
    have := cnt_le ns ns.length
    omega
  | succ d ih =>
    intro h hd hl lt
    by_cases c : cntL ns h = h
    · exact ⟨h, c, lt⟩
    · have st := Hgt.step lt c
      refine ih (h + 1) (by omega) (by omega) fun g hg => ?_
      by_cases z : g < h
      · exact lt g z
      · obtain rfl : g = h := by omega
        exact st
theorem Hgt.uniq {ns : List Int} {h h' : Nat} (a : Hgt ns h) (b : Hgt ns h') : h = h' := by
  rcases Nat.lt_trichotomy h h' with c | c | c
  · have := b.lt h c; rw [a.eq] at this; omega
  · exact c
  · have := a.lt h' c; rw [b.eq] at this; omega
theorem filter_range {α : Type} (f : α → Bool) (d : α) : ∀ l : List α, ((List.range l.length).filter fun i => f (l.getD i d)).map (fun i => l.getD i d) = l.filter f
  | [] => rfl
  | x :: l => by
    rw [List.length_cons, List.range_succ_eq_map, List.filter_cons, List.filter_map, List.filter_cons, ← filter_range f d l]
    have e1 : ((fun i => f ((x :: l).getD i d)) ∘ Nat.succ) = fun i => f (l.getD i d) := by funext i; simp
    rw [e1]
    have e2 : (((List.range l.length).filter (fun i => f (l.getD i d))).map Nat.succ).map (fun i => (x :: l).getD i d) = ((List.range l.length).filter fun i => f (l.getD i d)).map (fun i => l.getD i d) := by
      rw [List.map_map]
      refine List.map_congr_left fun i _ => ?_
      simp
    cases c : f x with
    | true =>
      have c0 : f ((x :: l).getD 0 d) = true := c
      rw [if_pos c0, if_pos rfl, List.map_cons, e2]
      rfl
    | false =>
      have c0 : ¬ f ((x :: l).getD 0 d) = true := by show ¬ f x = true; rw [c]; decide
      rw [if_neg c0, if_neg (by decide), e2]
theorem keys_put {ks : List Int} {k : Int} (nd : ks.Nodup) : ∃ ks' : List Int, ks'.Nodup ∧ (∀ j, j ∈ ks' ↔ j ∈ ks ∨ j = k) ∧ ks' = if k ∈ ks then ks else ks ++ [k] := by
  by_cases c : k ∈ ks
  · refine ⟨ks, nd, fun j => ⟨.inl, ?_⟩, by rw [if_pos c]⟩
    rintro (h | rfl)
    · exact h
    · exact c
  · refine ⟨ks ++ [k], ?_, fun j => by simp, by rw [if_neg c]⟩
    rw [List.nodup_append]
    exact ⟨nd, by simp, fun a ha b hb => by obtain rfl := List.mem_singleton.mp hb; exact fun e => c (e ▸ ha)⟩
end M
namespace M
theorem filter_eq_one {ks : List Int} {k : Int} (nd : ks.Nodup) : (ks.filter fun x => decide (x = k)).length ≤ 1 := by
  induction ks with
  | nil => simp
  | cons x ks ih =>
    obtain ⟨h1, h2⟩ := List.nodup_cons.mp nd
    rw [List.filter_cons]
    split
    · rename_i c
      have e : x = k := by simpa using c
      subst e
      have z : (ks.filter fun y => decide (y = x)) = [] := List.filter_eq_nil_iff.mpr fun y hy q => by
        have e : y = x := by simpa using q
        exact h1 (e ▸ hy)
      rw [z]; simp
    · exact ih h2
theorem pig : ∀ (n : Nat) (ks : List Int), ks.Nodup → (∀ k ∈ ks, 0 ≤ k ∧ k < (n : Int)) → ks.length ≤ n
  | 0, ks, nd, h => by
    cases ks with
    | nil => simp
    | cons x ks => have := h x List.mem_cons_self; omega
  | n + 1, ks, nd, h => by
    have h1 := pig n (ks.filter fun x => !decide (x = (n : Int))) (nd.filter _) fun k hk => by
      obtain ⟨h1, h2⟩ := List.mem_filter.mp hk
      have := h k h1
      simp at h2
      omega
    have h2 := filter_eq_one (k := (n : Int)) nd
    have h3 : ks.length = (ks.filter fun x => decide (x = (n : Int))).length + (ks.filter fun x => !decide (x = (n : Int))).length := by
      rw [← List.countP_eq_length_filter, ← List.countP_eq_length_filter]
      have := List.length_eq_countP_add_countP (fun x => decide (x = (n : Int))) (l := ks)
      simp only [Bool.not_eq_true, decide_eq_false_iff_not, decide_not] at this
      exact this
    omega
end M
/-! play by play: the mathematics -/
namespace M
section
variable {α : Type} {f : α → Int}
/-- what is known of a play: the records set out (done), those left, the length, how many are further ones (m), those done while m was 0 (ea) -/
structure Play (f : α → Int) (done left : List α) (len m : Nat) (ea : List α) : Prop where
  row : ∃ r : List Int, r.length = len ∧ (∀ (j : Nat) (x : Int), r[j]? = some x → x ≤ j) ∧ r.Perm (done.map f ++ List.replicate m 0)
  long : len = done.length + m
  early : m = 0 → ea = done
  stuck : 0 < m → (∃ l, ea.length = l ∧ (∀ g, g < l → g < cntL (ea.map f) g) ∧ (∀ x ∈ ea, f x ≤ (l : Int)) ∧ ∃ rest, (ea ++ rest).Perm (done ++ left) ∧ ∀ x ∈ rest, (l : Int) < f x)
  need : 0 < m → ∃ l d : Nat, l = d + (m - 1) ∧ cntL ((done ++ left).map f) l = d ∧ d < (done ++ left).length
theorem Play.start {ns : List α} : Play f [] ns 0 0 [] := ⟨⟨[], rfl, fun j x e => by simp at e, by simp⟩, rfl, fun _ => rfl, fun h => by omega, fun h => by omega⟩
theorem row_snoc {r : List Int} {x : Int} (h : ∀ (j : Nat) (x : Int), r[j]? = some x → x ≤ j) (hx : x ≤ r.length) : ∀ (j : Nat) (y : Int), (r ++ [x])[j]? = some y → y ≤ j := by
  intro j y e
  by_cases c : j < r.length
  · rw [List.getElem?_append_left c] at e; exact h j y e
  · rw [List.getElem?_append_right (by omega)] at e
    by_cases z : j = r.length
    · subst z; simp at e; subst e; exact hx
    · rw [List.getElem?_eq_none (by simp; omega)] at e; cases e
/-- a record is set out -/
theorem Play.put {done left ea : List α} {len m t : Nat} (h : Play f done left len m ea) (ht : t < left.length) (hx : f left[t] ≤ (len : Int)) : Play f (done ++ [left[t]]) (left.eraseIdx t) (len + 1) m (if m = 0 then ea ++ [left[t]] else ea) := by
  obtain ⟨⟨r, r1, r2, r3⟩, lo, ear, st, nd⟩ := h
  have pm : (done ++ [left[t]] ++ left.eraseIdx t).Perm (done ++ left) := by
    rw [List.append_assoc]
    exact (erase_perm left t ht).append_left done
  refine ⟨⟨r ++ [f left[t]], by simp [r1], row_snoc r2 (by rw [r1]; exact hx), ?_⟩, by simp; omega, fun z => ?_, fun z => ?_, fun z => ?_⟩
  · refine (r3.append_right [f left[t]]).trans ?_
    rw [List.map_append, List.append_assoc, List.append_assoc]
    exact List.Perm.append_left _ List.perm_append_comm
  · rw [if_pos z, ear z]
  · rw [if_neg (by omega)]
    obtain ⟨l, h1, h2, h3, rest, h4, h5⟩ := st z
    exact ⟨l, h1, h2, h3, rest, h4.trans pm.symm, h5⟩
  · obtain ⟨l, d, h1, h2, h3⟩ := nd z
    refine ⟨l, d, h1, ?_, ?_⟩
    · rw [← h2]; unfold cntL; exact (pm.map f).countP_eq _
    · rw [pm.length_eq]; exact h3
theorem row_cnt {r : List Int} (h : ∀ (j : Nat) (x : Int), r[j]? = some x → x ≤ j) {g : Nat} (hg : g < r.length) : g < cntL r g := CF.cnt_ge (r := r) ⟨r, .refl _, fun j x e => by have := h j x e; omega⟩ hg
/-- none can be set out: a further record -/
theorem Play.more {done left ea : List α} {len m : Nat} (h : Play f done left len m ea) (hl : left ≠ []) (hs : ∀ x ∈ left, (len : Int) < f x) : Play f done left (len + 1) (m + 1) ea := by
  obtain ⟨⟨r, r1, r2, r3⟩, lo, ear, st, nd⟩ := h
  have low : ∀ x ∈ done, f x ≤ (len : Int) := fun x hx => by
    have hm : f x ∈ r := r3.mem_iff.mpr (List.mem_append_left _ (List.mem_map.mpr ⟨x, hx, rfl⟩))
    obtain ⟨j, hj, e⟩ := List.mem_iff_getElem.mp hm
    have := r2 j (f x) (by rw [List.getElem?_eq_getElem hj, e])
    omega
  refine ⟨⟨r ++ [0], by simp [r1], row_snoc r2 (by omega), ?_⟩, by omega, fun z => by omega, fun _ => ?_, fun _ => ?_⟩
  · rw [List.replicate_succ', ← List.append_assoc]
    exact r3.append_right [0]
  · by_cases z : m = 0
    · have e := ear z
      subst e
      subst z
      have r3' : r.Perm (ea.map f) := by simpa using r3
      refine ⟨len, by omega, fun g hg => ?_, low, left, .refl _, hs⟩
      have := row_cnt r2 (g := g) (by omega)
      unfold cntL at this ⊢
      rwa [r3'.countP_eq] at this
    · exact st (by omega)
  · refine ⟨len, done.length, by omega, ?_, ?_⟩
    · unfold cntL
      rw [List.map_append, List.countP_append]
      have z : (left.map f).countP (fun x => decide (x ≤ (len : Int))) = 0 := by
        rw [List.countP_eq_zero]
        intro x hx
        obtain ⟨y, hy, rfl⟩ := List.mem_map.mp hx
        have := hs y hy
        simp only [decide_eq_true_eq]
        omega
      have a : (done.map f).countP (fun x => decide (x ≤ (len : Int))) = (done.map f).length := by
        rw [List.countP_eq_length]
        intro x hx
        obtain ⟨y, hy, rfl⟩ := List.mem_map.mp hx
        simpa using low y hy
      rw [List.length_map] at a
      omega
    · rw [List.length_append]
      have : left.length ≠ 0 := fun e => hl (List.length_eq_zero_iff.mp e)
      omega
theorem Play.closes {done ea : List α} {len m : Nat} (h : Play f done [] len m ea) : CF 0 (done.map f ++ List.replicate m 0) := by
  obtain ⟨⟨r, r1, r2, r3⟩, _⟩ := h
  exact ⟨r, r3, fun j x e => by have := r2 j x e; omega⟩
theorem Play.needs {done ea : List α} {more : List Int} {len m : Nat} (h : Play f done [] len m ea) (hm : 0 < m) (hl : more.length = m - 1) : ¬ CF 0 (done.map f ++ more) := by
  intro c
  obtain ⟨l, d, h1, h2, h3⟩ := h.need hm
  rw [List.append_nil] at h2 h3
  have h4 := c.cnt_ge (t := l) (by rw [List.length_append, List.length_map]; omega)
  have h5 : cntL (done.map f ++ more) l ≤ d + more.length := by
    unfold cntL
    rw [List.countP_append]
    have := List.countP_le_length (p := fun x => decide (x ≤ (l : Int))) (l := more)
    unfold cntL at h2
    omega
  omega
theorem CF.perm {i : Nat} {r s : List Int} (c : CF i r) (p : r.Perm s) : CF i s := let ⟨r', q, h⟩ := c; ⟨r', q.trans p, h⟩
theorem Play.lm {done rs ea : List α} {len m : Nat} {m' : Int} (h : Play f done [] len m ea) (p : done.Perm rs) (lm : IsLM (rs.map f) m') : m' = m := by
  have h0 := lm.nonneg
  have p := p.map f
  rcases Int.lt_trichotomy m' m with c | c | c
  · exfalso
    have z := CF.zeros lm.closes (m - 1 - m'.toNat)
    refine h.needs (more := List.replicate (m'.toNat + (m - 1 - m'.toNat)) 0) (by omega) (by simp; omega) (z.perm (p.symm.append_right _))
  · exact c
  · exfalso
    have z := CF.zeros h.closes (m' - 1 - m).toNat
    refine lm.needs (more := List.replicate (m + (m' - 1 - m).toNat) 0) (by omega) (by simp; omega) (z.perm (p.append_right _))
/-- at the end: the height, and which were early -/
theorem Play.hgt {done rs ea : List α} {len m : Nat} (h : Play f done [] len m ea) (p : done.Perm rs) : ∃ g, Hgt (rs.map f) g ∧ (∀ x ∈ ea, f x ≤ (g : Int)) ∧ ∃ rest, (ea ++ rest).Perm rs ∧ ∀ x ∈ rest, (g : Int) < f x := by
  by_cases z : m = 0
  · obtain ⟨⟨r, r1, r2, r3⟩, lo, ear, st, nd⟩ := h
    have e := ear z
    subst e
    subst z
    have r3' : r.Perm (ea.map f) := by simpa using r3
    have top : ∀ x ∈ ea, f x ≤ (ea.length : Int) := fun x hx => by
      obtain ⟨j, hj, e⟩ := List.mem_iff_getElem.mp (r3'.mem_iff.mpr (List.mem_map.mpr ⟨x, hx, rfl⟩))
      have := r2 j (f x) (by rw [List.getElem?_eq_getElem hj, e])
      omega
    refine ⟨ea.length, ⟨?_, fun g hg => ?_⟩, top, [], by simpa using p, (fun _ h => nomatch h)⟩
    · unfold cntL
      rw [← (p.map f).countP_eq]
      have := List.countP_eq_length (p := fun x => decide (x ≤ (ea.length : Int))) (l := ea.map f) |>.mpr fun x hx => by
        obtain ⟨y, hy, rfl⟩ := List.mem_map.mp hx
        simpa using top y hy
      rw [List.length_map] at this
      exact this
    · have := row_cnt r2 (g := g) (by omega)
      unfold cntL at this ⊢
      rwa [r3'.countP_eq, (p.map f).countP_eq] at this
  · obtain ⟨l, h1, h2, h3, rest, h4, h5⟩ := h.stuck (by omega)
    have pm : (ea ++ rest).Perm rs := (h4.trans (by simp)).trans p
    refine ⟨l, ⟨?_, fun g hg => ?_⟩, h3, rest, pm, h5⟩
    · unfold cntL
      rw [← (pm.map f).countP_eq, List.map_append, List.countP_append]
      have a : (ea.map f).countP (fun x => decide (x ≤ (l : Int))) = (ea.map f).length := by
        rw [List.countP_eq_length]
        intro x hx
        obtain ⟨y, hy, rfl⟩ := List.mem_map.mp hx
        simpa using h3 y hy
      have b : (rest.map f).countP (fun x => decide (x ≤ (l : Int))) = 0 := by
        rw [List.countP_eq_zero]
        intro x hx
        obtain ⟨y, hy, rfl⟩ := List.mem_map.mp hx
        have := h5 y hy
        simp only [decide_eq_true_eq]
        omega
      rw [List.length_map] at a
      omega
    · have := h2 g hg
      unfold cntL at this ⊢
      rw [← (pm.map f).countP_eq, List.map_append, List.countP_append]
      omega
end
end M
namespace K
open PySem PySem.Spec PyProof.Rows L2 U ClX
def top (i : Nat) : Stmt := PySem.Challenge.pw_indexlogs_k48_missing_and_usable_of_long.main.body.getD i (.Pass ⟨0, 0, 0, 0⟩)
/-- the classes at hand, the constants -/
structure Ads where
  cFronted : Addr
  cInserted : Addr
  cLogError : Addr
  cNoIndex : Addr
  cNoItem : Addr
  cNoLog : Addr
  cNoText : Addr
  cRecord : Addr
  cRemoved : Addr
abbrev Ads.kFRONTED (_ : Ads) : V := .str "^"
abbrev Ads.kINSERTED (_ : Ads) : V := .str "+"
abbrev Ads.kLETTERS (_ : Ads) : V := .str "abcdefghijklmnopqrstuvwxyz"
abbrev Ads.kMOST_LETTERS (_ : Ads) : V := .int 8
abbrev Ads.kMOST_LOG (_ : Ads) : V := .int 40
abbrev Ads.kREMOVED (_ : Ads) : V := .str "-"
structure Gm (mg : Str → Option Value) (A : Ads) : Prop where
  g_abs : mg "abs" = none
  g_all : mg "all" = none
  g_bool : mg "bool" = none
  g_enumerate : mg "enumerate" = none
  g_int : mg "int" = none
  g_isinstance : mg "isinstance" = none
  g_len : mg "len" = none
  g_list : mg "list" = none
  g_max : mg "max" = none
  g_min : mg "min" = none
  g_range : mg "range" = none
  g_repr : mg "repr" = none
  g_set : mg "set" = none
  g_sorted : mg "sorted" = none
  g_str : mg "str" = none
  g_FRONTED : ∃ u, mg "FRONTED" = some u ∧ RelV A.kFRONTED u
  g_INSERTED : ∃ u, mg "INSERTED" = some u ∧ RelV A.kINSERTED u
  g_LETTERS : ∃ u, mg "LETTERS" = some u ∧ RelV A.kLETTERS u
  g_MOST_LETTERS : ∃ u, mg "MOST_LETTERS" = some u ∧ RelV A.kMOST_LETTERS u
  g_MOST_LOG : ∃ u, mg "MOST_LOG" = some u ∧ RelV A.kMOST_LOG u
  g_REMOVED : ∃ u, mg "REMOVED" = some u ∧ RelV A.kREMOVED u
  cFronted : mg "Fronted" = some (.ref A.cFronted)
  cInserted : mg "Inserted" = some (.ref A.cInserted)
  cLogError : mg "LogError" = some (.ref A.cLogError)
  cNoIndex : mg "NoIndex" = some (.ref A.cNoIndex)
  cNoItem : mg "NoItem" = some (.ref A.cNoItem)
  cNoLog : mg "NoLog" = some (.ref A.cNoLog)
  cNoText : mg "NoText" = some (.ref A.cNoText)
  cRecord : mg "Record" = some (.ref A.cRecord)
  cRemoved : mg "Removed" = some (.ref A.cRemoved)
abbrev s_is_integer : Stmt := top 16
abbrev N_is_integer : List Str := ["thing", "least", "most"]
abbrev ps_is_integer : List Str := ["thing", "least", "most"]
theorem sc_is_integer : FnScope N_is_integer ["thing", "least", "most"] (defScope s_is_integer) := ⟨rfl, rfl, rfl, by decide +kernel, rfl, by decide +kernel, by decide +kernel⟩
def t_is_integer (P : Program) (w : World) (K : PySem.W.Frag) (mg : Str → Option Value) (base : Heap) (A : Ads) (E : XK) : TS :=
  tRet (tAndV (tCB (cIsi K) (tCons (tVar 0) (tCons (tC (.ty "int")) (tNil)))) (tAndV (tNotV (tCB (cIsi K) (tCons (tVar 0) (tCons (tC (.ty "bool")) (tNil))))) (tChain uLe uLe (tVar 1) (tVar 0) (tVar 2))))
theorem d_is_integer {P : Program} {w : World} {K : PySem.W.Frag} {mg : Str → Option Value} {base : Heap} {A : Ads} {f : Addr} {cdv : Value} {Ar : Around} {outer : List Env} {s : Shared} {H : Hp} {E : XK} (G : Gm mg A) (hr : Room 1 (Ar.deeper (envOfC "is_integer" (defScope s_is_integer) s.heap.objs.size f cdv))) :
    PSs (cxOf (L2.CX P w) P w K mg base N_is_integer "is_integer" (defScope s_is_integer) f cdv Ar outer s H E) (defBody s_is_integer) (t_is_integer P w K mg base A E) := by
  have sc := sc_is_integer
  have at_ : At (cxOf (L2.CX P w) P w K mg base N_is_integer "is_integer" (defScope s_is_integer) f cdv Ar outer s H E) 1 E := At.of hr (takes_of rfl rfl rfl rfl)
  have pn : PassesOwn (model P w) (cxOf (L2.CX P w) P w K mg base N_is_integer "is_integer" (defScope s_is_integer) f cdv Ar outer s H E).A (cxOf (L2.CX P w) P w K mg base N_is_integer "is_integer" (defScope s_is_integer) f cdv Ar outer s H E).env (cxOf (L2.CX P w) P w K mg base N_is_integer "is_integer" (defScope s_is_integer) f cdv Ar outer s H E).xe := passes_of rfl
  exact pss_one (ps_ret (pe_and (pe_callB call_cIsi (by rfl) G.g_isinstance (by decide +kernel) (pa_cons (pv 0) (pa_cons (pe_bltn (v := .ty "int") (by rfl) G.g_int (by decide +kernel) rfl) (pa_nil)))) (pe_and (pe_not (pe_callB call_cIsi (by rfl) G.g_isinstance (by decide +kernel) (pa_cons (pv 0) (pa_cons (pe_bltn (v := .ty "bool") (by rfl) G.g_bool (by decide +kernel) rfl) (pa_nil))))) (pe_one (pe_chain op_uLe op_uLe (pv 1) (pv 0) (pv 2))))))
abbrev s_is_item : Stmt := top 17
abbrev N_is_item : List Str := ["thing", "letter"]
abbrev ps_is_item : List Str := ["thing"]
theorem sc_is_item : FnScope N_is_item ["thing"] (defScope s_is_item) := ⟨rfl, rfl, rfl, by decide +kernel, rfl, by decide +kernel, by decide +kernel⟩
def t_is_item (P : Program) (w : World) (K : PySem.W.Frag) (mg : Str → Option Value) (base : Heap) (A : Ads) (E : XK) : TS :=
  tSeq (tIfS (tOr (tNot (tB (tCB (cIsi K) (tCons (tVar 0) (tCons (tC (.ty "str")) (tNil)))))) (tNot (tTest (tChain uLe uLe (tC (.int 1)) (tCB (cLen K) (tCons (tVar 0) (tNil))) (tC A.kMOST_LETTERS))))) (tRet (tC (.bl false))) (tNext)) (tRet (tCB (cAll K) (tCons (tLc (iStr (tVar 0)) (gName 1) (tYes) (tOp (uIn K false) (tVar 1) (tC A.kLETTERS)) [1]) (tNil))))
theorem d_is_item {P : Program} {w : World} {K : PySem.W.Frag} {mg : Str → Option Value} {base : Heap} {A : Ads} {f : Addr} {cdv : Value} {Ar : Around} {outer : List Env} {s : Shared} {H : Hp} {E : XK} (G : Gm mg A) (hr : Room 1 (Ar.deeper (envOfC "is_item" (defScope s_is_item) s.heap.objs.size f cdv))) :
    PSs (cxOf (L2.CX P w) P w K mg base N_is_item "is_item" (defScope s_is_item) f cdv Ar outer s H E) (defBody s_is_item) (t_is_item P w K mg base A E) := by
  have sc := sc_is_item
  have at_ : At (cxOf (L2.CX P w) P w K mg base N_is_item "is_item" (defScope s_is_item) f cdv Ar outer s H E) 1 E := At.of hr (takes_of rfl rfl rfl rfl)
  have pn : PassesOwn (model P w) (cxOf (L2.CX P w) P w K mg base N_is_item "is_item" (defScope s_is_item) f cdv Ar outer s H E).A (cxOf (L2.CX P w) P w K mg base N_is_item "is_item" (defScope s_is_item) f cdv Ar outer s H E).env (cxOf (L2.CX P w) P w K mg base N_is_item "is_item" (defScope s_is_item) f cdv Ar outer s H E).xe := passes_of rfl
  exact pss_cons (ps_if (PW.pt (pw_or (pt_not (pt_val (pe_callB call_cIsi (by rfl) G.g_isinstance (by decide +kernel) (pa_cons (pv 0) (pa_cons (pe_bltn (v := .ty "str") (by rfl) G.g_str (by decide +kernel) rfl) (pa_nil)))))) (pw_or1 (pt_not (pt_chain op_uLe op_uLe (pe_int) (pe_callB call_cLen (by rfl) G.g_len (by decide +kernel) (pa_cons (pv 0) (pa_nil))) (pe_g (by rfl) G.g_MOST_LETTERS)))))) (pss_one (ps_ret (pe_bl))) (pss_nil)) (pss_one (ps_ret (pe_callB (call_cAll rfl) (by rfl) G.g_all (by decide +kernel) (pa_cons (pe_lc (own := [("letter", 1)]) (g := gName 1) (tt := tYes) rfl sc.nd (pi_str (pv 0)) (blkOk_by (N := N_is_item) (sc := defScope s_is_item) (by decide +kernel)) (fun _ _ _ _ _ => pg_name (i := 1) sc.nd rfl (by first | exact Or.inl rfl | exact Or.inr rfl)) (fun _ _ _ _ _ => pts_nil) (fun _ _ _ _ _ => pe_cmpR (op_uIn hr) (pv 1) (pe_g (by rfl) G.g_LETTERS) (by rfl))) (pa_nil)))))
abbrev s_Record_init : Stmt := inClass (top 18) 2
abbrev N_Record_init : List Str := ["self", "item", "slot"]
abbrev ps_Record_init : List Str := ["self", "item", "slot"]
theorem sc_Record_init : FnScope N_Record_init ["self", "item", "slot"] (defScope s_Record_init) := ⟨rfl, rfl, rfl, by decide +kernel, rfl, by decide +kernel, by decide +kernel⟩
def t_Record_init (P : Program) (w : World) (K : PySem.W.Frag) (mg : Str → Option Value) (base : Heap) (A : Ads) (E : XK) : TS :=
  tSeq (tIfS (tNot (tB (tFn P w K mg base "is_item" 2 E (tCons (tVar 1) (tNil))))) (tNever) (tNext)) (tSeq (tIfS (tNot (tB (tFn P w K mg base "is_integer" 2 E (tCons (tVar 2) (tCons (tC (.int 0)) (tCons (tAtt P w K mg base "MOST" (tC (.ref A.cRecord))) (tNil))))))) (tNever) (tNext)) (tSeq (sFld K (tVar 0) (tVar 1) "held_item") (sFld K (tVar 0) (tVar 2) "held_slot")))
theorem d_Record_init {P : Program} {w : World} {K : PySem.W.Frag} {mg : Str → Option Value} {base : Heap} {A : Ads} {f : Addr} {cdv : Value} {Ar : Around} {outer : List Env} {s : Shared} {H : Hp} {E : XK} (G : Gm mg A) (hr : Room 2 (Ar.deeper (envOfC "Record.__init__" (defScope s_Record_init) s.heap.objs.size f cdv))) :
    PSs (cxOf (L2.CX P w) P w K mg base N_Record_init "Record.__init__" (defScope s_Record_init) f cdv Ar outer s H E) (defBody s_Record_init) (t_Record_init P w K mg base A E) := by
  have sc := sc_Record_init
  have at_ : At (cxOf (L2.CX P w) P w K mg base N_Record_init "Record.__init__" (defScope s_Record_init) f cdv Ar outer s H E) 2 E := At.of hr (takes_of rfl rfl rfl rfl)
  have pn : PassesOwn (model P w) (cxOf (L2.CX P w) P w K mg base N_Record_init "Record.__init__" (defScope s_Record_init) f cdv Ar outer s H E).A (cxOf (L2.CX P w) P w K mg base N_Record_init "Record.__init__" (defScope s_Record_init) f cdv Ar outer s H E).env (cxOf (L2.CX P w) P w K mg base N_Record_init "Record.__init__" (defScope s_Record_init) f cdv Ar outer s H E).xe := passes_of rfl
  exact pss_cons (ps_if (pt_not (pt_val (pe_fn at_ (by rfl) (pa_cons (pv 1) (pa_nil))))) (pss_one (ps_never)) (pss_nil)) (pss_cons (ps_if (pt_not (pt_val (pe_fn at_ (by rfl) (pa_cons (pv 2) (pa_cons (pe_int) (pa_cons (pe_att hr (pe_g (by rfl) ⟨_, G.cRecord, rfl⟩)) (pa_nil))))))) (pss_one (ps_never)) (pss_nil)) (pss_cons (ps_fld (pv 0) (pv 1) rfl) (pss_one (ps_fld (pv 0) (pv 2) rfl))))
abbrev s_Record_item : Stmt := inClass (top 18) 4
abbrev N_Record_item : List Str := ["self"]
abbrev ps_Record_item : List Str := ["self"]
theorem sc_Record_item : FnScope N_Record_item ["self"] (defScope s_Record_item) := ⟨rfl, rfl, rfl, by decide +kernel, rfl, by decide +kernel, by decide +kernel⟩
def t_Record_item (P : Program) (w : World) (K : PySem.W.Frag) (mg : Str → Option Value) (base : Heap) (A : Ads) (E : XK) : TS :=
  tRet (tAtt P w K mg base "held_item" (tVar 0))
theorem d_Record_item {P : Program} {w : World} {K : PySem.W.Frag} {mg : Str → Option Value} {base : Heap} {A : Ads} {f : Addr} {cdv : Value} {Ar : Around} {outer : List Env} {s : Shared} {H : Hp} {E : XK} (G : Gm mg A) (hr : Room 2 (Ar.deeper (envOfC "Record.item" (defScope s_Record_item) s.heap.objs.size f cdv))) :
    PSs (cxOf (L2.CX P w) P w K mg base N_Record_item "Record.item" (defScope s_Record_item) f cdv Ar outer s H E) (defBody s_Record_item) (t_Record_item P w K mg base A E) := by
  have sc := sc_Record_item
  have at_ : At (cxOf (L2.CX P w) P w K mg base N_Record_item "Record.item" (defScope s_Record_item) f cdv Ar outer s H E) 2 E := At.of hr (takes_of rfl rfl rfl rfl)
  have pn : PassesOwn (model P w) (cxOf (L2.CX P w) P w K mg base N_Record_item "Record.item" (defScope s_Record_item) f cdv Ar outer s H E).A (cxOf (L2.CX P w) P w K mg base N_Record_item "Record.item" (defScope s_Record_item) f cdv Ar outer s H E).env (cxOf (L2.CX P w) P w K mg base N_Record_item "Record.item" (defScope s_Record_item) f cdv Ar outer s H E).xe := passes_of rfl
  exact pss_one (ps_ret (pe_att hr (pv 0)))
abbrev s_Record_slot : Stmt := inClass (top 18) 5
abbrev N_Record_slot : List Str := ["self"]
abbrev ps_Record_slot : List Str := ["self"]
theorem sc_Record_slot : FnScope N_Record_slot ["self"] (defScope s_Record_slot) := ⟨rfl, rfl, rfl, by decide +kernel, rfl, by decide +kernel, by decide +kernel⟩
def t_Record_slot (P : Program) (w : World) (K : PySem.W.Frag) (mg : Str → Option Value) (base : Heap) (A : Ads) (E : XK) : TS :=
  tRet (tAtt P w K mg base "held_slot" (tVar 0))
theorem d_Record_slot {P : Program} {w : World} {K : PySem.W.Frag} {mg : Str → Option Value} {base : Heap} {A : Ads} {f : Addr} {cdv : Value} {Ar : Around} {outer : List Env} {s : Shared} {H : Hp} {E : XK} (G : Gm mg A) (hr : Room 2 (Ar.deeper (envOfC "Record.slot" (defScope s_Record_slot) s.heap.objs.size f cdv))) :
    PSs (cxOf (L2.CX P w) P w K mg base N_Record_slot "Record.slot" (defScope s_Record_slot) f cdv Ar outer s H E) (defBody s_Record_slot) (t_Record_slot P w K mg base A E) := by
  have sc := sc_Record_slot
  have at_ : At (cxOf (L2.CX P w) P w K mg base N_Record_slot "Record.slot" (defScope s_Record_slot) f cdv Ar outer s H E) 2 E := At.of hr (takes_of rfl rfl rfl rfl)
  have pn : PassesOwn (model P w) (cxOf (L2.CX P w) P w K mg base N_Record_slot "Record.slot" (defScope s_Record_slot) f cdv Ar outer s H E).A (cxOf (L2.CX P w) P w K mg base N_Record_slot "Record.slot" (defScope s_Record_slot) f cdv Ar outer s H E).env (cxOf (L2.CX P w) P w K mg base N_Record_slot "Record.slot" (defScope s_Record_slot) f cdv Ar outer s H E).xe := passes_of rfl
  exact pss_one (ps_ret (pe_att hr (pv 0)))
abbrev s_Record_move_to : Stmt := inClass (top 18) 7
abbrev N_Record_move_to : List Str := ["self", "slot"]
abbrev ps_Record_move_to : List Str := ["self", "slot"]
theorem sc_Record_move_to : FnScope N_Record_move_to ["self", "slot"] (defScope s_Record_move_to) := ⟨rfl, rfl, rfl, by decide +kernel, rfl, by decide +kernel, by decide +kernel⟩
def t_Record_move_to (P : Program) (w : World) (K : PySem.W.Frag) (mg : Str → Option Value) (base : Heap) (A : Ads) (E : XK) : TS :=
  tSeq (tIfS (tNot (tB (tFn P w K mg base "is_integer" 2 E (tCons (tVar 1) (tCons (tC (.int 0)) (tCons (tAtt P w K mg base "MOST" (tC (.ref A.cRecord))) (tNil))))))) (tNever) (tNext)) (sFld K (tVar 0) (tVar 1) "held_slot")
theorem d_Record_move_to {P : Program} {w : World} {K : PySem.W.Frag} {mg : Str → Option Value} {base : Heap} {A : Ads} {f : Addr} {cdv : Value} {Ar : Around} {outer : List Env} {s : Shared} {H : Hp} {E : XK} (G : Gm mg A) (hr : Room 2 (Ar.deeper (envOfC "Record.move_to" (defScope s_Record_move_to) s.heap.objs.size f cdv))) :
    PSs (cxOf (L2.CX P w) P w K mg base N_Record_move_to "Record.move_to" (defScope s_Record_move_to) f cdv Ar outer s H E) (defBody s_Record_move_to) (t_Record_move_to P w K mg base A E) := by
  have sc := sc_Record_move_to
  have at_ : At (cxOf (L2.CX P w) P w K mg base N_Record_move_to "Record.move_to" (defScope s_Record_move_to) f cdv Ar outer s H E) 2 E := At.of hr (takes_of rfl rfl rfl rfl)
  have pn : PassesOwn (model P w) (cxOf (L2.CX P w) P w K mg base N_Record_move_to "Record.move_to" (defScope s_Record_move_to) f cdv Ar outer s H E).A (cxOf (L2.CX P w) P w K mg base N_Record_move_to "Record.move_to" (defScope s_Record_move_to) f cdv Ar outer s H E).env (cxOf (L2.CX P w) P w K mg base N_Record_move_to "Record.move_to" (defScope s_Record_move_to) f cdv Ar outer s H E).xe := passes_of rfl
  exact pss_cons (ps_if (pt_not (pt_val (pe_fn at_ (by rfl) (pa_cons (pv 1) (pa_cons (pe_int) (pa_cons (pe_att hr (pe_g (by rfl) ⟨_, G.cRecord, rfl⟩)) (pa_nil))))))) (pss_one (ps_never)) (pss_nil)) (pss_one (ps_fld (pv 0) (pv 1) rfl))
abbrev s_are_records : Stmt := top 28
abbrev N_are_records : List Str := ["thing", "most", "record"]
abbrev ps_are_records : List Str := ["thing", "most"]
theorem sc_are_records : FnScope N_are_records ["thing", "most"] (defScope s_are_records) := ⟨rfl, rfl, rfl, by decide +kernel, rfl, by decide +kernel, by decide +kernel⟩
def t_are_records (P : Program) (w : World) (K : PySem.W.Frag) (mg : Str → Option Value) (base : Heap) (A : Ads) (E : XK) : TS :=
  tSeq (tIfS (tOr (tNot (tB (tCB (cIsi K) (tCons (tVar 0) (tCons (tC (.ty "list")) (tNil)))))) (tTest (tOp uGt (tCB (cLen K) (tCons (tVar 0) (tNil))) (tVar 1)))) (tRet (tC (.bl false))) (tNext)) (tRet (tCB (cAll K) (tCons (tLc (iList K (tVar 0)) (gName 2) (tYes) (tAndV (tCB (cIsi K) (tCons (tVar 2) (tCons (tC (.ref A.cRecord)) (tNil)))) (tOp (uNe K) (tAtt P w K mg base "SIGN" (tVar 2)) (tC (.str "")))) [2]) (tNil))))
theorem d_are_records {P : Program} {w : World} {K : PySem.W.Frag} {mg : Str → Option Value} {base : Heap} {A : Ads} {f : Addr} {cdv : Value} {Ar : Around} {outer : List Env} {s : Shared} {H : Hp} {E : XK} (G : Gm mg A) (hr : Room 2 (Ar.deeper (envOfC "are_records" (defScope s_are_records) s.heap.objs.size f cdv))) :
    PSs (cxOf (L2.CX P w) P w K mg base N_are_records "are_records" (defScope s_are_records) f cdv Ar outer s H E) (defBody s_are_records) (t_are_records P w K mg base A E) := by
  have sc := sc_are_records
  have at_ : At (cxOf (L2.CX P w) P w K mg base N_are_records "are_records" (defScope s_are_records) f cdv Ar outer s H E) 2 E := At.of hr (takes_of rfl rfl rfl rfl)
  have pn : PassesOwn (model P w) (cxOf (L2.CX P w) P w K mg base N_are_records "are_records" (defScope s_are_records) f cdv Ar outer s H E).A (cxOf (L2.CX P w) P w K mg base N_are_records "are_records" (defScope s_are_records) f cdv Ar outer s H E).env (cxOf (L2.CX P w) P w K mg base N_are_records "are_records" (defScope s_are_records) f cdv Ar outer s H E).xe := passes_of rfl
  exact pss_cons (ps_if (PW.pt (pw_or (pt_not (pt_val (pe_callB call_cIsi (by rfl) G.g_isinstance (by decide +kernel) (pa_cons (pv 0) (pa_cons (pe_bltn (v := .ty "list") (by rfl) G.g_list (by decide +kernel) rfl) (pa_nil)))))) (pw_or1 (pt_cmpR op_uGt (pe_callB call_cLen (by rfl) G.g_len (by decide +kernel) (pa_cons (pv 0) (pa_nil))) (pv 1) (nomark _))))) (pss_one (ps_ret (pe_bl))) (pss_nil)) (pss_one (ps_ret (pe_callB (call_cAll rfl) (by rfl) G.g_all (by decide +kernel) (pa_cons (pe_lc (own := [("record", 2)]) (g := gName 2) (tt := tYes) rfl sc.nd (pi_list (pv 0)) (blkOk_by (N := N_are_records) (sc := defScope s_are_records) (by decide +kernel)) (fun _ _ _ _ _ => pg_name (i := 2) sc.nd rfl (by first | exact Or.inl rfl | exact Or.inr rfl)) (fun _ _ _ _ _ => pts_nil) (fun _ _ _ _ _ => pe_and (pe_callB call_cIsi (by rfl) G.g_isinstance (by decide +kernel) (pa_cons (pv 2) (pa_cons (pe_g (by rfl) ⟨_, G.cRecord, rfl⟩) (pa_nil)))) (pe_one (pe_cmpR (op_uNe hr) (pe_att hr (pv 2)) (pe_str) (nomark _))))) (pa_nil)))))
abbrev s_sign_of : Stmt := top 29
abbrev N_sign_of : List Str := ["log"]
abbrev ps_sign_of : List Str := ["log"]
theorem sc_sign_of : FnScope N_sign_of ["log"] (defScope s_sign_of) := ⟨rfl, rfl, rfl, by decide +kernel, rfl, by decide +kernel, by decide +kernel⟩
def t_sign_of (P : Program) (w : World) (K : PySem.W.Frag) (mg : Str → Option Value) (base : Heap) (A : Ads) (E : XK) : TS :=
  tRet (tIf (tTest (tOp (uNe K) (tVar 0) (tLst (tNil)))) (tAtt P w K mg base "SIGN" (tOp (uIx K) (tVar 0) (tC (.int 0)))) (tC (.str "")))
theorem d_sign_of {P : Program} {w : World} {K : PySem.W.Frag} {mg : Str → Option Value} {base : Heap} {A : Ads} {f : Addr} {cdv : Value} {Ar : Around} {outer : List Env} {s : Shared} {H : Hp} {E : XK} (G : Gm mg A) (hr : Room 2 (Ar.deeper (envOfC "sign_of" (defScope s_sign_of) s.heap.objs.size f cdv))) :
    PSs (cxOf (L2.CX P w) P w K mg base N_sign_of "sign_of" (defScope s_sign_of) f cdv Ar outer s H E) (defBody s_sign_of) (t_sign_of P w K mg base A E) := by
  have sc := sc_sign_of
  have at_ : At (cxOf (L2.CX P w) P w K mg base N_sign_of "sign_of" (defScope s_sign_of) f cdv Ar outer s H E) 2 E := At.of hr (takes_of rfl rfl rfl rfl)
  have pn : PassesOwn (model P w) (cxOf (L2.CX P w) P w K mg base N_sign_of "sign_of" (defScope s_sign_of) f cdv Ar outer s H E).A (cxOf (L2.CX P w) P w K mg base N_sign_of "sign_of" (defScope s_sign_of) f cdv Ar outer s H E).env (cxOf (L2.CX P w) P w K mg base N_sign_of "sign_of" (defScope s_sign_of) f cdv Ar outer s H E).xe := passes_of rfl
  exact pss_one (ps_ret (pe_ifExp (pt_cmpR (op_uNe hr) (pv 0) (pe_lst (pa_nil)) (nomark _)) (pe_att hr (pe_ix ix_u (pv 0) (pe_int) (fun _ _ => rfl))) (pe_str)))
abbrev s_items_of : Stmt := top 30
abbrev N_items_of : List Str := ["log", "record"]
abbrev ps_items_of : List Str := ["log"]
theorem sc_items_of : FnScope N_items_of ["log"] (defScope s_items_of) := ⟨rfl, rfl, rfl, by decide +kernel, rfl, by decide +kernel, by decide +kernel⟩
def t_items_of (P : Program) (w : World) (K : PySem.W.Frag) (mg : Str → Option Value) (base : Heap) (A : Ads) (E : XK) : TS :=
  tRet (tLc (iList K (tVar 0)) (gName 1) (tYes) (tAtt P w K mg base "item" (tVar 1)) [1])
theorem d_items_of {P : Program} {w : World} {K : PySem.W.Frag} {mg : Str → Option Value} {base : Heap} {A : Ads} {f : Addr} {cdv : Value} {Ar : Around} {outer : List Env} {s : Shared} {H : Hp} {E : XK} (G : Gm mg A) (hr : Room 2 (Ar.deeper (envOfC "items_of" (defScope s_items_of) s.heap.objs.size f cdv))) :
    PSs (cxOf (L2.CX P w) P w K mg base N_items_of "items_of" (defScope s_items_of) f cdv Ar outer s H E) (defBody s_items_of) (t_items_of P w K mg base A E) := by
  have sc := sc_items_of
  have at_ : At (cxOf (L2.CX P w) P w K mg base N_items_of "items_of" (defScope s_items_of) f cdv Ar outer s H E) 2 E := At.of hr (takes_of rfl rfl rfl rfl)
  have pn : PassesOwn (model P w) (cxOf (L2.CX P w) P w K mg base N_items_of "items_of" (defScope s_items_of) f cdv Ar outer s H E).A (cxOf (L2.CX P w) P w K mg base N_items_of "items_of" (defScope s_items_of) f cdv Ar outer s H E).env (cxOf (L2.CX P w) P w K mg base N_items_of "items_of" (defScope s_items_of) f cdv Ar outer s H E).xe := passes_of rfl
  exact pss_one (ps_ret (pe_lc (own := [("record", 1)]) (g := gName 1) (tt := tYes) rfl sc.nd (pi_list (pv 0)) (blkOk_by (N := N_items_of) (sc := defScope s_items_of) (by decide +kernel)) (fun _ _ _ _ _ => pg_name (i := 1) sc.nd rfl (by first | exact Or.inl rfl | exact Or.inr rfl)) (fun _ _ _ _ _ => pts_nil) (fun _ _ _ _ _ => pe_att hr (pv 1))))
abbrev s_is_log : Stmt := top 31
abbrev N_is_log : List Str := ["thing", "record"]
abbrev ps_is_log : List Str := ["thing"]
theorem sc_is_log : FnScope N_is_log ["thing"] (defScope s_is_log) := ⟨rfl, rfl, rfl, by decide +kernel, rfl, by decide +kernel, by decide +kernel⟩
def t_is_log (P : Program) (w : World) (K : PySem.W.Frag) (mg : Str → Option Value) (base : Heap) (A : Ads) (E : XK) : TS :=
  tSeq (tIfS (tNot (tB (tFn P w K mg base "are_records" 3 E (tCons (tVar 0) (tCons (tC A.kMOST_LOG) (tNil)))))) (tRet (tC (.bl false))) (tNext)) (tRet (tAndV (tOp uLe (tLenSetT K (tLc (iList K (tVar 0)) (gName 1) (tYes) (tAtt P w K mg base "SIGN" (tVar 1)) [1])) (tC (.int 1))) (tOp (uEq K) (tLenSetT K (tFn P w K mg base "items_of" 3 E (tCons (tVar 0) (tNil)))) (tCB (cLen K) (tCons (tVar 0) (tNil))))))
theorem d_is_log {P : Program} {w : World} {K : PySem.W.Frag} {mg : Str → Option Value} {base : Heap} {A : Ads} {f : Addr} {cdv : Value} {Ar : Around} {outer : List Env} {s : Shared} {H : Hp} {E : XK} (G : Gm mg A) (hr : Room 3 (Ar.deeper (envOfC "is_log" (defScope s_is_log) s.heap.objs.size f cdv))) :
    PSs (cxOf (L2.CX P w) P w K mg base N_is_log "is_log" (defScope s_is_log) f cdv Ar outer s H E) (defBody s_is_log) (t_is_log P w K mg base A E) := by
  have sc := sc_is_log
  have at_ : At (cxOf (L2.CX P w) P w K mg base N_is_log "is_log" (defScope s_is_log) f cdv Ar outer s H E) 3 E := At.of hr (takes_of rfl rfl rfl rfl)
  have pn : PassesOwn (model P w) (cxOf (L2.CX P w) P w K mg base N_is_log "is_log" (defScope s_is_log) f cdv Ar outer s H E).A (cxOf (L2.CX P w) P w K mg base N_is_log "is_log" (defScope s_is_log) f cdv Ar outer s H E).env (cxOf (L2.CX P w) P w K mg base N_is_log "is_log" (defScope s_is_log) f cdv Ar outer s H E).xe := passes_of rfl
  exact pss_cons (ps_if (pt_not (pt_val (pe_fn at_ (by rfl) (pa_cons (pv 0) (pa_cons (pe_g (by rfl) G.g_MOST_LOG) (pa_nil)))))) (pss_one (ps_ret (pe_bl))) (pss_nil)) (pss_one (ps_ret (pe_and (pe_cmpR op_uLe (pe_lenSetT (by rfl) G.g_len (by rfl) G.g_set (pe_lc (own := [("record", 1)]) (g := gName 1) (tt := tYes) rfl sc.nd (pi_list (pv 0)) (blkOk_by (N := N_is_log) (sc := defScope s_is_log) (by decide +kernel)) (fun _ _ _ _ _ => pg_name (i := 1) sc.nd rfl (by first | exact Or.inl rfl | exact Or.inr rfl)) (fun _ _ _ _ _ => pts_nil) (fun _ _ _ _ _ => pe_att hr (pv 1)))) (pe_int) (nomark _)) (pe_one (pe_cmpR (op_uEq hr) (pe_lenSetT (by rfl) G.g_len (by rfl) G.g_set (pe_fn at_ (by rfl) (pa_cons (pv 0) (pa_nil)))) (pe_callB call_cLen (by rfl) G.g_len (by decide +kernel) (pa_cons (pv 0) (pa_nil))) (nomark _))))))
abbrev s_need_log : Stmt := top 32
abbrev N_need_log : List Str := ["thing"]
abbrev ps_need_log : List Str := ["thing"]
theorem sc_need_log : FnScope N_need_log ["thing"] (defScope s_need_log) := ⟨rfl, rfl, rfl, by decide +kernel, rfl, by decide +kernel, by decide +kernel⟩
def t_need_log (P : Program) (w : World) (K : PySem.W.Frag) (mg : Str → Option Value) (base : Heap) (A : Ads) (E : XK) : TS :=
  tIfS (tNot (tB (tFn P w K mg base "is_log" 4 E (tCons (tVar 0) (tNil))))) (tNever) (tNext)
theorem d_need_log {P : Program} {w : World} {K : PySem.W.Frag} {mg : Str → Option Value} {base : Heap} {A : Ads} {f : Addr} {cdv : Value} {Ar : Around} {outer : List Env} {s : Shared} {H : Hp} {E : XK} (G : Gm mg A) (hr : Room 4 (Ar.deeper (envOfC "need_log" (defScope s_need_log) s.heap.objs.size f cdv))) :
    PSs (cxOf (L2.CX P w) P w K mg base N_need_log "need_log" (defScope s_need_log) f cdv Ar outer s H E) (defBody s_need_log) (t_need_log P w K mg base A E) := by
  have sc := sc_need_log
  have at_ : At (cxOf (L2.CX P w) P w K mg base N_need_log "need_log" (defScope s_need_log) f cdv Ar outer s H E) 4 E := At.of hr (takes_of rfl rfl rfl rfl)
  have pn : PassesOwn (model P w) (cxOf (L2.CX P w) P w K mg base N_need_log "need_log" (defScope s_need_log) f cdv Ar outer s H E).A (cxOf (L2.CX P w) P w K mg base N_need_log "need_log" (defScope s_need_log) f cdv Ar outer s H E).env (cxOf (L2.CX P w) P w K mg base N_need_log "need_log" (defScope s_need_log) f cdv Ar outer s H E).xe := passes_of rfl
  exact pss_one (ps_if (pt_not (pt_val (pe_fn at_ (by rfl) (pa_cons (pv 0) (pa_nil))))) (pss_one (ps_never)) (pss_nil))
abbrev s_need_growing : Stmt := top 34
abbrev N_need_growing : List Str := ["log"]
abbrev ps_need_growing : List Str := ["log"]
theorem sc_need_growing : FnScope N_need_growing ["log"] (defScope s_need_growing) := ⟨rfl, rfl, rfl, by decide +kernel, rfl, by decide +kernel, by decide +kernel⟩
def t_need_growing (P : Program) (w : World) (K : PySem.W.Frag) (mg : Str → Option Value) (base : Heap) (A : Ads) (E : XK) : TS :=
  tSeq (tDrop (tFn P w K mg base "need_log" 5 E (tCons (tVar 0) (tNil)))) (tIfS (tTest (tOp (uEq K) (tFn P w K mg base "sign_of" 5 E (tCons (tVar 0) (tNil))) (tC A.kFRONTED))) (tNever) (tNext))
theorem d_need_growing {P : Program} {w : World} {K : PySem.W.Frag} {mg : Str → Option Value} {base : Heap} {A : Ads} {f : Addr} {cdv : Value} {Ar : Around} {outer : List Env} {s : Shared} {H : Hp} {E : XK} (G : Gm mg A) (hr : Room 5 (Ar.deeper (envOfC "need_growing" (defScope s_need_growing) s.heap.objs.size f cdv))) :
    PSs (cxOf (L2.CX P w) P w K mg base N_need_growing "need_growing" (defScope s_need_growing) f cdv Ar outer s H E) (defBody s_need_growing) (t_need_growing P w K mg base A E) := by
  have sc := sc_need_growing
  have at_ : At (cxOf (L2.CX P w) P w K mg base N_need_growing "need_growing" (defScope s_need_growing) f cdv Ar outer s H E) 5 E := At.of hr (takes_of rfl rfl rfl rfl)
  have pn : PassesOwn (model P w) (cxOf (L2.CX P w) P w K mg base N_need_growing "need_growing" (defScope s_need_growing) f cdv Ar outer s H E).A (cxOf (L2.CX P w) P w K mg base N_need_growing "need_growing" (defScope s_need_growing) f cdv Ar outer s H E).env (cxOf (L2.CX P w) P w K mg base N_need_growing "need_growing" (defScope s_need_growing) f cdv Ar outer s H E).xe := passes_of rfl
  exact pss_cons (ps_expr (pe_fn at_ (by rfl) (pa_cons (pv 0) (pa_nil)))) (pss_one (ps_if (pt_cmpR (op_uEq hr) (pe_fn at_ (by rfl) (pa_cons (pv 0) (pa_nil))) (pe_g (by rfl) G.g_FRONTED) (nomark _)) (pss_one (ps_never)) (pss_nil)))
abbrev s_made : Stmt := top 24
abbrev N_made : List Str := ["sign", "item", "slot"]
abbrev ps_made : List Str := ["sign", "item", "slot"]
theorem sc_made : FnScope N_made ["sign", "item", "slot"] (defScope s_made) := ⟨rfl, rfl, rfl, by decide +kernel, rfl, by decide +kernel, by decide +kernel⟩
def t_made (P : Program) (w : World) (K : PySem.W.Frag) (mg : Str → Option Value) (base : Heap) (A : Ads) (E : XK) : TS :=
  tSeq (tIfS (tTest (tOp (uEq K) (tVar 0) (tC A.kINSERTED))) (tRet (tMkr P w K mg base "Inserted" 4 E (tCons (tVar 1) (tCons (tVar 2) (tNil))))) (tNext)) (tSeq (tIfS (tTest (tOp (uEq K) (tVar 0) (tC A.kREMOVED))) (tRet (tMkr P w K mg base "Removed" 4 E (tCons (tVar 1) (tCons (tVar 2) (tNil))))) (tNext)) (tRet (tIf (tTest (tOp (uEq K) (tVar 0) (tC A.kFRONTED))) (tMkr P w K mg base "Fronted" 4 E (tCons (tVar 1) (tCons (tVar 2) (tNil)))) (tMkr P w K mg base "Record" 4 E (tCons (tVar 1) (tCons (tVar 2) (tNil)))))))
theorem d_made {P : Program} {w : World} {K : PySem.W.Frag} {mg : Str → Option Value} {base : Heap} {A : Ads} {f : Addr} {cdv : Value} {Ar : Around} {outer : List Env} {s : Shared} {H : Hp} {E : XK} (G : Gm mg A) (hr : Room 4 (Ar.deeper (envOfC "made" (defScope s_made) s.heap.objs.size f cdv))) :
    PSs (cxOf (L2.CX P w) P w K mg base N_made "made" (defScope s_made) f cdv Ar outer s H E) (defBody s_made) (t_made P w K mg base A E) := by
  have sc := sc_made
  have at_ : At (cxOf (L2.CX P w) P w K mg base N_made "made" (defScope s_made) f cdv Ar outer s H E) 4 E := At.of hr (takes_of rfl rfl rfl rfl)
  have pn : PassesOwn (model P w) (cxOf (L2.CX P w) P w K mg base N_made "made" (defScope s_made) f cdv Ar outer s H E).A (cxOf (L2.CX P w) P w K mg base N_made "made" (defScope s_made) f cdv Ar outer s H E).env (cxOf (L2.CX P w) P w K mg base N_made "made" (defScope s_made) f cdv Ar outer s H E).xe := passes_of rfl
  exact pss_cons (ps_if (pt_cmpR (op_uEq hr) (pv 0) (pe_g (by rfl) G.g_INSERTED) (nomark _)) (pss_one (ps_ret (pe_mkr at_ (by rfl) (pa_cons (pv 1) (pa_cons (pv 2) (pa_nil)))))) (pss_nil)) (pss_cons (ps_if (pt_cmpR (op_uEq hr) (pv 0) (pe_g (by rfl) G.g_REMOVED) (nomark _)) (pss_one (ps_ret (pe_mkr at_ (by rfl) (pa_cons (pv 1) (pa_cons (pv 2) (pa_nil)))))) (pss_nil)) (pss_one (ps_ret (pe_ifExp (pt_cmpR (op_uEq hr) (pv 0) (pe_g (by rfl) G.g_FRONTED) (nomark _)) (pe_mkr at_ (by rfl) (pa_cons (pv 1) (pa_cons (pv 2) (pa_nil)))) (pe_mkr at_ (by rfl) (pa_cons (pv 1) (pa_cons (pv 2) (pa_nil))))))))
abbrev s_copied : Stmt := top 25
abbrev N_copied : List Str := ["record"]
abbrev ps_copied : List Str := ["record"]
theorem sc_copied : FnScope N_copied ["record"] (defScope s_copied) := ⟨rfl, rfl, rfl, by decide +kernel, rfl, by decide +kernel, by decide +kernel⟩
def t_copied (P : Program) (w : World) (K : PySem.W.Frag) (mg : Str → Option Value) (base : Heap) (A : Ads) (E : XK) : TS :=
  tRet (tFn P w K mg base "made" 5 E (tCons (tAtt P w K mg base "SIGN" (tVar 0)) (tCons (tAtt P w K mg base "item" (tVar 0)) (tCons (tAtt P w K mg base "slot" (tVar 0)) (tNil)))))
theorem d_copied {P : Program} {w : World} {K : PySem.W.Frag} {mg : Str → Option Value} {base : Heap} {A : Ads} {f : Addr} {cdv : Value} {Ar : Around} {outer : List Env} {s : Shared} {H : Hp} {E : XK} (G : Gm mg A) (hr : Room 5 (Ar.deeper (envOfC "copied" (defScope s_copied) s.heap.objs.size f cdv))) :
    PSs (cxOf (L2.CX P w) P w K mg base N_copied "copied" (defScope s_copied) f cdv Ar outer s H E) (defBody s_copied) (t_copied P w K mg base A E) := by
  have sc := sc_copied
  have at_ : At (cxOf (L2.CX P w) P w K mg base N_copied "copied" (defScope s_copied) f cdv Ar outer s H E) 5 E := At.of hr (takes_of rfl rfl rfl rfl)
  have pn : PassesOwn (model P w) (cxOf (L2.CX P w) P w K mg base N_copied "copied" (defScope s_copied) f cdv Ar outer s H E).A (cxOf (L2.CX P w) P w K mg base N_copied "copied" (defScope s_copied) f cdv Ar outer s H E).env (cxOf (L2.CX P w) P w K mg base N_copied "copied" (defScope s_copied) f cdv Ar outer s H E).xe := passes_of rfl
  exact pss_one (ps_ret (pe_fn at_ (by rfl) (pa_cons (pe_att hr (pv 0)) (pa_cons (pe_att hr (pv 0)) (pa_cons (pe_att hr (pv 0)) (pa_nil))))))
abbrev s_least_missing : Stmt := top 35
abbrev N_least_missing : List Str := ["log", "slots", "record", "place", "slot"]
abbrev ps_least_missing : List Str := ["log"]
theorem sc_least_missing : FnScope N_least_missing ["log"] (defScope s_least_missing) := ⟨rfl, rfl, rfl, by decide +kernel, rfl, by decide +kernel, by decide +kernel⟩
def t_least_missing (P : Program) (w : World) (K : PySem.W.Frag) (mg : Str → Option Value) (base : Heap) (A : Ads) (E : XK) : TS :=
  tSeq (tDrop (tFn P w K mg base "need_growing" 6 E (tCons (tVar 0) (tNil)))) (tSeq (tAsg (tCB (cSort K) (tCons (tLc (iList K (tVar 0)) (gName 2) (tYes) (tAtt P w K mg base "slot" (tVar 2)) [2]) (tNil))) (gName 1)) (tRet (tCB (cMax K) (tCons (tOp uAdd (tLst (tCons (tC (.int 0)) (tNil))) (tLc (iEnum K (tCons (tVar 1) (tNil))) (gTup K 2 (gCons (gName 3) (gCons (gName 4) (gNil)))) (tYes) (tOp uSub (tVar 4) (tVar 3)) [3, 4])) (tNil)))))
theorem d_least_missing {P : Program} {w : World} {K : PySem.W.Frag} {mg : Str → Option Value} {base : Heap} {A : Ads} {f : Addr} {cdv : Value} {Ar : Around} {outer : List Env} {s : Shared} {H : Hp} {E : XK} (G : Gm mg A) (hr : Room 6 (Ar.deeper (envOfC "least_missing" (defScope s_least_missing) s.heap.objs.size f cdv))) :
    PSs (cxOf (L2.CX P w) P w K mg base N_least_missing "least_missing" (defScope s_least_missing) f cdv Ar outer s H E) (defBody s_least_missing) (t_least_missing P w K mg base A E) := by
  have sc := sc_least_missing
  have at_ : At (cxOf (L2.CX P w) P w K mg base N_least_missing "least_missing" (defScope s_least_missing) f cdv Ar outer s H E) 6 E := At.of hr (takes_of rfl rfl rfl rfl)
  have pn : PassesOwn (model P w) (cxOf (L2.CX P w) P w K mg base N_least_missing "least_missing" (defScope s_least_missing) f cdv Ar outer s H E).A (cxOf (L2.CX P w) P w K mg base N_least_missing "least_missing" (defScope s_least_missing) f cdv Ar outer s H E).env (cxOf (L2.CX P w) P w K mg base N_least_missing "least_missing" (defScope s_least_missing) f cdv Ar outer s H E).xe := passes_of rfl
  exact pss_cons (ps_expr (pe_fn at_ (by rfl) (pa_cons (pv 0) (pa_nil)))) (pss_cons (ps_set (i := 1) sc.nd rfl (by first | exact Or.inl rfl | exact Or.inr rfl) (pe_callB call_cSort (by rfl) G.g_sorted (by decide +kernel) (pa_cons (pe_lc (own := [("record", 2)]) (g := gName 2) (tt := tYes) rfl sc.nd (pi_list (pv 0)) (blkOk_by (N := N_least_missing) (sc := defScope s_least_missing) (by decide +kernel)) (fun _ _ _ _ _ => pg_name (i := 2) sc.nd rfl (by first | exact Or.inl rfl | exact Or.inr rfl)) (fun _ _ _ _ _ => pts_nil) (fun _ _ _ _ _ => pe_att hr (pv 2))) (pa_nil)))) (pss_one (ps_ret (pe_callB (call_cMax rfl) (by rfl) G.g_max (by decide +kernel) (pa_cons (pe_op op_uAdd (pe_lst (pa_cons (pe_int) (pa_nil))) (pe_lc (own := [("place", 3), ("slot", 4)]) (g := gTup K 2 (gCons (gName 3) (gCons (gName 4) (gNil)))) (tt := tYes) rfl sc.nd (pi_enum (by rfl) G.g_enumerate (pa_cons (pv 1) (pa_nil))) (blkOk_by (N := N_least_missing) (sc := defScope s_least_missing) (by decide +kernel)) (fun _ _ _ _ _ => pg_tup rfl (pgs_cons (pg_name (i := 3) sc.nd rfl (by first | exact Or.inl rfl | exact Or.inr rfl)) (pgs_cons (pg_name (i := 4) sc.nd rfl (by first | exact Or.inl rfl | exact Or.inr rfl)) (pgs_nil)))) (fun _ _ _ _ _ => pts_nil) (fun _ _ _ _ _ => pe_op op_uSub (pv 4) (pv 3)))) (pa_nil))))))
abbrev s_usable : Stmt := top 36
abbrev N_usable : List Str := ["log", "height", "ready", "record"]
abbrev ps_usable : List Str := ["log"]
theorem sc_usable : FnScope N_usable ["log"] (defScope s_usable) := ⟨rfl, rfl, rfl, by decide +kernel, rfl, by decide +kernel, by decide +kernel⟩
def t_usable (P : Program) (w : World) (K : PySem.W.Frag) (mg : Str → Option Value) (base : Heap) (A : Ads) (E : XK) : TS :=
  tSeq (tDrop (tFn P w K mg base "need_growing" 6 E (tCons (tVar 0) (tNil)))) (tSeq (tAsg (tC (.int 0)) (gName 1)) (tWhile (tB (tC (.bl true))) (tSeq (tAsg (tLc (iList K (tVar 0)) (gName 3) (tTest (tOp uLe (tAtt P w K mg base "slot" (tVar 3)) (tVar 1))) (tVar 3) [3]) (gName 2)) (tSeq (tIfS (tTest (tOp (uEq K) (tCB (cLen K) (tCons (tVar 2) (tNil))) (tVar 1))) (tRet (tLc (iList K (tVar 2)) (gName 3) (tYes) (tFn P w K mg base "copied" 6 E0 (tCons (tVar 3) (tNil))) [3])) (tNext)) (tAug 1 (tC (.int 1)) (ipI fun i j => i + j))))))
theorem d_usable {P : Program} {w : World} {K : PySem.W.Frag} {mg : Str → Option Value} {base : Heap} {A : Ads} {f : Addr} {cdv : Value} {Ar : Around} {outer : List Env} {s : Shared} {H : Hp} {E : XK} (G : Gm mg A) (hr : Room 6 (Ar.deeper (envOfC "usable" (defScope s_usable) s.heap.objs.size f cdv))) :
    PSs (cxOf (L2.CX P w) P w K mg base N_usable "usable" (defScope s_usable) f cdv Ar outer s H E) (defBody s_usable) (t_usable P w K mg base A E) := by
  have sc := sc_usable
  have at_ : At (cxOf (L2.CX P w) P w K mg base N_usable "usable" (defScope s_usable) f cdv Ar outer s H E) 6 E := At.of hr (takes_of rfl rfl rfl rfl)
  have pn : PassesOwn (model P w) (cxOf (L2.CX P w) P w K mg base N_usable "usable" (defScope s_usable) f cdv Ar outer s H E).A (cxOf (L2.CX P w) P w K mg base N_usable "usable" (defScope s_usable) f cdv Ar outer s H E).env (cxOf (L2.CX P w) P w K mg base N_usable "usable" (defScope s_usable) f cdv Ar outer s H E).xe := passes_of rfl
  exact pss_cons (ps_expr (pe_fn at_ (by rfl) (pa_cons (pv 0) (pa_nil)))) (pss_cons (ps_set (i := 1) sc.nd rfl (by first | exact Or.inl rfl | exact Or.inr rfl) (pe_int)) (pss_one (ps_while pn (pt_val (pe_bl)) (pss_cons (ps_setLc (i := 2) (own := [("record", 3)]) (g := gName 3) (tt := tTest (tOp uLe (tAtt P w K mg base "slot" (tVar 3)) (tVar 1))) rfl sc.nd rfl rfl (sw_true rfl rfl rfl (by decide +kernel)) (pi_list (pv 0)) (blkOk_by (N := N_usable) (sc := defScope s_usable) (by decide +kernel)) (fun _ _ _ _ _ => pg_name (i := 3) sc.nd rfl (by first | exact Or.inl rfl | exact Or.inr rfl)) (fun _ _ _ _ _ => pts_one (pt_cmpR op_uLe (pe_att hr (pv 3)) (pv 1) (nomark _))) (fun _ _ _ _ _ => pv 3)) (pss_cons (ps_if (pt_cmpR (op_uEq hr) (pe_callB call_cLen (by rfl) G.g_len (by decide +kernel) (pa_cons (pv 2) (pa_nil))) (pv 1) (nomark _)) (pss_one (ps_ret (pe_lc (own := [("record", 3)]) (g := gName 3) (tt := tYes) rfl sc.nd (pi_list (pv 2)) (blkOk_by (N := N_usable) (sc := defScope s_usable) (by decide +kernel)) (fun _ _ _ _ _ => pg_name (i := 3) sc.nd rfl (by first | exact Or.inl rfl | exact Or.inr rfl)) (fun _ _ _ _ _ => pts_nil) (fun _ _ _ _ _ => pe_fn (At.e0 hr) (by rfl) (pa_cons (pv 3) (pa_nil)))))) (pss_nil)) (pss_one (ps_aug (i := 1) sc.nd rfl (by first | exact Or.inl rfl | exact Or.inr rfl) (pe_int) ip_add)))))))
abbrev s_law_tape : Stmt := top 38
abbrev N_law_tape : List Str := ["_law_script", "_law_k", "_law_cell"]
abbrev ps_law_tape : List Str := ["_law_script", "_law_k"]
theorem sc_law_tape : FnScope N_law_tape ["_law_script", "_law_k"] (defScope s_law_tape) := ⟨rfl, rfl, rfl, by decide +kernel, rfl, by decide +kernel, by decide +kernel⟩
def t_law_tape (P : Program) (w : World) (K : PySem.W.Frag) (mg : Str → Option Value) (base : Heap) (A : Ads) (E : XK) : TS :=
  tSeq (tAsg (tIf (tTest (tOp uLt (tVar 1) (tCB (cLen K) (tCons (tVar 0) (tNil))))) (tCB (cAbs) (tCons (tOp (uIx K) (tVar 0) (tVar 1)) (tNil))) (tC (.int 0))) (gName 2)) (tRet (tLst (tCons (tCB (cMax K) (tCons (tC (.int 0)) (tCons (tOp uSub (tVar 2) (tOp uPow (tC (.int 10)) (tC (.int 18)))) (tNil)))) (tCons (tOp uAdd (tOp uMul (tOp uMod (tVar 2) (tOp uAdd (tOp uPow (tC (.int 10)) (tC (.int 39))) (tC (.int 3)))) (tC (.int 71))) (tVar 1)) (tCons (tC (.int 0)) (tNil))))))
theorem d_law_tape {P : Program} {w : World} {K : PySem.W.Frag} {mg : Str → Option Value} {base : Heap} {A : Ads} {f : Addr} {cdv : Value} {Ar : Around} {outer : List Env} {s : Shared} {H : Hp} {E : XK} (G : Gm mg A) (hr : Room 1 (Ar.deeper (envOfC "_law_tape" (defScope s_law_tape) s.heap.objs.size f cdv))) :
    PSs (cxOf (L2.CX P w) P w K mg base N_law_tape "_law_tape" (defScope s_law_tape) f cdv Ar outer s H E) (defBody s_law_tape) (t_law_tape P w K mg base A E) := by
  have sc := sc_law_tape
  have at_ : At (cxOf (L2.CX P w) P w K mg base N_law_tape "_law_tape" (defScope s_law_tape) f cdv Ar outer s H E) 1 E := At.of hr (takes_of rfl rfl rfl rfl)
  have pn : PassesOwn (model P w) (cxOf (L2.CX P w) P w K mg base N_law_tape "_law_tape" (defScope s_law_tape) f cdv Ar outer s H E).A (cxOf (L2.CX P w) P w K mg base N_law_tape "_law_tape" (defScope s_law_tape) f cdv Ar outer s H E).env (cxOf (L2.CX P w) P w K mg base N_law_tape "_law_tape" (defScope s_law_tape) f cdv Ar outer s H E).xe := passes_of rfl
  exact pss_cons (ps_set (i := 2) sc.nd rfl (by first | exact Or.inl rfl | exact Or.inr rfl) (pe_ifExp (pt_cmpR op_uLt (pv 1) (pe_callB call_cLen (by rfl) G.g_len (by decide +kernel) (pa_cons (pv 0) (pa_nil))) (nomark _)) (pe_callB call_cAbs (by rfl) G.g_abs (by decide +kernel) (pa_cons (pe_ix ix_u (pv 0) (pv 1) (fun _ _ => rfl)) (pa_nil))) (pe_int))) (pss_one (ps_ret (pe_lst (pa_cons (pe_callB (call_cMax rfl) (by rfl) G.g_max (by decide +kernel) (pa_cons (pe_int) (pa_cons (pe_op op_uSub (pv 2) (pe_op op_uPow (pe_int) (pe_int))) (pa_nil)))) (pa_cons (pe_op op_uAdd (pe_op op_uMul (pe_op op_uMod (pv 2) (pe_op op_uAdd (pe_op op_uPow (pe_int) (pe_int)) (pe_int))) (pe_int)) (pv 1)) (pa_cons (pe_int) (pa_nil)))))))
abbrev s_law_next : Stmt := top 39
abbrev N_law_next : List Str := ["_law_tape_here", "_law_size", "_law_digit", "_law_mixed"]
abbrev ps_law_next : List Str := ["_law_tape_here", "_law_size"]
theorem sc_law_next : FnScope N_law_next ["_law_tape_here", "_law_size"] (defScope s_law_next) := ⟨rfl, rfl, rfl, by decide +kernel, rfl, by decide +kernel, by decide +kernel⟩
def t_law_next (P : Program) (w : World) (K : PySem.W.Frag) (mg : Str → Option Value) (base : Heap) (A : Ads) (E : XK) : TS :=
  tSeq (tIfS (tTest (tOp uGt (tOp (uIx K) (tVar 0) (tC (.int 0))) (tC (.int 0)))) (tSeq (tAsg (tOp uMod (tOp (uIx K) (tVar 0) (tC (.int 0))) (tVar 1)) (gName 2)) (tSeq (tAsg (tOp uDiv (tOp (uIx K) (tVar 0) (tC (.int 0))) (tVar 1)) (gSub (tVar 0) (tC (.int 0)) rSetL)) (tRet (tVar 2)))) (tNext)) (tSeq (tAsg (tOp uAdd (tOp (uIx K) (tVar 0) (tC (.int 2))) (tC (.int 1))) (gSub (tVar 0) (tC (.int 2)) rSetL)) (tSeq (tAsg (tOp uMod (tOp uPow (tOp uAdd (tOp (uIx K) (tVar 0) (tC (.int 1))) (tOp uMul (tC (.int 10000019)) (tOp (uIx K) (tVar 0) (tC (.int 2))))) (tC (.int 3))) (tOp uAdd (tOp uPow (tC (.int 10)) (tC (.int 41))) (tC (.int 37)))) (gName 3)) (tSeq (tAsg (tOp uMod (tOp uPow (tOp uAdd (tVar 3) (tOp uMul (tC (.int 32452843)) (tOp (uIx K) (tVar 0) (tC (.int 2))))) (tC (.int 3))) (tOp uAdd (tOp uPow (tC (.int 10)) (tC (.int 38))) (tC (.int 133)))) (gName 3)) (tRet (tOp uMod (tOp uDiv (tVar 3) (tC (.int 8191))) (tVar 1))))))
theorem d_law_next {P : Program} {w : World} {K : PySem.W.Frag} {mg : Str → Option Value} {base : Heap} {A : Ads} {f : Addr} {cdv : Value} {Ar : Around} {outer : List Env} {s : Shared} {H : Hp} {E : XK} (G : Gm mg A) (hr : Room 1 (Ar.deeper (envOfC "_law_next" (defScope s_law_next) s.heap.objs.size f cdv))) :
    PSs (cxOf (L2.CX P w) P w K mg base N_law_next "_law_next" (defScope s_law_next) f cdv Ar outer s H E) (defBody s_law_next) (t_law_next P w K mg base A E) := by
  have sc := sc_law_next
  have at_ : At (cxOf (L2.CX P w) P w K mg base N_law_next "_law_next" (defScope s_law_next) f cdv Ar outer s H E) 1 E := At.of hr (takes_of rfl rfl rfl rfl)
  have pn : PassesOwn (model P w) (cxOf (L2.CX P w) P w K mg base N_law_next "_law_next" (defScope s_law_next) f cdv Ar outer s H E).A (cxOf (L2.CX P w) P w K mg base N_law_next "_law_next" (defScope s_law_next) f cdv Ar outer s H E).env (cxOf (L2.CX P w) P w K mg base N_law_next "_law_next" (defScope s_law_next) f cdv Ar outer s H E).xe := passes_of rfl
  exact pss_cons (ps_if (pt_cmpR op_uGt (pe_ix ix_u (pv 0) (pe_int) (fun _ _ => rfl)) (pe_int) (nomark _)) (pss_cons (ps_set (i := 2) sc.nd rfl (by first | exact Or.inl rfl | exact Or.inr rfl) (pe_op op_uMod (pe_ix ix_u (pv 0) (pe_int) (fun _ _ => rfl)) (pv 1))) (pss_cons (ps_asg (pe_op op_uDiv (pe_ix ix_u (pv 0) (pe_int) (fun _ _ => rfl)) (pv 1)) (pg_sub (pv 0) (pe_int) set_list)) (pss_one (ps_ret (pv 2))))) (pss_nil)) (pss_cons (ps_asg (pe_op op_uAdd (pe_ix ix_u (pv 0) (pe_int) (fun _ _ => rfl)) (pe_int)) (pg_sub (pv 0) (pe_int) set_list)) (pss_cons (ps_set (i := 3) sc.nd rfl (by first | exact Or.inl rfl | exact Or.inr rfl) (pe_op op_uMod (pe_op op_uPow (pe_op op_uAdd (pe_ix ix_u (pv 0) (pe_int) (fun _ _ => rfl)) (pe_op op_uMul (pe_int) (pe_ix ix_u (pv 0) (pe_int) (fun _ _ => rfl)))) (pe_int)) (pe_op op_uAdd (pe_op op_uPow (pe_int) (pe_int)) (pe_int)))) (pss_cons (ps_set (i := 3) sc.nd rfl (by first | exact Or.inl rfl | exact Or.inr rfl) (pe_op op_uMod (pe_op op_uPow (pe_op op_uAdd (pv 3) (pe_op op_uMul (pe_int) (pe_ix ix_u (pv 0) (pe_int) (fun _ _ => rfl)))) (pe_int)) (pe_op op_uAdd (pe_op op_uPow (pe_int) (pe_int)) (pe_int)))) (pss_one (ps_ret (pe_op op_uMod (pe_op op_uDiv (pv 3) (pe_int)) (pv 1)))))))
abbrev s_law_items : Stmt := top 40
abbrev N_law_items : List Str := ["_law_tape_here", "_law_many", "_law_signs", "_law_pool", "_law_sign", "_law_k"]
abbrev ps_law_items : List Str := ["_law_tape_here", "_law_many"]
theorem sc_law_items : FnScope N_law_items ["_law_tape_here", "_law_many"] (defScope s_law_items) := ⟨rfl, rfl, rfl, by decide +kernel, rfl, by decide +kernel, by decide +kernel⟩
def t_law_items (P : Program) (w : World) (K : PySem.W.Frag) (mg : Str → Option Value) (base : Heap) (A : Ads) (E : XK) : TS :=
  tSeq (tAsg (tC (.str "abcdefghijklmnopqrstuvwxyz")) (gName 2)) (tSeq (tAsg (tOp uAdd (tOp uAdd (tLc (iStr (tVar 2)) (gName 4) (tYes) (tVar 4) [4]) (tLc (iStr (tVar 2)) (gName 4) (tYes) (tOp uAdd (tC (.str "z")) (tVar 4)) [4])) (tLc (iStr (tVar 2)) (gName 4) (tYes) (tOp uAdd (tC (.str "abcdefg")) (tVar 4)) [4])) (gName 3)) (tRet (tLc (iRng1 (tCons (tVar 1) (tNil))) (gName 5) (tYes) (tBM K "list" rPopAt (tVar 3) (tCons (tFn P w K mg base "_law_next" 2 E0 (tCons (tVar 0) (tCons (tCB (cLen K) (tCons (tVar 3) (tNil))) (tNil)))) (tNil))) [5])))
theorem d_law_items {P : Program} {w : World} {K : PySem.W.Frag} {mg : Str → Option Value} {base : Heap} {A : Ads} {f : Addr} {cdv : Value} {Ar : Around} {outer : List Env} {s : Shared} {H : Hp} {E : XK} (G : Gm mg A) (hr : Room 2 (Ar.deeper (envOfC "_law_items" (defScope s_law_items) s.heap.objs.size f cdv))) :
    PSs (cxOf (L2.CX P w) P w K mg base N_law_items "_law_items" (defScope s_law_items) f cdv Ar outer s H E) (defBody s_law_items) (t_law_items P w K mg base A E) := by
  have sc := sc_law_items
  have at_ : At (cxOf (L2.CX P w) P w K mg base N_law_items "_law_items" (defScope s_law_items) f cdv Ar outer s H E) 2 E := At.of hr (takes_of rfl rfl rfl rfl)
  have pn : PassesOwn (model P w) (cxOf (L2.CX P w) P w K mg base N_law_items "_law_items" (defScope s_law_items) f cdv Ar outer s H E).A (cxOf (L2.CX P w) P w K mg base N_law_items "_law_items" (defScope s_law_items) f cdv Ar outer s H E).env (cxOf (L2.CX P w) P w K mg base N_law_items "_law_items" (defScope s_law_items) f cdv Ar outer s H E).xe := passes_of rfl
  exact pss_cons (ps_set (i := 2) sc.nd rfl (by first | exact Or.inl rfl | exact Or.inr rfl) (pe_str)) (pss_cons (ps_set (i := 3) sc.nd rfl (by first | exact Or.inl rfl | exact Or.inr rfl) (pe_op op_uAdd (pe_op op_uAdd (pe_lc (own := [("_law_sign", 4)]) (g := gName 4) (tt := tYes) rfl sc.nd (pi_str (pv 2)) (blkOk_by (N := N_law_items) (sc := defScope s_law_items) (by decide +kernel)) (fun _ _ _ _ _ => pg_name (i := 4) sc.nd rfl (by first | exact Or.inl rfl | exact Or.inr rfl)) (fun _ _ _ _ _ => pts_nil) (fun _ _ _ _ _ => pv 4)) (pe_lc (own := [("_law_sign", 4)]) (g := gName 4) (tt := tYes) rfl sc.nd (pi_str (pv 2)) (blkOk_by (N := N_law_items) (sc := defScope s_law_items) (by decide +kernel)) (fun _ _ _ _ _ => pg_name (i := 4) sc.nd rfl (by first | exact Or.inl rfl | exact Or.inr rfl)) (fun _ _ _ _ _ => pts_nil) (fun _ _ _ _ _ => pe_op op_uAdd (pe_str) (pv 4)))) (pe_lc (own := [("_law_sign", 4)]) (g := gName 4) (tt := tYes) rfl sc.nd (pi_str (pv 2)) (blkOk_by (N := N_law_items) (sc := defScope s_law_items) (by decide +kernel)) (fun _ _ _ _ _ => pg_name (i := 4) sc.nd rfl (by first | exact Or.inl rfl | exact Or.inr rfl)) (fun _ _ _ _ _ => pts_nil) (fun _ _ _ _ _ => pe_op op_uAdd (pe_str) (pv 4))))) (pss_one (ps_ret (pe_lc (own := [("_law_k", 5)]) (g := gName 5) (tt := tYes) rfl sc.nd (pi_range1 (by rfl) G.g_range (pa_cons (pv 1) (pa_nil))) (blkOk_by (N := N_law_items) (sc := defScope s_law_items) (by decide +kernel)) (fun _ _ _ _ _ => pg_name (i := 5) sc.nd rfl (by first | exact Or.inl rfl | exact Or.inr rfl)) (fun _ _ _ _ _ => pts_nil) (fun _ _ _ _ _ => pe_bm PySem.F.plainAttrs_list PySem.F.slot_list_pop PySem.F.type_list_pop mt_popAt (pv 3) (pa_cons (pe_fn (At.e0 hr) (by rfl) (pa_cons (pv 0) (pa_cons (pe_callB call_cLen (by rfl) G.g_len (by decide +kernel) (pa_cons (pv 3) (pa_nil))) (pa_nil)))) (pa_nil)))))))
abbrev s_law_made : Stmt := top 41
abbrev N_law_made : List Str := ["_law_kind", "_law_item", "_law_slot"]
abbrev ps_law_made : List Str := ["_law_kind", "_law_item", "_law_slot"]
theorem sc_law_made : FnScope N_law_made ["_law_kind", "_law_item", "_law_slot"] (defScope s_law_made) := ⟨rfl, rfl, rfl, by decide +kernel, rfl, by decide +kernel, by decide +kernel⟩
def t_law_made (P : Program) (w : World) (K : PySem.W.Frag) (mg : Str → Option Value) (base : Heap) (A : Ads) (E : XK) : TS :=
  tSeq (tIfS (tTest (tOp (uEq K) (tVar 0) (tC (.int 0)))) (tRet (tMkr P w K mg base "Inserted" 4 E (tCons (tVar 1) (tCons (tVar 2) (tNil))))) (tNext)) (tRet (tIf (tTest (tOp (uEq K) (tVar 0) (tC (.int 1)))) (tMkr P w K mg base "Removed" 4 E (tCons (tVar 1) (tCons (tVar 2) (tNil)))) (tMkr P w K mg base "Fronted" 4 E (tCons (tVar 1) (tCons (tVar 2) (tNil))))))
theorem d_law_made {P : Program} {w : World} {K : PySem.W.Frag} {mg : Str → Option Value} {base : Heap} {A : Ads} {f : Addr} {cdv : Value} {Ar : Around} {outer : List Env} {s : Shared} {H : Hp} {E : XK} (G : Gm mg A) (hr : Room 4 (Ar.deeper (envOfC "_law_made" (defScope s_law_made) s.heap.objs.size f cdv))) :
    PSs (cxOf (L2.CX P w) P w K mg base N_law_made "_law_made" (defScope s_law_made) f cdv Ar outer s H E) (defBody s_law_made) (t_law_made P w K mg base A E) := by
  have sc := sc_law_made
  have at_ : At (cxOf (L2.CX P w) P w K mg base N_law_made "_law_made" (defScope s_law_made) f cdv Ar outer s H E) 4 E := At.of hr (takes_of rfl rfl rfl rfl)
  have pn : PassesOwn (model P w) (cxOf (L2.CX P w) P w K mg base N_law_made "_law_made" (defScope s_law_made) f cdv Ar outer s H E).A (cxOf (L2.CX P w) P w K mg base N_law_made "_law_made" (defScope s_law_made) f cdv Ar outer s H E).env (cxOf (L2.CX P w) P w K mg base N_law_made "_law_made" (defScope s_law_made) f cdv Ar outer s H E).xe := passes_of rfl
  exact pss_cons (ps_if (pt_cmpR (op_uEq hr) (pv 0) (pe_int) (nomark _)) (pss_one (ps_ret (pe_mkr at_ (by rfl) (pa_cons (pv 1) (pa_cons (pv 2) (pa_nil)))))) (pss_nil)) (pss_one (ps_ret (pe_ifExp (pt_cmpR (op_uEq hr) (pv 0) (pe_int) (nomark _)) (pe_mkr at_ (by rfl) (pa_cons (pv 1) (pa_cons (pv 2) (pa_nil)))) (pe_mkr at_ (by rfl) (pa_cons (pv 1) (pa_cons (pv 2) (pa_nil)))))))
abbrev s_law_facts : Stmt := top 42
abbrev N_law_facts : List Str := ["_law_log", "_law_found", "_law_record", "_law_kinds"]
abbrev ps_law_facts : List Str := ["_law_log"]
theorem sc_law_facts : FnScope N_law_facts ["_law_log"] (defScope s_law_facts) := ⟨rfl, rfl, rfl, by decide +kernel, rfl, by decide +kernel, by decide +kernel⟩
def t_law_facts (P : Program) (w : World) (K : PySem.W.Frag) (mg : Str → Option Value) (base : Heap) (A : Ads) (E : XK) : TS :=
  tSeq (tAsg (tLst (tNil)) (gName 1)) (tSeq (tFor (iList K (tVar 0)) (gName 2) (tSeq (tAsg (tLst (tCons (tCB (cIsi K) (tCons (tVar 2) (tCons (tC (.ref A.cInserted)) (tNil)))) (tCons (tCB (cIsi K) (tCons (tVar 2) (tCons (tC (.ref A.cRemoved)) (tNil)))) (tCons (tCB (cIsi K) (tCons (tVar 2) (tCons (tC (.ref A.cFronted)) (tNil)))) (tNil))))) (gName 3)) (tDrop (tBM K "list" rAppend (tVar 1) (tCons (tTup (tCons (tVar 3) (tCons (tAtt P w K mg base "item" (tVar 2)) (tCons (tAtt P w K mg base "slot" (tVar 2)) (tNil))))) (tNil)))))) (tRet (tVar 1)))
theorem d_law_facts {P : Program} {w : World} {K : PySem.W.Frag} {mg : Str → Option Value} {base : Heap} {A : Ads} {f : Addr} {cdv : Value} {Ar : Around} {outer : List Env} {s : Shared} {H : Hp} {E : XK} (G : Gm mg A) (hr : Room 2 (Ar.deeper (envOfC "_law_facts" (defScope s_law_facts) s.heap.objs.size f cdv))) :
    PSs (cxOf (L2.CX P w) P w K mg base N_law_facts "_law_facts" (defScope s_law_facts) f cdv Ar outer s H E) (defBody s_law_facts) (t_law_facts P w K mg base A E) := by
  have sc := sc_law_facts
  have at_ : At (cxOf (L2.CX P w) P w K mg base N_law_facts "_law_facts" (defScope s_law_facts) f cdv Ar outer s H E) 2 E := At.of hr (takes_of rfl rfl rfl rfl)
  have pn : PassesOwn (model P w) (cxOf (L2.CX P w) P w K mg base N_law_facts "_law_facts" (defScope s_law_facts) f cdv Ar outer s H E).A (cxOf (L2.CX P w) P w K mg base N_law_facts "_law_facts" (defScope s_law_facts) f cdv Ar outer s H E).env (cxOf (L2.CX P w) P w K mg base N_law_facts "_law_facts" (defScope s_law_facts) f cdv Ar outer s H E).xe := passes_of rfl
  exact pss_cons (ps_set (i := 1) sc.nd rfl (by first | exact Or.inl rfl | exact Or.inr rfl) (pe_lst (pa_nil))) (pss_cons (ps_for pn rfl (pi_list (pv 0)) (pg_name (i := 2) sc.nd rfl (by first | exact Or.inl rfl | exact Or.inr rfl)) (pss_cons (ps_set (i := 3) sc.nd rfl (by first | exact Or.inl rfl | exact Or.inr rfl) (pe_lst (pa_cons (pe_callB call_cIsi (by rfl) G.g_isinstance (by decide +kernel) (pa_cons (pv 2) (pa_cons (pe_g (by rfl) ⟨_, G.cInserted, rfl⟩) (pa_nil)))) (pa_cons (pe_callB call_cIsi (by rfl) G.g_isinstance (by decide +kernel) (pa_cons (pv 2) (pa_cons (pe_g (by rfl) ⟨_, G.cRemoved, rfl⟩) (pa_nil)))) (pa_cons (pe_callB call_cIsi (by rfl) G.g_isinstance (by decide +kernel) (pa_cons (pv 2) (pa_cons (pe_g (by rfl) ⟨_, G.cFronted, rfl⟩) (pa_nil)))) (pa_nil)))))) (pss_one (ps_expr (pe_bm PySem.F.plainAttrs_list PySem.F.slot_list_append PySem.F.type_list_append mt_append (pv 1) (pa_cons (pe_tup (pa_cons (pv 3) (pa_cons (pe_att hr (pv 2)) (pa_cons (pe_att hr (pv 2)) (pa_nil))))) (pa_nil))))))) (pss_one (ps_ret (pv 1))))
abbrev s_law_slots : Stmt := top 43
abbrev N_law_slots : List Str := ["_law_tape_here", "_law_many", "_law_style", "_law_found", "_law_at", "_law_slot"]
abbrev ps_law_slots : List Str := ["_law_tape_here", "_law_many"]
theorem sc_law_slots : FnScope N_law_slots ["_law_tape_here", "_law_many"] (defScope s_law_slots) := ⟨rfl, rfl, rfl, by decide +kernel, rfl, by decide +kernel, by decide +kernel⟩
def t_law_slots (P : Program) (w : World) (K : PySem.W.Frag) (mg : Str → Option Value) (base : Heap) (A : Ads) (E : XK) : TS :=
  tSeq (tPar 2 3 (tCons (tFn P w K mg base "_law_next" 2 E (tCons (tVar 0) (tCons (tC (.int 4)) (tNil)))) (tCons (tLst (tNil)) (tNil)))) (tSeq (tFor (iRng1 (tCons (tVar 1) (tNil))) (gName 4) (tDrop (tBM K "list" rAppend (tVar 3) (tCons (tFn P w K mg base "_law_next" 2 E (tCons (tVar 0) (tCons (tOp uAdd (tVar 4) (tC (.int 1))) (tNil)))) (tNil))))) (tSeq (tIfS (tTest (tOp (uEq K) (tVar 2) (tC (.int 1)))) (tAsg (tLc (iList K (tVar 3)) (gName 5) (tYes) (tOp uAdd (tVar 5) (tCB (cInt) (tCons (tOp (uEq K) (tFn P w K mg base "_law_next" 2 E0 (tCons (tVar 0) (tCons (tC (.int 8)) (tNil)))) (tC (.int 0))) (tNil)))) [5]) (gName 3)) (tNext)) (tSeq (tIfS (tTest (tOp (uEq K) (tVar 2) (tC (.int 2)))) (tAsg (tLc (iList K (tVar 3)) (gName 5) (tYes) (tFn P w K mg base "_law_next" 2 E0 (tCons (tVar 0) (tCons (tC (.int 61)) (tNil)))) [5]) (gName 3)) (tNext)) (tSeq (tIfS (tTest (tOp (uEq K) (tVar 2) (tC (.int 3)))) (tAsg (tOp uMul (tLst (tCons (tFn P w K mg base "_law_next" 2 E (tCons (tVar 0) (tCons (tOp (uIx K) (tLst (tCons (tC (.int 2)) (tCons (tC (.int 41)) (tNil)))) (tFn P w K mg base "_law_next" 2 E (tCons (tVar 0) (tCons (tC (.int 2)) (tNil))))) (tNil)))) (tNil))) (tVar 1)) (gName 3)) (tNext)) (tRet (tVar 3))))))
theorem d_law_slots {P : Program} {w : World} {K : PySem.W.Frag} {mg : Str → Option Value} {base : Heap} {A : Ads} {f : Addr} {cdv : Value} {Ar : Around} {outer : List Env} {s : Shared} {H : Hp} {E : XK} (G : Gm mg A) (hr : Room 2 (Ar.deeper (envOfC "_law_slots" (defScope s_law_slots) s.heap.objs.size f cdv))) :
    PSs (cxOf (L2.CX P w) P w K mg base N_law_slots "_law_slots" (defScope s_law_slots) f cdv Ar outer s H E) (defBody s_law_slots) (t_law_slots P w K mg base A E) := by
  have sc := sc_law_slots
  have at_ : At (cxOf (L2.CX P w) P w K mg base N_law_slots "_law_slots" (defScope s_law_slots) f cdv Ar outer s H E) 2 E := At.of hr (takes_of rfl rfl rfl rfl)
  have pn : PassesOwn (model P w) (cxOf (L2.CX P w) P w K mg base N_law_slots "_law_slots" (defScope s_law_slots) f cdv Ar outer s H E).A (cxOf (L2.CX P w) P w K mg base N_law_slots "_law_slots" (defScope s_law_slots) f cdv Ar outer s H E).env (cxOf (L2.CX P w) P w K mg base N_law_slots "_law_slots" (defScope s_law_slots) f cdv Ar outer s H E).xe := passes_of rfl
  exact pss_cons (ps_par rfl sc.nd rfl rfl (by decide) rfl rfl (pa_cons (pe_fn at_ (by rfl) (pa_cons (pv 0) (pa_cons (pe_int) (pa_nil)))) (pa_cons (pe_lst (pa_nil)) (pa_nil))) (by rfl)) (pss_cons (ps_for pn rfl (pi_range1 (by rfl) G.g_range (pa_cons (pv 1) (pa_nil))) (pg_name (i := 4) sc.nd rfl (by first | exact Or.inl rfl | exact Or.inr rfl)) (pss_one (ps_expr (pe_bm PySem.F.plainAttrs_list PySem.F.slot_list_append PySem.F.type_list_append mt_append (pv 3) (pa_cons (pe_fn at_ (by rfl) (pa_cons (pv 0) (pa_cons (pe_op op_uAdd (pv 4) (pe_int)) (pa_nil)))) (pa_nil)))))) (pss_cons (ps_if (pt_cmpR (op_uEq hr) (pv 2) (pe_int) (nomark _)) (pss_one (ps_setLc (i := 3) (own := [("_law_slot", 5)]) (g := gName 5) (tt := tYes) rfl sc.nd rfl rfl (sw_true rfl rfl rfl (by decide +kernel)) (pi_list (pv 3)) (blkOk_by (N := N_law_slots) (sc := defScope s_law_slots) (by decide +kernel)) (fun _ _ _ _ _ => pg_name (i := 5) sc.nd rfl (by first | exact Or.inl rfl | exact Or.inr rfl)) (fun _ _ _ _ _ => pts_nil) (fun _ _ _ _ _ => pe_op op_uAdd (pv 5) (pe_callTy call_cInt (by rfl) G.g_int (by decide +kernel) (pa_cons (pe_cmpR (op_uEq hr) (pe_fn (At.e0 hr) (by rfl) (pa_cons (pv 0) (pa_cons (pe_int) (pa_nil)))) (pe_int) (nomark _)) (pa_nil)))))) (pss_nil)) (pss_cons (ps_if (pt_cmpR (op_uEq hr) (pv 2) (pe_int) (nomark _)) (pss_one (ps_setLc (i := 3) (own := [("_law_slot", 5)]) (g := gName 5) (tt := tYes) rfl sc.nd rfl rfl (sw_true rfl rfl rfl (by decide +kernel)) (pi_list (pv 3)) (blkOk_by (N := N_law_slots) (sc := defScope s_law_slots) (by decide +kernel)) (fun _ _ _ _ _ => pg_name (i := 5) sc.nd rfl (by first | exact Or.inl rfl | exact Or.inr rfl)) (fun _ _ _ _ _ => pts_nil) (fun _ _ _ _ _ => pe_fn (At.e0 hr) (by rfl) (pa_cons (pv 0) (pa_cons (pe_int) (pa_nil)))))) (pss_nil)) (pss_cons (ps_if (pt_cmpR (op_uEq hr) (pv 2) (pe_int) (nomark _)) (pss_one (ps_set (i := 3) sc.nd rfl (by first | exact Or.inl rfl | exact Or.inr rfl) (pe_op op_uMul (pe_lst (pa_cons (pe_fn at_ (by rfl) (pa_cons (pv 0) (pa_cons (pe_ix ix_u (pe_lst (pa_cons (pe_int) (pa_cons (pe_int) (pa_nil)))) (pe_fn at_ (by rfl) (pa_cons (pv 0) (pa_cons (pe_int) (pa_nil)))) (fun _ _ => rfl)) (pa_nil)))) (pa_nil))) (pv 1)))) (pss_nil)) (pss_one (ps_ret (pv 3)))))))
abbrev s_law_played : Stmt := top 44
abbrev N_law_played : List Str := ["_law_tape_here", "_law_log", "_law_left", "_law_length", "_law_more", "_law_early", "_law_ready", "_law_record", "_law_at"]
abbrev ps_law_played : List Str := ["_law_tape_here", "_law_log"]
theorem sc_law_played : FnScope N_law_played ["_law_tape_here", "_law_log"] (defScope s_law_played) := ⟨rfl, rfl, rfl, by decide +kernel, rfl, by decide +kernel, by decide +kernel⟩
def t_law_played (P : Program) (w : World) (K : PySem.W.Frag) (mg : Str → Option Value) (base : Heap) (A : Ads) (E : XK) : TS :=
  tSeq (tAsg (tTup (tCons (tCB (cList K) (tCons (tVar 1) (tNil))) (tCons (tC (.int 0)) (tCons (tC (.int 0)) (tCons (tLst (tNil)) (tNil)))))) (gTup K 4 (gCons (gName 2) (gCons (gName 3) (gCons (gName 4) (gCons (gName 5) (gNil))))))) (tSeq (tWhile (tTest (tOp (uNe K) (tVar 2) (tLst (tNil)))) (tSeq (tAsg (tLc (iRng1 (tCons (tCB (cLen K) (tCons (tVar 2) (tNil))) (tNil))) (gName 8) (tTest (tOp uLe (tAtt P w K mg base "slot" (tOp (uIx K) (tVar 2) (tVar 8))) (tVar 3))) (tVar 8) [8]) (gName 6)) (tSeq (tIfS (tTest (tOp (uEq K) (tVar 6) (tLst (tNil)))) (tAsg (tOp uAdd (tVar 4) (tC (.int 1))) (gName 4)) (tSeq (tAsg (tBM K "list" rPopAt (tVar 2) (tCons (tOp (uIx K) (tVar 6) (tFn P w K mg base "_law_next" 2 E (tCons (tVar 0) (tCons (tCB (cLen K) (tCons (tVar 6) (tNil))) (tNil))))) (tNil))) (gName 7)) (tAsg (tIf (tTest (tOp (uEq K) (tVar 4) (tC (.int 0)))) (tOp uAdd (tVar 5) (tLst (tCons (tAtt P w K mg base "item" (tVar 7)) (tNil)))) (tVar 5)) (gName 5)))) (tAsg (tOp uAdd (tVar 3) (tC (.int 1))) (gName 3))))) (tRet (tTup (tCons (tVar 5) (tCons (tVar 4) (tNil))))))
theorem d_law_played {P : Program} {w : World} {K : PySem.W.Frag} {mg : Str → Option Value} {base : Heap} {A : Ads} {f : Addr} {cdv : Value} {Ar : Around} {outer : List Env} {s : Shared} {H : Hp} {E : XK} (G : Gm mg A) (hr : Room 2 (Ar.deeper (envOfC "_law_played" (defScope s_law_played) s.heap.objs.size f cdv))) :
    PSs (cxOf (L2.CX P w) P w K mg base N_law_played "_law_played" (defScope s_law_played) f cdv Ar outer s H E) (defBody s_law_played) (t_law_played P w K mg base A E) := by
  have sc := sc_law_played
  have at_ : At (cxOf (L2.CX P w) P w K mg base N_law_played "_law_played" (defScope s_law_played) f cdv Ar outer s H E) 2 E := At.of hr (takes_of rfl rfl rfl rfl)
  have pn : PassesOwn (model P w) (cxOf (L2.CX P w) P w K mg base N_law_played "_law_played" (defScope s_law_played) f cdv Ar outer s H E).A (cxOf (L2.CX P w) P w K mg base N_law_played "_law_played" (defScope s_law_played) f cdv Ar outer s H E).env (cxOf (L2.CX P w) P w K mg base N_law_played "_law_played" (defScope s_law_played) f cdv Ar outer s H E).xe := passes_of rfl
  exact pss_cons (ps_asg (pe_tup (pa_cons (pe_callTy call_cList (by rfl) G.g_list (by decide +kernel) (pa_cons (pv 1) (pa_nil))) (pa_cons (pe_int) (pa_cons (pe_int) (pa_cons (pe_lst (pa_nil)) (pa_nil)))))) (pg_tup rfl (pgs_cons (pg_name (i := 2) sc.nd rfl (by first | exact Or.inl rfl | exact Or.inr rfl)) (pgs_cons (pg_name (i := 3) sc.nd rfl (by first | exact Or.inl rfl | exact Or.inr rfl)) (pgs_cons (pg_name (i := 4) sc.nd rfl (by first | exact Or.inl rfl | exact Or.inr rfl)) (pgs_cons (pg_name (i := 5) sc.nd rfl (by first | exact Or.inl rfl | exact Or.inr rfl)) (pgs_nil))))))) (pss_cons (ps_while pn (pt_cmpR (op_uNe hr) (pv 2) (pe_lst (pa_nil)) (nomark _)) (pss_cons (ps_setLc (i := 6) (own := [("_law_at", 8)]) (g := gName 8) (tt := tTest (tOp uLe (tAtt P w K mg base "slot" (tOp (uIx K) (tVar 2) (tVar 8))) (tVar 3))) rfl sc.nd rfl rfl (sw_true rfl rfl rfl (by decide +kernel)) (pi_range1 (by rfl) G.g_range (pa_cons (pe_callB call_cLen (by rfl) G.g_len (by decide +kernel) (pa_cons (pv 2) (pa_nil))) (pa_nil))) (blkOk_by (N := N_law_played) (sc := defScope s_law_played) (by decide +kernel)) (fun _ _ _ _ _ => pg_name (i := 8) sc.nd rfl (by first | exact Or.inl rfl | exact Or.inr rfl)) (fun _ _ _ _ _ => pts_one (pt_cmpR op_uLe (pe_att hr (pe_ix ix_u (pv 2) (pv 8) (fun _ _ => rfl))) (pv 3) (nomark _))) (fun _ _ _ _ _ => pv 8)) (pss_cons (ps_if (pt_cmpR (op_uEq hr) (pv 6) (pe_lst (pa_nil)) (nomark _)) (pss_one (ps_set (i := 4) sc.nd rfl (by first | exact Or.inl rfl | exact Or.inr rfl) (pe_op op_uAdd (pv 4) (pe_int)))) (pss_cons (ps_set (i := 7) sc.nd rfl (by first | exact Or.inl rfl | exact Or.inr rfl) (pe_bm PySem.F.plainAttrs_list PySem.F.slot_list_pop PySem.F.type_list_pop mt_popAt (pv 2) (pa_cons (pe_ix ix_u (pv 6) (pe_fn at_ (by rfl) (pa_cons (pv 0) (pa_cons (pe_callB call_cLen (by rfl) G.g_len (by decide +kernel) (pa_cons (pv 6) (pa_nil))) (pa_nil)))) (fun _ _ => rfl)) (pa_nil)))) (pss_one (ps_set (i := 5) sc.nd rfl (by first | exact Or.inl rfl | exact Or.inr rfl) (pe_ifExp (pt_cmpR (op_uEq hr) (pv 4) (pe_int) (nomark _)) (pe_op op_uAdd (pv 5) (pe_lst (pa_cons (pe_att hr (pv 7)) (pa_nil)))) (pv 5)))))) (pss_one (ps_set (i := 3) sc.nd rfl (by first | exact Or.inl rfl | exact Or.inr rfl) (pe_op op_uAdd (pv 3) (pe_int))))))) (pss_one (ps_ret (pe_tup (pa_cons (pv 5) (pa_cons (pv 4) (pa_nil)))))))
abbrev s_law_right : Stmt := top 45
abbrev N_law_right : List Str := ["_law_tape_here", "_law_kind", "_law_slots_here", "_law_items_here", "_law_left", "_law_log", "_law_k", "_law_at", "_law_own", "_law_early", "_law_more", "_law_due", "_law_again", "_law_found", "_law_record", "_law_one"]
abbrev ps_law_right : List Str := ["_law_tape_here", "_law_kind", "_law_slots_here"]
theorem sc_law_right : FnScope N_law_right ["_law_tape_here", "_law_kind", "_law_slots_here"] (defScope s_law_right) := ⟨rfl, rfl, rfl, by decide +kernel, rfl, by decide +kernel, by decide +kernel⟩
def t_law_right (P : Program) (w : World) (K : PySem.W.Frag) (mg : Str → Option Value) (base : Heap) (A : Ads) (E : XK) : TS :=
  tSeq (tAsg (tFn P w K mg base "_law_items" 7 E (tCons (tVar 0) (tCons (tCB (cLen K) (tCons (tVar 2) (tNil))) (tNil)))) (gName 3)) (tSeq (tAsg (tLstRg (tRg1 (tCB (cLen K) (tCons (tVar 2) (tNil))))) (gName 4)) (tSeq (tAsg (tLst (tNil)) (gName 5)) (tSeq (tFor (iRng1 (tCons (tCB (cLen K) (tCons (tVar 2) (tNil))) (tNil))) (gName 6) (tSeq (tAsg (tBM K "list" rPopAt (tVar 4) (tCons (tFn P w K mg base "_law_next" 7 E (tCons (tVar 0) (tCons (tCB (cLen K) (tCons (tVar 4) (tNil))) (tNil)))) (tNil))) (gName 7)) (tDrop (tBM K "list" rAppend (tVar 5) (tCons (tFn P w K mg base "_law_made" 7 E (tCons (tVar 1) (tCons (tOp (uIx K) (tVar 3) (tVar 7)) (tCons (tOp (uIx K) (tVar 2) (tVar 7)) (tNil))))) (tNil)))))) (tSeq (tAsg (tFn P w K mg base "_law_facts" 7 E (tCons (tVar 5) (tNil))) (gName 8)) (tSeq (tAsg (tFn P w K mg base "_law_played" 7 E (tCons (tVar 0) (tCons (tVar 5) (tNil)))) (gTup K 2 (gCons (gName 9) (gCons (gName 10) (gNil))))) (tSeq (tAsg (tLc (iList K (tVar 8)) (gName 15) (tTest (tOp (uIn K false) (tOp (uIx K) (tVar 15) (tC (.int 1))) (tVar 9))) (tVar 15) [15]) (gName 11)) (tSeq (tFor (iRng1 (tCons (tC (.int 2)) (tNil))) (gName 12) (tSeq (tAsg (tFn P w K mg base "usable" 7 E (tCons (tVar 5) (tNil))) (gName 13)) (tSeq (tIfS (tOr (tTest (tOp (uNe K) (tFn P w K mg base "_law_facts" 7 E (tCons (tVar 13) (tNil))) (tVar 11))) (tOr (tTest (tOp (uNe K) (tCB (cRepr K) (tCons (tFn P w K mg base "least_missing" 7 E (tCons (tVar 5) (tNil))) (tNil))) (tCB (cRepr K) (tCons (tVar 10) (tNil))))) (tTest (tOp (uNe K) (tFn P w K mg base "_law_facts" 7 E (tCons (tVar 5) (tNil))) (tVar 8))))) (tRet (tC (.bl false))) (tNext)) (tFor (iList K (tVar 13)) (gName 14) (tDrop (tMth P w K mg base "move_to" 7 E (tVar 14) (tCons (tOp uSub (tC (.int 60)) (tAtt P w K mg base "slot" (tVar 14))) (tNil)))))))) (tRet (tC (.bl true))))))))))
theorem d_law_right {P : Program} {w : World} {K : PySem.W.Frag} {mg : Str → Option Value} {base : Heap} {A : Ads} {f : Addr} {cdv : Value} {Ar : Around} {outer : List Env} {s : Shared} {H : Hp} {E : XK} (G : Gm mg A) (hr : Room 7 (Ar.deeper (envOfC "_law_right" (defScope s_law_right) s.heap.objs.size f cdv))) :
    PSs (cxOf (L2.CX P w) P w K mg base N_law_right "_law_right" (defScope s_law_right) f cdv Ar outer s H E) (defBody s_law_right) (t_law_right P w K mg base A E) := by
  have sc := sc_law_right
  have at_ : At (cxOf (L2.CX P w) P w K mg base N_law_right "_law_right" (defScope s_law_right) f cdv Ar outer s H E) 7 E := At.of hr (takes_of rfl rfl rfl rfl)
  have pn : PassesOwn (model P w) (cxOf (L2.CX P w) P w K mg base N_law_right "_law_right" (defScope s_law_right) f cdv Ar outer s H E).A (cxOf (L2.CX P w) P w K mg base N_law_right "_law_right" (defScope s_law_right) f cdv Ar outer s H E).env (cxOf (L2.CX P w) P w K mg base N_law_right "_law_right" (defScope s_law_right) f cdv Ar outer s H E).xe := passes_of rfl
  exact pss_cons (ps_set (i := 3) sc.nd rfl (by first | exact Or.inl rfl | exact Or.inr rfl) (pe_fn at_ (by rfl) (pa_cons (pv 0) (pa_cons (pe_callB call_cLen (by rfl) G.g_len (by decide +kernel) (pa_cons (pv 2) (pa_nil))) (pa_nil))))) (pss_cons (ps_set (i := 4) sc.nd rfl (by first | exact Or.inl rfl | exact Or.inr rfl) (pe_listRg rfl (by rfl) G.g_list (prg_1 (by rfl) G.g_range (pe_callB call_cLen (by rfl) G.g_len (by decide +kernel) (pa_cons (pv 2) (pa_nil)))))) (pss_cons (ps_set (i := 5) sc.nd rfl (by first | exact Or.inl rfl | exact Or.inr rfl) (pe_lst (pa_nil))) (pss_cons (ps_for pn rfl (pi_range1 (by rfl) G.g_range (pa_cons (pe_callB call_cLen (by rfl) G.g_len (by decide +kernel) (pa_cons (pv 2) (pa_nil))) (pa_nil))) (pg_name (i := 6) sc.nd rfl (by first | exact Or.inl rfl | exact Or.inr rfl)) (pss_cons (ps_set (i := 7) sc.nd rfl (by first | exact Or.inl rfl | exact Or.inr rfl) (pe_bm PySem.F.plainAttrs_list PySem.F.slot_list_pop PySem.F.type_list_pop mt_popAt (pv 4) (pa_cons (pe_fn at_ (by rfl) (pa_cons (pv 0) (pa_cons (pe_callB call_cLen (by rfl) G.g_len (by decide +kernel) (pa_cons (pv 4) (pa_nil))) (pa_nil)))) (pa_nil)))) (pss_one (ps_expr (pe_bm PySem.F.plainAttrs_list PySem.F.slot_list_append PySem.F.type_list_append mt_append (pv 5) (pa_cons (pe_fn at_ (by rfl) (pa_cons (pv 1) (pa_cons (pe_ix ix_u (pv 3) (pv 7) (fun _ _ => rfl)) (pa_cons (pe_ix ix_u (pv 2) (pv 7) (fun _ _ => rfl)) (pa_nil))))) (pa_nil))))))) (pss_cons (ps_set (i := 8) sc.nd rfl (by first | exact Or.inl rfl | exact Or.inr rfl) (pe_fn at_ (by rfl) (pa_cons (pv 5) (pa_nil)))) (pss_cons (ps_asg (pe_fn at_ (by rfl) (pa_cons (pv 0) (pa_cons (pv 5) (pa_nil)))) (pg_tup rfl (pgs_cons (pg_name (i := 9) sc.nd rfl (by first | exact Or.inl rfl | exact Or.inr rfl)) (pgs_cons (pg_name (i := 10) sc.nd rfl (by first | exact Or.inl rfl | exact Or.inr rfl)) (pgs_nil))))) (pss_cons (ps_setLc (i := 11) (own := [("_law_one", 15)]) (g := gName 15) (tt := tTest (tOp (uIn K false) (tOp (uIx K) (tVar 15) (tC (.int 1))) (tVar 9))) rfl sc.nd rfl rfl (sw_true rfl rfl rfl (by decide +kernel)) (pi_list (pv 8)) (blkOk_by (N := N_law_right) (sc := defScope s_law_right) (by decide +kernel)) (fun _ _ _ _ _ => pg_name (i := 15) sc.nd rfl (by first | exact Or.inl rfl | exact Or.inr rfl)) (fun _ _ _ _ _ => pts_one (pt_cmpR (op_uIn hr) (pe_ix ix_u (pv 15) (pe_int) (fun _ _ => rfl)) (pv 9) (by rfl))) (fun _ _ _ _ _ => pv 15)) (pss_cons (ps_for pn rfl (pi_range1 (by rfl) G.g_range (pa_cons (pe_int) (pa_nil))) (pg_name (i := 12) sc.nd rfl (by first | exact Or.inl rfl | exact Or.inr rfl)) (pss_cons (ps_set (i := 13) sc.nd rfl (by first | exact Or.inl rfl | exact Or.inr rfl) (pe_fn at_ (by rfl) (pa_cons (pv 5) (pa_nil)))) (pss_cons (ps_if (PW.pt (pw_or (pt_cmpR (op_uNe hr) (pe_fn at_ (by rfl) (pa_cons (pv 13) (pa_nil))) (pv 11) (nomark _)) (pw_or (pt_cmpR (op_uNe hr) (pe_callB call_cRepr (by rfl) G.g_repr (by decide +kernel) (pa_cons (pe_fn at_ (by rfl) (pa_cons (pv 5) (pa_nil))) (pa_nil))) (pe_callB call_cRepr (by rfl) G.g_repr (by decide +kernel) (pa_cons (pv 10) (pa_nil))) (nomark _)) (pw_or1 (pt_cmpR (op_uNe hr) (pe_fn at_ (by rfl) (pa_cons (pv 5) (pa_nil))) (pv 8) (nomark _)))))) (pss_one (ps_ret (pe_bl))) (pss_nil)) (pss_one (ps_for pn rfl (pi_list (pv 13)) (pg_name (i := 14) sc.nd rfl (by first | exact Or.inl rfl | exact Or.inr rfl)) (pss_one (ps_expr (pe_mth at_ (pv 14) (pa_cons (pe_op op_uSub (pe_int) (pe_att hr (pv 14))) (pa_nil)))))))))) (pss_one (ps_ret (pe_bl))))))))))
abbrev s_law : Stmt := top 46
abbrev N_law : List Str := ["_law_script", "_law_k", "_law_tape_here", "_law_turn", "_law_many", "_law_log", "_law_item"]
abbrev ps_law : List Str := ["_law_script"]
theorem sc_law : FnScope N_law ["_law_script"] (defScope s_law) := ⟨rfl, rfl, rfl, by decide +kernel, rfl, by decide +kernel, by decide +kernel⟩
def t_law (P : Program) (w : World) (K : PySem.W.Frag) (mg : Str → Option Value) (base : Heap) (A : Ads) (E : XK) : TS :=
  tSeq (tFor (iRng1 (tCons (tCB (cMax K) (tCons (tC (.int 1)) (tCons (tCB (cMin K) (tCons (tC (.int 3)) (tCons (tCB (cLen K) (tCons (tVar 0) (tNil))) (tNil)))) (tNil)))) (tNil))) (gName 1) (tSeq (tAsg (tFn P w K mg base "_law_tape" 8 E (tCons (tVar 0) (tCons (tVar 1) (tNil)))) (gName 2)) (tFor (iRng1 (tCons (tC (.int 4)) (tNil))) (gName 3) (tSeq (tAsg (tFn P w K mg base "_law_next" 8 E (tCons (tVar 2) (tCons (tOp (uIx K) (tLst (tCons (tC (.int 12)) (tCons (tC (.int 41)) (tNil)))) (tFn P w K mg base "_law_next" 8 E (tCons (tVar 2) (tCons (tC (.int 2)) (tNil))))) (tNil)))) (gName 4)) (tIfS (tNot (tB (tFn P w K mg base "_law_right" 8 E (tCons (tVar 2) (tCons (tFn P w K mg base "_law_next" 8 E (tCons (tVar 2) (tCons (tC (.int 2)) (tNil)))) (tCons (tFn P w K mg base "_law_slots" 8 E (tCons (tVar 2) (tCons (tVar 4) (tNil)))) (tNil))))))) (tRet (tC (.bl false))) (tNext)))))) (tSeq (tAsg (tFn P w K mg base "_law_tape" 8 E (tCons (tVar 0) (tCons (tC (.int 0)) (tNil)))) (gName 2)) (tSeq (tIfS (tNot (tB (tFn P w K mg base "_law_right" 8 E (tCons (tVar 2) (tCons (tC (.int 0)) (tCons (tFn P w K mg base "_law_slots" 8 E (tCons (tVar 2) (tCons (tC (.int 40)) (tNil)))) (tNil))))))) (tRet (tC (.bl false))) (tNext)) (tSeq (tAsg (tLc (iList K (tFn P w K mg base "_law_items" 8 E (tCons (tVar 2) (tCons (tC (.int 40)) (tNil))))) (gName 6) (tYes) (tMkr P w K mg base "Removed" 8 E0 (tCons (tVar 6) (tCons (tC (.int 60)) (tNil)))) [6]) (gName 5)) (tRet (tAndV (tOp (uEq K) (tFn P w K mg base "usable" 8 E (tCons (tVar 5) (tNil))) (tLst (tNil))) (tOp (uEq K) (tFn P w K mg base "least_missing" 8 E (tCons (tVar 5) (tNil))) (tC (.int 60))))))))
theorem d_law {P : Program} {w : World} {K : PySem.W.Frag} {mg : Str → Option Value} {base : Heap} {A : Ads} {f : Addr} {cdv : Value} {Ar : Around} {outer : List Env} {s : Shared} {H : Hp} {E : XK} (G : Gm mg A) (hr : Room 8 (Ar.deeper (envOfC "law" (defScope s_law) s.heap.objs.size f cdv))) :
    PSs (cxOf (L2.CX P w) P w K mg base N_law "law" (defScope s_law) f cdv Ar outer s H E) (defBody s_law) (t_law P w K mg base A E) := by
  have sc := sc_law
  have at_ : At (cxOf (L2.CX P w) P w K mg base N_law "law" (defScope s_law) f cdv Ar outer s H E) 8 E := At.of hr (takes_of rfl rfl rfl rfl)
  have pn : PassesOwn (model P w) (cxOf (L2.CX P w) P w K mg base N_law "law" (defScope s_law) f cdv Ar outer s H E).A (cxOf (L2.CX P w) P w K mg base N_law "law" (defScope s_law) f cdv Ar outer s H E).env (cxOf (L2.CX P w) P w K mg base N_law "law" (defScope s_law) f cdv Ar outer s H E).xe := passes_of rfl
  exact pss_cons (ps_for pn rfl (pi_range1 (by rfl) G.g_range (pa_cons (pe_callB (call_cMax rfl) (by rfl) G.g_max (by decide +kernel) (pa_cons (pe_int) (pa_cons (pe_callB (call_cMin rfl) (by rfl) G.g_min (by decide +kernel) (pa_cons (pe_int) (pa_cons (pe_callB call_cLen (by rfl) G.g_len (by decide +kernel) (pa_cons (pv 0) (pa_nil))) (pa_nil)))) (pa_nil)))) (pa_nil))) (pg_name (i := 1) sc.nd rfl (by first | exact Or.inl rfl | exact Or.inr rfl)) (pss_cons (ps_set (i := 2) sc.nd rfl (by first | exact Or.inl rfl | exact Or.inr rfl) (pe_fn at_ (by rfl) (pa_cons (pv 0) (pa_cons (pv 1) (pa_nil))))) (pss_one (ps_for pn rfl (pi_range1 (by rfl) G.g_range (pa_cons (pe_int) (pa_nil))) (pg_name (i := 3) sc.nd rfl (by first | exact Or.inl rfl | exact Or.inr rfl)) (pss_cons (ps_set (i := 4) sc.nd rfl (by first | exact Or.inl rfl | exact Or.inr rfl) (pe_fn at_ (by rfl) (pa_cons (pv 2) (pa_cons (pe_ix ix_u (pe_lst (pa_cons (pe_int) (pa_cons (pe_int) (pa_nil)))) (pe_fn at_ (by rfl) (pa_cons (pv 2) (pa_cons (pe_int) (pa_nil)))) (fun _ _ => rfl)) (pa_nil))))) (pss_one (ps_if (pt_not (pt_val (pe_fn at_ (by rfl) (pa_cons (pv 2) (pa_cons (pe_fn at_ (by rfl) (pa_cons (pv 2) (pa_cons (pe_int) (pa_nil)))) (pa_cons (pe_fn at_ (by rfl) (pa_cons (pv 2) (pa_cons (pv 4) (pa_nil)))) (pa_nil))))))) (pss_one (ps_ret (pe_bl))) (pss_nil)))))))) (pss_cons (ps_set (i := 2) sc.nd rfl (by first | exact Or.inl rfl | exact Or.inr rfl) (pe_fn at_ (by rfl) (pa_cons (pv 0) (pa_cons (pe_int) (pa_nil))))) (pss_cons (ps_if (pt_not (pt_val (pe_fn at_ (by rfl) (pa_cons (pv 2) (pa_cons (pe_int) (pa_cons (pe_fn at_ (by rfl) (pa_cons (pv 2) (pa_cons (pe_int) (pa_nil)))) (pa_nil))))))) (pss_one (ps_ret (pe_bl))) (pss_nil)) (pss_cons (ps_setLc (i := 5) (own := [("_law_item", 6)]) (g := gName 6) (tt := tYes) rfl sc.nd rfl rfl (sw_true rfl rfl rfl (by decide +kernel)) (pi_list (pe_fn at_ (by rfl) (pa_cons (pv 2) (pa_cons (pe_int) (pa_nil))))) (blkOk_by (N := N_law) (sc := defScope s_law) (by decide +kernel)) (fun _ _ _ _ _ => pg_name (i := 6) sc.nd rfl (by first | exact Or.inl rfl | exact Or.inr rfl)) (fun _ _ _ _ _ => pts_nil) (fun _ _ _ _ _ => pe_mkr (At.e0 hr) (by rfl) (pa_cons (pv 6) (pa_cons (pe_int) (pa_nil))))) (pss_one (ps_ret (pe_and (pe_cmpR (op_uEq hr) (pe_fn at_ (by rfl) (pa_cons (pv 5) (pa_nil))) (pe_lst (pa_nil)) (nomark _)) (pe_one (pe_cmpR (op_uEq hr) (pe_fn at_ (by rfl) (pa_cons (pv 5) (pa_nil))) (pe_int) (nomark _)))))))))
def Ads.kind (A : Ads) : Nat → Addr | 0 => A.cInserted | 1 => A.cRemoved | 2 => A.cFronted | _ => A.cRecord
def kName : Nat → Str | 0 => "Inserted" | 1 => "Removed" | 2 => "Fronted" | _ => "Record"
def sgn : Nat → Str | 0 => "+" | 1 => "-" | 2 => "^" | _ => ""
/-- what the text says of the k-th class of records -/
structure Kd (K : PySem.W.Frag) (mg : Str → Option Value) (A : Ads) (k : Nat) : Prop where
  cls : Cls K (A.kind k)
  ty : InsTy K (A.kind k)
  made : Dk K mg (kName k) (A.kind k) "Record.__init__" s_Record_init ["self", "item", "slot"]
  sign : ∃ u, Con K (A.kind k) "SIGN" (.str (sgn k)) u
  ni : NoAttr K (A.kind k) "held_item"
  ns : NoAttr K (A.kind k) "held_slot"
  item : ∃ p g fd, PropOf K (A.kind k) "item" p g ∧ Fun K "item" "Record.item" s_Record_item g fd ∧ Binds K fd ["self"] []
  slot : ∃ p g fd, PropOf K (A.kind k) "slot" p g ∧ Fun K "slot" "Record.slot" s_Record_slot g fd ∧ Binds K fd ["self"] []
  mv : Dm K (A.kind k) "move_to" "Record.move_to" s_Record_move_to ["self", "slot"]
structure Tx (K : PySem.W.Frag) (mg : Str → Option Value) (A : Ads) : Prop where
  G : Gm mg A
  kd : ∀ k, k < 4 → Kd K mg A k
  most : ∃ mc u, CRead K A.cRecord mc ∧ CVal K A.cRecord mc "MOST" (.int 60) u
  kit : ∀ i j, i < 4 → j < 4 → PySem.W.kitOne K (.ref (A.kind i)) (.ref (A.kind j)) = some (decide (i = j ∨ j = 3))
  f_is_integer : Df K mg "is_integer" s_is_integer ["thing", "least", "most"]
  f_is_item : Df K mg "is_item" s_is_item ["thing"]
  f_are_records : Df K mg "are_records" s_are_records ["thing", "most"]
  f_sign_of : Df K mg "sign_of" s_sign_of ["log"]
  f_items_of : Df K mg "items_of" s_items_of ["log"]
  f_is_log : Df K mg "is_log" s_is_log ["thing"]
  f_need_log : Df K mg "need_log" s_need_log ["thing"]
  f_need_growing : Df K mg "need_growing" s_need_growing ["log"]
  f_made : Df K mg "made" s_made ["sign", "item", "slot"]
  f_copied : Df K mg "copied" s_copied ["record"]
  f_least_missing : Df K mg "least_missing" s_least_missing ["log"]
  f_usable : Df K mg "usable" s_usable ["log"]
  f_law_tape : Df K mg "_law_tape" s_law_tape ["_law_script", "_law_k"]
  f_law_next : Df K mg "_law_next" s_law_next ["_law_tape_here", "_law_size"]
  f_law_items : Df K mg "_law_items" s_law_items ["_law_tape_here", "_law_many"]
  f_law_made : Df K mg "_law_made" s_law_made ["_law_kind", "_law_item", "_law_slot"]
  f_law_facts : Df K mg "_law_facts" s_law_facts ["_law_log"]
  f_law_slots : Df K mg "_law_slots" s_law_slots ["_law_tape_here", "_law_many"]
  f_law_played : Df K mg "_law_played" s_law_played ["_law_tape_here", "_law_log"]
  f_law_right : Df K mg "_law_right" s_law_right ["_law_tape_here", "_law_kind", "_law_slots_here"]
  f_law : Df K mg "law" s_law ["_law_script"]
end K
namespace K
open PySem PySem.Spec PyProof.Rows L2 U ClX M
local macro_rules | `(tactic| walk_at "rd") => `(tactic| simp only [tSeq, tRet, tIfS, tAsg, tDrop, tNext, tNever, tRetN, tAndV, tOrV, tNotV, tAnd, tOr, tNot, tB, tTest, tChain, tCB, tCons, tNil, tVar, tC, tOp, tUn, tIf, gName, uLe, uLt, uGe, uGt, uCmp, uAdd, uSub, uMul, uDiv, uMod, uPow, uNeg, uEq, uNe, uIs, uIsNot, uIx, uIn, cIsi, cLen, cAll, cMax, cMin, cAbs, cSort, cSortD, cInt, cTuple, cRepr, cList, tLstRg, tTupRg, tRg1, tRg2, sDPut, tDNewK, tAug, ipI, iZip, tLst, tTup, tPar, tPar3, tFn, tMkr, tMth, tFnK, tMthK, tAtt, sFld, tYes, tLc_eq, tFor_eq, iList, iStr, iRng1, iRng2, iEnum, tLenSetT, tSl, tPart, tNoPart, gTup, gCons, gNil, gSub, tBM, tBM0, List.getElem?_cons_zero, List.getElem?_cons_succ, List.set_cons_zero, List.set_cons_succ, Option.some.injEq, V.bl.injEq, V.int.injEq, V.str.injEq, V.ref.injEq, exists_eq_left', exists_eq_left, exists_eq_right, exists_eq_right', and_true, true_and, scal, if_true, Bool.false_eq_true, if_false, List.cons.injEq, exists_const, false_and, and_false, ite_true, ite_false, Bool.not_true, Bool.not_false])
def recF (x : Str) (n : Int) : List (Str × V) := [("held_item", .str x), ("held_slot", .int n)]
abbrev hI : Str := "held_item"
abbrev hS : Str := "held_slot"
theorem is_ne : ¬ (("held_item" : Str) = "held_slot") := by decide +kernel
theorem put_item (x : Str) : putF hI (.str x) [] = ([(hI, .str x)] : List (Str × V)) := rfl
theorem put_slot0 (x : Str) (n : Int) : putF hS (.int n) ([(hI, .str x)] : List (Str × V)) = recF x n := by
  simp only [putF, recF, hI, hS, if_neg is_ne]
theorem put_slot (x : Str) (n m : Int) : putF hS (.int m) (recF x n) = recF x m := by
  simp only [putF, recF, hI, hS, if_neg is_ne, if_true]
theorem look_item (x : Str) (n : Int) : (recF x n).lookup hI = some (.str x) := by
  simp [recF, List.lookup]
theorem look_slot (x : Str) (n : Int) : (recF x n).lookup hS = some (.int n) := by
  have : (("held_slot" : Str) == "held_item") = false := by decide +kernel
  simp [recF, List.lookup, this]
theorem look_none (x : Str) (n : Int) {m : Str} (h1 : (m == ("held_item" : Str)) = false) (h2 : (m == ("held_slot" : Str)) = false) : (recF x n).lookup m = none := by
  simp [recF, List.lookup, h1, h2]
section
variable {P : Program} {w : World} {K : PySem.W.Frag} {mg : Str → Option Value} {base : Heap} {A : Ads}
/-! ### is_integer, is_item -/
def sp_is_integer : Sp := fun vs H Q _ => ∃ i lo hi : Int, vs = [.int i, .int lo, .int hi] ∧ Q (.bl (decide (lo ≤ i) && decide (i ≤ hi))) H
theorem p_is_integer : Pur N_is_integer ps_is_integer (t_is_integer P w K mg base A) sp_is_integer := by
  intro vs H Q E h
  obtain ⟨i, lo, hi, rfl, q⟩ := h
  refine ⟨rfl, ?_⟩
  show t_is_integer P w K mg base A E _ [some (.int i), some (.int lo), some (.int hi)] H
  unfold t_is_integer
  walk_at "rd"
  refine ⟨true, isi_int (by decide +kernel), ?_⟩
  walk_at "rd"
  refine ⟨false, isi_int (by decide +kernel), ?_⟩
  walk_at "rd"
  by_cases c : lo ≤ i
  · simpa [c] using q
  · simpa [c] using q
theorem fn_is_integer (T : Tx K mg A) : Fn P w K mg base 2 "is_integer" sp_is_integer := T.f_is_integer.fn sc_is_integer (fun hr => d_is_integer T.G hr) p_is_integer
/-- a text is an item -/
def isItem (z : Str) : Bool := decide (1 ≤ z.length) && decide (z.length ≤ 8) && z.cps.toList.all fun c => decide (97 ≤ c) && decide (c ≤ 122)
theorem letters_iff (c : Nat) : (c ∈ ("abcdefghijklmnopqrstuvwxyz" : Str).cps.toList) ↔ (97 ≤ c ∧ c ≤ 122) := by
  have e : ("abcdefghijklmnopqrstuvwxyz" : Str).cps.toList = (List.range 26).map (· + 97) := by decide +kernel
  rw [e]
  simp only [List.mem_map, List.mem_range]
  constructor
  · rintro ⟨a, h, rfl⟩; omega
  · intro h; exact ⟨c - 97, by omega, by omega⟩
def sp_is_item : Sp := fun vs H Q _ => ∃ z : Str, vs = [.str z] ∧ z.length ≤ 1000 ∧ ∀ H', Same H H' → Q (.bl (isItem z)) H'
theorem p_is_item : Pur N_is_item ps_is_item (t_is_item P w K mg base A) sp_is_item := by
  intro vs H Q E h
  obtain ⟨z, rfl, hz, q⟩ := h
  refine ⟨rfl, ?_⟩
  show t_is_item P w K mg base A E _ [some (.str z), none] H
  unfold t_is_item
  walk_at "rd"
  refine ⟨true, isi_str (by decide +kernel), ?_⟩
  walk_at "rd"
  have hl : z.length ≤ sizeLine := Nat.le_trans hz (by decide)
  refine ⟨hl, ?_⟩
  by_cases c1 : 1 ≤ z.length
  · rw [if_pos (decide_eq_true (show (1 : Int) ≤ z.length by omega))]
    by_cases c2 : z.length ≤ 8
    · rw [decide_eq_true (show (z.length : Int) ≤ 8 by omega)]
      walk_at "rd"
      refine lc_goes goes_str (fun i => some (.bl (decide (z.cps.toList[i]?.getD 0 ∈ ("abcdefghijklmnopqrstuvwxyz" : Str).cps.toList)))) (Nat.lt_of_le_of_lt hz (by decide)) (fun i x H' hi s r => ?_) fun D H' hD s hl => ?_
      · obtain ⟨c, hc, rfl⟩ := r
        refine ⟨[some (.str z), some (.str ⟨#[c]⟩)], rfl, fun R r => r, Evt.yes, fun H3 s3 Q' q' => ?_⟩
        walk_at "rd"
        refine ⟨c, rfl, ?_⟩
        have e : z.cps.toList[i]?.getD 0 = c := by rw [Array.getElem?_toList, hc]; rfl
        rw [e] at q'
        exact q' H3 (Same.refl _)
      · refine ⟨z.cps.toList.map fun c => decide (c ∈ ("abcdefghijklmnopqrstuvwxyz" : Str).cps.toList), .inl (.inl ?_), ?_⟩
        · rw [hl, range_some]
          congr 2
          apply List.ext_getElem?
          intro i
          rw [List.map_map, List.getElem?_map, List.getElem?_map]
          by_cases hi : i < z.cps.size
          · rw [List.getElem?_range hi]
            have : i < z.cps.toList.length := by simpa using hi
            simp only [List.getElem?_eq_getElem this, Option.map_some, Function.comp, Option.getD_some]
          · rw [List.getElem?_eq_none (by simpa using hi), List.getElem?_eq_none (by simpa using hi)]
            rfl
        · have e : (List.map (fun c => decide (c ∈ ("abcdefghijklmnopqrstuvwxyz" : Str).cps.toList)) z.cps.toList).all id = isItem z := by
            have l1 : decide (1 ≤ z.length) = true := decide_eq_true c1
            have l2 : decide (z.length ≤ 8) = true := decide_eq_true c2
            unfold isItem
            rw [List.all_map, l1, l2, Bool.true_and, Bool.true_and]
            congr 1
            funext c
            simp only [Function.comp, id]
            rw [Bool.eq_iff_iff]
            simp only [decide_eq_true_eq, Bool.and_eq_true]
            exact letters_iff c
          rw [e]
          exact q H' s
    · rw [decide_eq_false (show ¬ (z.length : Int) ≤ 8 by omega)]
      have e : isItem z = false := by simp [isItem, c2]
      rw [e] at q
      walk_at "rd"
      exact q H (Same.refl _)
  · rw [if_neg (by simp; omega)]
    have e : isItem z = false := by simp [isItem, c1]
    rw [e] at q
    try walk_at "rd"
    exact q H (Same.refl _)
theorem fn_is_item (T : Tx K mg A) : Fn P w K mg base 2 "is_item" sp_is_item := T.f_is_item.fn sc_is_item (fun hr => d_is_item T.G hr) p_is_item
/-! ### making and changing records -/
theorem att_most (T : Tx K mg A) {H : Hp} : Att P w K mg base H A.cRecord "MOST" (.int 60) := by
  obtain ⟨mc, u, r, k⟩ := T.most
  exact .cls r k
/-- a record of kind k stands at a -/
def Rec (A : Ads) (H : Hp) (a : Addr) (k : Nat) (x : Str) (n : Int) : Prop := k < 4 ∧ ∃ dx, H a = some (.ins (A.kind k) dx (recF x n))
theorem Rec.same {H H' : Hp} {a : Addr} {k : Nat} {x : Str} {n : Int} (r : Rec A H a k x n) (s : Same H H') : Rec A H' a k x n := ⟨r.1, r.2.choose, s _ _ r.2.choose_spec⟩
def sp_init (A : Ads) (k : Nat) : Sp := fun vs H Q _ => ∃ (p dx : Addr) (z : Str) (n : Int), vs = [.ref p, .str z, .int n] ∧ H p = some (.ins (A.kind k) dx []) ∧ isItem z = true ∧ 0 ≤ n ∧ n ≤ 60 ∧
  ∀ H', H' p = some (.ins (A.kind k) dx (recF z n)) → (∀ b o, b ≠ p → H b = some o → H' b = some o) → Q .non H'
theorem item_len {z : Str} (h : isItem z = true) : 1 ≤ z.length ∧ z.length ≤ 8 := by
  unfold isItem at h
  simp only [Bool.and_eq_true, decide_eq_true_eq] at h
  exact h.1
theorem p_init (T : Tx K mg A) {k : Nat} (hk : k < 4) : Pur N_Record_init ps_Record_init (t_Record_init P w K mg base A) (sp_init A k) := by
  intro vs H Q E h
  obtain ⟨p, dx, z, n, rfl, hp, hz, h0, h60, q⟩ := h
  refine ⟨rfl, ?_⟩
  have I := T.kd k hk
  have zl := item_len hz
  show t_Record_init P w K mg base A E _ [some (.ref p), some (.str z), some (.int n)] H
  unfold t_Record_init
  walk_at "rd"
  refine ⟨2, _, fn_is_item T, by decide, z, rfl, by omega, fun H1 s1 => ?_⟩
  rw [hz]
  walk_at "rd"
  refine ⟨2, _, fn_is_integer T, by decide, _, _, rfl, att_most T, n, 0, 60, rfl, true, ?_, ?_⟩
  · simp [h0, h60]
  walk_at "rd"
  refine ⟨p, _, dx, _, rfl, s1 _ _ hp, I.cls, I.ni, by decide, p, _, dx, _, rfl, upd_same, I.cls, I.ns, (by show 1 < 1000; decide), ?_⟩
  rw [put_item, put_slot0]
  exact q _ upd_same fun b o hb e => by rw [upd_ne hb, upd_ne hb]; exact s1 _ _ e
theorem mkr (T : Tx K mg A) {k : Nat} (hk : k < 4) : Mkr P w K mg base 3 (kName k) (A.kind k) (sp_init A k) := (T.kd k hk).made.mkr sc_Record_init (fun hr => d_Record_init T.G hr) (p_init T hk)
/-- C(x, n): a new record -/
theorem made_ok (T : Tx K mg A) {k : Nat} (hk : k < 4) {H : Hp} {z : Str} {n : Int} {Q : VK} {E : XK} (hz : isItem z = true) (h0 : 0 ≤ n) (h60 : n ≤ 60) (q : ∀ p H', H p = none → Same H H' → Rec A H' p k z n → Q (.ref p) H') :
    ∀ p dx, H p = none → H dx = none → dx ≠ p → sp_init A k [.ref p, .str z, .int n] (upd (upd H dx (.own p)) p (.ins (A.kind k) dx [])) (fun v H' => v = .non ∧ Q (.ref p) H') E := by
  intro p dx hp hd ne
  refine ⟨p, dx, z, n, rfl, upd_same, hz, h0, h60, fun H' h1 h2 => ⟨rfl, q p H' hp (fun b o e => ?_) ⟨hk, dx, h1⟩⟩⟩
  refine h2 b o (ne_of_none e hp) ?_
  rw [upd_ne (ne_of_none e hp), upd_ne (ne_of_none e hd)]
  exact e
def sp_move (A : Ads) (k : Nat) : Sp := fun vs H Q _ => ∃ (p dx : Addr) (z : Str) (m n : Int), vs = [.ref p, .int n] ∧ H p = some (.ins (A.kind k) dx (recF z m)) ∧ 0 ≤ n ∧ n ≤ 60 ∧ Q .non (upd H p (.ins (A.kind k) dx (recF z n)))
theorem p_move (T : Tx K mg A) {k : Nat} (hk : k < 4) : Pur N_Record_move_to ps_Record_move_to (t_Record_move_to P w K mg base A) (sp_move A k) := by
  intro vs H Q E h
  obtain ⟨p, dx, z, m, n, rfl, hp, h0, h60, q⟩ := h
  refine ⟨rfl, ?_⟩
  have I := T.kd k hk
  show t_Record_move_to P w K mg base A E _ [some (.ref p), some (.int n)] H
  unfold t_Record_move_to
  walk_at "rd"
  refine ⟨2, _, fn_is_integer T, by decide, _, _, rfl, att_most T, n, 0, 60, rfl, true, ?_, ?_⟩
  · simp [h0, h60]
  walk_at "rd"
  refine ⟨p, _, dx, _, rfl, hp, I.cls, I.ns, (by show 2 < 1000; decide), ?_⟩
  rw [put_slot]
  exact q
theorem mth_move (T : Tx K mg A) {k : Nat} (hk : k < 4) : Mth P w K mg base 3 (A.kind k) "move_to" (sp_move A k) := (T.kd k hk).mv.mth sc_Record_move_to (fun hr => d_Record_move_to T.G hr) (p_move T hk)
/-! ### what a record tells -/
theorem fnok_item {C g : Addr} {fd : FuncData} (F : Fun K "item" "Record.item" s_Record_item g fd) (c : Cls K C) (n : NoAttr K C "held_item") : FnOk P w K mg base (L2.CX P w) 1 g fd ["self"] (getSp C "held_item") := by
  obtain ⟨oc, od, kV, doc, pm, an, cdv, ct, osl, rfl, lk, hcd⟩ := F.ex
  exact fn_getter (N := ["self"]) lk hcd sc_Record_item rfl rfl c n
theorem fnok_slot {C g : Addr} {fd : FuncData} (F : Fun K "slot" "Record.slot" s_Record_slot g fd) (c : Cls K C) (n : NoAttr K C "held_slot") : FnOk P w K mg base (L2.CX P w) 1 g fd ["self"] (getSp C "held_slot") := by
  obtain ⟨oc, od, kV, doc, pm, an, cdv, ct, osl, rfl, lk, hcd⟩ := F.ex
  exact fn_getter (N := ["self"]) lk hcd sc_Record_slot rfl rfl c n
theorem att_item (T : Tx K mg A) {H : Hp} {a : Addr} {k : Nat} {x : Str} {n : Int} (r : Rec A H a k x n) : Att P w K mg base H a "item" (.str x) := by
  obtain ⟨hk, dx, h⟩ := r
  have I := T.kd k hk
  obtain ⟨p, g, fd, pr, F, b⟩ := I.item
  exact .prop h I.cls pr (fnok_item F I.cls I.ni) b (look_item x n)
theorem att_slot (T : Tx K mg A) {H : Hp} {a : Addr} {k : Nat} {x : Str} {n : Int} (r : Rec A H a k x n) : Att P w K mg base H a "slot" (.int n) := by
  obtain ⟨hk, dx, h⟩ := r
  have I := T.kd k hk
  obtain ⟨p, g, fd, pr, F, b⟩ := I.slot
  exact .prop h I.cls pr (fnok_slot F I.cls I.ns) b (look_slot x n)
theorem att_sign (T : Tx K mg A) {H : Hp} {a : Addr} {k : Nat} {x : Str} {n : Int} (r : Rec A H a k x n) : Att P w K mg base H a "SIGN" (.str (sgn k)) := by
  obtain ⟨hk, dx, h⟩ := r
  have I := T.kd k hk
  obtain ⟨u, c⟩ := I.sign
  exact .con h I.cls c (look_none x n (by decide +kernel) (by decide +kernel))
theorem isi_rec (T : Tx K mg A) {H : Hp} {a : Addr} {k j : Nat} {x : Str} {n : Int} (r : Rec A H a k x n) (hj : j < 4) : Isi K H (.ref a) (.ref (A.kind j)) (decide (k = j ∨ j = 3)) := by
  obtain ⟨hk, dx, h⟩ := r
  have I := T.kd k hk
  exact isi_ins h I.cls I.ty (T.kit k j hk hj)
/-! ### lists of records -/
abbrev Rc := Nat × Str × Int
/-- rs stand in the list at l, in this order, at as -/
structure Book (A : Ads) (H : Hp) (l : Addr) (as : List Addr) (rs : List Rc) : Prop where
  lst : H l = some (.lst (as.map V.ref))
  len : as.length = rs.length
  at_ : ∀ (i : Nat) (a : Addr) (r : Rc), as[i]? = some a → rs[i]? = some r → Rec A H a r.1 r.2.1 r.2.2
theorem Book.same {H H' : Hp} {l : Addr} {as : List Addr} {rs : List Rc} (b : Book A H l as rs) (s : Same H H') : Book A H' l as rs := ⟨s _ _ b.lst, b.len, fun i a r h1 h2 => (b.at_ i a r h1 h2).same s⟩
theorem Book.get {H : Hp} {l : Addr} {as : List Addr} {rs : List Rc} (b : Book A H l as rs) {i : Nat} {x : V} (h : (as.map V.ref)[i]? = some x) : ∃ a r, x = .ref a ∧ as[i]? = some a ∧ rs[i]? = some r ∧ Rec A H a r.1 r.2.1 r.2.2 := by
  rw [List.getElem?_map] at h
  cases e : as[i]? with
  | none => rw [e] at h; cases h
  | some a =>
    rw [e] at h
    have hi : i < rs.length := by rw [← b.len]; exact (List.getElem?_eq_some_iff.mp e).1
    exact ⟨a, rs[i], (Option.some.inj h).symm, rfl, List.getElem?_eq_getElem hi, b.at_ i a _ e (List.getElem?_eq_getElem hi)⟩
/-- [f(record) for record in book] -/
theorem lc_book {H1 : Hp} {l : Addr} {as : List Addr} {rs : List Rc} (b : Book A H1 l as rs) (hn : rs.length ≤ 1000) {te : TE} {v : Nat} {σ : L2.St} {Q : VK} (f : Rc → V)
    (hv : ∀ x, wipe ((wipe σ [v]).set v (some x)) [v] = wipe σ [v]) (turn : ∀ a r H, Same H1 H → Rec A H a r.1 r.2.1 r.2.2 → r ∈ rs → Evs te ((wipe σ [v]).set v (some (.ref a))) H (f r))
    (hq : ∀ D H', H1 D = none → Same H1 H' → H' D = some (.lst (rs.map f)) → Q (.ref D) H') : LcB (Itl K l) (gName v) tYes te [v] σ H1 Q := by
  refine lc_goes (goes_list (.inl (.inl b.lst))) (fun i => (rs[i]?).map f) ?_ (fun i x H hi s r => ?_) fun D H' hD s hl => hq D H' hD s ?_
  · rw [List.length_map, b.len]; exact Nat.lt_of_le_of_lt hn (by decide)
  · obtain ⟨a, q, rfl, ha, hr, rc⟩ := b.get r
    rw [hr]
    refine ⟨(wipe σ [v]).set v (some (.ref a)), hv _, fun R r => r, Evt.yes, fun H3 s3 => turn a q H3 (s.trans s3) (rc.same (s.trans s3)) (List.mem_of_getElem? hr)⟩
  · rw [hl, List.length_map, b.len]
    congr 2
    have e := range_list (fun r => some (f r)) rs
    rw [List.filterMap_eq_map'] at e
    rw [← e]
    congr 1
    funext i
    cases rs[i]? <;> rfl
theorem book_len {H : Hp} {l : Addr} {as : List Addr} {rs : List Rc} (b : Book A H l as rs) : (as.map V.ref).length = rs.length := by rw [List.length_map, b.len]
def sp_are_records (A : Ads) : Sp := fun vs H Q _ => ∃ (l : Addr) (as : List Addr) (rs : List Rc) (m : Int), vs = [.ref l, .int m] ∧ Book A H l as rs ∧ rs.length ≤ 1000 ∧ (∀ r ∈ rs, r.1 < 3) ∧ ∀ H', Same H H' → Q (.bl (decide ((rs.length : Int) ≤ m))) H'
theorem sgn_ne {k : Nat} (h : k < 3) : sgn k ≠ "" := by
  match k, h with
  | 0, _ => decide +kernel
  | 1, _ => decide +kernel
  | 2, _ => decide +kernel
theorem all_true {α : Type} (l : List α) : (l.map fun _ => true).all id = true := by
  induction l with
  | nil => rfl
  | cons x l ih => simp
theorem p_are_records (T : Tx K mg A) : Pur N_are_records ps_are_records (t_are_records P w K mg base A) (sp_are_records A) := by
  intro vs H Q E h
  obtain ⟨l, as, rs, m, rfl, b, hn, h3, q⟩ := h
  refine ⟨rfl, ?_⟩
  show t_are_records P w K mg base A E _ [some (.ref l), some (.int m), none] H
  unfold t_are_records
  walk_at "rd"
  refine ⟨true, isi_lst b.lst (by decide +kernel), ?_⟩
  walk_at "rd"
  refine ⟨_, .inl (.inl (.inl b.lst)), ?_⟩
  rw [book_len b]
  by_cases c : (rs.length : Int) ≤ m
  · rw [if_neg (by simpa using c)]
    refine ⟨⟨_, .inl (.inl b.lst)⟩, lc_book b hn (fun _ => .bl true) (fun x => rfl) (fun a r H1 s1 rc hr => fun Q' q' => ?_) fun D H' hD s hl => ⟨rs.map fun _ => true, .inl (.inl ?_), ?_⟩⟩
    · show tAndV _ _ [some (.ref l), some (.int m), some (.ref a)] H1 Q'
      walk_at "rd"
      refine ⟨_, isi_rec T rc (j := 3) (by decide), ?_⟩
      rw [decide_eq_true (.inr rfl)]
      walk_at "rd"
      refine ⟨_, _, rfl, att_sign T rc, ?_⟩
      walk_at "rd"
      have : decide (sgn r.1 = "") = false := decide_eq_false (sgn_ne (h3 r hr))
      rw [this]
      exact q' H1 (Same.refl _)
    · rw [hl, List.map_map]; rfl
    · rw [all_true]
      have := q H' s
      rwa [decide_eq_true c] at this
  · rw [if_pos (by simpa using c)]
    have := q H (Same.refl _)
    rwa [decide_eq_false c] at this
theorem fn_are_records (T : Tx K mg A) : Fn P w K mg base 3 "are_records" (sp_are_records A) := T.f_are_records.fn sc_are_records (fun hr => d_are_records T.G hr) (p_are_records T)
def sp_items_of (A : Ads) : Sp := fun vs H Q _ => ∃ (l : Addr) (as : List Addr) (rs : List Rc), vs = [.ref l] ∧ Book A H l as rs ∧ rs.length ≤ 1000 ∧ ∀ D H', H D = none → Same H H' → H' D = some (.lst (rs.map fun r => .str r.2.1)) → Q (.ref D) H'
theorem p_items_of (T : Tx K mg A) : Pur N_items_of ps_items_of (t_items_of P w K mg base A) (sp_items_of A) := by
  intro vs H Q E h
  obtain ⟨l, as, rs, rfl, b, hn, q⟩ := h
  refine ⟨rfl, ?_⟩
  show t_items_of P w K mg base A E _ [some (.ref l), none] H
  unfold t_items_of
  walk_at "rd"
  refine ⟨⟨_, .inl (.inl b.lst)⟩, lc_book b hn (fun r => .str r.2.1) (fun x => rfl) (fun a r H1 s1 rc hr => fun Q' q' => ?_) q⟩
  exact ⟨.ref a, rfl, a, _, rfl, att_item T rc, q' H1 (Same.refl _)⟩
theorem fn_items_of (T : Tx K mg A) : Fn P w K mg base 3 "items_of" (sp_items_of A) := T.f_items_of.fn sc_items_of (fun hr => d_items_of T.G hr) (p_items_of T)
def sign1 : List Rc → Str | [] => "" | r :: _ => sgn r.1
def sp_sign_of (A : Ads) : Sp := fun vs H Q _ => ∃ (l : Addr) (as : List Addr) (rs : List Rc), vs = [.ref l] ∧ Book A H l as rs ∧ ∀ H', Same H H' → Q (.str (sign1 rs)) H'
theorem p_sign_of (T : Tx K mg A) : Pur N_sign_of ps_sign_of (t_sign_of P w K mg base A) (sp_sign_of A) := by
  intro vs H Q E h
  obtain ⟨l, as, rs, rfl, b, q⟩ := h
  refine ⟨rfl, ?_⟩
  show t_sign_of P w K mg base A E _ [some (.ref l)] H
  unfold t_sign_of
  walk_at "rd"
  refine ⟨by decide, fun p hp => ?_⟩
  have np : l ≠ p := ne_of_none b.lst hp
  have s1 : Same H (upd H p (.lst [])) := Same.new hp
  match rs, as, b, q with
  | [], [], b, q =>
    refine .inl ⟨.list [], .list [], .lst (.inl (.inl (s1 _ _ b.lst))) .nil, .lst (.inl (.inl upd_same)) .nil, rfl, rfl, ?_⟩
    exact ⟨false, rfl, q _ s1⟩
  | r :: rs, a :: as, b, q =>
    refine .inr ⟨l, p, (.ref a :: as.map V.ref), [], rfl, rfl, .inl (.inl (s1 _ _ b.lst)), .inl (.inl upd_same), by simp, true, rfl, ?_⟩
    have rc := (b.at_ 0 a r rfl rfl).same s1
    exact ⟨_, _, .inl (.inl (.inl (s1 _ _ b.lst))), at_of (j := 0) rfl rfl, _, _, rfl, att_sign T rc, q _ s1⟩
  | [], _ :: _, b, _ => exact absurd b.len (by simp)
  | _ :: _, [], b, _ => exact absurd b.len (by simp)
theorem fn_sign_of (T : Tx K mg A) : Fn P w K mg base 3 "sign_of" (sp_sign_of A) := T.f_sign_of.fn sc_sign_of (fun hr => d_sign_of T.G hr) (p_sign_of T)
/-! ### logs -/
def isLog (rs : List Rc) : Bool := decide (rs.length ≤ 40) && (decide ((dd (rs.map fun r => sgn r.1)).length ≤ 1) && decide ((dd (rs.map fun r => r.2.1)).length = rs.length))
def sp_is_log (A : Ads) : Sp := fun vs H Q _ => ∃ (l : Addr) (as : List Addr) (rs : List Rc), vs = [.ref l] ∧ Book A H l as rs ∧ rs.length ≤ 1000 ∧ (∀ r ∈ rs, r.1 < 3) ∧ ∀ H', Same H H' → Q (.bl (isLog rs)) H'
theorem p_is_log (T : Tx K mg A) : Pur N_is_log ps_is_log (t_is_log P w K mg base A) (sp_is_log A) := by
  intro vs H Q E h
  obtain ⟨l, as, rs, rfl, b, hn, h3, q⟩ := h
  refine ⟨rfl, ?_⟩
  show t_is_log P w K mg base A E _ [some (.ref l), none] H
  unfold t_is_log
  walk_at "rd"
  refine ⟨3, _, fn_are_records T, by decide, l, as, rs, _, rfl, b, hn, h3, fun H1 s1 => ⟨_, rfl, ?_⟩⟩
  by_cases c : rs.length ≤ 40
  · rw [decide_eq_true (show (rs.length : Int) ≤ 40 by omega)]
    walk_at "rd"
    have b1 := b.same s1
    refine ⟨⟨_, .inl (.inl b1.lst)⟩, lc_book b1 hn (fun r => .str (sgn r.1)) (fun x => rfl) (fun a r H2 s2 rc hr => fun Q' q' => ?_) fun D H2 hD s2 hl => ?_⟩
    · exact ⟨.ref a, rfl, a, _, rfl, att_sign T rc, q' H2 (Same.refl _)⟩
    refine ⟨D, rs.map fun r => sgn r.1, rfl, .inl (.inl ?_), by simpa using hn, ?_⟩
    · rw [hl, List.map_map]; rfl
    have b2 := b1.same s2
    by_cases c1 : (dd (rs.map fun r => sgn r.1)).length ≤ 1
    · rw [if_pos (by simp only [decide_eq_true_eq]; omega)]
      refine ⟨3, _, fn_items_of T, by decide, l, as, rs, rfl, b2, hn, fun D2 H3 hD2 s3 hl3 => ?_⟩
      refine ⟨D2, rs.map fun r => r.2.1, rfl, .inl (.inl ?_), by simpa using hn, ?_⟩
      · rw [hl3, List.map_map]; rfl
      have b3 := b2.same s3
      refine ⟨_, .inl (.inl (.inl b3.lst)), ?_⟩
      have e : isLog rs = decide (((dd (rs.map fun r => r.2.1)).length : Int) = ((as.map V.ref).length : Nat)) := by
        unfold isLog
        rw [book_len b, decide_eq_true c, decide_eq_true c1, Bool.true_and, Bool.true_and, Bool.eq_iff_iff]
        simp only [decide_eq_true_eq]
        omega
      have := q H3 ((s1.trans s2).trans s3)
      rwa [e] at this
    · rw [if_neg (by simp only [decide_eq_true_eq]; omega)]
      have e : isLog rs = false := by simp [isLog, c1]
      have := q H2 (s1.trans s2)
      rwa [e] at this
  · rw [decide_eq_false (show ¬ (rs.length : Int) ≤ 40 by omega)]
    walk_at "rd"
    have e : isLog rs = false := by simp [isLog, c]
    have := q H1 s1
    rwa [e] at this
theorem fn_is_log (T : Tx K mg A) : Fn P w K mg base 4 "is_log" (sp_is_log A) := T.f_is_log.fn sc_is_log (fun hr => d_is_log T.G hr) (p_is_log T)
def sp_need_log (A : Ads) : Sp := fun vs H Q _ => ∃ (l : Addr) (as : List Addr) (rs : List Rc), vs = [.ref l] ∧ Book A H l as rs ∧ isLog rs = true ∧ (∀ r ∈ rs, r.1 < 3) ∧ ∀ H', Same H H' → Q .non H'
theorem log_40 {rs : List Rc} (h : isLog rs = true) : rs.length ≤ 40 := by
  unfold isLog at h
  simp only [Bool.and_eq_true, decide_eq_true_eq] at h
  exact h.1
theorem p_need_log (T : Tx K mg A) : Pur N_need_log ps_need_log (t_need_log P w K mg base A) (sp_need_log A) := by
  intro vs H Q E h
  obtain ⟨l, as, rs, rfl, b, hl, h3, q⟩ := h
  refine ⟨rfl, ?_⟩
  show t_need_log P w K mg base A E _ [some (.ref l)] H
  unfold t_need_log
  walk_at "rd"
  have := log_40 hl
  refine ⟨4, _, fn_is_log T, by decide, l, as, rs, rfl, b, by omega, h3, fun H1 s1 => ⟨_, rfl, ?_⟩⟩
  rw [hl]
  exact q H1 s1
theorem fn_need_log (T : Tx K mg A) : Fn P w K mg base 5 "need_log" (sp_need_log A) := T.f_need_log.fn sc_need_log (fun hr => d_need_log T.G hr) (p_need_log T)
def sp_need_growing (A : Ads) : Sp := fun vs H Q _ => ∃ (l : Addr) (as : List Addr) (rs : List Rc), vs = [.ref l] ∧ Book A H l as rs ∧ isLog rs = true ∧ (∀ r ∈ rs, r.1 < 2) ∧ ∀ H', Same H H' → Q .non H'
theorem p_need_growing (T : Tx K mg A) : Pur N_need_growing ps_need_growing (t_need_growing P w K mg base A) (sp_need_growing A) := by
  intro vs H Q E h
  obtain ⟨l, as, rs, rfl, b, hl, h3, q⟩ := h
  refine ⟨rfl, ?_⟩
  show t_need_growing P w K mg base A E _ [some (.ref l)] H
  unfold t_need_growing
  walk_at "rd"
  refine ⟨5, _, fn_need_log T, by decide, l, as, rs, rfl, b, hl, fun r hr => Nat.lt_succ_of_lt (h3 r hr), fun H1 s1 => ?_⟩
  refine ⟨3, _, fn_sign_of T, by decide, l, as, rs, rfl, b.same s1, fun H2 s2 => ?_⟩
  walk_at "rd"
  have e : decide (sign1 rs = ("^" : Str)) = false := by
    match rs, h3 with
    | [], _ => decide +kernel
    | (0, _) :: _, _ => exact (show decide (sgn 0 = ("^" : Str)) = false by decide +kernel)
    | (1, _) :: _, _ => exact (show decide (sgn 1 = ("^" : Str)) = false by decide +kernel)
    | (n + 2, z) :: _, h3 => exact absurd (h3 _ (List.mem_cons_self)) (by simp)
  rw [e]
  exact q H2 (s1.trans s2)
theorem fn_need_growing (T : Tx K mg A) : Fn P w K mg base 6 "need_growing" (sp_need_growing A) := T.f_need_growing.fn sc_need_growing (fun hr => d_need_growing T.G hr) (p_need_growing T)
end
end K
namespace K
open PySem PySem.Spec PyProof.Rows L2 U ClX M
local macro_rules | `(tactic| walk_at "rd") => `(tactic| simp only [tSeq, tRet, tIfS, tAsg, tDrop, tNext, tNever, tRetN, tAndV, tOrV, tNotV, tAnd, tOr, tNot, tB, tTest, tChain, tCB, tCons, tNil, tVar, tC, tOp, tUn, tIf, gName, uLe, uLt, uGe, uGt, uCmp, uAdd, uSub, uMul, uDiv, uMod, uPow, uNeg, uEq, uNe, uIs, uIsNot, uIx, uIn, cIsi, cLen, cAll, cMax, cMin, cAbs, cSort, cSortD, cInt, cTuple, cRepr, cList, tLstRg, tTupRg, tRg1, tRg2, sDPut, tDNewK, tAug, ipI, iZip, tLst, tTup, tPar, tPar3, tFn, tMkr, tMth, tFnK, tMthK, tAtt, sFld, tYes, tLc_eq, tFor_eq, iList, iStr, iRng1, iRng2, iEnum, tLenSetT, tSl, tPart, tNoPart, gTup, gCons, gNil, gSub, tBM, tBM0, List.getElem?_cons_zero, List.getElem?_cons_succ, List.set_cons_zero, List.set_cons_succ, Option.some.injEq, V.bl.injEq, V.int.injEq, V.str.injEq, V.ref.injEq, exists_eq_left', exists_eq_left, exists_eq_right, exists_eq_right', and_true, true_and, scal, if_true, Bool.false_eq_true, if_false, List.cons.injEq, exists_const, false_and, and_false, ite_true, ite_false, Bool.not_true, Bool.not_false])
section
variable {P : Program} {w : World} {K : PySem.W.Frag} {mg : Str → Option Value} {base : Heap} {A : Ads}
/-! ### least_missing -/
def sp_least_missing (A : Ads) : Sp := fun vs H Q _ => ∃ (l : Addr) (as : List Addr) (rs : List Rc), vs = [.ref l] ∧ Book A H l as rs ∧ isLog rs = true ∧ (∀ r ∈ rs, r.1 < 2) ∧ ∀ m H', Same H H' → IsLM (rs.map fun r => r.2.2) m → Q (.int m) H'
theorem p_least_missing (T : Tx K mg A) : Pur N_least_missing ps_least_missing (t_least_missing P w K mg base A) (sp_least_missing A) := by
  intro vs H Q E h
  obtain ⟨l, as, rs, rfl, b, hl, h3, q⟩ := h
  refine ⟨rfl, ?_⟩
  have h40 := log_40 hl
  show t_least_missing P w K mg base A E _ [some (.ref l), none, none, none, none] H
  unfold t_least_missing
  walk_at "rd"
  refine ⟨6, _, fn_need_growing T, by decide, l, as, rs, rfl, b, hl, h3, fun H1 s1 => ?_⟩
  have b1 := b.same s1
  refine ⟨⟨_, .inl (.inl b1.lst)⟩, lc_book b1 (by omega) (fun r => .int r.2.2) (fun x => rfl) (fun a r H2 s2 rc hr => fun Q' q' => ?_) fun D H2 hD s2 hl => ?_⟩
  · exact ⟨.ref a, rfl, a, _, rfl, att_slot T rc, q' H2 (Same.refl _)⟩
  refine ⟨rs.map fun r => r.2.2, .inl (.inl ?_), fun ns' p hp hs hpn => ?_⟩
  · rw [hl, List.map_map]; rfl
  have b2 := (b1.same s2).same (Same.new (o := .lst (ns'.map V.int)) hpn)
  have nl : ns'.length = rs.length := by rw [hp.length_eq, List.length_map]
  refine ⟨by decide, fun p1 hp1 => ?_⟩
  refine ⟨p, ns'.map V.int, rfl, .inl (.inl ?_), ?_⟩
  · rw [upd_ne (ne_of_none (H := upd H2 p (.lst (ns'.map V.int))) upd_same hp1)]; exact upd_same
  have s3 : Same H2 (upd (upd H2 p (.lst (ns'.map V.int))) p1 (.lst [V.int 0])) := (Same.new hpn).trans (Same.new hp1)
  have np : p ≠ p1 := ne_of_none (H := upd H2 p (.lst (ns'.map V.int))) upd_same hp1
  have hsq : SqL K (upd (upd H2 p (.lst (ns'.map V.int))) p1 (.lst [V.int 0])) p (ns'.map V.int) := .inl (.inl (by rw [upd_ne np]; exact upd_same))
  refine lc_goes (goes_enum hsq) (fun i => some (.int (ns'.getD i 0 - i))) (by rw [List.length_map, nl]; exact Nat.lt_of_le_of_lt h40 (by decide)) (fun i x H3 hi s4 r => ?_) fun D3 H3 hD3 s4 hl3 => ?_
  · obtain ⟨T0, y, rfl, hy, hT⟩ := r
    have hy' : y = .int (ns'.getD i 0) := by
      rw [List.length_map] at hi
      rw [List.getElem?_map, List.getElem?_eq_getElem hi] at hy
      rw [List.getD_eq_getElem?_getD, List.getElem?_eq_getElem hi]
      exact (Option.some.inj hy).symm
    subst hy'
    refine ⟨[some (.ref l), some (.ref p), none, some (.int (i : Nat)), some (.int (ns'.getD i 0))], rfl, fun R r => ?_, Evt.yes, fun H4 s5 Q' q' => ⟨_, rfl, _, rfl, q' H4 (Same.refl _)⟩⟩
    exact ⟨T0, _, rfl, .inl (.inl hT), rfl, _, _, rfl, _, _, rfl, rfl, r⟩
  · refine ⟨_, _, s4 _ _ upd_same, hl3, ?_, fun p4 hp4 => ?_⟩
    · rw [range_some]
      simp only [List.length_map, List.length_range, List.length_cons, List.length_nil, nl]
      exact Nat.le_trans (by omega : 0 + 1 + rs.length ≤ 1000) (by decide)
    refine ⟨0 :: diffs ns', .inl (.inl ?_), by simp, fun m hm hle => q m _ ?_ ⟨ns', hp, hs, hm, hle⟩⟩
    · rw [upd_same, range_some]
      simp [diffs, Function.comp_def]
    · exact (((s1.trans s2).trans s3).trans s4).trans (Same.new hp4)
theorem fn_least_missing (T : Tx K mg A) : Fn P w K mg base 7 "least_missing" (sp_least_missing A) := T.f_least_missing.fn sc_least_missing (fun hr => d_least_missing T.G hr) (p_least_missing T)
theorem fnK_least_missing (T : Tx K mg A) : FnK P w K mg base 7 "least_missing" ["log"] id (sp_least_missing A) := T.f_least_missing.fnK1 sc_least_missing (fun hr => d_least_missing T.G hr) (p_least_missing T) fun _ _ _ _ _ _ _ => rfl
end
end K
namespace K
open PySem PySem.Spec PyProof.Rows L2 U ClX M
local macro_rules | `(tactic| walk_at "rd") => `(tactic| simp only [tSeq, tRet, tIfS, tAsg, tDrop, tNext, tNever, tRetN, tAndV, tOrV, tNotV, tAnd, tOr, tNot, tB, tTest, tChain, tCB, tCons, tNil, tVar, tC, tOp, tUn, tIf, gName, uLe, uLt, uGe, uGt, uCmp, uAdd, uSub, uMul, uDiv, uMod, uPow, uNeg, uEq, uNe, uIs, uIsNot, uIx, uIn, cIsi, cLen, cAll, cMax, cMin, cAbs, cSort, cSortD, cInt, cTuple, cRepr, cList, tLstRg, tTupRg, tRg1, tRg2, sDPut, tDNewK, tAug, ipI, iZip, tLst, tTup, tPar, tPar3, tFn, tMkr, tMth, tFnK, tMthK, tAtt, sFld, tYes, tLc_eq, tFor_eq, iList, iStr, iRng1, iRng2, iEnum, tLenSetT, tSl, tPart, tNoPart, gTup, gCons, gNil, gSub, tBM, tBM0, List.getElem?_cons_zero, List.getElem?_cons_succ, List.set_cons_zero, List.set_cons_succ, Option.some.injEq, V.bl.injEq, V.int.injEq, V.str.injEq, V.ref.injEq, exists_eq_left', exists_eq_left, exists_eq_right, exists_eq_right', and_true, true_and, scal, if_true, Bool.false_eq_true, if_false, List.cons.injEq, exists_const, false_and, and_false, ite_true, ite_false, Bool.not_true, Bool.not_false])
section
variable {P : Program} {w : World} {K : PySem.W.Frag} {mg : Str → Option Value} {base : Heap} {A : Ads}
/-! ### the tape: drawn numbers -/
theorem bits_le {i : Int} {n : Nat} (h0 : 0 < n) (h : i.natAbs < 2 ^ n) : Builtin.Int.intBits i ≤ n := by
  have := PySem.Flt.log2_lt_of h0 h
  unfold Builtin.Int.intBits
  split <;> omega
/-- a tape of which at most c numbers were mixed -/
def TapeL (c : Int) (xs : List V) : Prop := ∃ n0 n1 n2 : Int, xs = [.int n0, .int n1, .int n2] ∧ 0 ≤ n0 ∧ 0 ≤ n1 ∧ n1 < 2 ^ 200 ∧ 0 ≤ n2 ∧ n2 ≤ c
theorem TapeL.mono {c d : Int} {xs : List V} (h : TapeL c xs) (hd : c ≤ d) : TapeL d xs := by
  obtain ⟨n0, n1, n2, e, h1, h2, h3, h4, h5⟩ := h
  exact ⟨n0, n1, n2, e, h1, h2, h3, h4, by omega⟩
def sp_next : Sp := fun vs H Q _ => ∃ (a : Addr) (sz c : Int) (xs : List V), vs = [.ref a, .int sz] ∧ H a = some (.lst xs) ∧ TapeL c xs ∧ c ≤ 1000000 ∧ 0 < sz ∧ sz ≤ 1000 ∧
  ∀ r ys, 0 ≤ r → r < sz → TapeL (c + 1) ys → Q (.int r) (upd H a (.lst ys))
theorem p_next : Pur N_law_next ps_law_next (t_law_next P w K mg base A) sp_next := by
  intro vs H Q E h
  obtain ⟨a, sz, c, xs, rfl, ha, ⟨n0, n1, n2, rfl, h0, h1, h1', h2, h2'⟩, hc, hs, hs', q⟩ := h
  refine ⟨rfl, ?_⟩
  show t_law_next P w K mg base A E _ [some (.ref a), some (.int sz), none, none] H
  unfold t_law_next
  walk_at "rd"
  refine ⟨_, _, .inl (.inl (.inl ha)), at_of (j := 0) rfl rfl, ?_⟩
  walk_at "rd"
  have lg : sz.natAbs.log2 < 9000 := Nat.lt_of_lt_of_le (PySem.Flt.log2_lt_of (show 0 < 10 by decide) (show sz.natAbs < 2 ^ 10 by omega)) (by decide)
  by_cases c0 : 0 < n0
  · rw [if_pos (decide_eq_true c0)]
    refine ⟨_, _, .inl (.inl (.inl ha)), at_of (j := 0) rfl rfl, hs, _, _, .inl (.inl (.inl ha)), at_of (j := 0) rfl rfl, ⟨hs, lg⟩, a, _, 0, 0, rfl, rfl, ha, rfl, ?_⟩
    exact q _ _ (Int.emod_nonneg _ (by omega)) (Int.emod_lt_of_pos _ hs) ⟨n0 / sz, n1, n2, rfl, Int.ediv_nonneg h0 (by omega), h1, h1', h2, by omega⟩
  · rw [if_neg (by simpa using c0)]
    refine ⟨_, _, .inl (.inl (.inl ha)), at_of (j := 2) rfl rfl, a, _, 2, 2, rfl, rfl, ha, rfl, _, _, .inl (.inl (.inl upd_same)), at_of (j := 1) rfl rfl, _, _, .inl (.inl (.inl upd_same)), at_of (j := 2) rfl rfl, .inl ⟨by decide, by decide⟩, ?_⟩
    have b1 : Builtin.Int.intBits (n1 + 10000019 * (n2 + 1)) ≤ 201 := bits_le (by decide) (by omega)
    refine ⟨⟨by decide, by omega⟩, ⟨by decide, by decide⟩, by decide, _, _, .inl (.inl (.inl upd_same)), at_of (j := 2) rfl rfl, .inl ⟨by decide, by decide⟩, ?_⟩
    have m0 : 0 ≤ (n1 + 10000019 * (n2 + 1)) ^ Int.toNat 3 % (10 ^ Int.toNat 41 + 37) := Int.emod_nonneg _ (by decide)
    have m1 : (n1 + 10000019 * (n2 + 1)) ^ Int.toNat 3 % (10 ^ Int.toNat 41 + 37) < 10 ^ Int.toNat 41 + 37 := Int.emod_lt_of_pos _ (by decide)
    generalize (n1 + 10000019 * (n2 + 1)) ^ Int.toNat 3 % (10 ^ Int.toNat 41 + 37) = m at m0 m1
    have m2 : (10 : Int) ^ Int.toNat 41 + 37 < 2 ^ 150 := by decide
    have b2 : Builtin.Int.intBits (m + 32452843 * (n2 + 1)) ≤ 151 := bits_le (by decide) (by omega)
    refine ⟨⟨by decide, by omega⟩, ⟨by decide, by decide⟩, by decide, ⟨by decide, by decide⟩, hs, ?_⟩
    exact q _ _ (Int.emod_nonneg _ (by omega)) (Int.emod_lt_of_pos _ hs) ⟨n0, n1, n2 + 1, rfl, h0, h1, h1', by omega, by omega⟩
theorem fn_next (T : Tx K mg A) : Fn P w K mg base 2 "_law_next" sp_next := T.f_law_next.fn sc_law_next (fun hr => d_law_next T.G hr) p_next
def sp_tape (K : PySem.W.Frag) : Sp := fun vs H Q _ => ∃ (a : Addr) (ns : List Int) (k : Int), vs = [.ref a, .int k] ∧ SqL K H a (ns.map V.int) ∧ 0 ≤ k ∧ k ≤ 100 ∧ ∀ p xs, H p = none → TapeL 0 xs → Q (.ref p) (upd H p (.lst xs))
theorem p_tape : Pur N_law_tape ps_law_tape (t_law_tape P w K mg base A) (sp_tape K) := by
  intro vs H Q E h
  obtain ⟨a, ns, k, rfl, ha, k0, k1, q⟩ := h
  refine ⟨rfl, ?_⟩
  show t_law_tape P w K mg base A E _ [some (.ref a), some (.int k), none] H
  unfold t_law_tape
  walk_at "rd"
  refine ⟨_, .inl ha, ?_⟩
  have fin : ∀ x : Int, 0 ≤ x → (((0 : Int) ≤ 18 ∧ (Builtin.Int.intBits 10 : Int) * 18 ≤ 2 ^ 27) ∧ ((0 : Int) ≤ 39 ∧ (Builtin.Int.intBits 10 : Int) * 39 ≤ 2 ^ 27) ∧ 0 < (10 : Int) ^ Int.toNat 39 + 3 ∧ CMul (x % (10 ^ Int.toNat 39 + 3)) 71 ∧ 3 ≤ sizeLine ∧
      TapeL 0 [.int (if x - 10 ^ Int.toNat 18 > 0 then x - 10 ^ Int.toNat 18 else 0), .int (x % (10 ^ Int.toNat 39 + 3) * 71 + k), .int 0]) := by
    intro x hx
    refine ⟨⟨by decide, by decide⟩, ⟨by decide, by decide⟩, by decide, .inr ⟨by decide, by decide⟩, by decide, ?_⟩
    have m0 : 0 ≤ x % (10 ^ Int.toNat 39 + 3) := Int.emod_nonneg _ (by decide)
    have m1 : x % (10 ^ Int.toNat 39 + 3) < 10 ^ Int.toNat 39 + 3 := Int.emod_lt_of_pos _ (by decide)
    have m2 : (10 : Int) ^ Int.toNat 39 + 3 < 2 ^ 150 := by decide
    refine ⟨_, _, _, rfl, ?_, ?_, ?_, by omega, by omega⟩
    · split <;> omega
    · omega
    · omega
  by_cases c : k < ns.length
  · rw [if_pos (by simpa using c)]
    obtain ⟨j, rfl⟩ : ∃ j : Nat, k = j := ⟨k.toNat, by omega⟩
    have hj : j < ns.length := by omega
    refine ⟨_, .int ns[j], .inl ha, at_of (j := j) rfl (by rw [List.getElem?_map, List.getElem?_eq_getElem hj]; rfl), ?_⟩
    obtain ⟨f1, f2, f3, f4, f5, f6⟩ := fin (if ns[j] < 0 then -ns[j] else ns[j]) (by split <;> omega)
    exact ⟨f1, f2, f3, f4, f5, fun p hp => q p _ hp f6⟩
  · rw [if_neg (by simpa using c)]
    obtain ⟨f1, f2, f3, f4, f5, f6⟩ := fin 0 (by decide)
    exact ⟨f1, f2, f3, f4, f5, fun p hp => q p _ hp f6⟩
theorem fn_tape (T : Tx K mg A) : Fn P w K mg base 2 "_law_tape" (sp_tape K) := T.f_law_tape.fn sc_law_tape (fun hr => d_law_tape T.G hr) p_tape
/-! ### drawn items -/
/-- a text of the pool -/
structure Pool (xs : List Str) : Prop where
  nd : xs.Nodup
  it : ∀ x ∈ xs, isItem x = true
def pool0 : List Str := (List.range 26).map (fun i => (⟨#[97 + i]⟩ : Str)) ++ (List.range 26).map (fun i => (⟨#[122, 97 + i]⟩ : Str)) ++ (List.range 26).map (fun i => (⟨#[97, 98, 99, 100, 101, 102, 103, 97 + i]⟩ : Str))
theorem pool0_ok : Pool pool0 := ⟨by decide +kernel, by decide +kernel⟩
/-- H' is H but for the tape's list at a, which stands anew, and for new objects -/
def But (a : Addr) (H H' : Hp) : Prop := ∀ b o, b ≠ a → H b = some o → H' b = some o
theorem But.refl {a : Addr} {H : Hp} : But a H H := fun _ _ _ h => h
theorem But.trans {a : Addr} {H H1 H2 : Hp} (x : But a H H1) (y : But a H1 H2) : But a H H2 := fun b o hb e => y b o hb (x b o hb e)
theorem But.same {a : Addr} {H H1 : Hp} (x : Same H H1) : But a H H1 := fun b o _ e => x b o e
theorem But.upd {a : Addr} {H : Hp} {o : HO} : But a H (upd H a o) := fun b o hb e => by rw [upd_ne hb]; exact e
theorem But.mut {a p : Addr} {H H1 : Hp} {o : HO} (x : But a H H1) (hp : H p = none) : But a H (L2.upd H1 p o) := fun b u hb e => by rw [upd_ne (ne_of_none e hp)]; exact x b u hb e
/-- the tape stands at a -/
def Tape (H : Hp) (a : Addr) (c : Int) : Prop := ∃ xs, H a = some (.lst xs) ∧ TapeL c xs
theorem Tape.same {H H' : Hp} {a : Addr} {c : Int} (t : Tape H a c) (s : Same H H') : Tape H' a c := let ⟨xs, h, t⟩ := t; ⟨xs, s _ _ h, t⟩
theorem Tape.mono {H : Hp} {a : Addr} {c d : Int} (t : Tape H a c) (h : c ≤ d) : Tape H a d := let ⟨xs, h1, t⟩ := t; ⟨xs, h1, t.mono h⟩
/-- next as one step -/
theorem next_ok {H : Hp} {a : Addr} {c sz : Int} {Q : VK} {E : XK} (t : Tape H a c) (hc : c ≤ 1000000) (h0 : 0 < sz) (h1 : sz ≤ 1000) (q : ∀ r H', 0 ≤ r → r < sz → Tape H' a (c + 1) → But a H H' → (∀ b, b ≠ a → H' b = H b) → Q (.int r) H') : sp_next [.ref a, .int sz] H Q E := by
  obtain ⟨xs, h, t⟩ := t
  exact ⟨a, sz, c, xs, rfl, h, t, hc, h0, h1, fun r ys r0 r1 ty => q r _ r0 r1 ⟨ys, upd_same, ty⟩ But.upd fun b hb => upd_ne hb⟩
theorem erase_map {α β : Type} (f : α → β) : ∀ (l : List α) (j : Nat), (l.map f).eraseIdx j = (l.eraseIdx j).map f
  | [], _ => rfl
  | _ :: _, 0 => rfl
  | x :: l, j + 1 => congrArg (f x :: ·) (erase_map f l j)
theorem move_perm {α : Type} (zs rest : List α) (j : Nat) (h : j < rest.length) : ((zs ++ [rest[j]]) ++ rest.eraseIdx j).Perm (zs ++ rest) := by
  rw [List.append_assoc]
  exact List.Perm.append_left zs (erase_perm rest j h)
theorem Tape.other {H : Hp} {a p : Addr} {c : Int} {o : HO} (t : Tape H a c) (h : p ≠ a) : Tape (upd H p o) a c := let ⟨xs, h1, t⟩ := t; ⟨xs, by rw [upd_ne (Ne.symm h)]; exact h1, t⟩
def sp_items : Sp := fun vs H Q _ => ∃ (a : Addr) (c : Int) (n : Nat), vs = [.ref a, .int n] ∧ Tape H a c ∧ c ≤ 900000 ∧ n ≤ 70 ∧
  ∀ (p : Addr) (zs : List Str) (H' : Hp), H p = none → zs.length = n → zs.Nodup → (∀ z ∈ zs, z ∈ pool0) → H' p = some (.lst (zs.map V.str)) → Tape H' a (c + n) → But a H H' → Q (.ref p) H'
theorem lc_text {z : Str} {te : TE} {v : Nat} {σ : L2.St} {H1 : Hp} {Q : VK} (f : Nat → V) (hz : z.cps.size ≤ 1000) (hv : ∀ x, wipe ((wipe σ [v]).set v (some x)) [v] = wipe σ [v])
    (turn : ∀ (i c : Nat) (H : Hp), z.cps[i]? = some c → Evs te ((wipe σ [v]).set v (some (.str ⟨#[c]⟩))) H (f c)) (hq : ∀ D H', H1 D = none → Same H1 H' → H' D = some (.lst (z.cps.toList.map f)) → Q (.ref D) H') : LcB (Its z) (gName v) tYes te [v] σ H1 Q := by
  refine lc_goes goes_str (fun i => (z.cps.toList[i]?).map f) (Nat.lt_of_le_of_lt hz (by decide)) (fun i x H hi s r => ?_) fun D H' hD s hl => hq D H' hD s ?_
  · obtain ⟨c, hc, rfl⟩ := r
    have e : z.cps.toList[i]? = some c := by rw [Array.getElem?_toList]; exact hc
    rw [e]
    exact ⟨(wipe σ [v]).set v (some (.str ⟨#[c]⟩)), hv _, fun R r => r, Evt.yes, fun H3 s3 => turn i c H3 hc⟩
  · rw [hl]
    congr 2
    have e := range_list (fun r => some (f r)) z.cps.toList
    rw [List.filterMap_eq_map', Array.length_toList] at e
    rw [← e]
    congr 1
    funext i
    cases z.cps.toList[i]? <;> rfl
theorem p_items (T : Tx K mg A) : Pur N_law_items ps_law_items (t_law_items P w K mg base A) sp_items := by
  intro vs H Q E h
  obtain ⟨a, c, n, rfl, t, hc, hn, q⟩ := h
  refine ⟨rfl, ?_⟩
  show t_law_items P w K mg base A E _ [some (.ref a), some (.int n), none, none, none, none] H
  unfold t_law_items
  walk_at "rd"
  refine lc_text (fun c => .str ⟨#[c]⟩) (by decide +kernel) (fun x => rfl) (fun i c H _ Q q => ⟨_, rfl, q H (Same.refl _)⟩) fun D1 H1 hD1 s1 hl1 => ?_
  refine lc_text (fun c => .str ("z" ++ ⟨#[c]⟩)) (by decide +kernel) (fun x => rfl) (fun i c H _ Q q => ⟨_, rfl, ⟨(by show 1 + 1 ≤ sizeLine; decide), q H (Same.refl _)⟩⟩) fun D2 H2 hD2 s2 hl2 => ?_
  have n12 : D1 ≠ D2 := ne_of_none hl1 hD2
  have hl1' := s2 _ _ hl1
  refine ⟨_, _, hl1', hl2, (by decide +kernel), fun p3 hp3 => ?_⟩
  refine lc_text (fun c => .str ("abcdefg" ++ ⟨#[c]⟩)) (by decide +kernel) (fun x => rfl) (fun i c H _ Q q => ⟨_, rfl, ⟨(by show 7 + 1 ≤ sizeLine; decide), q H (Same.refl _)⟩⟩) fun D4 H4 hD4 s4 hl4 => ?_
  refine ⟨_, _, s4 _ _ upd_same, hl4, (by decide +kernel), fun pl hpl => ?_⟩
  have ep : (List.map (fun c => V.str { cps := #[c] }) (Str.ofString "abcdefghijklmnopqrstuvwxyz").cps.toList ++ List.map (fun c => V.str (Str.ofString "z" ++ { cps := #[c] })) (Str.ofString "abcdefghijklmnopqrstuvwxyz").cps.toList ++ List.map (fun c => V.str (Str.ofString "abcdefg" ++ { cps := #[c] })) (Str.ofString "abcdefghijklmnopqrstuvwxyz").cps.toList) = pool0.map V.str := by decide +kernel
  rw [ep]
  have S : Same H (upd H4 pl (.lst (pool0.map V.str))) := (((s1.trans s2).trans (Same.new hp3)).trans s4).trans (Same.new hpl)
  generalize hH5 : upd H4 pl (.lst (pool0.map V.str)) = H5 at S
  have hpool : H5 pl = some (.lst (pool0.map V.str)) := by rw [← hH5]; exact upd_same
  have fpl : H pl = none := (((s1.trans s2).trans (Same.new hp3)).trans s4).free hpl
  refine ⟨by omega, by omega, fun D hD => L2.lc_range (n := n) (fun i G => ∃ zs rest : List Str, zs.length = i ∧ rest.length + i = 78 ∧ (zs ++ rest).Nodup ∧ (∀ z ∈ zs ++ rest, z ∈ pool0) ∧ G D = some (.lst (zs.map V.str)) ∧ G pl = some (.lst (rest.map V.str)) ∧ Tape G a (c + i) ∧ But a H G) ?_ ?_ ?_⟩
  · have fD : H D = none := S.free hD
    refine ⟨[], pool0, rfl, by decide +kernel, pool0_ok.nd, (fun z hz => hz), upd_same, ?_, ?_, (But.same S).mut fD⟩
    · rw [upd_ne (ne_of_none hpool hD)]; exact hpool
    · have := (t.same S).same (Same.new (o := .lst []) hD)
      simpa using this
  · rintro i G hi ⟨zs, rest, hz, hr, nd, it, gD, gpl, tp, bt⟩
    refine ⟨rfl, ?_⟩
    show tBM K "list" rPopAt (tVar 3) _ [some (.ref a), some (.int n), some (.str "abcdefghijklmnopqrstuvwxyz"), some (.ref pl), none, some (.int (0 + i))] G _
    walk_at "rd"
    refine ⟨.inl ⟨rfl, _, .inl (.inl gpl)⟩, 2, _, fn_next T, by decide, _, .inl (.inl (.inl gpl)), next_ok tp (by omega) ?_ ?_ fun r G1 r0 r1 tp1 bt1 eq1 => ?_⟩
    · rw [List.length_map]; omega
    · rw [List.length_map]; omega
    rw [List.length_map] at r1
    have na : pl ≠ a := fun e => by subst e; obtain ⟨xs, hx, _⟩ := t; rw [fpl] at hx; cases hx
    have nD : D ≠ a := fun e => by subst e; obtain ⟨xs, hx, _⟩ := t.same S; rw [hD] at hx; cases hx
    have nDp : D ≠ pl := fun e => by subst e; rw [hpool] at hD; cases hD
    obtain ⟨j, rfl⟩ : ∃ j : Nat, r = j := ⟨r.toNat, by omega⟩
    have hj : j < rest.length := by omega
    refine ⟨pl, _, j, j, .str rest[j], rfl, rfl, (eq1 pl na).trans gpl, by omega, by omega, ?_, ?_, zs.map V.str, ?_, ?_, ?_⟩
    · rw [List.length_map]; simp [seqIndex?, hj]; omega
    · rw [List.getElem?_map, List.getElem?_eq_getElem hj]; rfl
    · rw [upd_ne nDp, eq1 D nD]; exact gD
    · rw [List.length_map, hz]; exact Nat.lt_of_lt_of_le (by omega : i < 1000) (by decide)
    have er : (rest.map V.str).eraseIdx j = (rest.eraseIdx j).map V.str := erase_map _ _ _
    refine ⟨zs ++ [rest[j]], rest.eraseIdx j, by simp [hz], by rw [List.length_eraseIdx_of_lt hj]; omega, ?_, ?_, ?_, ?_, ?_, ?_⟩
    · exact (move_perm zs rest j hj).nodup_iff.mpr nd
    · exact fun z hz => it z ((move_perm zs rest j hj).mem_iff.mp hz)
    · rw [upd_same, List.map_append]; rfl
    · rw [upd_ne (Ne.symm nDp), upd_same, er]
    · have := (tp1.other (o := .lst ((rest.map V.str).eraseIdx j)) na).other (o := .lst (zs.map V.str ++ [V.str rest[j]])) nD
      exact this.mono (by omega)
    · exact ((bt.trans bt1).mut fpl).mut (S.free hD)
  · rintro G ⟨zs, rest, hz, hr, nd, it, gD, gpl, tp, bt⟩
    exact q D zs G (S.free hD) hz (List.nodup_append.mp nd).1 (fun z h => it z (List.mem_append_left _ h)) gD tp bt
theorem fn_items (T : Tx K mg A) : Fn P w K mg base 3 "_law_items" sp_items := T.f_law_items.fn sc_law_items (fun hr => d_law_items T.G hr) (p_items T)
/-! ### made, facts -/
def sp_made (A : Ads) : Sp := fun vs H Q _ => ∃ (k : Nat) (z : Str) (n : Int), vs = [.int k, .str z, .int n] ∧ k < 3 ∧ isItem z = true ∧ 0 ≤ n ∧ n ≤ 60 ∧ ∀ p H', H p = none → Same H H' → Rec A H' p k z n → Q (.ref p) H'
theorem p_made (T : Tx K mg A) : Pur N_law_made ps_law_made (t_law_made P w K mg base A) (sp_made A) := by
  intro vs H Q E h
  obtain ⟨k, z, n, rfl, hk, hz, h0, h60, q⟩ := h
  refine ⟨rfl, ?_⟩
  show t_law_made P w K mg base A E _ [some (.int k), some (.str z), some (.int n)] H
  unfold t_law_made
  walk_at "rd"
  match k, hk, q with
  | 0, hk, q => exact ⟨3, _, _, mkr T (k := 0) (by decide), by decide, made_ok T (by decide) hz h0 h60 q⟩
  | 1, hk, q => exact ⟨3, _, _, mkr T (k := 1) (by decide), by decide, made_ok T (by decide) hz h0 h60 q⟩
  | 2, hk, q => exact ⟨3, _, _, mkr T (k := 2) (by decide), by decide, made_ok T (by decide) hz h0 h60 q⟩
theorem fn_made (T : Tx K mg A) : Fn P w K mg base 5 "_law_made" (sp_made A) := T.f_law_made.fn sc_law_made (fun hr => d_law_made T.G hr) (p_made T)
/-- what is told of a record -/
def fact (r : Rc) : PyData := .tuple [.list [.bool (decide (r.1 = 0)), .bool (decide (r.1 = 1)), .bool (decide (r.1 = 2))], .str r.2.1, .int r.2.2]
def sp_facts (K : PySem.W.Frag) (A : Ads) : Sp := fun vs H Q _ => ∃ (l : Addr) (as : List Addr) (rs : List Rc), vs = [.ref l] ∧ Book A H l as rs ∧ rs.length ≤ 1000 ∧ ∀ p H', H p = none → Same H H' → Dp K H' (.ref p) (.list (rs.map fact)) → Q (.ref p) H'
theorem isi_rec3 (T : Tx K mg A) {H : Hp} {a : Addr} {k j : Nat} {x : Str} {n : Int} (r : Rec A H a k x n) (hj : j < 3) : Isi K H (.ref a) (.ref (A.kind j)) (decide (k = j)) := by
  have h := isi_rec T r (j := j) (by omega)
  have e : decide (k = j ∨ j = 3) = decide (k = j) := by
    rw [Bool.eq_iff_iff]; simp only [decide_eq_true_eq]; omega
  rwa [e] at h
theorem item_ok {z : Str} (h : isItem z = true) : PyData.strOk z = true := by
  unfold isItem at h
  simp only [Bool.and_eq_true, List.all_eq_true, decide_eq_true_eq] at h
  unfold PyData.strOk
  rw [← Array.all_toList, List.all_eq_true]
  intro c hc
  have := h.2 c hc
  simp only [decide_eq_true_eq]
  omega
theorem fact_ok {r : Rc} (h : isItem r.2.1 = true) : okD 2 (fact r) := by
  refine okD.tuple fun d hd => ?_
  simp only [List.mem_cons, List.not_mem_nil, or_false] at hd
  rcases hd with rfl | rfl | rfl
  · refine okD.list fun d hd => ?_
    simp only [List.mem_cons, List.not_mem_nil, or_false] at hd
    rcases hd with rfl | rfl | rfl <;> exact okD.bool
  · exact okD.str (item_ok h)
  · exact okD.int
/-- what H' has and H has not -/
def newer (H H' : Hp) : Hp := fun b => match H b with | none => H' b | some _ => none
theorem newer_same {H H' : Hp} : Same (newer H H') H' := fun b o e => by
  unfold newer at e
  split at e
  · exact e
  · cases e
theorem newer_get {H H' : Hp} {b : Addr} {o : HO} (h : H b = none) (e : H' b = some o) : newer H H' b = some o := by unfold newer; rw [h]; exact e
theorem newer_mono {H H1 H2 : Hp} (s : Same H1 H2) : Same (newer H H1) (newer H H2) := fun b o e => by
  unfold newer at e
  split at e
  · rename_i h; exact newer_get h (s b o e)
  · cases e
/-- all but a known address: what is new stays -/
theorem newer_but {H H1 H2 : Hp} {tp : Addr} {o : HO} (h : H tp = some o) (b : But tp H1 H2) : Same (newer H H1) H2 := fun a u e => by
  refine b a u (fun z => ?_) (newer_same a u e)
  subst z
  unfold newer at e
  rw [h] at e
  cases e
def sp_factsN (K : PySem.W.Frag) (A : Ads) : Sp := fun vs H Q _ => ∃ (l : Addr) (as : List Addr) (rs : List Rc), vs = [.ref l] ∧ Book A H l as rs ∧ rs.length ≤ 1000 ∧ ∀ p H', H p = none → Same H H' → Dp K (newer H H') (.ref p) (.list (rs.map fact)) → Q (.ref p) H'
theorem p_factsN (T : Tx K mg A) : Pur N_law_facts ps_law_facts (t_law_facts P w K mg base A) (sp_factsN K A) := by
  intro vs H Q E h
  obtain ⟨l, as, rs, rfl, b, hn, q⟩ := h
  refine ⟨rfl, ?_⟩
  show t_law_facts P w K mg base A E _ [some (.ref l), none, none, none] H
  unfold t_law_facts
  walk_at "rd"
  refine ⟨by decide, fun F hF => ?_⟩
  have s0 : Same H (upd H F (.lst [])) := Same.new hF
  refine ⟨⟨_, .inl (.inl (s0 _ _ b.lst))⟩, for_list (K := K) (a := l) (xs := as.map V.ref) (fun i σ G => ∃ ys v2 v3, σ = [some (.ref l), some (.ref F), v2, v3] ∧ Same H G ∧ G F = some (.lst ys) ∧ DpAll K (hide F (newer H G)) ys ((rs.take i).map fact)) ⟨[], none, none, rfl, s0, upd_same, .nil⟩ (fun i σ G _ ⟨_, _, _, _, s, _⟩ => .inl (.inl (s _ _ b.lst))) ?_ ?_⟩
  · rintro i x σ G hi ⟨ys, v2, v3, rfl, s, hl, dp⟩
    obtain ⟨a, r, rfl, ha, hr, rc⟩ := (b.same s).get hi
    walk_at "rd"
    refine ⟨_, isi_rec3 T rc (j := 0) (by decide), _, isi_rec3 T rc (j := 1) (by decide), _, isi_rec3 T rc (j := 2) (by decide), (by show 3 ≤ sizeLine; decide), fun p1 hp1 => ?_⟩
    have s1 : Same G (upd G p1 (.lst [.bl (decide (r.1 = 0)), .bl (decide (r.1 = 1)), .bl (decide (r.1 = 2))])) := Same.new hp1
    have n1 : p1 ≠ F := Ne.symm (ne_of_none hl hp1)
    refine ⟨.inl ⟨rfl, _, .inl (.inl (s1 _ _ hl))⟩, _, _, rfl, att_item T (rc.same s1), _, _, rfl, att_slot T (rc.same s1), (by show 3 ≤ sizeLine; decide), fun p2 hp2 => ?_⟩
    have s2 := Same.new (o := .tup [.ref p1, .str r.2.1, .int r.2.2]) hp2
    have n2 : p2 ≠ F := Ne.symm (ne_of_none (s1 _ _ hl) hp2)
    have yl := dpa_len dp
    rw [List.length_map, List.length_take] at yl
    have hi' : i < rs.length := (List.getElem?_eq_some_iff.mp hr).1
    refine ⟨F, ys, _, rfl, rfl, s2 _ _ (s1 _ _ hl), Nat.lt_of_lt_of_le (by omega : ys.length < 1001) (by decide), ys ++ [.ref p2], _, _, ⟨rfl, rfl⟩, ((s.trans s1).trans s2).mut hF, upd_same, ?_⟩
    have eh : hide F (newer H (upd (upd (upd G p1 (.lst [.bl (decide (r.1 = 0)), .bl (decide (r.1 = 1)), .bl (decide (r.1 = 2))])) p2 (.tup [.ref p1, .str r.2.1, .int r.2.2])) F (.lst (ys ++ [.ref p2])))) = hide F (newer H (upd (upd G p1 (.lst [.bl (decide (r.1 = 0)), .bl (decide (r.1 = 1)), .bl (decide (r.1 = 2))])) p2 (.tup [.ref p1, .str r.2.1, .int r.2.2]))) := by
      funext b
      unfold hide newer
      by_cases c : b = F
      · rw [if_pos c, if_pos c]
      · rw [if_neg c, if_neg c, upd_ne c]
    rw [eh, List.take_add_one, hr, List.map_append]
    refine dpa_snoc (dpa_same (hide_mono (newer_mono (s1.trans s2))) _ _ dp) (.tup (.inl (.inl (hide_get (newer_get ((s.trans s1).free hp2) upd_same) n2))) (.cons (.lst (.inl (.inl (hide_get (newer_get (s.free hp1) (s2 _ _ upd_same)) n1))) (.cons (.bl _) (.cons (.bl _) (.cons (.bl _) .nil)))) (.cons (.str _) (.cons (.int _) .nil))))
  · rintro σ G ⟨ys, v2, v3, rfl, s, hl, dp⟩
    walk_at "rd"
    rw [book_len b, List.take_length] at dp
    exact q F G hF s (.lst (.inl (.inl (newer_get hF hl))) (dpa_same hide_same _ _ dp))
theorem p_facts (T : Tx K mg A) : Pur N_law_facts ps_law_facts (t_law_facts P w K mg base A) (sp_facts K A) := fun vs H Q E h => p_factsN T vs H Q E (let ⟨l, as, rs, e, b, n, q⟩ := h; ⟨l, as, rs, e, b, n, fun p H' hp s d => q p H' hp s (dp_same newer_same _ _ d)⟩)
theorem fn_factsN (T : Tx K mg A) : Fn P w K mg base 3 "_law_facts" (sp_factsN K A) := T.f_law_facts.fn sc_law_facts (fun hr => d_law_facts T.G hr) (p_factsN T)
theorem fn_facts (T : Tx K mg A) : Fn P w K mg base 3 "_law_facts" (sp_facts K A) := T.f_law_facts.fn sc_law_facts (fun hr => d_law_facts T.G hr) (p_facts T)
end
end K
namespace K
open PySem PySem.Spec PyProof.Rows L2 U ClX M
local macro_rules | `(tactic| walk_at "rd") => `(tactic| simp only [tSeq, tRet, tIfS, tAsg, tDrop, tNext, tNever, tRetN, tAndV, tOrV, tNotV, tAnd, tOr, tNot, tB, tTest, tChain, tCB, tCons, tNil, tVar, tC, tOp, tUn, tIf, gName, uLe, uLt, uGe, uGt, uCmp, uAdd, uSub, uMul, uDiv, uMod, uPow, uNeg, uEq, uNe, uIs, uIsNot, uIx, uIn, cIsi, cLen, cAll, cMax, cMin, cAbs, cSort, cSortD, cInt, cTuple, cRepr, cList, tLstRg, tTupRg, tRg1, tRg2, sDPut, tDNewK, tAug, ipI, iZip, tLst, tTup, tPar, tPar3, tFn, tMkr, tMth, tFnK, tMthK, tAtt, sFld, tYes, tLc_eq, tFor_eq, iList, iStr, iRng1, iRng2, iEnum, tLenSetT, tSl, tPart, tNoPart, gTup, gCons, gNil, gSub, tBM, tBM0, List.getElem?_cons_zero, List.getElem?_cons_succ, List.set_cons_zero, List.set_cons_succ, Option.some.injEq, V.bl.injEq, V.int.injEq, V.str.injEq, V.ref.injEq, exists_eq_left', exists_eq_left, exists_eq_right, exists_eq_right', and_true, true_and, scal, if_true, Bool.false_eq_true, if_false, List.cons.injEq, exists_const, false_and, and_false, ite_true, ite_false, Bool.not_true, Bool.not_false])
section
variable {P : Program} {w : World} {K : PySem.W.Frag} {mg : Str → Option Value} {base : Heap} {A : Ads}
theorem cut_to (xs : List V) (t : Nat) : cutV xs none (some (t : Int)) = xs.take t := by
  unfold cutV
  rw [HT.sIx_none, HT.sIx_nat, List.drop_zero, Nat.sub_zero]
  by_cases h : t ≤ xs.length
  · rw [Nat.min_eq_left h]
  · rw [Nat.min_eq_right (by omega), List.take_of_length_le (Nat.le_refl _), List.take_of_length_le (by omega)]
theorem cut_from (xs : List V) (t : Nat) : cutV xs (some (t : Int)) none = xs.drop t := by
  unfold cutV
  rw [HT.sIx_none, HT.sIx_nat]
  by_cases h : t ≤ xs.length
  · rw [Nat.min_eq_left h, List.take_of_length_le (by simp)]
  · rw [Nat.min_eq_right (by omega), List.drop_of_length_le (Nat.le_refl _), List.drop_of_length_le (by omega)]; simp
/-- a list of ints as data -/
def dI (r : List Int) : PyData := .list (r.map .int)
theorem dp_dI {H : Hp} {a : Addr} {r : List Int} (h : SqL K H a (r.map V.int)) : Dp K H (.ref a) (dI r) := .lst h (dpa_map r fun x _ => .int x)
theorem dpa_ints {H : Hp} : ∀ {vs : List V} (r : List Int), DpAll K H vs (r.map .int) → vs = r.map V.int
  | _, [], h => by cases h; rfl
  | _, i :: r, h => by
    cases h with
    | cons h1 h2 => cases h1; rw [dpa_ints r h2]; rfl
theorem of_dI {H : Hp} {x : V} {r : List Int} (h : Dp K H x (dI r)) : ∃ a, x = .ref a ∧ SqL K H a (r.map V.int) := by
  cases h with
  | lst hs ha => exact ⟨_, rfl, by rw [dpa_ints r ha] at hs; exact hs⟩
theorem dpa_get {H : Hp} : ∀ {vs : List V} {ds : List PyData} {i : Nat} {x : V}, DpAll K H vs ds → vs[i]? = some x → ∃ d, ds[i]? = some d ∧ Dp K H x d
  | _, _, _, _, .nil, e => by simp at e
  | _, _, 0, _, .cons h _, e => by simp at e; subst e; exact ⟨_, rfl, h⟩
  | _, _, i + 1, x, .cons _ t, e => by
    obtain ⟨d, h1, h2⟩ := dpa_get (i := i) (x := x) t (by simpa using e)
    exact ⟨d, by simpa using h1, h2⟩
theorem dI_ok (r : List Int) : okD 1 (dI r) := okD.list fun d hd => by
  obtain ⟨i, _, rfl⟩ := List.mem_map.mp hd; exact okD.int
theorem eqv_ints : ∀ r s : List Int, PyData.eqvAll (r.map .int) (s.map .int) = decide (r = s)
  | [], [] => rfl
  | [], _ :: _ => rfl
  | _ :: _, [] => rfl
  | i :: r, j :: s => by
    show (PyData.eqv (.int i) (.int j) && PyData.eqvAll (r.map .int) (s.map .int)) = _
    rw [eqv_ints r s]
    show ((i == j) && decide (r = s)) = _
    rw [Bool.eq_iff_iff]
    simp
theorem eqv_dI (r s : List Int) : PyData.eqv (dI r) (dI s) = decide (r = s) := eqv_ints r s
theorem any_dI (L : List (List Int)) (s : List Int) : ((L.map dI).any fun z => PyData.eqv z (dI s)) = decide (s ∈ L) := by
  induction L with
  | nil => rfl
  | cons r L ih =>
    rw [List.map_cons, List.any_cons, ih, eqv_dI, Bool.eq_iff_iff]
    simp only [Bool.or_eq_true, decide_eq_true_eq, List.mem_cons]
    constructor
    · rintro (h | h)
      · exact .inl h.symm
      · exact .inr h
    · rintro (h | h)
      · exact .inl h.symm
      · exact .inr h
/-- a list of ints of our own -/
def LI (H : Hp) (x : V) (r : List Int) : Prop := ∃ a, x = .ref a ∧ H a = some (.lst (r.map V.int))
theorem LI.same {H H' : Hp} {x : V} {r : List Int} (s : Same H H') (h : LI H x r) : LI H' x r := let ⟨a, e, h⟩ := h; ⟨a, e, s _ _ h⟩
/-- .. that B does not know -/
def LIf (B H : Hp) (x : V) (r : List Int) : Prop := ∃ a, x = .ref a ∧ B a = none ∧ H a = some (.lst (r.map V.int))
theorem LIf.same {B H H' : Hp} {x : V} {r : List Int} (s : Same H H') (h : LIf B H x r) : LIf B H' x r := let ⟨a, e, n, h⟩ := h; ⟨a, e, n, s _ _ h⟩
theorem Rel2.app {α : Type} {Rl : V → α → Prop} {xs ys : List V} {as bs : List α} (h : Rel2 Rl xs as) (h2 : Rel2 Rl ys bs) : Rel2 Rl (xs ++ ys) (as ++ bs) := by
  have hl := h.len
  have hl2 := h2.len
  refine ⟨by simp [hl, hl2], fun i x a h1 h3 => ?_⟩
  by_cases c : i < xs.length
  · rw [List.getElem?_append_left c] at h1
    rw [List.getElem?_append_left (by omega)] at h3
    exact h.at_ i x a h1 h3
  · rw [List.getElem?_append_right (by omega)] at h1
    rw [List.getElem?_append_right (by omega)] at h3
    exact h2.at_ (i - xs.length) x a h1 (by rw [hl]; exact h3)
theorem at_last {r : List Int} (h : r ≠ []) : atI (r.map V.int) (-1) = some (.int (r.getD (r.length - 1) 0)) := by
  have e := List.dropLast_concat_getLast h
  have g : r.getD (r.length - 1) 0 = r.getLast h := by
    rw [List.getLast_eq_getElem, List.getD, List.getElem?_eq_getElem, Option.getD_some]
  rw [g]
  conv => lhs; rw [← e]
  rw [List.map_append]
  exact atI_last _ _
theorem eqv_nil (r : List Int) : PyData.eqv (dI r) (.list []) = decide (r = []) := by
  have := eqv_dI r []
  exact this
end
end K
namespace K
open PySem PySem.Spec PyProof.Rows L2 U ClX M
local macro_rules | `(tactic| walk_at "rd") => `(tactic| simp only [tSeq, tRet, tIfS, tAsg, tDrop, tNext, tNever, tRetN, tAndV, tOrV, tNotV, tAnd, tOr, tNot, tB, tTest, tChain, tCB, tCons, tNil, tVar, tC, tOp, tUn, tIf, gName, uLe, uLt, uGe, uGt, uCmp, uAdd, uSub, uMul, uDiv, uMod, uPow, uNeg, uEq, uNe, uIs, uIsNot, uIx, uIn, cIsi, cLen, cAll, cMax, cMin, cAbs, cSort, cSortD, cInt, cTuple, cRepr, cList, tLstRg, tTupRg, tRg1, tRg2, sDPut, tDNewK, tAug, ipI, iZip, tLst, tTup, tPar, tPar3, tFn, tMkr, tMth, tFnK, tMthK, tAtt, sFld, tYes, tLc_eq, tFor_eq, iList, iStr, iRng1, iRng2, iEnum, tLenSetT, tSl, tPart, tNoPart, gTup, gCons, gNil, gSub, tBM, tBM0, List.getElem?_cons_zero, List.getElem?_cons_succ, List.set_cons_zero, List.set_cons_succ, Option.some.injEq, V.bl.injEq, V.int.injEq, V.str.injEq, V.ref.injEq, exists_eq_left', exists_eq_left, exists_eq_right, exists_eq_right', and_true, true_and, scal, if_true, Bool.false_eq_true, if_false, List.cons.injEq, exists_const, false_and, and_false, ite_true, ite_false, Bool.not_true, Bool.not_false])
section
variable {P : Program} {w : World} {K : PySem.W.Frag} {mg : Str → Option Value} {base : Heap} {A : Ads}
/-! ### logs at hand -/
theorem ddS_new {acc : List Str} {x : Str} (h : x ∉ acc) : ddS acc x = acc ++ [x] := by
  unfold ddS
  rw [if_neg]
  rw [List.any_eq_true]
  rintro ⟨y, hy, e⟩
  exact h (by rw [beq_iff_eq] at e; rw [← e]; exact hy)
theorem dd_nodup {xs : List Str} (h : xs.Nodup) : dd xs = xs := by
  unfold dd
  suffices q : ∀ (l acc : List Str), (acc ++ l).Nodup → l.foldl ddS acc = acc ++ l by simpa using q xs [] (by simpa using h)
  intro l
  induction l with
  | nil => intro acc _; simp
  | cons x l ih =>
    intro acc nd
    rw [List.foldl_cons, ddS_new]
    · rw [ih (acc ++ [x]) (by simpa using nd)]; simp
    · intro hx
      have := List.nodup_append.mp nd
      exact this.2.2 x hx x List.mem_cons_self rfl
theorem dd_const {xs : List Str} {c : Str} (h : ∀ x ∈ xs, x = c) : (dd xs).length ≤ 1 := by
  unfold dd
  suffices q : ∀ (l acc : List Str), (∀ x ∈ l, x = c) → (acc = [] ∨ acc = [c]) → (l.foldl ddS acc = [] ∨ l.foldl ddS acc = [c]) by
    rcases q xs [] h (.inl rfl) with e | e <;> rw [e] <;> simp
  intro l
  induction l with
  | nil => intro acc _ h; exact h
  | cons x l ih =>
    intro acc hl ha
    obtain rfl := hl x List.mem_cons_self
    refine ih _ (fun y hy => hl y (List.mem_cons_of_mem _ hy)) ?_
    rcases ha with rfl | rfl
    · exact .inr rfl
    · exact .inr (by unfold ddS; rw [if_pos (by simp)])
theorem isLog_of {rs : List Rc} {k : Nat} (hk : ∀ r ∈ rs, r.1 = k) (nd : (rs.map fun r => r.2.1).Nodup) (h : rs.length ≤ 40) : isLog rs = true := by
  unfold isLog
  rw [decide_eq_true h, dd_nodup nd, List.length_map, decide_eq_true rfl, decide_eq_true (dd_const (c := sgn k) ?_)]
  · rfl
  · intro x hx
    obtain ⟨r, hr, rfl⟩ := List.mem_map.mp hx
    rw [hk r hr]
theorem repA (n : Nat) (x : Int) : (List.replicate n [V.int x]).flatten = (List.replicate n x).map V.int := by
  induction n with
  | zero => rfl
  | succ n ih => rw [List.replicate_succ, List.flatten_cons, ih, List.replicate_succ]; rfl
/-- the records of a kind with these items and indices -/
def recs (k : Nat) (zs : List Str) (ns : List Int) : List Rc := (zs.zip ns).map fun p => (k, p.1, p.2)
/-! ### drawn lists -/
/-- [next(tape, wide) for at in range(n)] -/
theorem lc_draw {H G0 : Hp} {tp : Addr} {c wd : Int} {n v : Nat} {te : TE} {σ : L2.St} {Q : VK} (t : Tape G0 tp c) (ft : H tp = none) (S : Same H G0) (hc : c + n ≤ 1000000) (w0 : 0 < wd) (w1 : wd ≤ 1000) (hn : n ≤ 1000) (hv : ∀ x, wipe ((wipe σ [v]).set v (some x)) [v] = wipe σ [v])
    (turn : ∀ (x : V) (G : Hp) (Q' : VK), sp_next [.ref tp, .int wd] G Q' E0 → te ((wipe σ [v]).set v (some x)) G Q')
    (hq : ∀ (D : Addr) (zs : List Int) (G : Hp), G0 D = none → Same H G → zs.length = n → (∀ z ∈ zs, 0 ≤ z ∧ z < wd) → G D = some (.lst (zs.map V.int)) → Tape G tp (c + n) → D ≠ tp → (∀ b o, b ≠ tp → G0 b = some o → G b = some o) → Q (.ref D) G) : LcB (Itr 0 n) (gName v) tYes te [v] σ G0 Q := by
  intro D hD
  have fD : H D = none := S.free hD
  have nD : D ≠ tp := fun e => by subst e; obtain ⟨xs, hx, _⟩ := t; rw [hD] at hx; cases hx
  refine L2.lc_range (n := n) (fun i G => ∃ zs : List Int, zs.length = i ∧ (∀ z ∈ zs, 0 ≤ z ∧ z < wd) ∧ G D = some (.lst (zs.map V.int)) ∧ Tape G tp (c + i) ∧ Same H G ∧ (∀ b o, b ≠ tp → G0 b = some o → G b = some o)) ?_ ?_ ?_
  · exact ⟨[], rfl, (fun _ h => nomatch h), upd_same, by simpa using t.other nD, S.mut fD, fun b o _ e => by rw [upd_ne (ne_of_none e hD)]; exact e⟩
  · rintro i G hi ⟨zs, hz, hr, gD, tG, sG, kG⟩
    refine ⟨hv _, ?_⟩
    show tYes _ G _
    refine turn _ G _ (next_ok tG (by omega) w0 w1 fun r G1 r0 r1 t1 b1 e1 => ?_)
    refine ⟨zs.map V.int, (e1 D nD).trans gD, ?_, zs ++ [r], by simp [hz], ?_, ?_, ?_, ?_, ?_⟩
    · rw [List.length_map, hz]; exact Nat.lt_of_lt_of_le (by omega : i < 1001) (by decide)
    · intro z hz'
      rcases List.mem_append.mp hz' with q | q
      · exact hr z q
      · obtain rfl := List.mem_singleton.mp q; exact ⟨r0, r1⟩
    · rw [upd_same, List.map_append]; rfl
    · exact (t1.other nD).mono (by push_cast; omega)
    · intro b o e
      rw [upd_ne (ne_of_none e fD), e1 b (ne_of_none e ft)]
      exact sG b o e
    · intro b o hb e
      rw [upd_ne (ne_of_none e hD), e1 b hb]
      exact kG b o hb e
  · rintro G ⟨zs, hz, hr, gD, tG, sG, kG⟩
    exact hq D zs G hD sG hz hr gD tG nD kG
/-- [made(kind, items[at], slots[at]) for at in range(n)] -/
theorem lc_made {G0 : Hp} {n v k : Nat} {te : TE} {σ : L2.St} {Q : VK} {zs : List Str} {ns : List Int} (hz : zs.length = n) (hs : ns.length = n) (hn : n ≤ 1000) (hv : ∀ x, wipe ((wipe σ [v]).set v (some x)) [v] = wipe σ [v])
    (turn : ∀ (i : Nat) (z : Str) (m : Int) (G : Hp) (Q' : VK), Same G0 G → zs[i]? = some z → ns[i]? = some m → (∀ p H', G p = none → Same G H' → Rec A H' p k z m → Q' (.ref p) H') → te ((wipe σ [v]).set v (some (.int (0 + i)))) G Q')
    (hq : ∀ (D : Addr) (as : List Addr) (G : Hp), G0 D = none → Same G0 G → Book A G D as ((zs.zip ns).map fun p => (k, p.1, p.2)) → as.Nodup → (∀ a ∈ as, G0 a = none) → (∀ a ∈ as, a ≠ D) → Q (.ref D) G) : LcB (Itr 0 n) (gName v) tYes te [v] σ G0 Q := by
  intro D hD
  refine L2.lc_range (n := n) (fun i G => ∃ as : List Addr, as.length = i ∧ as.Nodup ∧ (∀ a ∈ as, G0 a = none ∧ a ≠ D ∧ ∃ o, G a = some o) ∧ G D = some (.lst (as.map V.ref)) ∧ Same G0 G ∧ ∀ (j : Nat) (a : Addr) (z : Str) (m : Int), as[j]? = some a → zs[j]? = some z → ns[j]? = some m → Rec A G a k z m) ?_ ?_ ?_
  · exact ⟨[], rfl, List.nodup_nil, (fun _ h => nomatch h), upd_same, Same.new hD, fun j a z m h => by simp at h⟩
  · rintro i G hi ⟨as, hl, nd, fr, gD, sG, rc⟩
    refine ⟨hv _, ?_⟩
    show tYes _ G _
    have hi1 : i < zs.length := by omega
    have hi2 : i < ns.length := by omega
    refine turn i zs[i] ns[i] G _ sG (List.getElem?_eq_getElem hi1) (List.getElem?_eq_getElem hi2) fun p G1 hp s1 r1 => ?_
    have np : p ≠ D := Ne.symm (ne_of_none gD hp)
    have nas : p ∉ as := fun h => by obtain ⟨_, _, o, ho⟩ := fr p h; rw [hp] at ho; cases ho
    refine ⟨as.map V.ref, s1 _ _ gD, ?_, as ++ [p], by simp [hl], ?_, ?_, ?_, ?_, ?_⟩
    · rw [List.length_map, hl]; exact Nat.lt_of_lt_of_le (by omega : i < 1001) (by decide)
    · rw [List.nodup_append]
      exact ⟨nd, by simp, fun a ha b hb => by obtain rfl := List.mem_singleton.mp hb; exact fun e => nas (e ▸ ha)⟩
    · intro a ha
      rcases List.mem_append.mp ha with q | q
      · obtain ⟨h1, h2, o, h3⟩ := fr a q
        exact ⟨h1, h2, o, by rw [upd_ne h2]; exact s1 _ _ h3⟩
      · obtain rfl := List.mem_singleton.mp q
        obtain ⟨_, dx, h⟩ := r1
        exact ⟨sG.free hp, np, _, by rw [upd_ne np]; exact h⟩
    · rw [upd_same, List.map_append]; rfl
    · exact (sG.trans s1).mut hD
    · intro j a z m h1 h2 h3
      by_cases c : j < as.length
      · rw [List.getElem?_append_left c] at h1
        obtain ⟨hk, dx, h⟩ := rc j a z m h1 h2 h3
        exact ⟨hk, dx, by rw [upd_ne (fr a (List.mem_of_getElem? h1)).2.1]; exact s1 _ _ h⟩
      · rw [List.getElem?_append_right (by omega)] at h1
        by_cases e : j = as.length
        · subst e
          simp at h1
          subst h1
          rw [hl] at h2 h3
          rw [List.getElem?_eq_getElem hi1] at h2
          rw [List.getElem?_eq_getElem hi2] at h3
          cases h2; cases h3
          obtain ⟨hk, dx, h⟩ := r1
          exact ⟨hk, dx, by rw [upd_ne np]; exact h⟩
        · rw [List.getElem?_eq_none (by simp; omega)] at h1
          cases h1
  · rintro G ⟨as, hl, nd, fr, gD, sG, rc⟩
    refine hq D as G hD sG ⟨gD, by simp [hl, hz, hs], fun j a r h1 h2 => ?_⟩ nd (fun a ha => (fr a ha).1) fun a ha => (fr a ha).2.1
    rw [List.getElem?_map] at h2
    cases e : (zs.zip ns)[j]? with
    | none => rw [e] at h2; cases h2
    | some p =>
      rw [e] at h2
      obtain rfl := Option.some.inj h2
      obtain ⟨e1, e2⟩ := List.getElem?_zip_eq_some.mp e
      exact rc j a p.1 p.2 h1 e1 e2

theorem made_at {k : Nat} (hk : k < 4) {H : Hp} {p dx : Addr} {z : Str} {n : Int} {R : Hp → Prop} {E : XK} (hp : H p = none) (hd : H dx = none) (hz : isItem z = true) (h0 : 0 ≤ n) (h60 : n ≤ 60) (q : ∀ H', Same H H' → Rec A H' p k z n → R H') :
    sp_init A k [.ref p, .str z, .int n] (upd (upd H dx (.own p)) p (.ins (A.kind k) dx [])) (fun v H' => v = .non ∧ R H') E := by
  refine ⟨p, dx, z, n, rfl, upd_same, hz, h0, h60, fun H' h1 h2 => ⟨rfl, q H' (fun b o e => ?_) ⟨hk, dx, h1⟩⟩⟩
  refine h2 b o (ne_of_none e hp) ?_
  rw [upd_ne (ne_of_none e hp), upd_ne (ne_of_none e hd)]
  exact e
end
end K
namespace K
open PySem PySem.Spec PyProof.Rows L2 U ClX M
local macro_rules | `(tactic| walk_at "rd") => `(tactic| simp only [tSeq, tRet, tIfS, tAsg, tDrop, tNext, tNever, tRetN, tAndV, tOrV, tNotV, tAnd, tOr, tNot, tB, tTest, tChain, tCB, tCons, tNil, tVar, tC, tOp, tUn, tIf, gName, uLe, uLt, uGe, uGt, uCmp, uAdd, uSub, uMul, uDiv, uMod, uPow, uNeg, uEq, uNe, uIs, uIsNot, uIx, uIn, cIsi, cLen, cAll, cMax, cMin, cAbs, cSort, cSortD, cInt, cTuple, cRepr, cList, tLstRg, tTupRg, tRg1, tRg2, sDPut, tDNewK, tAug, ipI, iZip, tLst, tTup, tPar, tPar3, tFn, tMkr, tMth, tFnK, tMthK, tAtt, sFld, tYes, tLc_eq, tFor_eq, iList, iStr, iRng1, iRng2, iEnum, tLenSetT, tSl, tPart, tNoPart, gTup, gCons, gNil, gSub, tBM, tBM0, List.getElem?_cons_zero, List.getElem?_cons_succ, List.set_cons_zero, List.set_cons_succ, Option.some.injEq, V.bl.injEq, V.int.injEq, V.str.injEq, V.ref.injEq, exists_eq_left', exists_eq_left, exists_eq_right, exists_eq_right', and_true, true_and, scal, if_true, Bool.false_eq_true, if_false, List.cons.injEq, exists_const, false_and, and_false, ite_true, ite_false, Bool.not_true, Bool.not_false])
section
variable {P : Program} {w : World} {K : PySem.W.Frag} {mg : Str → Option Value} {base : Heap} {A : Ads}
/-! ### made, copied, usable -/
def sp_mk (A : Ads) : Sp := fun vs H Q _ => ∃ (k : Nat) (z : Str) (n : Int), vs = [.str (sgn k), .str z, .int n] ∧ k < 4 ∧ isItem z = true ∧ 0 ≤ n ∧ n ≤ 60 ∧ ∀ p H', H p = none → Same H H' → Rec A H' p k z n → Q (.ref p) H'
theorem p_mk (T : Tx K mg A) : Pur N_made ps_made (t_made P w K mg base A) (sp_mk A) := by
  intro vs H Q E h
  obtain ⟨k, z, n, rfl, hk, hz, h0, h60, q⟩ := h
  refine ⟨rfl, ?_⟩
  show t_made P w K mg base A E _ [some (.str (sgn k)), some (.str z), some (.int n)] H
  unfold t_made
  walk_at "rd"
  match k, hk, q with
  | 0, hk, q =>
    rw [if_pos (show decide (sgn 0 = ("+" : Str)) = true by decide +kernel)]
    exact ⟨3, _, _, mkr T (k := 0) (by decide), by decide, made_ok T (by decide) hz h0 h60 q⟩
  | 1, hk, q =>
    rw [if_neg (show ¬ decide (sgn 1 = ("+" : Str)) = true by decide +kernel), if_pos (show decide (sgn 1 = ("-" : Str)) = true by decide +kernel)]
    exact ⟨3, _, _, mkr T (k := 1) (by decide), by decide, made_ok T (by decide) hz h0 h60 q⟩
  | 2, hk, q =>
    rw [if_neg (show ¬ decide (sgn 2 = ("+" : Str)) = true by decide +kernel), if_neg (show ¬ decide (sgn 2 = ("-" : Str)) = true by decide +kernel), if_pos (show decide (sgn 2 = ("^" : Str)) = true by decide +kernel)]
    exact ⟨3, _, _, mkr T (k := 2) (by decide), by decide, made_ok T (by decide) hz h0 h60 q⟩
  | 3, hk, q =>
    rw [if_neg (show ¬ decide (sgn 3 = ("+" : Str)) = true by decide +kernel), if_neg (show ¬ decide (sgn 3 = ("-" : Str)) = true by decide +kernel), if_neg (show ¬ decide (sgn 3 = ("^" : Str)) = true by decide +kernel)]
    exact ⟨3, _, _, mkr T (k := 3) (by decide), by decide, made_ok T (by decide) hz h0 h60 q⟩
theorem fn_mk (T : Tx K mg A) : Fn P w K mg base 5 "made" (sp_mk A) := T.f_made.fn sc_made (fun hr => d_made T.G hr) (p_mk T)
/-- a record whose item and index may be made anew -/
def RcOk (r : Rc) : Prop := isItem r.2.1 = true ∧ 0 ≤ r.2.2 ∧ r.2.2 ≤ 60
def sp_copied (A : Ads) : Sp := fun vs H Q _ => ∃ (a : Addr) (r : Rc), vs = [.ref a] ∧ Rec A H a r.1 r.2.1 r.2.2 ∧ RcOk r ∧ ∀ p H', H p = none → Same H H' → Rec A H' p r.1 r.2.1 r.2.2 → Q (.ref p) H'
theorem p_copied (T : Tx K mg A) : Pur N_copied ps_copied (t_copied P w K mg base A) (sp_copied A) := by
  intro vs H Q E h
  obtain ⟨a, r, rfl, rc, ⟨o1, o2, o3⟩, q⟩ := h
  refine ⟨rfl, ?_⟩
  show t_copied P w K mg base A E _ [some (.ref a)] H
  unfold t_copied
  walk_at "rd"
  exact ⟨5, _, fn_mk T, by decide, _, _, rfl, att_sign T rc, _, _, rfl, att_item T rc, _, _, rfl, att_slot T rc, r.1, r.2.1, r.2.2, rfl, rc.1, o1, o2, o3, q⟩
theorem fn_copied (T : Tx K mg A) : Fn P w K mg base 6 "copied" (sp_copied A) := T.f_copied.fn sc_copied (fun hr => d_copied T.G hr) (p_copied T)
/-- new records, at addresses that H does not know -/
structure NewBook (A : Ads) (H H' : Hp) (l : Addr) (as : List Addr) (rs : List Rc) : Prop where
  book : Book A H' l as rs
  nd : as.Nodup
  fr : ∀ a ∈ as, H a = none
  ne : ∀ a ∈ as, a ≠ l
  frl : H l = none
theorem NewBook.old {H0 H H' : Hp} {l : Addr} {as : List Addr} {rs : List Rc} (s : Same H0 H) (b : NewBook A H H' l as rs) : NewBook A H0 H' l as rs := ⟨b.book, b.nd, fun a h => s.free (b.fr a h), b.ne, s.free b.frl⟩
theorem NewBook.same {H H' H2 : Hp} {l : Addr} {as : List Addr} {rs : List Rc} (b : NewBook A H H' l as rs) (s : Same H' H2) : NewBook A H H2 l as rs := ⟨b.book.same s, b.nd, b.fr, b.ne, b.frl⟩
/-- [copied(record) for record in book] and the like: each turn makes a new record -/
theorem lc_copies {H1 : Hp} {l : Addr} {as : List Addr} {rs qs : List Rc} (b : Book A H1 l as rs) (hn : rs.length ≤ 1000) {te : TE} {v : Nat} {σ : L2.St} {Q : VK} (hq : qs.length = rs.length)
    (hv : ∀ x, wipe ((wipe σ [v]).set v (some x)) [v] = wipe σ [v])
    (turn : ∀ (i : Nat) (a : Addr) (r r' : Rc) (H : Hp) (Q' : VK), rs[i]? = some r → qs[i]? = some r' → Same H1 H → Rec A H a r.1 r.2.1 r.2.2 → (∀ p H', H p = none → Same H H' → Rec A H' p r'.1 r'.2.1 r'.2.2 → Q' (.ref p) H') → te ((wipe σ [v]).set v (some (.ref a))) H Q')
    (hq : ∀ D as' H', Same H1 H' → NewBook A H1 H' D as' qs → Q (.ref D) H') : LcB (Itl K l) (gName v) tYes te [v] σ H1 Q := by
  intro D hD
  have bl := book_len b
  refine ⟨fun i m G => m = rs.length - i ∧ i ≤ rs.length ∧ Same H1 G ∧ ∃ bs : List Addr, bs.length = i ∧ bs.Nodup ∧ (∀ a ∈ bs, H1 a = none ∧ a ≠ D ∧ ∃ o, G a = some o) ∧ G D = some (.lst (bs.map V.ref)) ∧ ∀ (j : Nat) (a : Addr) (r : Rc), bs[j]? = some a → qs[j]? = some r → Rec A G a r.1 r.2.1 r.2.2, ⟨rs.length, by simp, Nat.zero_le _, Same.new hD, [], rfl, List.nodup_nil, (fun _ h => nomatch h), upd_same, fun j a r h => by simp at h⟩, ?_⟩
  rintro i m G ⟨rfl, hi, sG, bs, hl, nd, fr, gD, rc⟩
  have bG : SqL K G l (as.map V.ref) := .inl (.inl (sG _ _ b.lst))
  by_cases hlt : i < rs.length
  · have hla : i < as.length := by rw [b.len]; exact hlt
    refine .inr ⟨⟨_, (as.map V.ref)[i]'(by rw [bl]; exact hlt), bG, List.getElem?_eq_getElem _⟩, fun G' => Same H1 G' ∧ ∃ bs : List Addr, bs.length = i + 1 ∧ bs.Nodup ∧ (∀ a ∈ bs, H1 a = none ∧ a ≠ D ∧ ∃ o, G' a = some o) ∧ G' D = some (.lst (bs.map V.ref)) ∧ ∀ (j : Nat) (a : Addr) (r : Rc), bs[j]? = some a → qs[j]? = some r → Rec A G' a r.1 r.2.1 r.2.2, fun G' h => ⟨rs.length - (i + 1), by omega, rfl, hlt, h⟩, fun x G' y => ?_⟩
    obtain ⟨rfl, y⟩ := y
    have y := y _ bG
    obtain ⟨a, r, rfl, ha, hr, ra⟩ := (b.same sG).get y
    have hi2 : i < qs.length := by omega
    refine ⟨hv _, ?_⟩
    show tYes _ _ _
    refine turn i a r qs[i] _ _ hr (List.getElem?_eq_getElem hi2) sG ra fun p G1 hp s1 r1 => ?_
    have np : p ≠ D := Ne.symm (ne_of_none gD hp)
    have nas : p ∉ bs := fun h => by obtain ⟨_, _, o, ho⟩ := fr p h; rw [hp] at ho; cases ho
    refine ⟨bs.map V.ref, s1 _ _ gD, ?_, (sG.trans s1).mut hD, bs ++ [p], by simp [hl], ?_, ?_, ?_, ?_⟩
    · rw [List.length_map, hl]; exact Nat.lt_of_lt_of_le (by omega : i < 1001) (by decide)
    · rw [List.nodup_append]
      exact ⟨nd, by simp, fun a ha b hb => by obtain rfl := List.mem_singleton.mp hb; exact fun e => nas (e ▸ ha)⟩
    · intro a ha
      rcases List.mem_append.mp ha with q | q
      · obtain ⟨h1, h2, o, h3⟩ := fr a q
        exact ⟨h1, h2, o, by rw [upd_ne h2]; exact s1 _ _ h3⟩
      · obtain rfl := List.mem_singleton.mp q
        obtain ⟨_, dx, h⟩ := r1
        exact ⟨sG.free hp, np, _, by rw [upd_ne np]; exact h⟩
    · rw [upd_same, List.map_append]; rfl
    · intro j a r h1 h2
      by_cases c : j < bs.length
      · rw [List.getElem?_append_left c] at h1
        obtain ⟨hk, dx, h⟩ := rc j a r h1 h2
        exact ⟨hk, dx, by rw [upd_ne (fr a (List.mem_of_getElem? h1)).2.1]; exact s1 _ _ h⟩
      · rw [List.getElem?_append_right (by omega)] at h1
        by_cases e : j = bs.length
        · subst e
          simp at h1
          subst h1
          rw [hl, List.getElem?_eq_getElem hi2] at h2
          cases h2
          obtain ⟨hk, dx, h⟩ := r1
          exact ⟨hk, dx, by rw [upd_ne np]; exact h⟩
        · rw [List.getElem?_eq_none (by simp; omega)] at h1
          cases h1
  · obtain rfl : i = rs.length := by omega
    refine .inl ⟨⟨_, bG, by rw [bl]; exact Nat.le_refl _⟩, hq D bs G sG ⟨⟨gD, by omega, rc⟩, nd, fun a ha => (fr a ha).1, fun a ha => (fr a ha).2.1, hD⟩⟩
/-- [record for record in book if t] -/
theorem lc_filter {H1 : Hp} {l : Addr} {as : List Addr} {rs : List Rc} (b : Book A H1 l as rs) (hn : rs.length ≤ 1000) {tt : TT} {te : TE} {v : Nat} {σ : L2.St} {Q : VK} (f : Rc → Bool)
    (hv : ∀ x, wipe ((wipe σ [v]).set v (some x)) [v] = wipe σ [v])
    (turn : ∀ a r H, Same H1 H → Rec A H a r.1 r.2.1 r.2.2 → r ∈ rs → Evt tt ((wipe σ [v]).set v (some (.ref a))) H (f r) ∧ ∀ H2, Same H H2 → Evs te ((wipe σ [v]).set v (some (.ref a))) H2 (.ref a))
    (hq : ∀ D as' H', H1 D = none → Same H1 H' → Book A H' D as' (rs.filter f) → as'.Sublist as → Q (.ref D) H') : LcB (Itl K l) (gName v) tt te [v] σ H1 Q := by
  refine lc_goes (goes_list (.inl (.inl b.lst))) (fun i => (as[i]?).bind fun a => (rs[i]?).bind fun r => if f r = true then some (V.ref a) else none) ?_ (fun i x H hi s r => ?_) fun D H' hD s hl => ?_
  · rw [List.length_map, b.len]; exact Nat.lt_of_le_of_lt hn (by decide)
  · obtain ⟨a, q, rfl, ha, hr, rc⟩ := b.get r
    rw [ha, hr]
    obtain ⟨t1, t2⟩ := turn a q H s (rc.same s) (List.mem_of_getElem? hr)
    refine ⟨(wipe σ [v]).set v (some (.ref a)), hv _, fun R r => r, ?_⟩
    simp only [Option.bind_some]
    cases e : f q with
    | true => rw [e] at t1; exact ⟨t1, t2⟩
    | false => rw [e] at t1; exact t1
  · suffices key : ∀ (as : List Addr) (rs : List Rc) (_ : as.length = rs.length) (_ : ∀ (i : Nat) (a : Addr) (r : Rc), as[i]? = some a → rs[i]? = some r → Rec A H' a r.1 r.2.1 r.2.2), ∃ as' : List Addr, as'.Sublist as ∧ (List.range as.length).filterMap (fun i => (as[i]?).bind fun a => (rs[i]?).bind fun r => if f r = true then some (V.ref a) else none) = as'.map V.ref ∧ as'.length = (rs.filter f).length ∧ ∀ (i : Nat) (a : Addr) (r : Rc), as'[i]? = some a → (rs.filter f)[i]? = some r → Rec A H' a r.1 r.2.1 r.2.2 by
      obtain ⟨as', h1, h2, h3, h4⟩ := key as rs b.len (b.same s).at_
      rw [List.length_map, h2] at hl
      exact hq D as' H' hD s ⟨hl, h3, h4⟩ h1
    intro as
    induction as with
    | nil =>
      intro rs hl _
      have : rs = [] := List.length_eq_zero_iff.mp hl.symm
      subst this
      exact ⟨[], List.Sublist.refl _, rfl, rfl, fun i a r h => by simp at h⟩
    | cons a as ih =>
      intro rs hl hr
      cases rs with
      | nil => simp at hl
      | cons r rs =>
        obtain ⟨as', h1, h2, h3, h4⟩ := ih rs (by simpa using hl) fun i a' r' e1 e2 => hr (i + 1) a' r' (by simpa using e1) (by simpa using e2)
        have e0 : (List.range (a :: as).length).filterMap (fun i => ((a :: as)[i]?).bind fun a => ((r :: rs)[i]?).bind fun r => if f r = true then some (V.ref a) else none) = (if f r = true then [V.ref a] else []) ++ as'.map V.ref := by
          rw [List.length_cons, List.range_succ_eq_map, List.filterMap_cons, List.filterMap_map, ← h2]
          have e1 : ((fun i => ((a :: as)[i]?).bind fun a => ((r :: rs)[i]?).bind fun r => if f r = true then some (V.ref a) else none) ∘ Nat.succ) = fun i => (as[i]?).bind fun a => (rs[i]?).bind fun r => if f r = true then some (V.ref a) else none := by funext i; simp
          rw [e1]
          simp only [List.getElem?_cons_zero, Option.bind_some]
          cases f r <;> rfl
        rw [e0]
        cases e : f r with
        | true =>
          refine ⟨a :: as', h1.cons₂ _, by simp, by simp [e, h3], fun i a' r' q1 q2 => ?_⟩
          rw [List.filter_cons_of_pos e] at q2
          cases i with
          | zero => simp at q1 q2; subst q1; subst q2; exact hr 0 a r rfl rfl
          | succ i => exact h4 i a' r' (by simpa using q1) (by simpa using q2)
        | false =>
          refine ⟨as', h1.cons _, by simp, by rw [List.filter_cons_of_neg (by simp [e])]; exact h3, fun i a' r' q1 q2 => ?_⟩
          rw [List.filter_cons_of_neg (by simp [e])] at q2
          exact h4 i a' r' q1 q2
def slotsOf (rs : List Rc) : List Int := rs.map fun r => r.2.2
def upTo (rs : List Rc) (h : Nat) : List Rc := rs.filter fun r => decide (r.2.2 ≤ (h : Int))
theorem upTo_len (rs : List Rc) (h : Nat) : (upTo rs h).length = cntL (slotsOf rs) h := by
  unfold upTo cntL slotsOf
  rw [← List.countP_eq_length_filter, List.countP_map]
  rfl
def sp_usable (A : Ads) : Sp := fun vs H Q _ => ∃ (l : Addr) (as : List Addr) (rs : List Rc), vs = [.ref l] ∧ Book A H l as rs ∧ isLog rs = true ∧ (∀ r ∈ rs, r.1 < 2) ∧ (∀ r ∈ rs, RcOk r) ∧ ∀ p as' H' h, Same H H' → Hgt (slotsOf rs) h → NewBook A H H' p as' (upTo rs h) → Q (.ref p) H'
theorem p_usable (T : Tx K mg A) : Pur N_usable ps_usable (t_usable P w K mg base A) (sp_usable A) := by
  intro vs H Q E h
  obtain ⟨l, as, rs, rfl, b, hl, h3, ok, q⟩ := h
  refine ⟨rfl, ?_⟩
  have h40 := log_40 hl
  show t_usable P w K mg base A E _ [some (.ref l), none, none, none] H
  unfold t_usable
  walk_at "rd"
  refine ⟨6, _, fn_need_growing T, by decide, l, as, rs, rfl, b, hl, h3, fun H1 s1 => ?_⟩
  refine while_by (fun σ G => ∃ (h : Nat) (v2 : Option V), σ = [some (.ref l), some (.int h), v2, none] ∧ Same H G ∧ h ≤ rs.length ∧ ∀ g, g < h → g < cntL (slotsOf rs) g) (fun σ G => match σ with | [_, some (.int h), _, _] => rs.length - h.toNat | _ => 0) ⟨0, none, rfl, s1, Nat.zero_le _, fun g hg => by omega⟩ ?_ (fun σ H Q Q' h c => by obtain ⟨b, e, c⟩ := c; exact ⟨b, e, h b H c⟩)
  rintro σ G ⟨h, v2, rfl, sG, hh, lt⟩
  have bG := b.same sG
  walk_at "rd"
  refine ⟨⟨_, .inl (.inl bG.lst)⟩, ?_⟩
  refine lc_filter bG (by omega) (fun r => decide (r.2.2 ≤ (h : Int))) (fun x => rfl) (fun a r G1 t1 rc hr => ⟨fun Q' q' => ?_, fun G2 t2 Q' q' => ⟨_, rfl, q' G2 (Same.refl _)⟩⟩) fun D as' G1 hD s2 bk sub => ?_
  · walk_at "rd"
    exact ⟨.ref a, rfl, a, _, rfl, att_slot T rc, .int h, rfl, q' G1 (Same.refl _)⟩
  refine ⟨_, .inl (.inl (.inl bk.lst)), ?_⟩
  rw [book_len bk]
  have e : (rs.filter fun r => decide (r.2.2 ≤ (h : Int))).length = cntL (slotsOf rs) h := upTo_len rs h
  rw [e]
  by_cases c : cntL (slotsOf rs) h = h
  · rw [if_pos (decide_eq_true (by rw [c]))]
    refine ⟨D, rfl, ⟨_, .inl (.inl bk.lst)⟩, ?_⟩
    have ln := List.length_filter_le (fun r : Rc => decide (r.2.2 ≤ (h : Int))) rs
    refine lc_copies bk (by omega) rfl (fun x => rfl) (fun i a r r' G2 Q' hr hr' t2 rc hh => ?_) fun D2 as2 G2 s3 nb => q D2 as2 G2 h ((sG.trans s2).trans s3) ⟨c, lt⟩ (nb.old (sG.trans s2))
    rw [hr] at hr'
    cases hr'
    exact ⟨6, _, fn_copied T, by decide, .ref a, rfl, a, r, rfl, rc, ok r (List.mem_filter.mp (List.mem_of_getElem? hr)).1, hh⟩
  · rw [if_neg (by simp only [decide_eq_true_eq]; omega)]
    have up := Hgt.step lt c
    have top := cnt_le (slotsOf rs) h
    have sl : (slotsOf rs).length = rs.length := by simp [slotsOf]
    refine ⟨_, _, rfl, rfl, ⟨h + 1, _, ⟨by push_cast; rfl, rfl⟩, sG.trans s2, by omega, fun g hg => ?_⟩, ?_⟩
    · by_cases z : g < h
      · exact lt g z
      · obtain rfl : g = h := by omega
        exact up
    · omega
theorem fn_usable (T : Tx K mg A) : Fn P w K mg base 7 "usable" (sp_usable A) := T.f_usable.fn sc_usable (fun hr => d_usable T.G hr) (p_usable T)
theorem fnK_usable (T : Tx K mg A) : FnK P w K mg base 7 "usable" ["log"] id (sp_usable A) := T.f_usable.fnK1 sc_usable (fun hr => d_usable T.G hr) (p_usable T) fun _ _ _ _ _ _ _ => rfl
end
section
variable {P : Program} {w : World} {K : PySem.W.Frag} {mg : Str → Option Value} {base : Heap} {A : Ads}
/-! ### drawn logs, records moved -/
theorem Rec.but {tp : Addr} {G G' : Hp} {a : Addr} {k : Nat} {z : Str} {m : Int} (r : Rec A G a k z m) (s : But tp G G') (na : a ≠ tp) : Rec A G' a k z m := ⟨r.1, r.2.choose, s _ _ na r.2.choose_spec⟩
theorem Book.but {tp : Addr} {G G' : Hp} {D : Addr} {as : List Addr} {rs : List Rc} (b : Book A G D as rs) (s : But tp G G') (nD : D ≠ tp) (na : ∀ a ∈ as, a ≠ tp) : Book A G' D as rs := ⟨s _ _ nD b.lst, b.len, fun i a r h1 h2 => (b.at_ i a r h1 h2).but s (na a (List.mem_of_getElem? h1))⟩
theorem Book.moved {G : Hp} {D a dx : Addr} {as : List Addr} {rs : List Rc} {i k : Nat} {z : Str} {m n : Int} (b : Book A G D as rs) (nd : as.Nodup) (ha : as[i]? = some a) (hr : rs[i]? = some (k, z, m)) (nD : a ≠ D) (hk : k < 4) : Book A (upd G a (.ins (A.kind k) dx (recF z n))) D as (rs.set i (k, z, n)) := by
  have hi : i < rs.length := (List.getElem?_eq_some_iff.mp hr).1
  refine ⟨by rw [upd_ne (Ne.symm nD)]; exact b.lst, by simp [b.len], fun j a' r' h1 h2 => ?_⟩
  by_cases e : j = i
  · subst e
    rw [ha] at h1
    obtain rfl := Option.some.inj h1
    rw [List.getElem?_set_self hi] at h2
    obtain rfl := Option.some.inj h2
    exact ⟨hk, dx, upd_same⟩
  · rw [List.getElem?_set_ne (Ne.symm e)] at h2
    obtain ⟨q1, dy, q2⟩ := b.at_ j a' r' h1 h2
    refine ⟨q1, dy, ?_⟩
    rw [upd_ne]
    · exact q2
    intro z
    subst z
    obtain ⟨hj, ej⟩ := List.getElem?_eq_some_iff.mp h1
    obtain ⟨hi2, ei⟩ := List.getElem?_eq_some_iff.mp ha
    rcases Nat.lt_trichotomy i j with l | l | l
    · exact List.pairwise_iff_getElem.mp nd i j hi2 hj l (ei.trans ej.symm)
    · exact e l.symm
    · exact List.pairwise_iff_getElem.mp nd j i hj hi2 l (ej.trans ei.symm)
/-- records of the kind k with the items zs and lawful indices -/
structure Drawn (k : Nat) (zs : List Str) (rs : List Rc) : Prop where
  kind : ∀ r ∈ rs, r.1 = k
  items : rs.map (fun r => r.2.1) = zs
  slot : ∀ r ∈ rs, 0 ≤ r.2.2 ∧ r.2.2 ≤ 60
theorem Drawn.len {k : Nat} {zs : List Str} {rs : List Rc} (d : Drawn k zs rs) : rs.length = zs.length := by rw [← d.items, List.length_map]
theorem Drawn.of {k : Nat} {zs : List Str} {ms : List Int} (hl : zs.length = ms.length) (hm : ∀ m ∈ ms, 0 ≤ m ∧ m ≤ 60) : Drawn k zs (recs k zs ms) := by
  have mem : ∀ r ∈ recs k zs ms, r.1 = k ∧ r.2.2 ∈ ms := by
    intro r hr
    obtain ⟨p, hp, rfl⟩ := List.mem_map.mp hr
    exact ⟨rfl, (List.of_mem_zip hp).2⟩
  refine ⟨fun r hr => (mem r hr).1, ?_, fun r hr => hm _ (mem r hr).2⟩
  unfold recs
  rw [List.map_map]
  exact List.map_fst_zip (by omega)
theorem Drawn.set {k : Nat} {zs : List Str} {rs : List Rc} {i : Nat} {z : Str} {m n : Int} (d : Drawn k zs rs) (hr : rs[i]? = some (k, z, m)) (hn : 0 ≤ n ∧ n ≤ 60) : Drawn k zs (rs.set i (k, z, n)) := by
  have mem : ∀ r ∈ rs.set i (k, z, n), r ∈ rs ∨ r = (k, z, n) := fun r hr => List.mem_or_eq_of_mem_set hr
  refine ⟨fun r h => ?_, ?_, fun r h => ?_⟩
  · rcases mem r h with h | rfl
    · exact d.kind r h
    · rfl
  · rw [← d.items]
    apply List.ext_getElem?
    intro j
    rw [List.getElem?_map, List.getElem?_map]
    by_cases e : j = i
    · subst e
      rw [List.getElem?_set_self (List.getElem?_eq_some_iff.mp hr).1, hr]
      rfl
    · rw [List.getElem?_set_ne (Ne.symm e)]
  · rcases mem r h with h | rfl
    · exact d.slot r h
    · exact hn
theorem Drawn.at_ {k : Nat} {zs : List Str} {rs : List Rc} (d : Drawn k zs rs) {i : Nat} (hi : i < rs.length) : ∃ z m, rs[i]? = some (k, z, m) := by
  refine ⟨(rs[i]).2.1, (rs[i]).2.2, ?_⟩
  rw [List.getElem?_eq_getElem hi, ← d.kind _ (List.getElem_mem hi)]
theorem Drawn.log {k : Nat} {zs : List Str} {rs : List Rc} (d : Drawn k zs rs) (nd : zs.Nodup) (h : zs.length ≤ 40) : isLog rs = true := isLog_of d.kind (by rw [d.items]; exact nd) (by rw [d.len]; exact h)
theorem Drawn.ok {k : Nat} {zs : List Str} {rs : List Rc} (d : Drawn k zs rs) (it : ∀ z ∈ zs, isItem z = true) : ∀ r ∈ rs, RcOk r := fun r hr => ⟨it _ (by rw [← d.items]; exact List.mem_map.mpr ⟨r, hr, rfl⟩), d.slot r hr⟩
/-- [made(kind, items[at], <drawn>) for at in range(n)]: e numbers drawn in each turn -/
theorem lc_makes {G0 : Hp} {tp : Addr} {c : Int} {n v k e : Nat} {te : TE} {σ : L2.St} {Q : VK} {zs : List Str} {L : Int → Prop} (t : Tape G0 tp c) (hz : zs.length = n) (hn : n ≤ 1000) (hv : ∀ x, wipe ((wipe σ [v]).set v (some x)) [v] = wipe σ [v])
    (turn : ∀ (i : Nat) (z : Str) (G : Hp) (Q' : VK), i < n → zs[i]? = some z → Tape G tp (c + e * i) → But tp G0 G → (∀ p m G', G p = none → But tp G G' → Tape G' tp (c + e * i + e) → L m → Rec A G' p k z m → Q' (.ref p) G') → te ((wipe σ [v]).set v (some (.int (0 + i)))) G Q')
    (hq : ∀ (D : Addr) (as : List Addr) (ms : List Int) (G : Hp), ms.length = n → (∀ m ∈ ms, L m) → But tp G0 G → Tape G tp (c + e * n) → NewBook A G0 G D as (recs k zs ms) → Q (.ref D) G) : LcB (Itr 0 n) (gName v) tYes te [v] σ G0 Q := by
  intro D hD
  have tk : ∃ xs, G0 tp = some (.lst xs) := let ⟨xs, h, _⟩ := t; ⟨xs, h⟩
  have ntp : ∀ {p : Addr}, G0 p = none → p ≠ tp := fun {p} h e => by subst e; obtain ⟨xs, hx⟩ := tk; rw [hx] at h; cases h
  have nD : D ≠ tp := ntp hD
  refine L2.lc_range (n := n) (fun i G => ∃ (as : List Addr) (ms : List Int), as.length = i ∧ ms.length = i ∧ (∀ m ∈ ms, L m) ∧ as.Nodup ∧ (∀ a ∈ as, G0 a = none ∧ a ≠ D ∧ ∃ o, G a = some o) ∧ G D = some (.lst (as.map V.ref)) ∧ But tp G0 G ∧ Tape G tp (c + e * i) ∧ ∀ (j : Nat) (a : Addr) (z : Str) (m : Int), as[j]? = some a → zs[j]? = some z → ms[j]? = some m → Rec A G a k z m) ?_ ?_ ?_
  · exact ⟨[], [], rfl, rfl, (fun _ h => nomatch h), List.nodup_nil, (fun _ h => nomatch h), upd_same, But.refl.mut hD, by simpa using t.other nD, fun j a z m h => by simp at h⟩
  · rintro i G hi ⟨as, ms, hl, hm, hL, nd, fr, gD, bG, tG, rc⟩
    refine ⟨hv _, ?_⟩
    show tYes _ G _
    have hi1 : i < zs.length := by omega
    refine turn i zs[i] G _ hi (List.getElem?_eq_getElem hi1) tG bG fun p m G1 hp s1 t1 Lm r1 => ?_
    have np : p ≠ D := Ne.symm (ne_of_none gD hp)
    have fp : G0 p = none := by
      cases h : G0 p with
      | none => rfl
      | some o =>
        by_cases e : p = tp
        · subst e; obtain ⟨xs, hx, _⟩ := tG; rw [hp] at hx; cases hx
        · rw [bG p o e h] at hp; cases hp
    have nas : p ∉ as := fun h => by obtain ⟨_, _, o, ho⟩ := fr p h; rw [hp] at ho; cases ho
    refine ⟨as.map V.ref, s1 _ _ nD gD, ?_, as ++ [p], ms ++ [m], by simp [hl], by simp [hm], ?_, ?_, ?_, ?_, ?_, ?_, ?_⟩
    · rw [List.length_map, hl]; exact Nat.lt_of_lt_of_le (by omega : i < 1001) (by decide)
    · intro x hx
      rcases List.mem_append.mp hx with q | q
      · exact hL x q
      · obtain rfl := List.mem_singleton.mp q; exact Lm
    · rw [List.nodup_append]
      exact ⟨nd, by simp, fun a ha b hb => by obtain rfl := List.mem_singleton.mp hb; exact fun e => nas (e ▸ ha)⟩
    · intro a ha
      rcases List.mem_append.mp ha with q | q
      · obtain ⟨h1, h2, o, h3⟩ := fr a q
        exact ⟨h1, h2, o, by rw [upd_ne h2]; exact s1 _ _ (ntp h1) h3⟩
      · obtain rfl := List.mem_singleton.mp q
        obtain ⟨_, dx, h⟩ := r1
        exact ⟨fp, np, _, by rw [upd_ne np]; exact h⟩
    · rw [upd_same, List.map_append]; rfl
    · exact (bG.trans s1).mut hD
    · have := t1.other (o := .lst (as.map V.ref ++ [.ref p])) nD
      refine this.mono ?_
      push_cast
      rw [Int.mul_add]
      omega
    · intro j a z m' h1 h2 h3
      by_cases cj : j < as.length
      · rw [List.getElem?_append_left cj] at h1
        rw [List.getElem?_append_left (by omega)] at h3
        obtain ⟨hk, dx, h⟩ := rc j a z m' h1 h2 h3
        have fa := fr a (List.mem_of_getElem? h1)
        exact ⟨hk, dx, by rw [upd_ne fa.2.1]; exact s1 _ _ (ntp fa.1) h⟩
      · rw [List.getElem?_append_right (by omega)] at h1
        rw [List.getElem?_append_right (by omega)] at h3
        by_cases e : j = as.length
        · subst e
          simp at h1
          subst h1
          rw [hl, hm] at h3
          simp at h3
          subst h3
          rw [hl, List.getElem?_eq_getElem hi1] at h2
          cases h2
          obtain ⟨hk, dx, h⟩ := r1
          exact ⟨hk, dx, by rw [upd_ne np]; exact h⟩
        · rw [List.getElem?_eq_none (by simp; omega)] at h1
          cases h1
  · rintro G ⟨as, ms, hl, hm, hL, nd, fr, gD, bG, tG, rc⟩
    refine hq D as ms G hm hL bG tG ⟨⟨gD, by simp [recs, hl, hz, hm], fun j a r h1 h2 => ?_⟩, nd, fun a ha => (fr a ha).1, fun a ha => (fr a ha).2.1, hD⟩
    unfold recs at h2
    rw [List.getElem?_map] at h2
    cases ez : (zs.zip ms)[j]? with
    | none => rw [ez] at h2; cases h2
    | some p =>
      rw [ez] at h2
      obtain rfl := Option.some.inj h2
      obtain ⟨e1, e2⟩ := List.getElem?_zip_eq_some.mp ez
      exact rc j a p.1 p.2 h1 e1 e2
end
end K
namespace K
open PySem PySem.Spec PyProof.Rows L2 U ClX M
local macro_rules | `(tactic| walk_at "rd") => `(tactic| simp only [tSeq, tRet, tIfS, tAsg, tDrop, tNext, tNever, tRetN, tAndV, tOrV, tNotV, tAnd, tOr, tNot, tB, tTest, tChain, tCB, tCons, tNil, tVar, tC, tOp, tUn, tIf, gName, uLe, uLt, uGe, uGt, uCmp, uAdd, uSub, uMul, uDiv, uMod, uPow, uNeg, uEq, uNe, uIs, uIsNot, uIx, uIn, cIsi, cLen, cAll, cMax, cMin, cAbs, cSort, cSortD, cInt, cTuple, cRepr, cList, tLstRg, tTupRg, tRg1, tRg2, sDPut, tDNewK, tAug, ipI, iZip, tLst, tTup, tPar, tPar3, tFn, tMkr, tMth, tFnK, tMthK, tAtt, sFld, tYes, tLc_eq, tFor_eq, iList, iStr, iRng1, iRng2, iEnum, tLenSetT, tSl, tPart, tNoPart, gTup, gCons, gNil, gSub, tBM, tBM0, List.getElem?_cons_zero, List.getElem?_cons_succ, List.set_cons_zero, List.set_cons_succ, Option.some.injEq, V.bl.injEq, V.int.injEq, V.str.injEq, V.ref.injEq, exists_eq_left', exists_eq_left, exists_eq_right, exists_eq_right', and_true, true_and, scal, if_true, Bool.false_eq_true, if_false, List.cons.injEq, exists_const, false_and, and_false, ite_true, ite_false, Bool.not_true, Bool.not_false])
section
variable {P : Program} {w : World} {K : PySem.W.Frag} {mg : Str → Option Value} {base : Heap} {A : Ads}
theorem Tape.ne {G : Hp} {tp p : Addr} {c : Int} (t : Tape G tp c) (h : G p = none) : p ≠ tp := fun e => by subst e; obtain ⟨xs, hx, _⟩ := t; rw [h] at hx; cases hx
theorem But.free {tp p : Addr} {G G' : Hp} (b : But tp G G') (h : G' p = none) (n : p ≠ tp) : G p = none := by
  cases e : G p with
  | none => rfl
  | some o => rw [b p o n e] at h; cases h
/-- [<an int, drawn> for v in xs]: e numbers drawn in each turn -/
theorem lc_ints {G0 : Hp} {tp l : Addr} {c : Int} {v e : Nat} {te : TE} {σ : L2.St} {Q : VK} {xs : List V} {L : Int → Prop} (t : Tape G0 tp c) (hx : G0 l = some (.lst xs)) (nl : l ≠ tp) (hn : xs.length ≤ 1000) (hv : ∀ x, wipe ((wipe σ [v]).set v (some x)) [v] = wipe σ [v])
    (turn : ∀ (i : Nat) (x : V) (G : Hp) (Q' : VK), xs[i]? = some x → Tape G tp (c + e * i) → But tp G0 G → (∀ r G', L r → Tape G' tp (c + e * i + e) → But tp G G' → Q' (.int r) G') → te ((wipe σ [v]).set v (some x)) G Q')
    (hq : ∀ (D : Addr) (zs : List Int) (G : Hp), G0 D = none → zs.length = xs.length → (∀ z ∈ zs, L z) → G D = some (.lst (zs.map V.int)) → But tp G0 G → Tape G tp (c + e * xs.length) → Q (.ref D) G) : LcB (Itl K l) (gName v) tYes te [v] σ G0 Q := by
  intro D hD
  have nD : D ≠ tp := t.ne hD
  refine ⟨fun i m G => m = xs.length - i ∧ i ≤ xs.length ∧ ∃ zs : List Int, zs.length = i ∧ (∀ z ∈ zs, L z) ∧ G D = some (.lst (zs.map V.int)) ∧ But tp G0 G ∧ Tape G tp (c + e * i), ⟨xs.length, by simp, Nat.zero_le _, [], rfl, (fun _ h => nomatch h), upd_same, But.refl.mut hD, by simpa using t.other nD⟩, ?_⟩
  rintro i m G ⟨rfl, hi, zs, hz, hL, gD, bG, tG⟩
  have gl : SqL K G l xs := .inl (.inl (bG _ _ nl hx))
  by_cases hlt : i < xs.length
  · refine .inr ⟨⟨_, xs[i], gl, List.getElem?_eq_getElem hlt⟩, fun G' => ∃ zs : List Int, zs.length = i + 1 ∧ (∀ z ∈ zs, L z) ∧ G' D = some (.lst (zs.map V.int)) ∧ But tp G0 G' ∧ Tape G' tp (c + e * ((i + 1 : Nat) : Int)), fun G' h => ⟨xs.length - (i + 1), by omega, rfl, hlt, h⟩, fun x G' y => ?_⟩
    obtain ⟨rfl, y⟩ := y
    refine ⟨hv _, ?_⟩
    show tYes _ _ _
    refine turn i x _ _ (y _ gl) tG bG fun r G1 hr t1 b1 => ⟨zs.map V.int, b1 _ _ nD gD, ?_, zs ++ [r], by simp [hz], ?_, ?_, (bG.trans b1).mut hD, ?_⟩
    · rw [List.length_map, hz]; exact Nat.lt_of_lt_of_le (by omega : i < 1001) (by decide)
    · intro x hx
      rcases List.mem_append.mp hx with q | q
      · exact hL x q
      · obtain rfl := List.mem_singleton.mp q; exact hr
    · rw [upd_same, List.map_append]; rfl
    · refine (t1.other nD).mono ?_
      push_cast
      rw [Int.mul_add]
      omega
  · obtain rfl : i = xs.length := by omega
    exact .inl ⟨⟨_, gl, Nat.le_refl _⟩, hq D zs G hD hz hL gD bG tG⟩
end
end K
namespace K
open PySem PySem.Spec PyProof.Rows L2 U ClX M
local macro_rules | `(tactic| walk_at "rd") => `(tactic| simp only [tSeq, tRet, tIfS, tAsg, tDrop, tNext, tNever, tRetN, tAndV, tOrV, tNotV, tAnd, tOr, tNot, tB, tTest, tChain, tCB, tCons, tNil, tVar, tC, tOp, tUn, tIf, gName, uLe, uLt, uGe, uGt, uCmp, uAdd, uSub, uMul, uDiv, uMod, uPow, uNeg, uEq, uNe, uIs, uIsNot, uIx, uIn, cIsi, cLen, cAll, cMax, cMin, cAbs, cSort, cSortD, cInt, cTuple, cRepr, cList, tLstRg, tTupRg, tRg1, tRg2, sDPut, tDNewK, tAug, ipI, iZip, tLst, tTup, tPar, tPar3, tFn, tMkr, tMth, tFnK, tMthK, tAtt, sFld, tYes, tLc_eq, tFor_eq, iList, iStr, iRng1, iRng2, iEnum, tLenSetT, tSl, tPart, tNoPart, gTup, gCons, gNil, gSub, tBM, tBM0, List.getElem?_cons_zero, List.getElem?_cons_succ, List.set_cons_zero, List.set_cons_succ, Option.some.injEq, V.bl.injEq, V.int.injEq, V.str.injEq, V.ref.injEq, exists_eq_left', exists_eq_left, exists_eq_right, exists_eq_right', and_true, true_and, scal, if_true, Bool.false_eq_true, if_false, List.cons.injEq, exists_const, false_and, and_false, ite_true, ite_false, Bool.not_true, Bool.not_false])
section
variable {P : Program} {w : World} {K : PySem.W.Frag} {mg : Str → Option Value} {base : Heap} {A : Ads}
def Lo (m : Int) : Prop := 0 ≤ m ∧ m ≤ 60
def sp_slots : Sp := fun vs H Q _ => ∃ (tp : Addr) (n : Nat) (c : Int), vs = [.ref tp, .int n] ∧ n ≤ 40 ∧ Tape H tp c ∧ c ≤ 900000 ∧ ∀ (p : Addr) (ms : List Int) (H' : Hp), H p = none → ms.length = n → (∀ m ∈ ms, Lo m) → H' p = some (.lst (ms.map V.int)) → But tp H H' → Tape H' tp (c + 200) → Q (.ref p) H'
theorem p_slots (T : Tx K mg A) : Pur N_law_slots ps_law_slots (t_law_slots P w K mg base A) sp_slots := by
  intro vs H Q E h
  obtain ⟨tp, n, c, rfl, hn, t, hc, q⟩ := h
  refine ⟨rfl, ?_⟩
  show t_law_slots P w K mg base A E _ [some (.ref tp), some (.int n), none, none, none, none] H
  unfold t_law_slots
  refine seqU fun U hU => ?_
  walk_at "rd"
  refine ⟨2, _, fn_next T, by decide, next_ok t (by omega) (by decide) (by decide) fun st G1 s0 s1 t1 b1 e1 => ?_⟩
  refine ⟨by decide, fun F hF => ⟨_, _, ⟨rfl, rfl⟩, ?_⟩⟩
  rw [hU]
  clear hU
  have nF : F ≠ tp := t1.ne hF
  have fF : H F = none := b1.free hF nF
  refine seqU fun U hU => ?_
  walk_at "rd"
  refine ⟨by omega, by omega, ?_⟩
  rw [Int.toNat_natCast]
  refine for_range (n := n) (fun i σ G => ∃ (zs : List Int) (v4 : Option V), σ = [some (.ref tp), some (.int n), some (.int st), some (.ref F), v4, none] ∧ zs.length = i ∧ (∀ z ∈ zs, 0 ≤ z ∧ z < 40) ∧ G F = some (.lst (zs.map V.int)) ∧ But tp H G ∧ Tape G tp (c + 1 + i)) ⟨[], _, rfl, rfl, (fun _ h => nomatch h), upd_same, b1.mut fF, by simpa using t1.other nF⟩ ?_ ?_
  · rintro i σ G hi ⟨zs, v4, rfl, hz, hL, gF, bG, tG⟩
    walk_at "rd"
    refine ⟨.inl ⟨rfl, _, .inl (.inl gF)⟩, 2, _, fn_next T, by decide, next_ok tG (by omega) (by omega) (by omega) fun r G2 r0 r1 t2 b2 e2 => ?_⟩
    refine ⟨F, zs.map V.int, _, rfl, rfl, b2 _ _ nF gF, ?_, zs ++ [r], ⟨by simp [hz], ?_, ?_, (bG.trans b2).mut fF, ?_⟩⟩
    · rw [List.length_map, hz]; exact Nat.lt_of_lt_of_le (by omega : i < 1001) (by decide)
    · intro x hx
      rcases List.mem_append.mp hx with q | q
      · exact hL x q
      · obtain rfl := List.mem_singleton.mp q; omega
    · rw [upd_same, List.map_append]; rfl
    · exact (t2.other nF).mono (by push_cast; omega)
  · rintro σ G ⟨zs, v4, rfl, hz, hL, gF, bG, tG⟩
    show U _ _
    rw [hU]
    clear hU
    have ok : ∀ z ∈ zs, Lo z := fun z h => by have := hL z h; unfold Lo; omega
    refine seqU fun U hU => ?_
    have ky1 : ∀ (F : Addr) (zs : List Int) v4 v5 (G : Hp), H F = none → zs.length = n → (∀ z ∈ zs, Lo z) → G F = some (.lst (zs.map V.int)) → But tp H G → Tape G tp (c + 90) → U [some (.ref tp), some (.int n), some (.int st), some (.ref F), v4, v5] G := by
      clear hz hL gF bG tG ok
      intro F zs v4 v5 G fF hz ok gF bG tG
      have nF : F ≠ tp := t.ne fF
      rw [hU]
      clear hU
      refine seqU fun U hU => ?_
      have ky2 : ∀ (F : Addr) (zs : List Int) v4 v5 (G : Hp), H F = none → zs.length = n → (∀ z ∈ zs, Lo z) → G F = some (.lst (zs.map V.int)) → But tp H G → Tape G tp (c + 140) → U [some (.ref tp), some (.int n), some (.int st), some (.ref F), v4, v5] G := by
        clear hz gF bG tG ok
        intro F zs v4 v5 G fF hz ok gF bG tG
        rw [hU]
        clear hU
        walk_at "rd"
        by_cases c3 : st = 3
        · rw [if_pos (decide_eq_true c3)]
          refine ⟨2, _, fn_next T, by decide, (by show 2 ≤ sizeLine; decide), fun q1 hq1 => ?_⟩
          have n1 : q1 ≠ tp := tG.ne hq1
          refine ⟨2, _, fn_next T, by decide, next_ok (tG.other n1) (by omega) (by decide) (by decide) fun x1 G2 x10 x11 t2 b2 e2 => ?_⟩
          have h1 : G2 q1 = some (.lst [.int 2, .int 41]) := by rw [e2 q1 n1]; exact upd_same
          obtain ⟨wd, hwd, wd0, wd1⟩ : ∃ wd : Int, atI [V.int 2, V.int 41] x1 = some (.int wd) ∧ 0 < wd ∧ wd ≤ 41 := by
            have : x1 = 0 ∨ x1 = 1 := by omega
            rcases this with rfl | rfl
            · exact ⟨2, rfl, by decide, by decide⟩
            · exact ⟨41, rfl, by decide, by decide⟩
          refine ⟨_, _, .inl (.inl (.inl h1)), hwd, next_ok t2 (by omega) wd0 (by omega) fun x2 G3 x20 x21 t3 b3 e3 => ?_⟩
          refine ⟨(by show 1 ≤ sizeLine; decide), fun q4 hq4 => ⟨_, upd_same, by omega, by omega, Nat.le_trans (by simp; omega : _ ≤ 1000) (by decide), fun q5 hq5 => ?_⟩⟩
          have B3 : But tp H G3 := ((bG.trans (But.same (Same.new hq1))).trans b2).trans b3
          have n4 : q4 ≠ tp := t3.ne hq4
          have t4 := t3.other (o := .lst [V.int x2]) n4
          have n5 : q5 ≠ tp := t4.ne hq5
          have B4 : But tp H (upd G3 q4 (.lst [V.int x2])) := B3.trans (But.same (Same.new hq4))
          refine q q5 (List.replicate n x2) _ (B4.free hq5 n5) (by simp) (fun m hm => by obtain ⟨_, rfl⟩ := List.mem_replicate.mp hm; unfold Lo; omega) ?_ (B4.trans (But.same (Same.new hq5))) ((t4.other n5).mono (by omega))
          rw [upd_same, Int.toNat_natCast, repA]
        · rw [if_neg (by simpa using c3)]
          exact q F zs G fF hz ok gF bG (tG.mono (by omega))
      walk_at "rd"
      by_cases c2 : st = 2
      · rw [if_pos (decide_eq_true c2)]
        refine ⟨⟨_, .inl (.inl gF)⟩, lc_ints (e := 1) (L := Lo) tG gF nF (by rw [List.length_map]; omega) (fun x => rfl) (fun i x G2 Q' hx t2 b2 hh => ?_) fun D ys G2 hD yl yo gD b2 t2 => ?_⟩
        · refine ⟨2, _, fn_next T, by decide, .ref tp, rfl, next_ok (E := E0) t2 (by have := (List.getElem?_eq_some_iff.mp hx).1; rw [List.length_map] at this; omega) (by decide) (by decide) fun r G3 r0 r1 t3 b3 e3 => hh r G3 ⟨r0, by omega⟩ (t3.mono (by omega)) b3⟩
        · rw [List.length_map] at yl t2
          have nD : D ≠ tp := tG.ne hD
          exact ky2 D ys _ _ G2 (bG.free hD nD) (by omega) yo gD (bG.trans b2) (t2.mono (by omega))
      · rw [if_neg (by simpa using c2)]
        exact ky2 F zs _ _ G fF hz ok gF bG (tG.mono (by omega))
    walk_at "rd"
    by_cases c1 : st = 1
    · rw [if_pos (decide_eq_true c1)]
      refine ⟨⟨_, .inl (.inl gF)⟩, lc_ints (e := 1) (L := Lo) tG gF nF (by rw [List.length_map]; omega) (fun x => rfl) (fun i x G2 Q' hx t2 b2 hh => ?_) fun D ys G2 hD yl yo gD b2 t2 => ?_⟩
      · have hi := (List.getElem?_eq_some_iff.mp hx).1
        rw [List.length_map] at hi
        rw [List.getElem?_map, List.getElem?_eq_getElem hi] at hx
        obtain rfl := (Option.some.inj hx).symm
        have hzi := hL zs[i] (List.getElem_mem hi)
        walk_at "rd"
        refine ⟨.int zs[i], rfl, 2, _, fn_next T, by decide, .ref tp, rfl, next_ok t2 (by omega) (by decide) (by decide) fun r G3 r0 r1 t3 b3 e3 => ?_⟩
        walk_at "rd"
        refine hh _ G3 ?_ (t3.mono (by omega)) b3
        unfold Lo
        split <;> omega
      · rw [List.length_map] at yl t2
        have nD : D ≠ tp := tG.ne hD
        exact ky1 D ys _ _ G2 (bG.free hD nD) (by omega) yo gD (bG.trans b2) (t2.mono (by omega))
    · rw [if_neg (by simpa using c1)]
      exact ky1 F zs _ _ G fF hz ok gF bG (tG.mono (by omega))
theorem fn_slots (T : Tx K mg A) : Fn P w K mg base 3 "_law_slots" sp_slots := T.f_law_slots.fn sc_law_slots (fun hr => d_law_slots T.G hr) (p_slots T)
end
end K
namespace K
open PySem PySem.Spec PyProof.Rows L2 U ClX M
local macro_rules | `(tactic| walk_at "rd") => `(tactic| simp only [tSeq, tRet, tIfS, tAsg, tDrop, tNext, tNever, tRetN, tAndV, tOrV, tNotV, tAnd, tOr, tNot, tB, tTest, tChain, tCB, tCons, tNil, tVar, tC, tOp, tUn, tIf, gName, uLe, uLt, uGe, uGt, uCmp, uAdd, uSub, uMul, uDiv, uMod, uPow, uNeg, uEq, uNe, uIs, uIsNot, uIx, uIn, cIsi, cLen, cAll, cMax, cMin, cAbs, cSort, cSortD, cInt, cTuple, cRepr, cList, tLstRg, tTupRg, tRg1, tRg2, sDPut, tDNewK, tAug, ipI, iZip, tLst, tTup, tPar, tPar3, tFn, tMkr, tMth, tFnK, tMthK, tAtt, sFld, tYes, tLc_eq, tFor_eq, iList, iStr, iRng1, iRng2, iEnum, tLenSetT, tSl, tPart, tNoPart, gTup, gCons, gNil, gSub, tBM, tBM0, List.getElem?_cons_zero, List.getElem?_cons_succ, List.set_cons_zero, List.set_cons_succ, Option.some.injEq, V.bl.injEq, V.int.injEq, V.str.injEq, V.ref.injEq, exists_eq_left', exists_eq_left, exists_eq_right, exists_eq_right', and_true, true_and, scal, if_true, Bool.false_eq_true, if_false, List.cons.injEq, exists_const, false_and, and_false, ite_true, ite_false, Bool.not_true, Bool.not_false])
section
variable {P : Program} {w : World} {K : PySem.W.Frag} {mg : Str → Option Value} {base : Heap} {A : Ads}
theorem fm_congr {α β : Type} {f g : α → Option β} : ∀ l : List α, (∀ x ∈ l, f x = g x) → l.filterMap f = l.filterMap g
  | [], _ => rfl
  | x :: l, h => by rw [List.filterMap_cons, List.filterMap_cons, h x List.mem_cons_self, fm_congr l fun y hy => h y (List.mem_cons_of_mem _ hy)]
abbrev slot (r : Rc) : Int := r.2.2
abbrev item (r : Rc) : Str := r.2.1
theorem Rec.ne_lst {G : Hp} {a l : Addr} {k : Nat} {z : Str} {m : Int} {xs : List V} (r : Rec A G a k z m) (h : G l = some (.lst xs)) : a ≠ l := fun e => by
  obtain ⟨_, dx, q⟩ := r
  rw [e, h] at q
  cases q
theorem Book.erase {G : Hp} {L : Addr} {as : List Addr} {rs : List Rc} (b : Book A G L as rs) (t : Nat) : Book A (upd G L (.lst ((as.eraseIdx t).map V.ref))) L (as.eraseIdx t) (rs.eraseIdx t) := by
  refine ⟨upd_same, by rw [List.length_eraseIdx, List.length_eraseIdx, b.len], fun i a r h1 h2 => ?_⟩
  rw [List.getElem?_eraseIdx] at h1 h2
  have q : Rec A G a r.1 r.2.1 r.2.2 := by
    split at h1
    · rename_i c; rw [if_pos c] at h2; exact b.at_ i a r h1 h2
    · rename_i c; rw [if_neg c] at h2; exact b.at_ (i + 1) a r h1 h2
  have ne := q.ne_lst b.lst
  obtain ⟨hk, dx, h⟩ := q
  exact ⟨hk, dx, by rw [upd_ne ne]; exact h⟩
def sp_played (A : Ads) : Sp := fun vs H Q _ => ∃ (tp l : Addr) (as : List Addr) (rs : List Rc) (c : Int), vs = [.ref tp, .ref l] ∧ Tape H tp c ∧ c ≤ 900000 ∧ Book A H l as rs ∧ l ≠ tp ∧ (∀ a ∈ as, a ≠ tp) ∧ rs.length ≤ 40 ∧ (∀ r ∈ rs, slot r ≤ 60) ∧
  ∀ (p pe : Addr) (m len : Nat) (done ea : List Rc) (H' : Hp), But tp H H' → Tape H' tp (c + 40) → H' p = some (.tup [.ref pe, .int m]) → H' pe = some (.lst ((ea.map item).map V.str)) → Play slot done [] len m ea → done.Perm rs → m ≤ 60 → Q (.ref p) H'
theorem p_played (T : Tx K mg A) : Pur N_law_played ps_law_played (t_law_played P w K mg base A) (sp_played A) := by
  intro vs H Q E h
  obtain ⟨tp, l, as, rs, c, rfl, t, hc, b, nl, na, h40, h60, q⟩ := h
  refine ⟨rfl, ?_⟩
  show t_law_played P w K mg base A E _ [some (.ref tp), some (.ref l), none, none, none, none, none, none, none] H
  unfold t_law_played
  refine seqU fun U hU => ?_
  walk_at "rd"
  refine ⟨_, .inl (.inl (.inl b.lst)), fun L hL => ⟨by decide, fun F0 hF0 => ⟨(by show 4 ≤ sizeLine; decide), fun q1 hq1 => ?_⟩⟩⟩
  refine ⟨_, _, rfl, .inl (.inl upd_same), rfl, _, _, rfl, _, _, rfl, _, _, rfl, _, _, rfl, rfl, ?_⟩
  rw [hU]
  clear hU
  have s1 := Same.new (o := .lst (as.map V.ref)) hL
  have s2 := Same.new (o := .lst []) hF0
  have s3 := Same.new (o := .tup [.ref L, .int 0, .int 0, .ref F0]) hq1
  have S3 := (s1.trans s2).trans s3
  have gL := s3 _ _ (s2 _ _ (upd_same (H := H) (a := L) (o := .lst (as.map V.ref))))
  have gF := s3 _ _ (upd_same (H := upd H L (.lst (as.map V.ref))) (a := F0) (o := .lst []))
  have fF0 : H F0 = none := s1.free hF0
  have nLF : L ≠ F0 := ne_of_none (H := upd H L (.lst (as.map V.ref))) upd_same hF0
  generalize upd (upd (upd H L (.lst (as.map V.ref))) F0 (.lst [])) q1 (.tup [.ref L, .int 0, .int 0, .ref F0]) = G0 at S3 gL gF ⊢
  have nL : L ≠ tp := t.ne hL
  refine seqU fun U hU => ?_
  refine ⟨fun μ σ G => ∃ (as' : List Addr) (left done ea : List Rc) (F : Addr) (len m : Nat) (v6 v7 v8 : Option V), μ = 200 - len ∧ σ = [some (.ref tp), some (.ref l), some (.ref L), some (.int len), some (.int m), some (.ref F), v6, v7, v8] ∧ But tp H G ∧ Tape G tp (c + done.length) ∧ Book A G L as' left ∧ G F = some (.lst ((ea.map item).map V.str)) ∧ F ≠ L ∧ F ≠ tp ∧ (∀ a ∈ as', a ≠ tp) ∧ (done ++ left).Perm rs ∧ Play slot done left len m ea ∧ m ≤ 60, ⟨200, as, rs, [], [], F0, 0, 0, none, none, none, rfl, rfl, But.same S3, ?_, ⟨gL, b.len, (b.same S3).at_⟩, gF, Ne.symm nLF, t.ne fF0, na, .refl _, Play.start, by omega⟩, ?_⟩
  · simpa using t.same S3
  rintro μ σ G ⟨as', left, done, ea, F, len, m, v6, v7, v8, rfl, rfl, bG, tG, bk, gF, nFL, nFt, na', pm, pl, m60⟩
  have dl : done.length + left.length = rs.length := by have := pm.length_eq; rw [List.length_append] at this; exact this
  have lo := pl.long
  have el : ea.length ≤ 40 := by
    by_cases z : m = 0
    · rw [pl.early z]; omega
    · obtain ⟨l', e1, _, _, rest, e4, _⟩ := pl.stuck (by omega)
      have := e4.length_eq
      simp only [List.length_append] at this
      omega
  walk_at "rd"
  refine ⟨by decide, fun e1 he1 => ?_⟩
  have u1 := Same.new (o := .lst []) he1
  have bk1 := bk.same u1
  cases left with
  | nil =>
    have : as' = [] := List.length_eq_zero_iff.mp bk.len
    subst this
    refine .inl ⟨.list [], .list [], .lst (.inl (.inl bk1.lst)) .nil, .lst (.inl (.inl upd_same)) .nil, rfl, rfl, false, rfl, ?_⟩
    rw [if_neg (by decide)]
    show U _ _
    rw [hU]
    clear hU
    walk_at "rd"
    refine ⟨(by show 2 ≤ sizeLine; decide), fun p hp => ?_⟩
    rw [List.append_nil] at pm
    have := Same.new (o := .tup [.ref F, .int m]) hp
    exact q p F m len done ea _ (bG.trans (But.same (u1.trans this))) (((tG.same u1).same this).mono (by have := pm.length_eq; omega)) upd_same (this _ _ (u1 _ _ gF)) pl pm m60
  | cons r0 left' =>
    have hne : r0 :: left' ≠ [] := by simp
    generalize r0 :: left' = left at bk bk1 pm pl dl hne
    have ll : 0 < left.length := List.length_pos_iff.mpr hne
    refine .inr ⟨L, e1, as'.map V.ref, [], rfl, rfl, .inl (.inl bk1.lst), .inl (.inl upd_same), ?_, true, rfl, ?_⟩
    · rw [book_len bk]; simp; omega
    rw [if_pos rfl]
    refine ⟨fun σ' H' => ∃ m', m' < 200 - len ∧ ∃ (as' : List Addr) (left done ea : List Rc) (F : Addr) (len m : Nat) (v6 v7 v8 : Option V), m' = 200 - len ∧ σ' = [some (.ref tp), some (.ref l), some (.ref L), some (.int len), some (.int m), some (.ref F), v6, v7, v8] ∧ But tp H H' ∧ Tape H' tp (c + done.length) ∧ Book A H' L as' left ∧ H' F = some (.lst ((ea.map item).map V.str)) ∧ F ≠ L ∧ F ≠ tp ∧ (∀ a ∈ as', a ≠ tp) ∧ (done ++ left).Perm rs ∧ Play slot done left len m ea ∧ m ≤ 60, fun _ _ h => h, ?_⟩
    have bG1 : But tp H (upd G e1 (.lst [])) := bG.trans (But.same u1)
    have tG1 := tG.same u1
    have gF1 := u1 _ _ gF
    generalize upd G e1 (.lst []) = G1 at bk1 bG1 tG1 gF1
    refine ⟨_, .inl (.inl (.inl bk1.lst)), by rw [book_len bk]; omega, by rw [book_len bk]; omega, ?_⟩
    rw [book_len bk, Int.toNat_natCast]
    refine lc_goes goes_range (fun i => (left[i]?).bind fun r => if slot r ≤ (len : Int) then some (V.int (i : Nat)) else none) (Nat.lt_of_le_of_lt (by omega : left.length ≤ 40) (by decide)) (fun i x G2 hi u2 r => ?_) fun D G2 hD u2 hl2 => ?_
    · obtain rfl := r
      rw [List.getElem?_eq_getElem hi]
      have hia : i < as'.length := by rw [bk.len]; exact hi
      have rc := (bk1.same u2).at_ i _ _ (List.getElem?_eq_getElem hia) (List.getElem?_eq_getElem hi)
      have ev : Evt (tTest (tOp uLe (tAtt P w K mg base "slot" (tOp (uIx K) (tVar 2) (tVar 8))) (tVar 3))) [some (.ref tp), some (.ref l), some (.ref L), some (.int len), some (.int m), some (.ref F), v6, v7, some (.int (0 + (i : Nat)))] G2 (decide (slot left[i] ≤ (len : Int))) := by
        intro Q' q'
        walk_at "rd"
        exact ⟨_, _, .inl (.inl (.inl (bk1.same u2).lst)), at_of (j := i) (by omega) (by rw [List.getElem?_map, List.getElem?_eq_getElem hia]; rfl), _, _, rfl, att_slot T rc, q' G2 (Same.refl _)⟩
      refine ⟨[some (.ref tp), some (.ref l), some (.ref L), some (.int len), some (.int m), some (.ref F), v6, v7, some (.int (0 + (i : Nat)))], rfl, fun R' h => h, ?_⟩
      simp only [Option.bind_some]
      by_cases cc : slot left[i] ≤ (len : Int)
      · rw [decide_eq_true cc] at ev
        rw [if_pos cc]
        refine ⟨ev, fun G3 u3 Q' q' => ⟨_, rfl, ?_⟩⟩
        have := q' G3 (Same.refl _)
        rwa [← Int.zero_add ((i : Nat) : Int)] at this
      · rw [decide_eq_false cc] at ev
        rw [if_neg cc]
        exact ev
    have er : ∃ ks : List Nat, (List.range left.length).filterMap (fun i => (left[i]?).bind fun r => if slot r ≤ (len : Int) then some (V.int (i : Nat)) else none) = (ks.map Int.ofNat).map V.int ∧ ks.length ≤ left.length ∧ (∀ k ∈ ks, ∃ h : k < left.length, slot left[k] ≤ (len : Int)) ∧ (ks = [] → ∀ x ∈ left, (len : Int) < slot x) := by
      refine ⟨(List.range left.length).filter fun i => decide (slot (left.getD i (0, "", 0)) ≤ (len : Int)), ?_, ?_, fun k hk => ?_, fun e x hx => ?_⟩
      · rw [List.map_map, ← List.filterMap_eq_map', List.filterMap_filter]
        refine fm_congr _ fun i hi => ?_
        have hi := List.mem_range.mp hi
        rw [List.getElem?_eq_getElem hi]
        simp only [Option.bind_some, List.getD, List.getElem?_eq_getElem hi, Option.getD_some]
        by_cases cc : slot left[i] ≤ (len : Int)
        · rw [if_pos cc, if_pos (decide_eq_true cc)]; rfl
        · rw [if_neg cc, if_neg (by simpa using cc)]
      · exact Nat.le_trans (List.length_filter_le _ _) (by simp)
      · obtain ⟨h1, h2⟩ := List.mem_filter.mp hk
        have hi := List.mem_range.mp h1
        simp only [List.getD, List.getElem?_eq_getElem hi, Option.getD_some, decide_eq_true_eq] at h2
        exact ⟨hi, h2⟩
      · obtain ⟨k, hk, rfl⟩ := List.mem_iff_getElem.mp hx
        have := List.filter_eq_nil_iff.mp e k (List.mem_range.mpr hk)
        simp only [List.getD, List.getElem?_eq_getElem hk, Option.getD_some, decide_eq_true_eq] at this
        omega
    obtain ⟨ks, ek, kl, kin, knil⟩ := er
    rw [ek] at hl2
    have bk2 := bk1.same u2
    have bG2 : But tp H G2 := bG1.trans (But.same u2)
    have tG2 := tG1.same u2
    have gF2 := u2 _ _ gF1
    refine ⟨by decide, fun q3 hq3 => .inl ⟨dI (ks.map Int.ofNat), .list [], dp_dI (.inl (.inl ((Same.new hq3) _ _ hl2))), .lst (.inl (.inl upd_same)) .nil, (dI_ok _).shaped (by decide), rfl, ?_⟩⟩
    have u3 := Same.new (o := .lst []) hq3
    have bk3 := bk2.same u3
    have bG3 : But tp H (upd G2 q3 (.lst [])) := bG2.trans (But.same u3)
    have tG3 := tG2.same u3
    have gF3 := u3 _ _ gF2
    have hl3 := u3 _ _ hl2
    generalize upd G2 q3 (.lst []) = G3 at bk3 bG3 tG3 gF3 hl3
    rw [if_neg (by decide), eqv_nil]
    refine ⟨_, rfl, ?_⟩
    by_cases ck : ks = []
    · have ck' : ks.map Int.ofNat = [] := by rw [ck]; rfl
      rw [if_pos (decide_eq_true ck')]
      have st := knil ck
      have l60 : (len : Int) < 60 := by
        obtain ⟨x, hx⟩ := List.exists_mem_of_ne_nil _ hne
        have h1 := st x hx
        have h2 := h60 x (pm.mem_iff.mp (List.mem_append_right _ hx))
        omega
      exact ⟨200 - (len + 1), by omega, as', left, done, ea, F, len + 1, m + 1, _, _, _, rfl, by push_cast; rfl, bG3, tG3, bk3, gF3, nFL, nFt, na', pm, pl.more hne st, by omega⟩
    · have kp : 0 < ks.length := List.length_pos_iff.mpr ck
      have ck' : ¬ ks.map Int.ofNat = [] := by simpa using ck
      rw [if_neg (by simpa using ck)]
      refine ⟨.inl ⟨rfl, _, .inl (.inl bk3.lst)⟩, 2, _, fn_next T, by decide, _, .inl (.inl (.inl hl3)), next_ok tG3 (by omega) ?_ ?_ fun r G4 r0 r1 t4 b4 e4 => ?_⟩
      · simp only [List.length_map]; omega
      · simp only [List.length_map]; omega
      simp only [List.length_map] at r1
      obtain ⟨j, rfl⟩ : ∃ j : Nat, r = j := ⟨r.toNat, by omega⟩
      have hj : j < ks.length := by omega
      obtain ⟨hk, sk⟩ := kin ks[j] (List.getElem_mem hj)
      have hka : ks[j] < as'.length := by rw [bk.len]; exact hk
      have nD : D ≠ tp := tG1.ne hD
      have hl4 : G4 D = some (.lst ((ks.map Int.ofNat).map V.int)) := by rw [e4 D nD]; exact hl3
      have bk4 := bk3.but b4 nL na'
      have gF4 := b4 _ _ nFt gF3
      refine ⟨_, _, .inl (.inl (.inl hl4)), at_of (j := j) rfl (by rw [List.getElem?_map, List.getElem?_map, List.getElem?_eq_getElem hj]; rfl), ?_⟩
      refine ⟨L, _, Int.ofNat ks[j], ks[j], .ref as'[ks[j]], rfl, rfl, bk4.lst, by simp only [Int.ofNat_eq_coe]; omega, by simp only [Int.ofNat_eq_coe]; omega, ?_, ?_, ?_⟩
      · rw [List.length_map]; simp [seqIndex?, hka]; omega
      · rw [List.getElem?_map, List.getElem?_eq_getElem hka]; rfl
      rw [erase_map]
      have rc4 := bk4.at_ ks[j] _ _ (List.getElem?_eq_getElem hka) (List.getElem?_eq_getElem hk)
      have bk5 := bk4.erase ks[j]
      have rc5 : Rec A (upd G4 L (.lst ((as'.eraseIdx ks[j]).map V.ref))) as'[ks[j]] (left[ks[j]]).1 (left[ks[j]]).2.1 (left[ks[j]]).2.2 := by
        have ne := rc4.ne_lst bk4.lst
        obtain ⟨hk, dx, h⟩ := rc4
        exact ⟨hk, dx, by rw [upd_ne ne]; exact h⟩
      have gF5 : upd G4 L (.lst ((as'.eraseIdx ks[j]).map V.ref)) F = some (.lst ((ea.map item).map V.str)) := by rw [upd_ne nFL]; exact gF4
      have bG5 : But tp H (upd G4 L (.lst ((as'.eraseIdx ks[j]).map V.ref))) := (bG3.trans b4).mut hL
      have t5 := t4.other (o := .lst ((as'.eraseIdx ks[j]).map V.ref)) nL
      generalize upd G4 L (.lst ((as'.eraseIdx ks[j]).map V.ref)) = G5 at bk5 rc5 gF5 bG5 t5
      have pl2 := pl.put hk sk
      have pm2 : (done ++ [left[ks[j]]] ++ left.eraseIdx ks[j]).Perm rs := by
        refine List.Perm.trans ?_ pm
        rw [List.append_assoc]
        exact (erase_perm left ks[j] hk).append_left done
      have na2 : ∀ a ∈ as'.eraseIdx ks[j], a ≠ tp := fun a ha => na' a ((List.eraseIdx_sublist _ _).subset ha)
      have dn : done.length < 40 := by omega
      show if _ then _ else _
      by_cases m0 : m = 0
      · rw [if_pos (by simpa using m0)]
        refine ⟨_, _, rfl, att_item T rc5, (by show 1 ≤ sizeLine; decide), fun q6 hq6 => ?_⟩
        have u6 := Same.new (o := .lst [.str (left[ks[j]]).2.1]) hq6
        refine ⟨_, _, u6 _ _ gF5, upd_same, Nat.le_trans (by simp; omega : _ ≤ 1000) (by decide), fun q7 hq7 => ?_⟩
        have u7 := Same.new (o := .lst ((ea.map item).map V.str ++ [.str (left[ks[j]]).2.1])) hq7
        have U := u6.trans u7
        rw [if_pos m0] at pl2
        refine ⟨200 - (len + 1), by omega, as'.eraseIdx ks[j], left.eraseIdx ks[j], done ++ [left[ks[j]]], ea ++ [left[ks[j]]], q7, len + 1, m, _, _, _, rfl, by push_cast; rfl, bG5.trans (But.same U), ((t5.same U).mono (by simp; omega)), bk5.same U, ?_, fun e => ?_, (t5.same u6).ne hq7, na2, pm2, pl2, m60⟩
        · rw [upd_same]; simp
        · rw [e] at hq7; rw [u6 _ _ bk5.lst] at hq7; cases hq7
      · rw [if_neg (by simpa using m0)]
        rw [if_neg m0] at pl2
        exact ⟨200 - (len + 1), by omega, as'.eraseIdx ks[j], left.eraseIdx ks[j], done ++ [left[ks[j]]], ea, F, len + 1, m, _, _, _, rfl, by push_cast; rfl, bG5, t5.mono (by simp; omega), bk5, gF5, nFL, nFt, na2, pm2, pl2, m60⟩
theorem fn_played (T : Tx K mg A) : Fn P w K mg base 3 "_law_played" (sp_played A) := T.f_law_played.fn sc_law_played (fun hr => d_law_played T.G hr) (p_played T)
end
end K
namespace K
open PySem PySem.Spec PyProof.Rows L2 U ClX M
local macro_rules | `(tactic| walk_at "rd") => `(tactic| simp only [tSeq, tRet, tIfS, tAsg, tDrop, tNext, tNever, tRetN, tAndV, tOrV, tNotV, tAnd, tOr, tNot, tB, tTest, tChain, tCB, tCons, tNil, tVar, tC, tOp, tUn, tIf, gName, uLe, uLt, uGe, uGt, uCmp, uAdd, uSub, uMul, uDiv, uMod, uPow, uNeg, uEq, uNe, uIs, uIsNot, uIx, uIn, cIsi, cLen, cAll, cMax, cMin, cAbs, cSort, cSortD, cInt, cTuple, cRepr, cList, tLstRg, tTupRg, tRg1, tRg2, sDPut, tDNewK, tAug, ipI, iZip, tLst, tTup, tPar, tPar3, tFn, tMkr, tMth, tFnK, tMthK, tAtt, sFld, tYes, tLc_eq, tFor_eq, iList, iStr, iRng1, iRng2, iEnum, tLenSetT, tSl, tPart, tNoPart, gTup, gCons, gNil, gSub, tBM, tBM0, List.getElem?_cons_zero, List.getElem?_cons_succ, List.set_cons_zero, List.set_cons_succ, Option.some.injEq, V.bl.injEq, V.int.injEq, V.str.injEq, V.ref.injEq, exists_eq_left', exists_eq_left, exists_eq_right, exists_eq_right', and_true, true_and, scal, if_true, Bool.false_eq_true, if_false, List.cons.injEq, exists_const, false_and, and_false, ite_true, ite_false, Bool.not_true, Bool.not_false])
section
variable {P : Program} {w : World} {K : PySem.W.Frag} {mg : Str → Option Value} {base : Heap} {A : Ads}
theorem facts_ok {rs : List Rc} (h : ∀ r ∈ rs, isItem r.2.1 = true) : okD 3 (.list (rs.map fact)) := okD.list fun d hd => by
  obtain ⟨r, hr, rfl⟩ := List.mem_map.mp hd
  exact fact_ok (h r hr)
theorem of_fact {G : Hp} {x : V} {r : Rc} (h : Dp K G x (fact r)) : ∃ a x0, x = .ref a ∧ SqT K G a [x0, .str r.2.1, .int r.2.2] := by
  cases h with
  | tup hs ha =>
    cases ha with
    | cons h0 h1 =>
      cases h1 with
      | cons h1 h2 =>
        cases h1
        cases h2 with
        | cons h2 h3 =>
          cases h2
          cases h3
          exact ⟨_, _, rfl, hs⟩
theorem inV_str (z : Str) (zs : List Str) : inV (.str z) (zs.map V.str) = decide (z ∈ zs) := by
  unfold inV
  induction zs with
  | nil => rfl
  | cons y zs ih =>
    rw [List.map_cons, List.any_cons, ih, Bool.eq_iff_iff]
    show ((y == z) || decide (z ∈ zs)) = true ↔ _
    simp only [Bool.or_eq_true, beq_iff_eq, decide_eq_true_eq, List.mem_cons]
    exact ⟨fun h => h.imp Eq.symm id, fun h => h.imp Eq.symm id⟩
theorem flat_strs (zs : List Str) : (zs.map V.str).all flatV = true := by
  rw [List.all_map]
  exact List.all_eq_true.mpr fun _ _ => rfl
/-- the part of the values whose data are chosen -/
theorem dpa_filter {G : Hp} {α : Type} (g : α → PyData) (f : α → Bool) : ∀ (ws : List V) (rs : List α), DpAll K G ws (rs.map g) → DpAll K G ((List.range ws.length).filterMap fun i => (ws[i]?).bind fun x => (rs[i]?).bind fun r => if f r = true then some x else none) ((rs.filter f).map g)
  | [], [], _ => .nil
  | x :: ws, r :: rs, h => by
    cases h with
    | cons h1 h2 =>
      have ih := dpa_filter g f ws rs h2
      have e0 : (List.range (x :: ws).length).filterMap (fun i => ((x :: ws)[i]?).bind fun x => ((r :: rs)[i]?).bind fun r => if f r = true then some x else none) = (if f r = true then [x] else []) ++ (List.range ws.length).filterMap (fun i => (ws[i]?).bind fun x => (rs[i]?).bind fun r => if f r = true then some x else none) := by
        rw [List.length_cons, List.range_succ_eq_map, List.filterMap_cons, List.filterMap_map]
        have e1 : ((fun i => ((x :: ws)[i]?).bind fun x => ((r :: rs)[i]?).bind fun r => if f r = true then some x else none) ∘ Nat.succ) = fun i => (ws[i]?).bind fun x => (rs[i]?).bind fun r => if f r = true then some x else none := by funext i; simp
        rw [e1]
        simp only [List.getElem?_cons_zero, Option.bind_some]
        cases f r <;> rfl
      rw [e0]
      cases e : f r with
      | true => rw [List.filter_cons_of_pos e, List.map_cons]; exact .cons h1 ih
      | false => rw [List.filter_cons_of_neg (by simp [e])]; exact ih
  | [], _ :: _, h => by cases h
  | _ :: _, [], h => by cases h
theorem nodup_items {rs : List Rc} (nd : (rs.map item).Nodup) {r r' : Rc} (h : r ∈ rs) (h' : r' ∈ rs) (e : item r = item r') : r = r' := by
  obtain ⟨i, hi, rfl⟩ := List.mem_iff_getElem.mp h
  obtain ⟨j, hj, rfl⟩ := List.mem_iff_getElem.mp h'
  have hi2 : i < (rs.map item).length := by simpa using hi
  have hj2 : j < (rs.map item).length := by simpa using hj
  rcases Nat.lt_trichotomy i j with l | l | l
  · exact absurd (by simpa using e) (List.pairwise_iff_getElem.mp nd i j hi2 hj2 l)
  · subst l; rfl
  · exact absurd (by simpa using e.symm) (List.pairwise_iff_getElem.mp nd j i hj2 hi2 l)
theorem early_upTo {rs ea rest : List Rc} {g : Nat} (nd : (rs.map item).Nodup) (pm : (ea ++ rest).Perm rs) (h1 : ∀ x ∈ ea, slot x ≤ (g : Int)) (h2 : ∀ x ∈ rest, (g : Int) < slot x) : (rs.filter fun r => decide (item r ∈ ea.map item)) = upTo rs g := by
  unfold upTo
  refine List.filter_congr fun r hr => ?_
  rw [Bool.eq_iff_iff]
  simp only [decide_eq_true_eq, List.mem_map]
  constructor
  · rintro ⟨r', hr', e⟩
    have : r' = r := nodup_items nd (pm.mem_iff.mp (List.mem_append_left _ hr')) hr e
    subst this
    exact h1 _ hr'
  · intro le
    rcases List.mem_append.mp (pm.mem_iff.mpr hr) with h | h
    · exact ⟨r, h, rfl⟩
    · exact absurd le (Int.not_le.mpr (h2 r h))
end
end K
namespace K
open PySem PySem.Spec PyProof.Rows L2 U ClX M
local macro_rules | `(tactic| walk_at "rd") => `(tactic| simp only [tSeq, tRet, tIfS, tAsg, tDrop, tNext, tNever, tRetN, tAndV, tOrV, tNotV, tAnd, tOr, tNot, tB, tTest, tChain, tCB, tCons, tNil, tVar, tC, tOp, tUn, tIf, gName, uLe, uLt, uGe, uGt, uCmp, uAdd, uSub, uMul, uDiv, uMod, uPow, uNeg, uEq, uNe, uIs, uIsNot, uIx, uIn, cIsi, cLen, cAll, cMax, cMin, cAbs, cSort, cSortD, cInt, cTuple, cRepr, cList, tLstRg, tTupRg, tRg1, tRg2, sDPut, tDNewK, tAug, ipI, iZip, tLst, tTup, tPar, tPar3, tFn, tMkr, tMth, tFnK, tMthK, tAtt, sFld, tYes, tLc_eq, tFor_eq, iList, iStr, iRng1, iRng2, iEnum, tLenSetT, tSl, tPart, tNoPart, gTup, gCons, gNil, gSub, tBM, tBM0, List.getElem?_cons_zero, List.getElem?_cons_succ, List.set_cons_zero, List.set_cons_succ, Option.some.injEq, V.bl.injEq, V.int.injEq, V.str.injEq, V.ref.injEq, exists_eq_left', exists_eq_left, exists_eq_right, exists_eq_right', and_true, true_and, scal, if_true, Bool.false_eq_true, if_false, List.cons.injEq, exists_const, false_and, and_false, ite_true, ite_false, Bool.not_true, Bool.not_false])
section
variable {P : Program} {w : World} {K : PySem.W.Frag} {mg : Str → Option Value} {base : Heap} {A : Ads}
theorem hide_free {X G : Hp} {D : Addr} (s : Same X G) (h : X D = none) : Same X (hide D G) := fun b o e => hide_get (s b o e) (ne_of_none e h)
/-- the records drawn by picks -/
def picked (k : Nat) (zs : List Str) (ms : List Int) (picks : List Nat) : List Rc := picks.map fun i => (k, zs.getD i "", ms.getD i 0)
theorem picked_items {k : Nat} {zs : List Str} {ms : List Int} {picks : List Nat} (nz : zs.Nodup) (np : picks.Nodup) (hp : ∀ i ∈ picks, i < zs.length) : ((picked k zs ms picks).map item).Nodup := by
  unfold picked
  rw [List.map_map]
  refine List.pairwise_map.mpr (np.imp_of_mem fun {a b} ha hb ne e => ?_)
  have h1 := hp a ha
  have h2 := hp b hb
  simp only [Function.comp, item, List.getD, List.getElem?_eq_getElem h1, List.getElem?_eq_getElem h2, Option.getD_some] at e
  rcases Nat.lt_trichotomy a b with l | l | l
  · exact List.pairwise_iff_getElem.mp nz a b h1 h2 l e
  · exact ne l
  · exact List.pairwise_iff_getElem.mp nz b a h2 h1 l e.symm
def sp_right (A : Ads) : Sp := fun vs H Q _ => ∃ (tp sl : Addr) (k : Nat) (ms : List Int) (c : Int), vs = [.ref tp, .int k, .ref sl] ∧ k < 2 ∧ Tape H tp c ∧ c ≤ 800000 ∧ H sl = some (.lst (ms.map V.int)) ∧ sl ≠ tp ∧ ms.length ≤ 40 ∧ (∀ m ∈ ms, Lo m) ∧ ∀ H', But tp H H' → Tape H' tp (c + 200) → Q (.bl true) H'
theorem p_right (T : Tx K mg A) : Pur N_law_right ps_law_right (t_law_right P w K mg base A) (sp_right A) := by
  intro vs H Q E h
  obtain ⟨tp, sl, kd, ms, c, rfl, hk, t, hc, hsl, nsl, h40, ok, q⟩ := h
  refine ⟨rfl, ?_⟩
  show t_law_right P w K mg base A E _ [some (.ref tp), some (.int kd), some (.ref sl), none, none, none, none, none, none, none, none, none, none, none, none, none] H
  unfold t_law_right
  refine seqU fun U hU => ?_
  walk_at "rd"
  refine ⟨3, _, fn_items T, by decide, _, .inl (.inl (.inl hsl)), tp, _, ms.length, by rw [List.length_map], t, by omega, by omega, fun pz zs G1 hpz zl nz itp h1 t1 b1 => ?_⟩
  have npz : pz ≠ tp := t.ne hpz
  have itz : ∀ z ∈ zs, isItem z = true := fun z hz => pool0_ok.it z (itp z hz)
  rw [hU]
  clear hU
  refine seqU fun U hU => ?_
  walk_at "rd"
  refine ⟨_, .inl (.inl (.inl (b1 _ _ nsl hsl))), ?_⟩
  rw [List.length_map]
  refine ⟨.of_le (by decide) (by omega) (by decide) (by omega), fun pl hpl => ?_⟩
  have npl : pl ≠ tp := t1.ne hpl
  have u2 := Same.new (o := .lst (rgV 0 (ms.length : Int))) hpl
  have b2 : But tp H (upd G1 pl (.lst (rgV 0 (ms.length : Int)))) := b1.trans (But.same u2)
  have t2 := t1.same u2
  have h2 := u2 _ _ h1
  have hp2 : upd G1 pl (.lst (rgV 0 (ms.length : Int))) pl = some (.lst (((List.range ms.length).map Int.ofNat).map V.int)) := by
    rw [upd_same]
    congr 2
    unfold rgV
    rw [List.map_map, Int.sub_zero, Int.toNat_natCast]
    refine List.map_congr_left fun i _ => ?_
    show V.int (0 + (i : Int)) = V.int (Int.ofNat i)
    rw [Int.zero_add]; rfl
  have fpl : H pl = none := b1.free hpl npl
  have nzl : pz ≠ pl := ne_of_none h1 hpl
  generalize upd G1 pl (.lst (rgV 0 (ms.length : Int))) = G2 at b2 t2 h2 hp2 ⊢
  rw [hU]
  clear hU
  refine seqU fun U hU => ?_
  walk_at "rd"
  refine ⟨by decide, fun F hF => ?_⟩
  rw [hU]
  clear hU
  have nF : F ≠ tp := t2.ne hF
  have fF : H F = none := b2.free hF nF
  have u3 := Same.new (o := .lst []) hF
  have nFl : F ≠ pl := Ne.symm (ne_of_none hp2 hF)
  have nFz : F ≠ pz := Ne.symm (ne_of_none h2 hF)
  have gF3 := upd_same (H := G2) (a := F) (o := .lst [])
  have b3 := b2.trans (But.same u3)
  have t3 := t2.same u3
  have h3 := u3 _ _ h2
  have hp3 := u3 _ _ hp2
  have nslF : sl ≠ F := ne_of_none hsl fF
  have nslp : sl ≠ pl := ne_of_none hsl fpl
  generalize upd G2 F (.lst []) = G3 at b3 t3 h3 hp3 gF3 ⊢
  refine seqU fun U hU => ?_
  walk_at "rd"
  refine ⟨_, .inl (.inl (.inl (b3 _ _ nsl hsl))), by rw [List.length_map]; omega, by rw [List.length_map]; omega, ?_⟩
  rw [List.length_map, Int.toNat_natCast]
  refine for_range (n := ms.length) (fun i σ G => ∃ (picks rest : List Nat) (as : List Addr) (v6 v7 : Option V), σ = [some (.ref tp), some (.int kd), some (.ref sl), some (.ref pz), some (.ref pl), some (.ref F), v6, v7, none, none, none, none, none, none, none, none] ∧ picks.length = i ∧ (picks ++ rest).Perm (List.range ms.length) ∧ But tp H G ∧ Tape G tp (c + 40 + i) ∧ G pz = some (.lst (zs.map V.str)) ∧ G pl = some (.lst ((rest.map Int.ofNat).map V.int)) ∧ Book A G F as (picked kd zs ms picks) ∧ ∀ a ∈ as, H a = none) ⟨[], List.range ms.length, [], _, _, rfl, rfl, .refl _, b3, t3.mono (by omega), h3, hp3, ⟨gF3, rfl, fun i a r h => by simp at h⟩, (fun _ h => nomatch h)⟩ ?_ ?_
  · rintro i σ G hi ⟨picks, rest, as, v6, v7, rfl, pi, pm, bG, tG, gz, gl, bk, fa⟩
    have rl : picks.length + rest.length = ms.length := by have := pm.length_eq; simpa using this
    walk_at "rd"
    refine ⟨.inl ⟨rfl, _, .inl (.inl gl)⟩, 2, _, fn_next T, by decide, _, .inl (.inl (.inl gl)), next_ok tG (by omega) (by simp only [List.length_map]; omega) (by simp only [List.length_map]; omega) fun r G4 r0 r1 t4 b4 e4 => ?_⟩
    simp only [List.length_map] at r1
    obtain ⟨j, rfl⟩ : ∃ j : Nat, r = j := ⟨r.toNat, by omega⟩
    have hj : j < rest.length := by omega
    have hjr : rest[j] < ms.length := List.mem_range.mp (pm.mem_iff.mp (List.mem_append_right _ (List.getElem_mem hj)))
    have gl4 : G4 pl = some (.lst ((rest.map Int.ofNat).map V.int)) := by rw [e4 pl npl]; exact gl
    refine ⟨pl, _, j, j, .int (Int.ofNat rest[j]), rfl, rfl, gl4, by omega, by omega, ?_, ?_, ?_⟩
    · simp only [List.length_map]; simp [seqIndex?, hj]; omega
    · rw [List.getElem?_map, List.getElem?_map, List.getElem?_eq_getElem hj]; rfl
    rw [erase_map, erase_map]
    have bk4 := bk.but b4 nF (fun a ha => t.ne (fa a ha))
    have gz4 := b4 _ _ npz gz
    have b5 : But tp H (upd G4 pl (.lst (((rest.eraseIdx j).map Int.ofNat).map V.int))) := (bG.trans b4).mut fpl
    have t5 := t4.other (o := .lst (((rest.eraseIdx j).map Int.ofNat).map V.int)) npl
    have gz5 : upd G4 pl (.lst (((rest.eraseIdx j).map Int.ofNat).map V.int)) pz = some (.lst (zs.map V.str)) := by rw [upd_ne nzl]; exact gz4
    have gF5 : upd G4 pl (.lst (((rest.eraseIdx j).map Int.ofNat).map V.int)) F = some (.lst (as.map V.ref)) := by rw [upd_ne nFl]; exact bk4.lst
    have rc5 : ∀ (i : Nat) (a : Addr) (r : Rc), as[i]? = some a → (picked kd zs ms picks)[i]? = some r → Rec A (upd G4 pl (.lst (((rest.eraseIdx j).map Int.ofNat).map V.int))) a r.1 r.2.1 r.2.2 := fun i a r q1 q2 => by
      have q := bk4.at_ i a r q1 q2
      have ne := q.ne_lst gl4
      obtain ⟨hk, dx, h⟩ := q
      exact ⟨hk, dx, by rw [upd_ne ne]; exact h⟩
    have gl5 := upd_same (H := G4) (a := pl) (o := .lst (((rest.eraseIdx j).map Int.ofNat).map V.int))
    generalize upd G4 pl (.lst (((rest.eraseIdx j).map Int.ofNat).map V.int)) = G5 at b5 t5 gz5 gF5 rc5 gl5 ⊢
    have hjz : rest[j] < zs.length := by omega
    refine ⟨.inl ⟨rfl, _, .inl (.inl gF5)⟩, 5, _, fn_made T, by decide, _, _, .inl (.inl (.inl gz5)), at_of (j := rest[j]) rfl (by rw [List.getElem?_map, List.getElem?_eq_getElem hjz]; rfl), _, _, .inl (.inl (.inl (b5 _ _ nsl hsl))), at_of (j := rest[j]) rfl (by rw [List.getElem?_map, List.getElem?_eq_getElem hjr]; rfl), ?_⟩
    have lo := ok ms[rest[j]] (List.getElem_mem hjr)
    refine ⟨kd, zs[rest[j]], ms[rest[j]], rfl, by omega, itz _ (List.getElem_mem hjz), lo.1, lo.2, fun p G6 hp s6 r6 => ?_⟩
    have npF : p ≠ F := Ne.symm (ne_of_none gF5 hp)
    have npt : p ≠ tp := t5.ne hp
    have al := bk.len
    have pl2 : (picked kd zs ms picks).length = picks.length := by simp [picked]
    refine ⟨F, as.map V.ref, _, rfl, rfl, s6 _ _ gF5, Nat.lt_of_le_of_lt (by rw [List.length_map]; omega : _ ≤ 100) (by decide), ?_⟩
    refine ⟨picks ++ [rest[j]], rest.eraseIdx j, as ++ [p], _, _, ⟨rfl, rfl⟩, by simp [pi], ?_, (b5.trans (But.same s6)).mut fF, ((t5.same s6).other nF).mono (by push_cast; omega), ?_, ?_, ⟨?_, ?_, ?_⟩, ?_⟩
    · exact (move_perm picks rest j hj).trans pm
    · rw [upd_ne (Ne.symm nFz)]; exact s6 _ _ gz5
    · rw [upd_ne (Ne.symm nFl)]; exact s6 _ _ gl5
    · rw [upd_same, List.map_append]; rfl
    · simp [picked, al]
    · intro u a r q1 q2
      unfold picked at q2
      rw [List.map_append] at q2
      by_cases cu : u < as.length
      · rw [List.getElem?_append_left cu] at q1
        rw [List.getElem?_append_left (by simp; omega)] at q2
        have q3 := rc5 u a r q1 q2
        have ne := q3.ne_lst gF5
        obtain ⟨hk, dx, h⟩ := q3
        exact ⟨hk, dx, by rw [upd_ne ne]; exact s6 _ _ h⟩
      · rw [List.getElem?_append_right (by omega)] at q1
        rw [List.getElem?_append_right (by simp; omega)] at q2
        by_cases e : u = as.length
        · rw [show u - as.length = 0 by omega] at q1
          rw [show u - (picks.map fun i => (kd, zs.getD i "", ms.getD i 0)).length = 0 by simp; omega] at q2
          simp at q1 q2
          subst q1; subst q2
          obtain ⟨hk, dx, h⟩ := r6
          simp only [List.getElem?_eq_getElem hjz, List.getElem?_eq_getElem hjr, Option.getD_some]
          exact ⟨hk, dx, by rw [upd_ne npF]; exact h⟩
        · rw [List.getElem?_eq_none (by simp; omega)] at q1
          cases q1
    · intro a ha
      rcases List.mem_append.mp ha with h | h
      · exact fa a h
      · obtain rfl := List.mem_singleton.mp h
        exact b5.free hp npt
  · rintro σ G ⟨picks, rest, as, v6, v7, rfl, pi, pm, bG, tG, gz, gl, bk, fa⟩
    show U _ _
    rw [hU]
    clear hU
    have re : rest = [] := by have := pm.length_eq; simp at this; exact List.length_eq_zero_iff.mp (by omega)
    subst re
    rw [List.append_nil] at pm
    have pin : ∀ i ∈ picks, i < ms.length := fun i hi => List.mem_range.mp (pm.mem_iff.mp hi)
    have ndI := picked_items (k := kd) (ms := ms) nz (pm.nodup_iff.mpr List.nodup_range) (fun i hi => by have := pin i hi; omega)
    have rsl : (picked kd zs ms picks).length = ms.length := by simp [picked, pi]
    have rk : ∀ r ∈ picked kd zs ms picks, r.1 = kd := fun r hr => by obtain ⟨i, _, rfl⟩ := List.mem_map.mp hr; rfl
    have rok : ∀ r ∈ picked kd zs ms picks, RcOk r := fun r hr => by
      obtain ⟨i, hi, rfl⟩ := List.mem_map.mp hr
      have h1 := pin i hi
      have h2 : i < zs.length := by omega
      simp only [RcOk, List.getD, List.getElem?_eq_getElem h1, List.getElem?_eq_getElem h2, Option.getD_some]
      exact ⟨itz _ (List.getElem_mem h2), ok _ (List.getElem_mem h1)⟩
    have lg : isLog (picked kd zs ms picks) = true := isLog_of rk ndI (by omega)
    have nas : ∀ a ∈ as, a ≠ tp := fun a ha => t.ne (fa a ha)
    generalize picked kd zs ms picks = rs at bk ndI rsl rk rok lg
    have rkd : ∀ r ∈ rs, r.1 < 2 := fun r hr => by rw [rk r hr]; exact hk
    have rit : ∀ r ∈ rs, isItem r.2.1 = true := fun r hr => (rok r hr).1
    refine seqU fun U hU => ?_
    walk_at "rd"
    refine ⟨3, _, fn_factsN T, by decide, F, as, rs, rfl, bk, by omega, fun p8 G8 hp8 s8 d8 => ?_⟩
    rw [hU]
    clear hU
    have bk8 := bk.same s8
    refine seqU fun U hU => ?_
    walk_at "rd"
    refine ⟨3, _, fn_played T, by decide, tp, F, as, rs, _, rfl, tG.same s8, by omega, bk8, nF, nas, by omega, fun r hr => (rok r hr).2.2, fun p9 pe m len done ea G9 b9 t9 h9 he9 pl9 pd9 m9 => ?_⟩
    refine ⟨p9, _, rfl, .inl (.inl h9), rfl, _, _, rfl, _, _, rfl, rfl, ?_⟩
    rw [hU]
    clear hU
    have b8 : But tp H G8 := bG.trans (But.same s8)
    have B9 : But tp H G9 := b8.trans b9
    have bk9 := bk8.but b9 nF nas
    have d9 : Dp K G9 (.ref p8) (.list (rs.map fact)) := by
      obtain ⟨xs, hx, _⟩ := tG
      exact dp_same (newer_but hx b9) _ _ d8
    obtain ⟨g, Hg, eg1, rest, epm, eg2⟩ := pl9.hgt pd9
    have eU := early_upTo ndI epm eg1 eg2
    cases d9 with
    | lst hv da =>
    rename_i ws
    have wl := dpa_len da
    rw [List.length_map] at wl
    refine seqU fun U hU => ?_
    walk_at "rd"
    refine ⟨⟨_, hv⟩, ?_⟩
    refine lc_goes (goes_list hv) (fun i => (ws[i]?).bind fun x => (rs[i]?).bind fun r => if decide (item r ∈ ea.map item) = true then some x else none) (Nat.lt_of_le_of_lt (by omega : ws.length ≤ 40) (by decide)) (fun i x G10 hi s10 hx => ?_) fun D G10 hD s10 hl10 => ?_
    · obtain ⟨d, hd, dx⟩ := dpa_get da hx
      have hir : i < rs.length := by omega
      rw [List.getElem?_map, List.getElem?_eq_getElem hir] at hd
      obtain rfl := (Option.some.inj hd).symm
      rw [hx, List.getElem?_eq_getElem hir]
      obtain ⟨ax, x0, rfl, hax⟩ := of_fact (dp_same s10 _ _ dx)
      have ev : Evt (tTest (tOp (uIn K false) (tOp (uIx K) (tVar 15) (tC (.int 1))) (tVar 9))) [some (.ref tp), some (.int kd), some (.ref sl), some (.ref pz), some (.ref pl), some (.ref F), v6, v7, some (.ref p8), some (.ref pe), some (.int m), none, none, none, none, some (.ref ax)] G10 (decide (item rs[i] ∈ ea.map item)) := by
        intro Q' q'
        walk_at "rd"
        refine ⟨_, _, .inr hax, at_of (j := 1) rfl rfl, .inl ⟨_, .inl (.inl (.inl (s10 _ _ he9))), rfl, flat_strs _, ?_⟩⟩
        rw [inV_str]
        exact q' G10 (Same.refl _)
      refine ⟨[some (.ref tp), some (.int kd), some (.ref sl), some (.ref pz), some (.ref pl), some (.ref F), v6, v7, some (.ref p8), some (.ref pe), some (.int m), none, none, none, none, some (.ref ax)], rfl, fun R' h => h, ?_⟩
      simp only [Option.bind_some]
      by_cases cc : item rs[i] ∈ ea.map item
      · rw [decide_eq_true cc] at ev ⊢
        rw [if_pos rfl]
        exact ⟨ev, fun G3 u3 Q' q' => ⟨_, rfl, q' G3 (Same.refl _)⟩⟩
      · rw [decide_eq_false cc] at ev ⊢
        rw [if_neg (by decide)]
        exact ev
    have dD : Dp K G10 (.ref D) (.list ((upTo rs g).map fact)) := by
      have := dpa_filter (K := K) (G := G9) fact (fun r => decide (item r ∈ ea.map item)) ws rs da
      rw [eU] at this
      exact .lst (.inl (.inl hl10)) (dpa_same s10 _ _ this)
    have d10 : Dp K G10 (.ref p8) (.list (rs.map fact)) := dp_same s10 _ _ (.lst hv da)
    have b10 := bk9.same s10
    have t10 := t9.same s10
    have B10 : But tp H G10 := B9.trans (But.same s10)
    have ul : (upTo rs g).length ≤ 40 := Nat.le_trans (List.length_filter_le _ _) (by omega)
    have uo : ∀ r ∈ upTo rs g, isItem r.2.1 = true := fun r hr => rit r (List.mem_filter.mp hr).1
    rw [hU]
    clear hU
    refine seqU fun U hU => ?_
    walk_at "rd"
    refine ⟨by decide, by decide, ?_⟩
    refine for_range (n := 2) (fun i σ G => ∃ v12 v13 v14, σ = [some (.ref tp), some (.int kd), some (.ref sl), some (.ref pz), some (.ref pl), some (.ref F), v6, v7, some (.ref p8), some (.ref pe), some (.int m), some (.ref D), v12, v13, v14, none] ∧ Same G10 G) ⟨_, _, _, rfl, Same.refl _⟩ ?_ ?_
    · rintro i σ G11 hi ⟨v12, v13, v14, rfl, s11⟩
      have b11 := b10.same s11
      simp only [gName]
      refine seqU fun U hU => ?_
      walk_at "rd"
      refine ⟨7, _, fn_usable T, by decide, F, as, rs, rfl, b11, lg, rkd, rok, fun p as' G12 h' s12 Hg' nb => ?_⟩
      obtain rfl := Hg.uniq Hg'
      rw [hU]
      clear hU
      refine seqU fun U hU => ?_
      walk_at "rd"
      refine ⟨3, _, fn_facts T, by decide, p, as', _, rfl, nb.book, by omega, fun p13 G13 hp13 s13 d13 => .inl ⟨_, _, d13, dp_same ((s11.trans s12).trans s13) _ _ dD, (facts_ok uo).shaped (by decide), (facts_ok uo).shaped (by decide), ?_⟩⟩
      rw [SeqAt.eqv_refl _ (facts_ok uo).1]
      walk_at "rd"
      have b13 := b11.same (s12.trans s13)
      refine ⟨7, _, fn_least_missing T, by decide, F, as, rs, rfl, b13, lg, rkd, fun m' G14 s14 lm => ?_⟩
      obtain rfl := pl9.lm pd9 lm
      have lgm : ((m : Int)).natAbs.log2 < 1920 := Nat.lt_of_lt_of_le (PySem.Flt.log2_lt_of (show 0 < 10 by decide) (show ((m : Int)).natAbs < 2 ^ 10 by omega)) (by decide)
      refine ⟨lgm, lgm, ?_⟩
      rw [decide_eq_true rfl]
      walk_at "rd"
      refine ⟨3, _, fn_facts T, by decide, F, as, rs, rfl, b13.same s14, by omega, fun p15 G15 hp15 s15 d15 => .inl ⟨_, _, d15, dp_same (((s11.trans s12).trans s13).trans (s14.trans s15)) _ _ d10, (facts_ok rit).shaped (by decide), (facts_ok rit).shaped (by decide), ?_⟩⟩
      rw [SeqAt.eqv_refl _ (facts_ok rit).1]
      walk_at "rd"
      show U _ _
      rw [hU]
      clear hU
      have u15 := s13.trans (s14.trans s15)
      have nb15 := nb.same u15
      have S15 : Same G11 G15 := s12.trans u15
      walk_at "rd"
      refine ⟨⟨_, .inl (.inl nb15.book.lst)⟩, ?_⟩
      have al := nb.book.len
      refine for_list (K := K) (a := p) (xs := as'.map V.ref) (fun j σ G => ∃ v14, σ = [some (.ref tp), some (.int kd), some (.ref sl), some (.ref pz), some (.ref pl), some (.ref F), v6, v7, some (.ref p8), some (.ref pe), some (.int m), some (.ref D), some (.int (0 + i)), some (.ref p), v14, none] ∧ Same G11 G ∧ G p = some (.lst (as'.map V.ref)) ∧ ∀ a ∈ as', ∃ k z m, Rec A G a k z m ∧ 0 ≤ m ∧ m ≤ 60) ⟨_, rfl, S15, nb15.book.lst, fun a ha => ?_⟩ (fun j σ G _ ⟨_, _, _, h, _⟩ => .inl (.inl h)) ?_ ?_
      · obtain ⟨t, ht, e⟩ := List.mem_iff_getElem.mp ha
        have ht2 : t < (upTo rs g).length := by omega
        have hm := rok _ (List.mem_filter.mp (List.getElem_mem ht2)).1
        exact ⟨_, _, _, nb15.book.at_ t a _ (by rw [List.getElem?_eq_getElem ht, e]) (List.getElem?_eq_getElem ht2), hm.2⟩
      · rintro j x σ G16 hx ⟨v14, rfl, s16, h16, r16⟩
        rw [List.getElem?_map] at hx
        cases ea : as'[j]? with
        | none => rw [ea] at hx; cases hx
        | some a =>
        rw [ea] at hx
        obtain rfl := (Option.some.inj hx).symm
        have ha := List.mem_of_getElem? ea
        obtain ⟨k, z, m, rc, m0, m60⟩ := r16 a ha
        have rc' := rc
        obtain ⟨hk4, dx, hrec⟩ := rc'
        walk_at "rd"
        refine ⟨a, _, dx, _, 3, _, rfl, hrec, mth_move T hk4, by decide, look_none z m (by decide +kernel) (by decide +kernel), _, _, rfl, att_slot T rc, a, dx, z, m, 60 - m, rfl, hrec, by omega, by omega, ?_⟩
        refine ⟨s16.mut (nb.fr a ha), by rw [upd_ne (Ne.symm (nb.ne a ha))]; exact h16, fun a2 ha2 => ?_⟩
        by_cases e : a2 = a
        · subst e; exact ⟨k, z, 60 - m, ⟨hk4, dx, upd_same⟩, by omega, by omega⟩
        · obtain ⟨k2, z2, m2, ⟨hk2, dx2, h2⟩, l2⟩ := r16 a2 ha2
          exact ⟨k2, z2, m2, ⟨hk2, dx2, by rw [upd_ne e]; exact h2⟩, l2⟩
      · rintro σ G16 ⟨v14, rfl, s16, h16, r16⟩
        exact ⟨_, _, _, rfl, s11.trans s16⟩
    · rintro σ G11 ⟨v12, v13, v14, rfl, s11⟩
      show U _ _
      rw [hU]
      clear hU
      walk_at "rd"
      exact q G11 (B10.trans (But.same s11)) ((t10.same s11).mono (by omega))
theorem fn_right (T : Tx K mg A) : Fn P w K mg base 8 "_law_right" (sp_right A) := T.f_law_right.fn sc_law_right (fun hr => d_law_right T.G hr) (p_right T)
end
end K
namespace K
open PySem PySem.Spec PyProof.Rows L2 U ClX M
local macro_rules | `(tactic| walk_at "rd") => `(tactic| simp only [tSeq, tRet, tIfS, tAsg, tDrop, tNext, tNever, tRetN, tAndV, tOrV, tNotV, tAnd, tOr, tNot, tB, tTest, tChain, tCB, tCons, tNil, tVar, tC, tOp, tUn, tIf, gName, uLe, uLt, uGe, uGt, uCmp, uAdd, uSub, uMul, uDiv, uMod, uPow, uNeg, uEq, uNe, uIs, uIsNot, uIx, uIn, cIsi, cLen, cAll, cMax, cMin, cAbs, cSort, cSortD, cInt, cTuple, cRepr, cList, tLstRg, tTupRg, tRg1, tRg2, sDPut, tDNewK, tAug, ipI, iZip, tLst, tTup, tPar, tPar3, tFn, tMkr, tMth, tFnK, tMthK, tAtt, sFld, tYes, tLc_eq, tFor_eq, iList, iStr, iRng1, iRng2, iEnum, tLenSetT, tSl, tPart, tNoPart, gTup, gCons, gNil, gSub, tBM, tBM0, List.getElem?_cons_zero, List.getElem?_cons_succ, List.set_cons_zero, List.set_cons_succ, Option.some.injEq, V.bl.injEq, V.int.injEq, V.str.injEq, V.ref.injEq, exists_eq_left', exists_eq_left, exists_eq_right, exists_eq_right', and_true, true_and, scal, if_true, Bool.false_eq_true, if_false, List.cons.injEq, exists_const, false_and, and_false, ite_true, ite_false, Bool.not_true, Bool.not_false])
section
variable {P : Program} {w : World} {K : PySem.W.Frag} {mg : Str → Option Value} {base : Heap} {A : Ads}
/-- a value that is a record -/
def RcV (A : Ads) (H : Hp) (y : V) (r : Rc) : Prop := ∃ a, y = .ref a ∧ Rec A H a r.1 r.2.1 r.2.2
theorem rel_book {H : Hp} {l : Addr} {xs : List V} {rs : List Rc} (h : H l = some (.lst xs)) (r : Rel2 (RcV A H) xs rs) : ∃ as, Book A H l as rs := by
  suffices q : ∀ (xs : List V) (rs : List Rc), Rel2 (RcV A H) xs rs → ∃ as : List Addr, xs = as.map V.ref ∧ as.length = rs.length ∧ ∀ (i : Nat) (a : Addr) (r : Rc), as[i]? = some a → rs[i]? = some r → Rec A H a r.1 r.2.1 r.2.2 by
    obtain ⟨as, e, hl, ha⟩ := q xs rs r
    exact ⟨as, by rw [h, e], hl, ha⟩
  intro xs
  induction xs with
  | nil => intro rs r; exact ⟨[], rfl, by simpa using r.len, fun i a r h => by simp at h⟩
  | cons x xs ih =>
    intro rs r
    cases rs with
    | nil => exact absurd r.len (by simp)
    | cons r0 rs =>
      obtain ⟨a, rfl, ra⟩ := r.at_ 0 x r0 rfl rfl
      obtain ⟨as, e, hl, ha⟩ := ih rs ⟨by have := r.len; simpa using this, fun i y e h1 h2 => r.at_ (i + 1) y e (by simpa using h1) (by simpa using h2)⟩
      refine ⟨a :: as, by rw [e]; rfl, by simp [hl], fun i b r' h1 h2 => ?_⟩
      cases i with
      | zero => simp at h1 h2; subst h1; subst h2; exact ra
      | succ i => exact ha i b r' (by simpa using h1) (by simpa using h2)
theorem lm_60 {m : Int} (h : IsLM (List.replicate 40 60) m) : m = 60 := by
  obtain ⟨ns', p, _, hm, u⟩ := h.ex
  have e : ns' = List.replicate 40 60 := List.perm_replicate.mp p
  subst e
  have h1 : (60 : Int) ∈ 0 :: diffs (List.replicate 40 60) := by decide +kernel
  have h2 : ∀ x ∈ (0 : Int) :: diffs (List.replicate 40 60), x ≤ 60 := by decide +kernel
  have := u 60 h1
  have := h2 m hm
  omega
def sp_law (K : PySem.W.Frag) : Sp := fun vs H Q _ => ∃ (a : Addr) (ns : List Int), vs = [.ref a] ∧ SqL K H a (ns.map V.int) ∧ ns.length ≤ 63 ∧ ∀ H', Q (.bl true) H'
theorem p_law (T : Tx K mg A) : Pur N_law ["_law_script"] (t_law P w K mg base A) (sp_law K) := by
  intro vs H Q E h
  obtain ⟨a, ns, rfl, hs, hl, q⟩ := h
  refine ⟨rfl, ?_⟩
  show t_law P w K mg base A E _ [some (.ref a), none, none, none, none, none, none] H
  unfold t_law
  refine seqU fun U hU => ?_
  walk_at "rd"
  refine ⟨_, .inl hs, ?_⟩
  rw [List.length_map]
  obtain ⟨n, hn, en⟩ : ∃ n : Nat, n ≤ 3 ∧ (if (if (ns.length : Int) < 3 then (ns.length : Int) else 3) > 1 then (if (ns.length : Int) < 3 then (ns.length : Int) else 3) else 1) = (n : Int) := ⟨(if (if (ns.length : Int) < 3 then (ns.length : Int) else 3) > 1 then (if (ns.length : Int) < 3 then (ns.length : Int) else 3) else 1).toNat, by split <;> split <;> omega, by split <;> split <;> omega⟩
  rw [en]
  refine ⟨by omega, by omega, ?_⟩
  rw [Int.toNat_natCast]
  refine for_range (n := n) (fun i σ G => ∃ v1 v2 v3 v4, σ = [some (.ref a), v1, v2, v3, v4, none, none] ∧ Same H G) ⟨_, _, _, _, rfl, Same.refl _⟩ ?_ ?_
  · rintro i σ G hi ⟨v1, v2, v3, v4, rfl, sG⟩
    walk_at "rd"
    refine ⟨2, _, fn_tape T, by decide, a, ns, _, rfl, sG.seq hs, by omega, by omega, fun tp xs htp hxs => ?_⟩
    walk_at "rd"
    refine ⟨by decide, by decide, ?_⟩
    have ft : H tp = none := sG.free htp
    refine for_range (n := 4) (fun j σ G2 => ∃ v3 v4, σ = [some (.ref a), some (.int (0 + i)), some (.ref tp), v3, v4, none, none] ∧ Same H G2 ∧ Tape G2 tp (1000 * j)) ⟨_, _, rfl, sG.trans (Same.new htp), xs, upd_same, by simpa using hxs⟩ ?_ ?_
    · rintro j σ G2 hj ⟨v3, v4, rfl, s2, t2⟩
      have nt : ∀ {b : Addr} {o : HO}, H b = some o → b ≠ tp := fun e => ne_of_none e ft
      simp only [gName]
      refine seqU fun U hU => ?_
      walk_at "rd"
      refine ⟨2, _, fn_next T, by decide, (by show 2 ≤ sizeLine; decide), fun q1 hq1 => ?_⟩
      have n1 : q1 ≠ tp := t2.ne hq1
      have s2' : Same H (upd G2 q1 (.lst [.int 12, .int 41])) := s2.trans (Same.new hq1)
      refine ⟨2, _, fn_next T, by decide, next_ok (t2.other n1) (by omega) (by decide) (by decide) fun x1 G3 x10 x11 t3 b3 e3 => ?_⟩
      have s3 : Same H G3 := fun b o e => b3 b o (nt e) (s2' b o e)
      have h1 : G3 q1 = some (.lst [.int 12, .int 41]) := by rw [e3 q1 n1]; exact upd_same
      obtain ⟨wd, hwd, wd0, wd1⟩ : ∃ wd : Int, atI [V.int 12, V.int 41] x1 = some (.int wd) ∧ 0 < wd ∧ wd ≤ 41 := by
        have : x1 = 0 ∨ x1 = 1 := by omega
        rcases this with rfl | rfl
        · exact ⟨12, rfl, by decide, by decide⟩
        · exact ⟨41, rfl, by decide, by decide⟩
      refine ⟨_, _, .inl (.inl (.inl h1)), hwd, next_ok t3 (by omega) wd0 (by omega) fun many G4 m0 m1 t4 b4 e4 => ?_⟩
      have s4 : Same H G4 := fun b o e => b4 b o (nt e) (s3 b o e)
      rw [hU]
      clear hU
      obtain ⟨mn, rfl⟩ : ∃ mn : Nat, many = mn := ⟨many.toNat, by omega⟩
      walk_at "rd"
      refine ⟨8, _, fn_right T, by decide, 2, _, fn_next T, by decide, next_ok t4 (by omega) (by decide) (by decide) fun kind G5 k0 k1 t5 b5 e5 => ?_⟩
      have s5 : Same H G5 := fun b o e => b5 b o (nt e) (s4 b o e)
      obtain ⟨kd, rfl⟩ : ∃ kd : Nat, kind = kd := ⟨kind.toNat, by omega⟩
      refine ⟨3, _, fn_slots T, by decide, tp, mn, _, rfl, by omega, t5, by omega, fun p6 ms G6 hp6 ml mo h6 b6 t6 => ?_⟩
      have s6 : Same H G6 := fun b o e => b6 b o (nt e) (s5 b o e)
      refine ⟨tp, p6, kd, ms, _, rfl, by omega, t6, by omega, h6, t5.ne hp6, by omega, mo, fun G7 b7 t7 => ⟨true, rfl, ?_⟩⟩
      have s7 : Same H G7 := fun b o e => b7 b o (nt e) (s6 b o e)
      rw [if_neg (by decide)]
      exact ⟨_, _, ⟨rfl, rfl⟩, s7, t7.mono (by push_cast; omega)⟩
    · rintro σ G2 ⟨v3, v4, rfl, s2, t2⟩
      exact ⟨_, _, _, _, rfl, s2⟩
  · rintro σ G ⟨v1, v2, v3, v4, rfl, sG⟩
    show U _ _
    rw [hU]
    clear hU
    refine seqU fun U hU => ?_
    walk_at "rd"
    refine ⟨2, _, fn_tape T, by decide, a, ns, _, rfl, sG.seq hs, by omega, by omega, fun tp xs htp hxs => ?_⟩
    rw [hU]
    clear hU
    have t1 : Tape (upd G tp (.lst xs)) tp 0 := ⟨xs, upd_same, hxs⟩
    generalize upd G tp (.lst xs) = G1 at t1
    refine seqU fun U hU => ?_
    walk_at "rd"
    refine ⟨8, _, fn_right T, by decide, 3, _, fn_slots T, by decide, tp, 40, _, rfl, by omega, t1, by omega, fun p6 ms G6 hp6 ml mo h6 b6 t6 => ?_⟩
    refine ⟨tp, p6, 0, ms, _, rfl, by omega, t6, by omega, h6, t1.ne hp6, by omega, mo, fun G7 b7 t7 => ⟨true, rfl, ?_⟩⟩
    rw [if_neg (by decide)]
    show U _ _
    rw [hU]
    clear hU
    refine seqU fun U hU => ?_
    walk_at "rd"
    refine ⟨3, _, fn_items T, by decide, tp, _, 40, rfl, t7, by omega, by omega, fun pz zs G8 hpz zl nz itp h8 t8 b8 => ?_⟩
    have itz : ∀ z ∈ zs, isItem z = true := fun z hz => pool0_ok.it z (itp z hz)
    refine ⟨pz, rfl, ⟨_, .inl (.inl h8)⟩, ?_⟩
    refine lc_rel (Rl := RcV A) (fun _ _ _ _ s ⟨a, e, r⟩ => ⟨a, e, r.same s⟩) (goes_list (.inl (.inl h8))) (fun i => (zs[i]?).map fun z => ((1, z, 60) : Rc)) (by rw [List.length_map, zl]; decide) (fun i x G9 D hi s9 hx hD hacc => ?_) fun D G9 ys hD s9 hy ry => ?_
    · rw [List.length_map] at hi
      rw [List.getElem?_map, List.getElem?_eq_getElem hi] at hx
      obtain rfl := (Option.some.inj hx).symm
      rw [List.getElem?_eq_getElem hi]
      obtain ⟨acc, hacc⟩ := hacc
      refine ⟨[some (.ref a), v1, some (.ref tp), v3, v4, none, some (.str zs[i])], rfl, fun R' h => h, Evt.yes, fun G10 s10 Q' q' => ?_⟩
      walk_at "rd"
      refine ⟨3, _, _, mkr T (k := 1) (by decide), by decide, fun p dx hp hdx ne => made_at (by decide) hp hdx (itz _ (List.getElem_mem hi)) (by decide) (by decide) fun G11 s11 r11 => q' _ _ s11 ⟨p, rfl, ?_⟩⟩
      obtain ⟨hk, dx2, h2⟩ := r11
      exact ⟨hk, dx2, hide_get h2 (Ne.symm (ne_of_none (s10 _ _ hacc) hp))⟩
    have e2 : (List.range (zs.map V.str).length).filterMap (fun i => (zs[i]?).map fun z => ((1, z, 60) : Rc)) = zs.map fun z => ((1, z, 60) : Rc) := by
      have e := range_list (fun z => some ((1, z, 60) : Rc)) zs
      rw [List.filterMap_eq_map'] at e
      rw [List.length_map]
      refine Eq.trans ?_ e
      congr 1
      funext k
      cases zs[k]? <;> rfl
    rw [e2] at ry
    obtain ⟨as, bk⟩ := rel_book hy (ry.imp fun y r ⟨a, e, h⟩ => ⟨a, e, h.same hide_same⟩)
    rw [hU]
    clear hU
    have sl : slotsOf (zs.map fun z => ((1, z, 60) : Rc)) = List.replicate 40 60 := by
      unfold slotsOf
      rw [List.map_map]
      exact List.eq_replicate_iff.mpr ⟨by simp [zl], fun b hb => by obtain ⟨z, _, rfl⟩ := List.mem_map.mp hb; rfl⟩
    have rk : ∀ r ∈ zs.map fun z => ((1, z, 60) : Rc), r.1 = 1 := fun r hr => by obtain ⟨z, _, rfl⟩ := List.mem_map.mp hr; rfl
    have lg : isLog (zs.map fun z => ((1, z, 60) : Rc)) = true := isLog_of rk (by rw [List.map_map]; simpa [Function.comp_def] using nz) (by simp [zl])
    have rok : ∀ r ∈ zs.map fun z => ((1, z, 60) : Rc), RcOk r := fun r hr => by
      obtain ⟨z, hz, rfl⟩ := List.mem_map.mp hr
      exact ⟨itz z hz, Int.zero_le_ofNat 60, Int.le_refl 60⟩
    have ue : upTo (zs.map fun z => ((1, z, 60) : Rc)) 0 = [] := by
      unfold upTo
      rw [List.filter_eq_nil_iff]
      intro r hr
      obtain ⟨z, hz, rfl⟩ := List.mem_map.mp hr
      simp
    generalize (zs.map fun z => ((1, z, 60) : Rc)) = rs at bk sl rk lg rok ue
    have rkd : ∀ r ∈ rs, r.1 < 2 := fun r hr => by rw [rk r hr]; decide
    walk_at "rd"
    refine ⟨7, _, fn_usable T, by decide, D, as, rs, rfl, bk, lg, rkd, rok, fun p2 as2 G10 h s10 Hg nb => ?_⟩
    have h0 : h = 0 := by
      rw [sl] at Hg
      exact Hg.uniq ⟨by decide +kernel, fun g hg => by omega⟩
    subst h0
    rw [ue] at nb
    have e2 : as2 = [] := List.length_eq_zero_iff.mp nb.book.len
    have b2 := nb.book.lst
    subst e2
    refine ⟨by decide, fun p3 hp3 => .inl ⟨.list [], .list [], .lst (.inl (.inl ((Same.new hp3) _ _ b2))) .nil, .lst (.inl (.inl upd_same)) .nil, rfl, rfl, ?_⟩⟩
    refine ⟨true, rfl, ?_⟩
    rw [if_pos rfl]
    refine ⟨7, _, fn_least_missing T, by decide, D, as, rs, rfl, (bk.same s10).same (Same.new hp3), lg, rkd, fun m' G14 s14 lm => ?_⟩
    have lm' : IsLM (slotsOf rs) m' := lm
    rw [sl] at lm'
    obtain rfl := lm_60 lm'
    show if _ then Q (.bl (decide (V.int 60 = V.int 60))) _ else _
    rw [decide_eq_true rfl]
    exact q _
theorem fn_law (T : Tx K mg A) : Fn P w K mg base 9 "law" (sp_law K) := T.f_law.fn sc_law (fun hr => d_law T.G hr) (p_law T)
end
end K
namespace K
open PySem PySem.Spec PyProof.Rows L2 U ClX M
theorem all_mk {l : PySem.W.OpenLaw} {w : World} {K : PySem.W.Frag} {h : Heap} {mg : Str → Option Value} {fa C0 C1 C2 C3 : Addr} (X : K.In h) (G : h.Ns mainGlobals mg) (hfa : mg "law" = some (.ref fa))
    {oc0 kV0 dc0 pm0 cd0 ct0 : Value} {od0 an0 : Option Addr} {sl0 : Array (Option Value)} {f0 : Addr} {oc1 kV1 dc1 pm1 cd1 ct1 : Value} {od1 an1 : Option Addr} {sl1 : Array (Option Value)} {f1 : Addr} {oc2 kV2 dc2 pm2 cd2 ct2 : Value} {od2 an2 : Option Addr} {sl2 : Array (Option Value)} {f2 : Addr} {oc3 kV3 dc3 pm3 cd3 ct3 : Value} {od3 an3 : Option Addr} {sl3 : Array (Option Value)} {f3 : Addr} {oc4 kV4 dc4 pm4 cd4 ct4 : Value} {od4 an4 : Option Addr} {sl4 : Array (Option Value)} {f4 : Addr} {oc5 kV5 dc5 pm5 cd5 ct5 : Value} {od5 an5 : Option Addr} {sl5 : Array (Option Value)} {f5 : Addr} {oc6 kV6 dc6 pm6 cd6 ct6 : Value} {od6 an6 : Option Addr} {sl6 : Array (Option Value)} {f6 : Addr} {oc7 kV7 dc7 pm7 cd7 ct7 : Value} {od7 an7 : Option Addr} {sl7 : Array (Option Value)} {f7 : Addr} {oc8 kV8 dc8 pm8 cd8 ct8 : Value} {od8 an8 : Option Addr} {sl8 : Array (Option Value)} {f8 : Addr} {oc9 kV9 dc9 pm9 cd9 ct9 : Value} {od9 an9 : Option Addr} {sl9 : Array (Option Value)} {f9 : Addr} {oc10 kV10 dc10 pm10 cd10 ct10 : Value} {od10 an10 : Option Addr} {sl10 : Array (Option Value)} {f10 : Addr} {oc11 kV11 dc11 pm11 cd11 ct11 : Value} {od11 an11 : Option Addr} {sl11 : Array (Option Value)} {f11 : Addr} {oc12 kV12 dc12 pm12 cd12 ct12 : Value} {od12 an12 : Option Addr} {sl12 : Array (Option Value)} {f12 : Addr} {oc13 kV13 dc13 pm13 cd13 ct13 : Value} {od13 an13 : Option Addr} {sl13 : Array (Option Value)} {f13 : Addr} {oc14 kV14 dc14 pm14 cd14 ct14 : Value} {od14 an14 : Option Addr} {sl14 : Array (Option Value)} {f14 : Addr} {oc15 kV15 dc15 pm15 cd15 ct15 : Value} {od15 an15 : Option Addr} {sl15 : Array (Option Value)} {f15 : Addr} {oc16 kV16 dc16 pm16 cd16 ct16 : Value} {od16 an16 : Option Addr} {sl16 : Array (Option Value)} {f16 : Addr} {oc17 kV17 dc17 pm17 cd17 ct17 : Value} {od17 an17 : Option Addr} {sl17 : Array (Option Value)} {f17 : Addr} {oc18 kV18 dc18 pm18 cd18 ct18 : Value} {od18 an18 : Option Addr} {sl18 : Array (Option Value)} {f18 : Addr} {oc19 kV19 dc19 pm19 cd19 ct19 : Value} {od19 an19 : Option Addr} {sl19 : Array (Option Value)} {f19 : Addr} {oc20 kV20 dc20 pm20 cd20 ct20 : Value} {od20 an20 : Option Addr} {sl20 : Array (Option Value)} {f20 : Addr} {pI pS : Addr} {tkC0 : Tok} {tkC1 : Tok} {tkC2 : Tok} {tkC3 : Tok} {rspI : List Value} {rspS : List Value} {ocI kVI dcI pmI cdI ctI : Value} {odI anI : Option Addr} {slI : Array (Option Value)} {fI : Addr} {ocP kVP dcP pmP cdP ctP : Value} {odP anP : Option Addr} {slP : Array (Option Value)} {fP : Addr} {ocS kVS dcS pmS cdS ctS : Value} {odS anS : Option Addr} {slS : Array (Option Value)} {fS : Addr} {ocMmv kVMmv dcMmv pmMmv cdMmv ctMmv : Value} {odMmv anMmv : Option Addr} {slMmv : Array (Option Value)} {fMmv : Addr} {tkM : Tok} {XLogError : Addr} {XNoIndex : Addr} {XNoItem : Addr} {XNoLog : Addr} {XNoText : Addr} {tk_FRONTED : Tok} {tk_INSERTED : Tok} {tk_LETTERS : Tok} {tk_MOST_LETTERS : Tok} {tk_MOST_LOG : Tok} {tk_REMOVED : Tok}
    (a0 : PySem.W.nsIn K mainGlobals "is_integer" = some (some (.ref f0)))
    (l0 : K.lookup f0 = some ⟨oc0, od0, .func (PySem.W.fnOf "is_integer" "is_integer" (defArgs s_is_integer) (defBody s_is_integer) (defScope s_is_integer) .none kV0 dc0 pm0 an0 cd0 ct0), sl0⟩)
    (c0 : PySem.W.codeIn K cd0 "is_integer" = true)
    (k0 : PySem.W.keepIn K (.ref f0) = true)
    (a1 : PySem.W.nsIn K mainGlobals "is_item" = some (some (.ref f1)))
    (l1 : K.lookup f1 = some ⟨oc1, od1, .func (PySem.W.fnOf "is_item" "is_item" (defArgs s_is_item) (defBody s_is_item) (defScope s_is_item) .none kV1 dc1 pm1 an1 cd1 ct1), sl1⟩)
    (c1 : PySem.W.codeIn K cd1 "is_item" = true)
    (k1 : PySem.W.keepIn K (.ref f1) = true)
    (a2 : PySem.W.nsIn K mainGlobals "are_records" = some (some (.ref f2)))
    (l2 : K.lookup f2 = some ⟨oc2, od2, .func (PySem.W.fnOf "are_records" "are_records" (defArgs s_are_records) (defBody s_are_records) (defScope s_are_records) .none kV2 dc2 pm2 an2 cd2 ct2), sl2⟩)
    (c2 : PySem.W.codeIn K cd2 "are_records" = true)
    (k2 : PySem.W.keepIn K (.ref f2) = true)
    (a3 : PySem.W.nsIn K mainGlobals "sign_of" = some (some (.ref f3)))
    (l3 : K.lookup f3 = some ⟨oc3, od3, .func (PySem.W.fnOf "sign_of" "sign_of" (defArgs s_sign_of) (defBody s_sign_of) (defScope s_sign_of) .none kV3 dc3 pm3 an3 cd3 ct3), sl3⟩)
    (c3 : PySem.W.codeIn K cd3 "sign_of" = true)
    (k3 : PySem.W.keepIn K (.ref f3) = true)
    (a4 : PySem.W.nsIn K mainGlobals "items_of" = some (some (.ref f4)))
    (l4 : K.lookup f4 = some ⟨oc4, od4, .func (PySem.W.fnOf "items_of" "items_of" (defArgs s_items_of) (defBody s_items_of) (defScope s_items_of) .none kV4 dc4 pm4 an4 cd4 ct4), sl4⟩)
    (c4 : PySem.W.codeIn K cd4 "items_of" = true)
    (k4 : PySem.W.keepIn K (.ref f4) = true)
    (a5 : PySem.W.nsIn K mainGlobals "is_log" = some (some (.ref f5)))
    (l5 : K.lookup f5 = some ⟨oc5, od5, .func (PySem.W.fnOf "is_log" "is_log" (defArgs s_is_log) (defBody s_is_log) (defScope s_is_log) .none kV5 dc5 pm5 an5 cd5 ct5), sl5⟩)
    (c5 : PySem.W.codeIn K cd5 "is_log" = true)
    (k5 : PySem.W.keepIn K (.ref f5) = true)
    (a6 : PySem.W.nsIn K mainGlobals "need_log" = some (some (.ref f6)))
    (l6 : K.lookup f6 = some ⟨oc6, od6, .func (PySem.W.fnOf "need_log" "need_log" (defArgs s_need_log) (defBody s_need_log) (defScope s_need_log) .none kV6 dc6 pm6 an6 cd6 ct6), sl6⟩)
    (c6 : PySem.W.codeIn K cd6 "need_log" = true)
    (k6 : PySem.W.keepIn K (.ref f6) = true)
    (a7 : PySem.W.nsIn K mainGlobals "need_growing" = some (some (.ref f7)))
    (l7 : K.lookup f7 = some ⟨oc7, od7, .func (PySem.W.fnOf "need_growing" "need_growing" (defArgs s_need_growing) (defBody s_need_growing) (defScope s_need_growing) .none kV7 dc7 pm7 an7 cd7 ct7), sl7⟩)
    (c7 : PySem.W.codeIn K cd7 "need_growing" = true)
    (k7 : PySem.W.keepIn K (.ref f7) = true)
    (a8 : PySem.W.nsIn K mainGlobals "made" = some (some (.ref f8)))
    (l8 : K.lookup f8 = some ⟨oc8, od8, .func (PySem.W.fnOf "made" "made" (defArgs s_made) (defBody s_made) (defScope s_made) .none kV8 dc8 pm8 an8 cd8 ct8), sl8⟩)
    (c8 : PySem.W.codeIn K cd8 "made" = true)
    (k8 : PySem.W.keepIn K (.ref f8) = true)
    (a9 : PySem.W.nsIn K mainGlobals "copied" = some (some (.ref f9)))
    (l9 : K.lookup f9 = some ⟨oc9, od9, .func (PySem.W.fnOf "copied" "copied" (defArgs s_copied) (defBody s_copied) (defScope s_copied) .none kV9 dc9 pm9 an9 cd9 ct9), sl9⟩)
    (c9 : PySem.W.codeIn K cd9 "copied" = true)
    (k9 : PySem.W.keepIn K (.ref f9) = true)
    (a10 : PySem.W.nsIn K mainGlobals "least_missing" = some (some (.ref f10)))
    (l10 : K.lookup f10 = some ⟨oc10, od10, .func (PySem.W.fnOf "least_missing" "least_missing" (defArgs s_least_missing) (defBody s_least_missing) (defScope s_least_missing) .none kV10 dc10 pm10 an10 cd10 ct10), sl10⟩)
    (c10 : PySem.W.codeIn K cd10 "least_missing" = true)
    (k10 : PySem.W.keepIn K (.ref f10) = true)
    (a11 : PySem.W.nsIn K mainGlobals "usable" = some (some (.ref f11)))
    (l11 : K.lookup f11 = some ⟨oc11, od11, .func (PySem.W.fnOf "usable" "usable" (defArgs s_usable) (defBody s_usable) (defScope s_usable) .none kV11 dc11 pm11 an11 cd11 ct11), sl11⟩)
    (c11 : PySem.W.codeIn K cd11 "usable" = true)
    (k11 : PySem.W.keepIn K (.ref f11) = true)
    (a12 : PySem.W.nsIn K mainGlobals "_law_tape" = some (some (.ref f12)))
    (l12 : K.lookup f12 = some ⟨oc12, od12, .func (PySem.W.fnOf "_law_tape" "_law_tape" (defArgs s_law_tape) (defBody s_law_tape) (defScope s_law_tape) .none kV12 dc12 pm12 an12 cd12 ct12), sl12⟩)
    (c12 : PySem.W.codeIn K cd12 "_law_tape" = true)
    (k12 : PySem.W.keepIn K (.ref f12) = true)
    (a13 : PySem.W.nsIn K mainGlobals "_law_next" = some (some (.ref f13)))
    (l13 : K.lookup f13 = some ⟨oc13, od13, .func (PySem.W.fnOf "_law_next" "_law_next" (defArgs s_law_next) (defBody s_law_next) (defScope s_law_next) .none kV13 dc13 pm13 an13 cd13 ct13), sl13⟩)
    (c13 : PySem.W.codeIn K cd13 "_law_next" = true)
    (k13 : PySem.W.keepIn K (.ref f13) = true)
    (a14 : PySem.W.nsIn K mainGlobals "_law_items" = some (some (.ref f14)))
    (l14 : K.lookup f14 = some ⟨oc14, od14, .func (PySem.W.fnOf "_law_items" "_law_items" (defArgs s_law_items) (defBody s_law_items) (defScope s_law_items) .none kV14 dc14 pm14 an14 cd14 ct14), sl14⟩)
    (c14 : PySem.W.codeIn K cd14 "_law_items" = true)
    (k14 : PySem.W.keepIn K (.ref f14) = true)
    (a15 : PySem.W.nsIn K mainGlobals "_law_made" = some (some (.ref f15)))
    (l15 : K.lookup f15 = some ⟨oc15, od15, .func (PySem.W.fnOf "_law_made" "_law_made" (defArgs s_law_made) (defBody s_law_made) (defScope s_law_made) .none kV15 dc15 pm15 an15 cd15 ct15), sl15⟩)
    (c15 : PySem.W.codeIn K cd15 "_law_made" = true)
    (k15 : PySem.W.keepIn K (.ref f15) = true)
    (a16 : PySem.W.nsIn K mainGlobals "_law_facts" = some (some (.ref f16)))
    (l16 : K.lookup f16 = some ⟨oc16, od16, .func (PySem.W.fnOf "_law_facts" "_law_facts" (defArgs s_law_facts) (defBody s_law_facts) (defScope s_law_facts) .none kV16 dc16 pm16 an16 cd16 ct16), sl16⟩)
    (c16 : PySem.W.codeIn K cd16 "_law_facts" = true)
    (k16 : PySem.W.keepIn K (.ref f16) = true)
    (a17 : PySem.W.nsIn K mainGlobals "_law_slots" = some (some (.ref f17)))
    (l17 : K.lookup f17 = some ⟨oc17, od17, .func (PySem.W.fnOf "_law_slots" "_law_slots" (defArgs s_law_slots) (defBody s_law_slots) (defScope s_law_slots) .none kV17 dc17 pm17 an17 cd17 ct17), sl17⟩)
    (c17 : PySem.W.codeIn K cd17 "_law_slots" = true)
    (k17 : PySem.W.keepIn K (.ref f17) = true)
    (a18 : PySem.W.nsIn K mainGlobals "_law_played" = some (some (.ref f18)))
    (l18 : K.lookup f18 = some ⟨oc18, od18, .func (PySem.W.fnOf "_law_played" "_law_played" (defArgs s_law_played) (defBody s_law_played) (defScope s_law_played) .none kV18 dc18 pm18 an18 cd18 ct18), sl18⟩)
    (c18 : PySem.W.codeIn K cd18 "_law_played" = true)
    (k18 : PySem.W.keepIn K (.ref f18) = true)
    (a19 : PySem.W.nsIn K mainGlobals "_law_right" = some (some (.ref f19)))
    (l19 : K.lookup f19 = some ⟨oc19, od19, .func (PySem.W.fnOf "_law_right" "_law_right" (defArgs s_law_right) (defBody s_law_right) (defScope s_law_right) .none kV19 dc19 pm19 an19 cd19 ct19), sl19⟩)
    (c19 : PySem.W.codeIn K cd19 "_law_right" = true)
    (k19 : PySem.W.keepIn K (.ref f19) = true)
    (a20 : PySem.W.nsIn K mainGlobals "law" = some (some (.ref f20)))
    (l20 : K.lookup f20 = some ⟨oc20, od20, .func (PySem.W.fnOf "law" "law" (defArgs s_law) (defBody s_law) (defScope s_law) .none kV20 dc20 pm20 an20 cd20 ct20), sl20⟩)
    (c20 : PySem.W.codeIn K cd20 "law" = true)
    (k20 : PySem.W.keepIn K (.ref f20) = true)
    (ocg : PySem.W.specialIn K (.builtin "object.__class__") "__get__" = some (some (.builtin "getset_descriptor.__get__")))
    (oct : PySem.W.takesIn K (.builtin "object.__class__") = some true)
    (nC0 : PySem.W.nsIn K mainGlobals "Inserted" = some (some (.ref C0)))
    (pgC0 : PySem.W.plainGet K C0 Str.empty = true)
    (hdC0 : PySem.W.hasDictIn K C0 = true)
    (poC0 : PySem.W.plainOver K C0 = true)
    (saC0 : PySem.W.findIn K (.ref C0) "__setattr__" = some (some (.builtin "object.__setattr__")))
    (ocC0 : PySem.W.findIn K (.ref C0) "__class__" = some (some (.builtin "object.__class__")))
    (moC0 : PySem.W.mroIn K C0 (.type "object") = some true)
    (mkC0 : PySem.W.makesIn K C0 = true)
    (kcC0 : PySem.W.keepIn K (.ref C0) = true)
    (inC0 : PySem.W.findIn K (.ref C0) "__init__" = some (some (.ref fI)))
    (itC0 : PySem.W.findIn K (.ref C0) "item" = some (some (.ref pI)))
    (stC0 : PySem.W.findIn K (.ref C0) "slot" = some (some (.ref pS)))
    (niC0 : PySem.W.findIn K (.ref C0) "held_item" = some none)
    (nsC0 : PySem.W.findIn K (.ref C0) "held_slot" = some none)
    (sgC0 : PySem.W.findIn K (.ref C0) "SIGN" = some (some (.str "+" tkC0)))
    (spC0 : PySem.W.specialIn K (.str "+" tkC0) "__get__" = some none)
    (mmvC0 : PySem.W.findIn K (.ref C0) "move_to" = some (some (.ref fMmv)))
    (nC1 : PySem.W.nsIn K mainGlobals "Removed" = some (some (.ref C1)))
    (pgC1 : PySem.W.plainGet K C1 Str.empty = true)
    (hdC1 : PySem.W.hasDictIn K C1 = true)
    (poC1 : PySem.W.plainOver K C1 = true)
    (saC1 : PySem.W.findIn K (.ref C1) "__setattr__" = some (some (.builtin "object.__setattr__")))
    (ocC1 : PySem.W.findIn K (.ref C1) "__class__" = some (some (.builtin "object.__class__")))
    (moC1 : PySem.W.mroIn K C1 (.type "object") = some true)
    (mkC1 : PySem.W.makesIn K C1 = true)
    (kcC1 : PySem.W.keepIn K (.ref C1) = true)
    (inC1 : PySem.W.findIn K (.ref C1) "__init__" = some (some (.ref fI)))
    (itC1 : PySem.W.findIn K (.ref C1) "item" = some (some (.ref pI)))
    (stC1 : PySem.W.findIn K (.ref C1) "slot" = some (some (.ref pS)))
    (niC1 : PySem.W.findIn K (.ref C1) "held_item" = some none)
    (nsC1 : PySem.W.findIn K (.ref C1) "held_slot" = some none)
    (sgC1 : PySem.W.findIn K (.ref C1) "SIGN" = some (some (.str "-" tkC1)))
    (spC1 : PySem.W.specialIn K (.str "-" tkC1) "__get__" = some none)
    (mmvC1 : PySem.W.findIn K (.ref C1) "move_to" = some (some (.ref fMmv)))
    (nC2 : PySem.W.nsIn K mainGlobals "Fronted" = some (some (.ref C2)))
    (pgC2 : PySem.W.plainGet K C2 Str.empty = true)
    (hdC2 : PySem.W.hasDictIn K C2 = true)
    (poC2 : PySem.W.plainOver K C2 = true)
    (saC2 : PySem.W.findIn K (.ref C2) "__setattr__" = some (some (.builtin "object.__setattr__")))
    (ocC2 : PySem.W.findIn K (.ref C2) "__class__" = some (some (.builtin "object.__class__")))
    (moC2 : PySem.W.mroIn K C2 (.type "object") = some true)
    (mkC2 : PySem.W.makesIn K C2 = true)
    (kcC2 : PySem.W.keepIn K (.ref C2) = true)
    (inC2 : PySem.W.findIn K (.ref C2) "__init__" = some (some (.ref fI)))
    (itC2 : PySem.W.findIn K (.ref C2) "item" = some (some (.ref pI)))
    (stC2 : PySem.W.findIn K (.ref C2) "slot" = some (some (.ref pS)))
    (niC2 : PySem.W.findIn K (.ref C2) "held_item" = some none)
    (nsC2 : PySem.W.findIn K (.ref C2) "held_slot" = some none)
    (sgC2 : PySem.W.findIn K (.ref C2) "SIGN" = some (some (.str "^" tkC2)))
    (spC2 : PySem.W.specialIn K (.str "^" tkC2) "__get__" = some none)
    (mmvC2 : PySem.W.findIn K (.ref C2) "move_to" = some (some (.ref fMmv)))
    (nC3 : PySem.W.nsIn K mainGlobals "Record" = some (some (.ref C3)))
    (pgC3 : PySem.W.plainGet K C3 Str.empty = true)
    (hdC3 : PySem.W.hasDictIn K C3 = true)
    (poC3 : PySem.W.plainOver K C3 = true)
    (saC3 : PySem.W.findIn K (.ref C3) "__setattr__" = some (some (.builtin "object.__setattr__")))
    (ocC3 : PySem.W.findIn K (.ref C3) "__class__" = some (some (.builtin "object.__class__")))
    (moC3 : PySem.W.mroIn K C3 (.type "object") = some true)
    (mkC3 : PySem.W.makesIn K C3 = true)
    (kcC3 : PySem.W.keepIn K (.ref C3) = true)
    (inC3 : PySem.W.findIn K (.ref C3) "__init__" = some (some (.ref fI)))
    (itC3 : PySem.W.findIn K (.ref C3) "item" = some (some (.ref pI)))
    (stC3 : PySem.W.findIn K (.ref C3) "slot" = some (some (.ref pS)))
    (niC3 : PySem.W.findIn K (.ref C3) "held_item" = some none)
    (nsC3 : PySem.W.findIn K (.ref C3) "held_slot" = some none)
    (sgC3 : PySem.W.findIn K (.ref C3) "SIGN" = some (some (.str "" tkC3)))
    (spC3 : PySem.W.specialIn K (.str "" tkC3) "__get__" = some none)
    (mmvC3 : PySem.W.findIn K (.ref C3) "move_to" = some (some (.ref fMmv)))
    (gtpI : PySem.W.specialIn K (.ref pI) "__get__" = some (some (.builtin "property.__get__")))
    (tkpI : PySem.W.takesIn K (.ref pI) = some true)
    (rcpI : PySem.W.recIn K pI "property" = some (.ref fP :: rspI))
    (gtpS : PySem.W.specialIn K (.ref pS) "__get__" = some (some (.builtin "property.__get__")))
    (tkpS : PySem.W.takesIn K (.ref pS) = some true)
    (rcpS : PySem.W.recIn K pS "property" = some (.ref fS :: rspS))
    (lI : K.lookup fI = some ⟨ocI, odI, .func (PySem.W.fnOf "__init__" "Record.__init__" (defArgs s_Record_init) (defBody s_Record_init) (defScope s_Record_init) .none kVI dcI pmI anI cdI ctI), slI⟩)
    (cI : PySem.W.codeIn K cdI "Record.__init__" = true)
    (kI : PySem.W.keepIn K (.ref fI) = true)
    (lP : K.lookup fP = some ⟨ocP, odP, .func (PySem.W.fnOf "item" "Record.item" (defArgs s_Record_item) (defBody s_Record_item) (defScope s_Record_item) .none kVP dcP pmP anP cdP ctP), slP⟩)
    (cP : PySem.W.codeIn K cdP "Record.item" = true)
    (kP : PySem.W.keepIn K (.ref fP) = true)
    (lS : K.lookup fS = some ⟨ocS, odS, .func (PySem.W.fnOf "slot" "Record.slot" (defArgs s_Record_slot) (defBody s_Record_slot) (defScope s_Record_slot) .none kVS dcS pmS anS cdS ctS), slS⟩)
    (cS : PySem.W.codeIn K cdS "Record.slot" = true)
    (kS : PySem.W.keepIn K (.ref fS) = true)
    (lMmv : K.lookup fMmv = some ⟨ocMmv, odMmv, .func (PySem.W.fnOf "move_to" "Record.move_to" (defArgs s_Record_move_to) (defBody s_Record_move_to) (defScope s_Record_move_to) .none kVMmv dcMmv pmMmv anMmv cdMmv ctMmv), slMmv⟩)
    (cMmv : PySem.W.codeIn K cdMmv "Record.move_to" = true)
    (kMmv : PySem.W.keepIn K (.ref fMmv) = true)
    (iI : PySem.W.isFn K (.ref fI) = true)
    (iMmv : PySem.W.isFn K (.ref fMmv) = true)
    (kt00 : PySem.W.subIn K (.ref C0) (.ref C0) = some true)
    (kt01 : PySem.W.subIn K (.ref C0) (.ref C1) = some false)
    (kt02 : PySem.W.subIn K (.ref C0) (.ref C2) = some false)
    (kt03 : PySem.W.subIn K (.ref C0) (.ref C3) = some true)
    (kt10 : PySem.W.subIn K (.ref C1) (.ref C0) = some false)
    (kt11 : PySem.W.subIn K (.ref C1) (.ref C1) = some true)
    (kt12 : PySem.W.subIn K (.ref C1) (.ref C2) = some false)
    (kt13 : PySem.W.subIn K (.ref C1) (.ref C3) = some true)
    (kt20 : PySem.W.subIn K (.ref C2) (.ref C0) = some false)
    (kt21 : PySem.W.subIn K (.ref C2) (.ref C1) = some false)
    (kt22 : PySem.W.subIn K (.ref C2) (.ref C2) = some true)
    (kt23 : PySem.W.subIn K (.ref C2) (.ref C3) = some true)
    (kt30 : PySem.W.subIn K (.ref C3) (.ref C0) = some false)
    (kt31 : PySem.W.subIn K (.ref C3) (.ref C1) = some false)
    (kt32 : PySem.W.subIn K (.ref C3) (.ref C2) = some false)
    (kt33 : PySem.W.subIn K (.ref C3) (.ref C3) = some true)
    (ic0 : PySem.W.isClsIn K C0 = true)
    (tc0 : PySem.W.typeIn K (.ref C0) = some (.type "type"))
    (ic1 : PySem.W.isClsIn K C1 = true)
    (tc1 : PySem.W.typeIn K (.ref C1) = some (.type "type"))
    (ic2 : PySem.W.isClsIn K C2 = true)
    (tc2 : PySem.W.typeIn K (.ref C2) = some (.type "type"))
    (ic3 : PySem.W.isClsIn K C3 = true)
    (tc3 : PySem.W.typeIn K (.ref C3) = some (.type "type"))
    (rdR : PySem.W.readsIn K C3 (.type "type") = true)
    (gaR : PySem.W.specialIn K (.ref C3) "__getattribute__" = some (some (.builtin "type.__getattribute__")))
    (msR : PySem.W.findCls K (.ref C3) (.type "type") "MOST" = some (.val (.int 60 tkM)))
    (xLogError : PySem.W.nsIn K mainGlobals "LogError" = some (some (.ref XLogError)))
    (xNoIndex : PySem.W.nsIn K mainGlobals "NoIndex" = some (some (.ref XNoIndex)))
    (xNoItem : PySem.W.nsIn K mainGlobals "NoItem" = some (some (.ref XNoItem)))
    (xNoLog : PySem.W.nsIn K mainGlobals "NoLog" = some (some (.ref XNoLog)))
    (xNoText : PySem.W.nsIn K mainGlobals "NoText" = some (some (.ref XNoText)))
    (b_abs : PySem.W.nsIn K mainGlobals "abs" = some none)
    (b_all : PySem.W.nsIn K mainGlobals "all" = some none)
    (b_bool : PySem.W.nsIn K mainGlobals "bool" = some none)
    (b_enumerate : PySem.W.nsIn K mainGlobals "enumerate" = some none)
    (b_int : PySem.W.nsIn K mainGlobals "int" = some none)
    (b_isinstance : PySem.W.nsIn K mainGlobals "isinstance" = some none)
    (b_len : PySem.W.nsIn K mainGlobals "len" = some none)
    (b_list : PySem.W.nsIn K mainGlobals "list" = some none)
    (b_max : PySem.W.nsIn K mainGlobals "max" = some none)
    (b_min : PySem.W.nsIn K mainGlobals "min" = some none)
    (b_range : PySem.W.nsIn K mainGlobals "range" = some none)
    (b_repr : PySem.W.nsIn K mainGlobals "repr" = some none)
    (b_set : PySem.W.nsIn K mainGlobals "set" = some none)
    (b_sorted : PySem.W.nsIn K mainGlobals "sorted" = some none)
    (b_str : PySem.W.nsIn K mainGlobals "str" = some none)
    (v_FRONTED : PySem.W.nsIn K mainGlobals "FRONTED" = some (some (.str "^" tk_FRONTED)))
    (v_INSERTED : PySem.W.nsIn K mainGlobals "INSERTED" = some (some (.str "+" tk_INSERTED)))
    (v_LETTERS : PySem.W.nsIn K mainGlobals "LETTERS" = some (some (.str "abcdefghijklmnopqrstuvwxyz" tk_LETTERS)))
    (v_MOST_LETTERS : PySem.W.nsIn K mainGlobals "MOST_LETTERS" = some (some (.int 8 tk_MOST_LETTERS)))
    (v_MOST_LOG : PySem.W.nsIn K mainGlobals "MOST_LOG" = some (some (.int 40 tk_MOST_LOG)))
    (v_REMOVED : PySem.W.nsIn K mainGlobals "REMOVED" = some (some (.str "-" tk_REMOVED))) :
    ∃ fd : FuncData, (∀ (s : Shared) (v : Value), BindsTo s fd ⟨[v], []⟩ [("_law_script", v)]) ∧ ∀ base : Heap, K.In base → base.Ns mainGlobals mg → FnOk l.prog w K mg base (L2.CX l.prog w) 9 fa fd ["_law_script"] (sp_law K) := by
  have e := hfa.symm.trans (PySem.W.mg_of X G a20)
  cases e
  have F0 := fun_mk (st := s_is_integer) l0 c0 k0
  have B0 := F0.binds (ps := ["thing", "least", "most"]) fun _ _ _ _ _ _ us hl => match us, hl with | [_, _, _], _ => rfl
  have D0 : Df K mg "is_integer" s_is_integer ["thing", "least", "most"] := ⟨_, _, F0, PySem.W.mg_of X G a0, B0⟩
  have F1 := fun_mk (st := s_is_item) l1 c1 k1
  have B1 := F1.binds (ps := ["thing"]) fun _ _ _ _ _ _ us hl => match us, hl with | [_], _ => rfl
  have D1 : Df K mg "is_item" s_is_item ["thing"] := ⟨_, _, F1, PySem.W.mg_of X G a1, B1⟩
  have F2 := fun_mk (st := s_are_records) l2 c2 k2
  have B2 := F2.binds (ps := ["thing", "most"]) fun _ _ _ _ _ _ us hl => match us, hl with | [_, _], _ => rfl
  have D2 : Df K mg "are_records" s_are_records ["thing", "most"] := ⟨_, _, F2, PySem.W.mg_of X G a2, B2⟩
  have F3 := fun_mk (st := s_sign_of) l3 c3 k3
  have B3 := F3.binds (ps := ["log"]) fun _ _ _ _ _ _ us hl => match us, hl with | [_], _ => rfl
  have D3 : Df K mg "sign_of" s_sign_of ["log"] := ⟨_, _, F3, PySem.W.mg_of X G a3, B3⟩
  have F4 := fun_mk (st := s_items_of) l4 c4 k4
  have B4 := F4.binds (ps := ["log"]) fun _ _ _ _ _ _ us hl => match us, hl with | [_], _ => rfl
  have D4 : Df K mg "items_of" s_items_of ["log"] := ⟨_, _, F4, PySem.W.mg_of X G a4, B4⟩
  have F5 := fun_mk (st := s_is_log) l5 c5 k5
  have B5 := F5.binds (ps := ["thing"]) fun _ _ _ _ _ _ us hl => match us, hl with | [_], _ => rfl
  have D5 : Df K mg "is_log" s_is_log ["thing"] := ⟨_, _, F5, PySem.W.mg_of X G a5, B5⟩
  have F6 := fun_mk (st := s_need_log) l6 c6 k6
  have B6 := F6.binds (ps := ["thing"]) fun _ _ _ _ _ _ us hl => match us, hl with | [_], _ => rfl
  have D6 : Df K mg "need_log" s_need_log ["thing"] := ⟨_, _, F6, PySem.W.mg_of X G a6, B6⟩
  have F7 := fun_mk (st := s_need_growing) l7 c7 k7
  have B7 := F7.binds (ps := ["log"]) fun _ _ _ _ _ _ us hl => match us, hl with | [_], _ => rfl
  have D7 : Df K mg "need_growing" s_need_growing ["log"] := ⟨_, _, F7, PySem.W.mg_of X G a7, B7⟩
  have F8 := fun_mk (st := s_made) l8 c8 k8
  have B8 := F8.binds (ps := ["sign", "item", "slot"]) fun _ _ _ _ _ _ us hl => match us, hl with | [_, _, _], _ => rfl
  have D8 : Df K mg "made" s_made ["sign", "item", "slot"] := ⟨_, _, F8, PySem.W.mg_of X G a8, B8⟩
  have F9 := fun_mk (st := s_copied) l9 c9 k9
  have B9 := F9.binds (ps := ["record"]) fun _ _ _ _ _ _ us hl => match us, hl with | [_], _ => rfl
  have D9 : Df K mg "copied" s_copied ["record"] := ⟨_, _, F9, PySem.W.mg_of X G a9, B9⟩
  have F10 := fun_mk (st := s_least_missing) l10 c10 k10
  have B10 := F10.binds (ps := ["log"]) fun _ _ _ _ _ _ us hl => match us, hl with | [_], _ => rfl
  have D10 : Df K mg "least_missing" s_least_missing ["log"] := ⟨_, _, F10, PySem.W.mg_of X G a10, B10⟩
  have F11 := fun_mk (st := s_usable) l11 c11 k11
  have B11 := F11.binds (ps := ["log"]) fun _ _ _ _ _ _ us hl => match us, hl with | [_], _ => rfl
  have D11 : Df K mg "usable" s_usable ["log"] := ⟨_, _, F11, PySem.W.mg_of X G a11, B11⟩
  have F12 := fun_mk (st := s_law_tape) l12 c12 k12
  have B12 := F12.binds (ps := ["_law_script", "_law_k"]) fun _ _ _ _ _ _ us hl => match us, hl with | [_, _], _ => rfl
  have D12 : Df K mg "_law_tape" s_law_tape ["_law_script", "_law_k"] := ⟨_, _, F12, PySem.W.mg_of X G a12, B12⟩
  have F13 := fun_mk (st := s_law_next) l13 c13 k13
  have B13 := F13.binds (ps := ["_law_tape_here", "_law_size"]) fun _ _ _ _ _ _ us hl => match us, hl with | [_, _], _ => rfl
  have D13 : Df K mg "_law_next" s_law_next ["_law_tape_here", "_law_size"] := ⟨_, _, F13, PySem.W.mg_of X G a13, B13⟩
  have F14 := fun_mk (st := s_law_items) l14 c14 k14
  have B14 := F14.binds (ps := ["_law_tape_here", "_law_many"]) fun _ _ _ _ _ _ us hl => match us, hl with | [_, _], _ => rfl
  have D14 : Df K mg "_law_items" s_law_items ["_law_tape_here", "_law_many"] := ⟨_, _, F14, PySem.W.mg_of X G a14, B14⟩
  have F15 := fun_mk (st := s_law_made) l15 c15 k15
  have B15 := F15.binds (ps := ["_law_kind", "_law_item", "_law_slot"]) fun _ _ _ _ _ _ us hl => match us, hl with | [_, _, _], _ => rfl
  have D15 : Df K mg "_law_made" s_law_made ["_law_kind", "_law_item", "_law_slot"] := ⟨_, _, F15, PySem.W.mg_of X G a15, B15⟩
  have F16 := fun_mk (st := s_law_facts) l16 c16 k16
  have B16 := F16.binds (ps := ["_law_log"]) fun _ _ _ _ _ _ us hl => match us, hl with | [_], _ => rfl
  have D16 : Df K mg "_law_facts" s_law_facts ["_law_log"] := ⟨_, _, F16, PySem.W.mg_of X G a16, B16⟩
  have F17 := fun_mk (st := s_law_slots) l17 c17 k17
  have B17 := F17.binds (ps := ["_law_tape_here", "_law_many"]) fun _ _ _ _ _ _ us hl => match us, hl with | [_, _], _ => rfl
  have D17 : Df K mg "_law_slots" s_law_slots ["_law_tape_here", "_law_many"] := ⟨_, _, F17, PySem.W.mg_of X G a17, B17⟩
  have F18 := fun_mk (st := s_law_played) l18 c18 k18
  have B18 := F18.binds (ps := ["_law_tape_here", "_law_log"]) fun _ _ _ _ _ _ us hl => match us, hl with | [_, _], _ => rfl
  have D18 : Df K mg "_law_played" s_law_played ["_law_tape_here", "_law_log"] := ⟨_, _, F18, PySem.W.mg_of X G a18, B18⟩
  have F19 := fun_mk (st := s_law_right) l19 c19 k19
  have B19 := F19.binds (ps := ["_law_tape_here", "_law_kind", "_law_slots_here"]) fun _ _ _ _ _ _ us hl => match us, hl with | [_, _, _], _ => rfl
  have D19 : Df K mg "_law_right" s_law_right ["_law_tape_here", "_law_kind", "_law_slots_here"] := ⟨_, _, F19, PySem.W.mg_of X G a19, B19⟩
  have F20 := fun_mk (st := s_law) l20 c20 k20
  have B20 := F20.binds (ps := ["_law_script"]) fun _ _ _ _ _ _ us hl => match us, hl with | [_], _ => rfl
  have D20 : Df K mg "law" s_law ["_law_script"] := ⟨_, _, F20, PySem.W.mg_of X G a20, B20⟩
  have FI := fun_mk (st := s_Record_init) lI cI kI
  have BI := FI.binds (ps := ["self", "item", "slot"]) fun _ _ _ _ _ _ us hl => match us, hl with | [_, _, _], _ => rfl
  have FP := fun_mk (st := s_Record_item) lP cP kP
  have BP := FP.binds (ps := ["self"]) fun _ _ _ _ _ _ us hl => match us, hl with | [_], _ => rfl
  have FS := fun_mk (st := s_Record_slot) lS cS kS
  have BS := FS.binds (ps := ["self"]) fun _ _ _ _ _ _ us hl => match us, hl with | [_], _ => rfl
  have FMmv := fun_mk (st := s_Record_move_to) lMmv cMmv kMmv
  have BMmv := FMmv.binds (ps := ["self", "slot"]) fun _ _ _ _ _ _ us hl => match us, hl with | [_, _], _ => rfl
  let A : Ads := { cInserted := C0, cRemoved := C1, cFronted := C2, cRecord := C3, cLogError := XLogError, cNoIndex := XNoIndex, cNoItem := XNoItem, cNoLog := XNoLog, cNoText := XNoText }
  have GG : Gm mg A := { g_abs := PySem.W.mg_none_of X G b_abs, g_all := PySem.W.mg_none_of X G b_all, g_bool := PySem.W.mg_none_of X G b_bool, g_enumerate := PySem.W.mg_none_of X G b_enumerate, g_int := PySem.W.mg_none_of X G b_int, g_isinstance := PySem.W.mg_none_of X G b_isinstance, g_len := PySem.W.mg_none_of X G b_len, g_list := PySem.W.mg_none_of X G b_list, g_max := PySem.W.mg_none_of X G b_max, g_min := PySem.W.mg_none_of X G b_min, g_range := PySem.W.mg_none_of X G b_range, g_repr := PySem.W.mg_none_of X G b_repr, g_set := PySem.W.mg_none_of X G b_set, g_sorted := PySem.W.mg_none_of X G b_sorted, g_str := PySem.W.mg_none_of X G b_str, g_FRONTED := ⟨_, PySem.W.mg_of X G v_FRONTED, ⟨_, rfl⟩⟩, g_INSERTED := ⟨_, PySem.W.mg_of X G v_INSERTED, ⟨_, rfl⟩⟩, g_LETTERS := ⟨_, PySem.W.mg_of X G v_LETTERS, ⟨_, rfl⟩⟩, g_MOST_LETTERS := ⟨_, PySem.W.mg_of X G v_MOST_LETTERS, ⟨_, rfl⟩⟩, g_MOST_LOG := ⟨_, PySem.W.mg_of X G v_MOST_LOG, ⟨_, rfl⟩⟩, g_REMOVED := ⟨_, PySem.W.mg_of X G v_REMOVED, ⟨_, rfl⟩⟩, cInserted := PySem.W.mg_of X G nC0, cRemoved := PySem.W.mg_of X G nC1, cFronted := PySem.W.mg_of X G nC2, cRecord := PySem.W.mg_of X G nC3, cLogError := PySem.W.mg_of X G xLogError, cNoIndex := PySem.W.mg_of X G xNoIndex, cNoItem := PySem.W.mg_of X G xNoItem, cNoLog := PySem.W.mg_of X G xNoLog, cNoText := PySem.W.mg_of X G xNoText }
  have K0 : Kd K mg A 0 := { cls := ⟨pgC0, hdC0, poC0, saC0⟩, ty := ⟨ocC0, ocg, oct, moC0⟩, made := ⟨_, _, FI, ⟨mkC0, inC0, iI, kcC0⟩, PySem.W.mg_of X G nC0, BI⟩, sign := ⟨_, sgC0, ⟨_, rfl⟩, spC0, by decide +kernel⟩, ni := niC0, ns := nsC0, item := ⟨_, _, _, ⟨itC0, gtpI, tkpI, _, rcpI⟩, FP, BP⟩, slot := ⟨_, _, _, ⟨stC0, gtpS, tkpS, _, rcpS⟩, FS, BS⟩, mv := ⟨⟨pgC0, hdC0, poC0, saC0⟩, _, _, FMmv, ⟨mmvC0, iMmv, kMmv⟩, BMmv⟩ }
  have K1 : Kd K mg A 1 := { cls := ⟨pgC1, hdC1, poC1, saC1⟩, ty := ⟨ocC1, ocg, oct, moC1⟩, made := ⟨_, _, FI, ⟨mkC1, inC1, iI, kcC1⟩, PySem.W.mg_of X G nC1, BI⟩, sign := ⟨_, sgC1, ⟨_, rfl⟩, spC1, by decide +kernel⟩, ni := niC1, ns := nsC1, item := ⟨_, _, _, ⟨itC1, gtpI, tkpI, _, rcpI⟩, FP, BP⟩, slot := ⟨_, _, _, ⟨stC1, gtpS, tkpS, _, rcpS⟩, FS, BS⟩, mv := ⟨⟨pgC1, hdC1, poC1, saC1⟩, _, _, FMmv, ⟨mmvC1, iMmv, kMmv⟩, BMmv⟩ }
  have K2 : Kd K mg A 2 := { cls := ⟨pgC2, hdC2, poC2, saC2⟩, ty := ⟨ocC2, ocg, oct, moC2⟩, made := ⟨_, _, FI, ⟨mkC2, inC2, iI, kcC2⟩, PySem.W.mg_of X G nC2, BI⟩, sign := ⟨_, sgC2, ⟨_, rfl⟩, spC2, by decide +kernel⟩, ni := niC2, ns := nsC2, item := ⟨_, _, _, ⟨itC2, gtpI, tkpI, _, rcpI⟩, FP, BP⟩, slot := ⟨_, _, _, ⟨stC2, gtpS, tkpS, _, rcpS⟩, FS, BS⟩, mv := ⟨⟨pgC2, hdC2, poC2, saC2⟩, _, _, FMmv, ⟨mmvC2, iMmv, kMmv⟩, BMmv⟩ }
  have K3 : Kd K mg A 3 := { cls := ⟨pgC3, hdC3, poC3, saC3⟩, ty := ⟨ocC3, ocg, oct, moC3⟩, made := ⟨_, _, FI, ⟨mkC3, inC3, iI, kcC3⟩, PySem.W.mg_of X G nC3, BI⟩, sign := ⟨_, sgC3, ⟨_, rfl⟩, spC3, by decide +kernel⟩, ni := niC3, ns := nsC3, item := ⟨_, _, _, ⟨itC3, gtpI, tkpI, _, rcpI⟩, FP, BP⟩, slot := ⟨_, _, _, ⟨stC3, gtpS, tkpS, _, rcpS⟩, FS, BS⟩, mv := ⟨⟨pgC3, hdC3, poC3, saC3⟩, _, _, FMmv, ⟨mmvC3, iMmv, kMmv⟩, BMmv⟩ }
  have T : Tx K mg A := { G := GG, kd := fun k hk => match k, hk with | 0, _ => K0 | 1, _ => K1 | 2, _ => K2 | 3, _ => K3, most := ⟨_, _, ⟨rdR, gaR⟩, ⟨msR, ⟨_, rfl⟩⟩⟩, kit := fun i j hi hj => match i, j, hi, hj with | 0, 0, _, _ => kit_mk ic0 tc0 kt00 kt00 | 0, 1, _, _ => kit_mk ic1 tc1 kt01 kt11 | 0, 2, _, _ => kit_mk ic2 tc2 kt02 kt22 | 0, 3, _, _ => kit_mk ic3 tc3 kt03 kt33 | 1, 0, _, _ => kit_mk ic0 tc0 kt10 kt00 | 1, 1, _, _ => kit_mk ic1 tc1 kt11 kt11 | 1, 2, _, _ => kit_mk ic2 tc2 kt12 kt22 | 1, 3, _, _ => kit_mk ic3 tc3 kt13 kt33 | 2, 0, _, _ => kit_mk ic0 tc0 kt20 kt00 | 2, 1, _, _ => kit_mk ic1 tc1 kt21 kt11 | 2, 2, _, _ => kit_mk ic2 tc2 kt22 kt22 | 2, 3, _, _ => kit_mk ic3 tc3 kt23 kt33 | 3, 0, _, _ => kit_mk ic0 tc0 kt30 kt00 | 3, 1, _, _ => kit_mk ic1 tc1 kt31 kt11 | 3, 2, _, _ => kit_mk ic2 tc2 kt32 kt22 | 3, 3, _, _ => kit_mk ic3 tc3 kt33 kt33, f_is_integer := D0, f_is_item := D1, f_are_records := D2, f_sign_of := D3, f_items_of := D4, f_is_log := D5, f_need_log := D6, f_need_growing := D7, f_made := D8, f_copied := D9, f_least_missing := D10, f_usable := D11, f_law_tape := D12, f_law_next := D13, f_law_items := D14, f_law_made := D15, f_law_facts := D16, f_law_slots := D17, f_law_played := D18, f_law_right := D19, f_law := D20 }
  exact ⟨_, fun s v => .of_eq rfl, fun base _ _ => fnok_of F20 sc_law (fun hr => d_law T.G hr) (p_law T)⟩
theorem walk {l : PySem.W.OpenLaw} {q : Program} {loose : List Str} {XP : (Str → Option Value) → Heap → Prop} {YP : World → Heap → Prop} {d : DefRec} {K : Params → PySem.W.Frag} (hn : l.most = some 63) (hdf : d.params.defaults = [])
    (hY : ∀ (w : World) (h : Heap), YP w h → (K w.params).In h)
    (F : ∀ (w : World) (mg : Str → Option Value) (fa : Addr) (h : Heap), (K w.params).In h → h.Ns mainGlobals mg → mg d.name = some (.ref fa) →
      ∃ fd : FuncData, (∀ (s : Shared) (u : Value), BindsTo s fd ⟨[u], []⟩ [("_law_script", u)]) ∧ ∀ base : Heap, (K w.params).In base → base.Ns mainGlobals mg → FnOk l.prog w (K w.params) mg base (L2.CX l.prog w) 9 fa fd ["_law_script"] (sp_law (K w.params))) :
    PySem.W.WalkO q loose XP YP l.row.toRowW d [] (fun f vs => PySem.call f vs) :=
  L2.walk_of (n := 63) (k := 9) (x := "_law_script") (CX := fun w => L2.CX l.prog w) (sp := fun w => sp_law (K w.params)) hn (by decide) hdf ⟨rfl, by decide, by decide⟩ hY F (fun _ _ a ns hl _ hS => ⟨a, ns, rfl, hS, hl, fun _ => rfl⟩) fun _ _ _ _ _ h => by
    obtain ⟨_, _, _, _, _, _, _, _, _, _, _, _, z⟩ := h
    exact z.elim
end K
open PySem PySem.W PyProof.Rows
set_option maxRecDepth 100000 in
set_option maxHeartbeats 0 in
theorem PySem.Challenge.cw_indexlogs_k48_missing_and_usable_of_long_holds : PySem.Challenge.rw_indexlogs_k48_missing_and_usable_of_long.Holds := by
  w_on; o_law; k_head; (case hw => w_witness2)
  k_fill
  refine K.walk (l := PySem.Challenge.rw_indexlogs_k48_missing_and_usable_of_long) rfl rfl (fun w h Y => PySem.W.kIn_of Y) ?F
  case F =>
    intro w mg fa h KX G hmg
    refine' K.all_mk KX G hmg ?a0 ?l0 ?c0 ?k0 ?a1 ?l1 ?c1 ?k1 ?a2 ?l2 ?c2 ?k2 ?a3 ?l3 ?c3 ?k3 ?a4 ?l4 ?c4 ?k4 ?a5 ?l5 ?c5 ?k5 ?a6 ?l6 ?c6 ?k6 ?a7 ?l7 ?c7 ?k7 ?a8 ?l8 ?c8 ?k8 ?a9 ?l9 ?c9 ?k9 ?a10 ?l10 ?c10 ?k10 ?a11 ?l11 ?c11 ?k11 ?a12 ?l12 ?c12 ?k12 ?a13 ?l13 ?c13 ?k13 ?a14 ?l14 ?c14 ?k14 ?a15 ?l15 ?c15 ?k15 ?a16 ?l16 ?c16 ?k16 ?a17 ?l17 ?c17 ?k17 ?a18 ?l18 ?c18 ?k18 ?a19 ?l19 ?c19 ?k19 ?a20 ?l20 ?c20 ?k20 ?ocg ?oct ?nC0 ?pgC0 ?hdC0 ?poC0 ?saC0 ?ocC0 ?moC0 ?mkC0 ?kcC0 ?inC0 ?itC0 ?stC0 ?niC0 ?nsC0 ?sgC0 ?spC0 ?mmvC0 ?nC1 ?pgC1 ?hdC1 ?poC1 ?saC1 ?ocC1 ?moC1 ?mkC1 ?kcC1 ?inC1 ?itC1 ?stC1 ?niC1 ?nsC1 ?sgC1 ?spC1 ?mmvC1 ?nC2 ?pgC2 ?hdC2 ?poC2 ?saC2 ?ocC2 ?moC2 ?mkC2 ?kcC2 ?inC2 ?itC2 ?stC2 ?niC2 ?nsC2 ?sgC2 ?spC2 ?mmvC2 ?nC3 ?pgC3 ?hdC3 ?poC3 ?saC3 ?ocC3 ?moC3 ?mkC3 ?kcC3 ?inC3 ?itC3 ?stC3 ?niC3 ?nsC3 ?sgC3 ?spC3 ?mmvC3 ?gtpI ?tkpI ?rcpI ?gtpS ?tkpS ?rcpS ?lI ?cI ?kI ?lP ?cP ?kP ?lS ?cS ?kS ?lMmv ?cMmv ?kMmv ?iI ?iMmv ?kt00 ?kt01 ?kt02 ?kt03 ?kt10 ?kt11 ?kt12 ?kt13 ?kt20 ?kt21 ?kt22 ?kt23 ?kt30 ?kt31 ?kt32 ?kt33 ?ic0 ?tc0 ?ic1 ?tc1 ?ic2 ?tc2 ?ic3 ?tc3 ?rdR ?gaR ?msR ?xLogError ?xNoIndex ?xNoItem ?xNoLog ?xNoText ?b_abs ?b_all ?b_bool ?b_enumerate ?b_int ?b_isinstance ?b_len ?b_list ?b_max ?b_min ?b_range ?b_repr ?b_set ?b_sorted ?b_str ?v_FRONTED ?v_INSERTED ?v_LETTERS ?v_MOST_LETTERS ?v_MOST_LOG ?v_REMOVED
    (case a0 => k_is)
    (case l0 => k_is)
    (case c0 => k_is)
    (case k0 => k_is)
    (case a1 => k_is)
    (case l1 => k_is)
    (case c1 => k_is)
    (case k1 => k_is)
    (case a2 => k_is)
    (case l2 => k_is)
    (case c2 => k_is)
    (case k2 => k_is)
    (case a3 => k_is)
    (case l3 => k_is)
    (case c3 => k_is)
    (case k3 => k_is)
    (case a4 => k_is)
    (case l4 => k_is)
    (case c4 => k_is)
    (case k4 => k_is)
    (case a5 => k_is)
    (case l5 => k_is)
    (case c5 => k_is)
    (case k5 => k_is)
    (case a6 => k_is)
    (case l6 => k_is)
    (case c6 => k_is)
    (case k6 => k_is)
    (case a7 => k_is)
    (case l7 => k_is)
    (case c7 => k_is)
    (case k7 => k_is)
    (case a8 => k_is)
    (case l8 => k_is)
    (case c8 => k_is)
    (case k8 => k_is)
    (case a9 => k_is)
    (case l9 => k_is)
    (case c9 => k_is)
    (case k9 => k_is)
    (case a10 => k_is)
    (case l10 => k_is)
    (case c10 => k_is)
    (case k10 => k_is)
    (case a11 => k_is)
    (case l11 => k_is)
    (case c11 => k_is)
    (case k11 => k_is)
    (case a12 => k_is)
    (case l12 => k_is)
    (case c12 => k_is)
    (case k12 => k_is)
    (case a13 => k_is)
    (case l13 => k_is)
    (case c13 => k_is)
    (case k13 => k_is)
    (case a14 => k_is)
    (case l14 => k_is)
    (case c14 => k_is)
    (case k14 => k_is)
    (case a15 => k_is)
    (case l15 => k_is)
    (case c15 => k_is)
    (case k15 => k_is)
    (case a16 => k_is)
    (case l16 => k_is)
    (case c16 => k_is)
    (case k16 => k_is)
    (case a17 => k_is)
    (case l17 => k_is)
    (case c17 => k_is)
    (case k17 => k_is)
    (case a18 => k_is)
    (case l18 => k_is)
    (case c18 => k_is)
    (case k18 => k_is)
    (case a19 => k_is)
    (case l19 => k_is)
    (case c19 => k_is)
    (case k19 => k_is)
    (case a20 => k_is)
    (case l20 => k_is)
    (case c20 => k_is)
    (case k20 => k_is)
    (case ocg => k_is)
    (case oct => k_is)
    (case nC0 => k_is)
    (case pgC0 => k_is)
    (case hdC0 => k_is)
    (case poC0 => k_is)
    (case saC0 => k_is)
    (case ocC0 => k_is)
    (case moC0 => k_is)
    (case mkC0 => k_is)
    (case kcC0 => k_is)
    (case inC0 => k_is)
    (case itC0 => k_is)
    (case stC0 => k_is)
    (case niC0 => k_is)
    (case nsC0 => k_is)
    (case sgC0 => k_is)
    (case spC0 => k_is)
    (case mmvC0 => k_is)
    (case nC1 => k_is)
    (case pgC1 => k_is)
    (case hdC1 => k_is)
    (case poC1 => k_is)
    (case saC1 => k_is)
    (case ocC1 => k_is)
    (case moC1 => k_is)
    (case mkC1 => k_is)
    (case kcC1 => k_is)
    (case inC1 => k_is)
    (case itC1 => k_is)
    (case stC1 => k_is)
    (case niC1 => k_is)
    (case nsC1 => k_is)
    (case sgC1 => k_is)
    (case spC1 => k_is)
    (case mmvC1 => k_is)
    (case nC2 => k_is)
    (case pgC2 => k_is)
    (case hdC2 => k_is)
    (case poC2 => k_is)
    (case saC2 => k_is)
    (case ocC2 => k_is)
    (case moC2 => k_is)
    (case mkC2 => k_is)
    (case kcC2 => k_is)
    (case inC2 => k_is)
    (case itC2 => k_is)
    (case stC2 => k_is)
    (case niC2 => k_is)
    (case nsC2 => k_is)
    (case sgC2 => k_is)
    (case spC2 => k_is)
    (case mmvC2 => k_is)
    (case nC3 => k_is)
    (case pgC3 => k_is)
    (case hdC3 => k_is)
    (case poC3 => k_is)
    (case saC3 => k_is)
    (case ocC3 => k_is)
    (case moC3 => k_is)
    (case mkC3 => k_is)
    (case kcC3 => k_is)
    (case inC3 => k_is)
    (case itC3 => k_is)
    (case stC3 => k_is)
    (case niC3 => k_is)
    (case nsC3 => k_is)
    (case sgC3 => k_is)
    (case spC3 => k_is)
    (case mmvC3 => k_is)
    (case gtpI => k_is)
    (case tkpI => k_is)
    (case rcpI => k_is)
    (case gtpS => k_is)
    (case tkpS => k_is)
    (case rcpS => k_is)
    (case lI => k_is)
    (case cI => k_is)
    (case kI => k_is)
    (case lP => k_is)
    (case cP => k_is)
    (case kP => k_is)
    (case lS => k_is)
    (case cS => k_is)
    (case kS => k_is)
    (case lMmv => k_is)
    (case cMmv => k_is)
    (case kMmv => k_is)
    (case iI => k_is)
    (case iMmv => k_is)
    (case kt00 => k_is)
    (case kt01 => k_is)
    (case kt02 => k_is)
    (case kt03 => k_is)
    (case kt10 => k_is)
    (case kt11 => k_is)
    (case kt12 => k_is)
    (case kt13 => k_is)
    (case kt20 => k_is)
    (case kt21 => k_is)
    (case kt22 => k_is)
    (case kt23 => k_is)
    (case kt30 => k_is)
    (case kt31 => k_is)
    (case kt32 => k_is)
    (case kt33 => k_is)
    (case ic0 => k_is)
    (case tc0 => k_is)
    (case ic1 => k_is)
    (case tc1 => k_is)
    (case ic2 => k_is)
    (case tc2 => k_is)
    (case ic3 => k_is)
    (case tc3 => k_is)
    (case rdR => k_is)
    (case gaR => k_is)
    (case msR => k_is)
    (case xLogError => k_is)
    (case xNoIndex => k_is)
    (case xNoItem => k_is)
    (case xNoLog => k_is)
    (case xNoText => k_is)
    (case b_abs => k_is)
    (case b_all => k_is)
    (case b_bool => k_is)
    (case b_enumerate => k_is)
    (case b_int => k_is)
    (case b_isinstance => k_is)
    (case b_len => k_is)
    (case b_list => k_is)
    (case b_max => k_is)
    (case b_min => k_is)
    (case b_range => k_is)
    (case b_repr => k_is)
    (case b_set => k_is)
    (case b_sorted => k_is)
    (case b_str => k_is)
    (case v_FRONTED => k_is)
    (case v_INSERTED => k_is)
    (case v_LETTERS => k_is)
    (case v_MOST_LETTERS => k_is)
    (case v_MOST_LOG => k_is)
    (case v_REMOVED => k_is)
