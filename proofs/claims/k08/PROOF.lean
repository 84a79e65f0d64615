import PyProof.Rows.All
import Wide.All
import OpenK.AllK
import Wide.FinOn
import HandS.ForMost
import HandS.Strs
import HandS.Exc
import HandS.WordsExc
import HandS.ExcOwn
import HandS.Property
import HandS.Ends
import HandS.Defaults
import HandS.ExcInit
import HandS.ExcField
import HandS.ExcIs
import HandS.IsInst
import HandS.ClsMeth
import HandS.TryOnly
import HandS.Wide
import HandS.SortInts
import HandS.RaiseMore
import HandS.Deep
import HandS.More
import HandS.Conv
import HandS.Iter
import HandS.DictComp
import HandS.Style
import KE.DatumIndex
import PyProof.ReprReads
import KE.KSuper
import HandS.Nested
import HandS.Star
import PyProof.DictTable
import HandS.FStr
import HandS.OwnEq
import PyProof.NeKinds
import KE.SortData
import KE.SortLaws
import KE.RegKSuper
import PySem.Challenge.RW_indexlogs_k08_logs_recognized
set_option Elab.async false
set_option linter.all false
set_option maxRecDepth 100000
set_option maxHeartbeats 4000000
/-! len(set(xs)), xs a list of texts of any length below some thousands -/
namespace U
open PySem PySem.Spec PyProof.Rows L2

/-- the texts of a list, each once -/
def ddS (acc : List Str) (x : Str) : List Str := if acc.any (· == x) = true then acc else acc ++ [x]
def dd (xs : List Str) : List Str := xs.foldl ddS []
theorem ddS_any (acc : List Str) (x k : Str) : (ddS acc x).any (· == k) = (acc.any (· == k) || decide (k = x)) := by
  unfold ddS
  by_cases c : acc.any (· == x) = true
  · rw [if_pos c]
    by_cases q : k = x
    · subst q; rw [c]; simp
    · simp [q]
  · rw [if_neg c, List.any_append]
    by_cases q : k = x
    · subst q; simp
    · have z : (x == k) = false := by
        rw [beq_eq_false_iff_ne]; exact fun e => q e.symm
      simp [z, q]
theorem ddS_len (acc : List Str) (x : Str) : (ddS acc x).length = if acc.any (· == x) = true then acc.length else acc.length + 1 := by
  unfold ddS; split <;> simp
theorem dd_take {xs : List Str} {i : Nat} (h : i < xs.length) : dd (xs.take (i + 1)) = ddS (dd (xs.take i)) (xs.getD i Str.empty) := by
  unfold dd
  have e : xs.take (i + 1) = xs.take i ++ [xs.getD i Str.empty] := by
    rw [List.take_add_one, List.getElem?_eq_getElem h]; simp [List.getD, h]
  rw [e, List.foldl_append]; rfl
theorem dd_le (xs : List Str) : (dd xs).length ≤ xs.length := by
  unfold dd
  suffices h : ∀ (l acc : List Str), (l.foldl ddS acc).length ≤ acc.length + l.length by simpa using h xs []
  intro l
  induction l with
  | nil => intro acc; simp
  | cons x l ih =>
    intro acc
    have h1 := ih (ddS acc x)
    have h2 : (ddS acc x).length ≤ acc.length + 1 := by rw [ddS_len]; split <;> omega
    simp only [List.foldl_cons, List.length_cons]
    omega

section
variable {prog : Program} {w : World} {A : Around} {R : Result → Shared → Prop} {I : Addr} {fp wr : List Addr} {G : Array GenState → Array GenState → Prop} {n : Nat} {P : Nat → Value → Prop} {St : Nat → Shared → Prop}
abbrev HasT (prog : Program) (w : World) (h : Heap) (S : Addr) (l : List Str) : Prop := h.SetOf (PySem.strKind prog w) S (fun k => l.any (· == k)) l.length
theorem HasT.moved {h h' : Heap} {S : Addr} {l : List Str} (x : HasT prog w h S l) (k : ∀ o, h.get? S = some o → h'.get? S = some o) : HasT prog w h' S l := by
  obtain ⟨o, es, ep, t, q, r⟩ := x
  exact ⟨o, es, ep, t, k o q, r⟩
theorem loopT (W : WalksS prog w A.in1 I fp wr G n P St) {S : Addr} (hS : S ∉ fp) {xs : List Str} (hl : xs.length = n) (hb : n + 1 < scanBound) (hv : ∀ i v, P i v → ∃ t, v = .str (xs.getD i Str.empty) t) :
    ∀ (m i : Nat) (s : Shared), m = n - i → i ≤ n → St i s → HasT prog w s.heap S (dd (xs.take i)) →
      (∀ s', Moved (S :: wr) G s s' → HasT prog w s'.heap S (dd xs) → R (.ok (.ret .none)) s') → codeAny (model prog w) A (.builtin "set.update.loop" ⟨[.ref S, .ref I], []⟩) R s := by
  have nw : S ∉ wr := fun z => hS (W.sub _ z)
  have up : ∀ b ∈ wr, b ∈ S :: wr := fun b z => List.mem_cons_of_mem _ z
  intro m
  induction m with
  | zero =>
    intro i s hm hi st x fin
    obtain rfl : i = n := by omega
    refine codeAny_builtin PyProof.Rows.F.entry_set_update_loop ?_
    rw [Around.under_plainId PyProof.Rows.F.plain_set_update_loop _]
    refine (show wpAny _ A.in1 (pyNext (.ref I) >>= _) _ _ s from wpAny_bind (W.done s _ _ st fun s' mv => ?_))
    refine (show wpAny _ A.in1 (ret Value.none) _ _ s' from wpAny_pure (fin s' (mv.mono up) ?_))
    have y := HasT.moved x fun o q => mv.heap S _ nw q
    rwa [← hl, List.take_length] at y
  | succ m ih =>
    intro i s hm hi st x fin
    have lt : i < n := by omega
    refine codeAny_builtin PyProof.Rows.F.entry_set_update_loop ?_
    rw [Around.under_plainId PyProof.Rows.F.plain_set_update_loop _]
    refine (show wpAny _ A.in1 (pyNext (.ref I) >>= _) _ _ s from wpAny_bind (W.item i s _ _ lt st fun v s' pv st' mv => ?_))
    obtain ⟨t, rfl⟩ := hv i v pv
    have y := HasT.moved x fun o q => mv.heap S _ nw q
    refine (show wpAny _ A.in1 (holding [Value.str (xs.getD i Str.empty) t] (setAdd S (.str (xs.getD i Str.empty) t)) >>= _) _ _ s' from wpAny_bind (wpAny_holding ?_))
    unfold setAdd
    refine wpAny_holding (wpAny_bind ((PySem.strKind prog w).pyHash (k := xs.getD i Str.empty) (strKind_is _ _ _ _) ?_))
    have few : (dd (xs.take i)).length + 1 < scanBound := by
      have := dd_le (xs.take i)
      rw [List.length_take] at this
      omega
    refine wpAny_setAddHashed_of (knd := PySem.strKind prog w) (s := { s' with toks := s'.toks + 1 }) (strKind_is _ _ _ _) rfl y few fun h' sb z => ?_
    have z' : HasT prog w h' S (dd (xs.take (i + 1))) := by
      have e := dd_take (xs := xs) (i := i) (by omega)
      exact SetOf_congr z (fun k => by rw [e, ddS_any]) (by rw [e, ddS_len])
    refine wpAny_pure ⟨plainId_quiet PyProof.Rows.F.plain_set_update_loop _, ih (i + 1) _ (by omega) lt (W.frame _ s' _ _ st' (Nat.le_succ _) fun b hb o e => ?_) z' fun s2 mv2 z2 => ?_⟩
    · rw [sb.2 b fun q : b = S => hS (q ▸ hb)]
      exact e
    · refine fin s2 (Moved.trans W.gtrans ((mv.mono up).then_heap (Nat.le_succ _) fun b o hb e => ?_) mv2) z2
      rw [sb.2 b fun q : b = S => hb (q ▸ List.mem_cons_self)]
      exact e
end

section
variable {prog : Program} {w : World} {A : Around} {E : Value → Shared → Prop} {s : Shared}
abbrev nilSet (led : Bool) : Obj := { cls := .type "set", dict := none, data := .set #[] 0 (.fresh 0 0 led) }
set_option maxHeartbeats 6400000 in
theorem set_of_texts {l : Addr} {items : Array Value} {xs : List Str} {Q : Value → Shared → Prop} (calm : A.handled = none) (hl : s.heap.IsList l items) (hi : StrsAre items.toList xs) (hb : xs.length + 1 < scanBound)
    (h : ∀ (h' : Heap) (tk : Nat), HasT prog w h' s.heap.objs.size (dd xs) → (∀ b o, b < s.heap.objs.size → s.heap.get? b = some o → h'.get? b = some o) → Q (.ref s.heap.objs.size) { s with heap := h', toks := tk }) :
    wpAny (model prog w) A (call (.type "set") [.ref l]) Q E s := by
  obtain ⟨c, tl, hmro⟩ := PySem.F.called_set.mro
  have hmade := PySem.F.called_set.made; have hsub := PySem.F.called_set.sub
  refine wpAny_call (codeAny_of_tree (show wpAny _ _ (callAny (.type "set") _) _ _ _ from wpAny_pure ⟨Code.quiet_builtin _ (by decide +kernel), codeAny_builtin PySem.F.entry_type_call ?_⟩))
  rw [Around.under_plain (weight_type_call_type "set" [.ref l] []) rfl]
  have g1 := PySem.F.called_set.notType; have g2 := PySem.F.called_set.canCreate; have g3 := PySem.F.typeCall_set_1 (.ref l)
  repeat (any_goals (first | assumption | wp_step))
  refine codeAny_mono (code_set_new_1 (.ref l) (E := E) (Q₁ := fun obj s₁ => ∃ led : Bool, obj = .ref s.heap.objs.size ∧ s₁ = { s with heap := s.heap.push (nilSet led) }) fun led => ⟨led, rfl, rfl⟩) fun r s₁ hr => ?_
  match r, hr with
  | .error e, hr => exact hr
  | .ok (.ret obj), hr =>
    obtain ⟨led, rfl, rfl⟩ := hr
    have here : (s.heap.push (nilSet led)).get? s.heap.objs.size = some (nilSet led) := Heap.get?_push_size _ rfl
    have ty : Shared.TypeIs { s with heap := s.heap.push (nilSet led) } (.ref s.heap.objs.size) "set" := ⟨_, here, rfl⟩
    have q1 := PySem.F.called_set.init.lookup; have q2 := PySem.F.called_set.init.bind (.ref s.heap.objs.size)
    repeat (any_goals (first | assumption | wp_step))
    refine codeAny_mono (codeAny_call_builtin (R := wants (fun r s₂ => r = .none ∧ ∃ h' tk, s₂ = { s with heap := h', toks := tk } ∧ HasT prog w h' s.heap.objs.size (dd xs) ∧ (∀ b o, b < s.heap.objs.size → s.heap.get? b = some o → h'.get? b = some o)) E)
      PySem.F.called_set.init.plain PySem.F.entry_set_init (check_set_init_1 ty ?_)) fun r₂ s₂ hr₂ => ?_
    · obtain ⟨ol, hol, hcl, nl, hdl⟩ := hl
      obtain ⟨ocls, odict, odata, oslots⟩ := ol
      simp only at hcl hdl
      subst hcl; subst hdl
      have hol' : (s.heap.push (nilSet led)).get? l = some { cls := .type "list", dict := odict, data := .seq items nl, slots := oslots } := Heap.get?_push_of_some _ hol
      have w1 := PySem.F.sub_list_set; have w2 := PySem.F.sub_list_frozenset
      have w3 : (Value.type "list" == Value.type "dict") = false := by decide
      have il : (s.heap.push (nilSet led)).IsList l items := ⟨_, hol', rfl, nl, rfl⟩
      unfold Builtin.«set.__init__» noKeywords Builtin.Frozenset.updateFrom
      generalize hPI : pyIter = PI
      wp_walk
      subst hPI
      refine wpAny_pyIter_list il (wpAny_bind (wpAny_runValue ?_))
      have ll : l < s.heap.objs.size := Heap.lt_size hol
      have c3 : A.in1.in1.in1.handled = none := by simp [calm]
      have ne : l ≠ (s.heap.push (nilSet led)).objs.size := by rw [Heap.size_push]; exact Nat.ne_of_lt (Nat.lt_succ_of_lt ll)
      have nf : s.heap.objs.size ∉ [(s.heap.push (nilSet led)).objs.size, l] := by
        rw [Heap.size_push]
        simp only [List.mem_cons, List.not_mem_nil, or_false, not_or]
        exact ⟨Nat.ne_of_lt (Nat.lt_succ_self _), Nat.ne_of_gt ll⟩
      have sz : xs.length = items.size := by rw [← StrsAre.len_eq hi, Array.length_toList]
      have vl : ∀ (i : Nat) (v : Value), items[i]? = some v → ∃ t, v = .str (xs.getD i Str.empty) t := fun i v hv => SS.strs_at hi i v (by rw [Array.getElem?_toList]; exact hv)
      refine loopT (Walks.list c3 _ l ne items).toS nf sz (by rw [← sz]; exact hb) vl (items.size - 0) 0 _ rfl (Nat.zero_le _) ⟨⟨_, Heap.get?_push_size _ rfl, rfl, rfl⟩, il.push _⟩ ?b0 ?b1
      case b0 =>
        have hget : ((s.heap.push (nilSet led)).push { cls := .type "list_iterator", data := .fields #[.ref l, .int 0 0] }).get? s.heap.objs.size = some (nilSet led) := Heap.get?_push_of_some _ here
        exact SetOf_congr ((setObjOf_fresh (knd := PySem.strKind prog w) led).setOf hget (by unfold scanBound; omega)) (fun _ => rfl) rfl
      case b1 =>
        intro s' mv z
        obtain ⟨h', g', d', tk', os'⟩ := s'
        obtain rfl : g' = s.gens := mv.gens
        obtain rfl : d' = s.drawn := mv.drawn
        obtain rfl : os' = s.os := mv.os
        refine (show wpAny _ _ _ _ _ _ from wpAny_pure (show wpAny _ _ (ret Value.none) _ _ _ from wpAny_pure ⟨rfl, h', tk', rfl, z, fun b o hb e => ?_⟩))
        refine mv.heap b o ?_ (Heap.get?_push_of_some _ (Heap.get?_push_of_some _ e))
        rw [Heap.size_push]
        simp only [List.mem_cons, List.not_mem_nil, or_false, not_or]
        exact ⟨Nat.ne_of_lt hb, Nat.ne_of_lt (Nat.lt_succ_of_lt hb)⟩
    · match r₂, hr₂ with
      | .error e, hr₂ => exact hr₂
      | .ok (.ret r), hr₂ =>
        obtain ⟨rfl, h', tk, rfl, z, k⟩ := hr₂
        repeat (any_goals (first | assumption | wp_step))
        exact h _ _ z k
end

section
variable {X : Cx}
/-- len(set(xs)): how many different texts -/
def tLenSetT (K : PySem.W.Frag) (ta : TE) : TE := fun σ H Q => ta σ H fun x H1 => ∃ l, ∃ xs : List Str, x = .ref l ∧ SqL K H1 l (xs.map V.str) ∧ xs.length ≤ 1000 ∧ Q (.int (dd xs).length) H1
theorem pe_lenSetT {a : Expr} {ta : TE} {p p2 q pos : Pos} (hg : Gl X "len") (hm : X.mg "len" = none) (hg2 : Gl X "set") (hm2 : X.mg "set" = none) (ha : PE X a ta) (hc : X.calm = true := by rfl)
    (na : starEach [a] X.env = (false, eval a X.env) :: starEach [] X.env := by rfl) : PE X (.Call (.Name "len" p) [.Call (.Name "set" p2) [a] [] q] [] pos) (tLenSetT X.K ta) := by
  refine ⟨fun pins s σ H Q I h => Call_ (ld_blt I hg hm boot_len (PyProof.Rows.callWith_builtin1 (PyProof.Rows.args_cons ?_ rfl) rfl rfl))⟩
  refine Call_ (ld_blt I hg2 hm2 boot_set (PyProof.Rows.callWith_type1 (PyProof.Rows.args_cons (thn (ha.run pins s σ H _ I h) fun v s1 ⟨x, H1, I1, r1, q1⟩ => PyProof.Rows.args_nil ?_) na) na rfl))
  obtain ⟨l, xs, rfl, hq, few, q1⟩ := q1
  cases r1
  obtain ⟨its, r, pl, hz⟩ := I1.list hq
  refine set_of_texts (I1.ok.hd hc) pl.isList (by simpa using strsAre_of r) (by unfold scanBound; omega) fun h' tk x k => PyProof.Rows.args_nil ?_
  obtain ⟨o, es, ep, t, ho, hex, hd, _, _, _, hf, hn⟩ := x
  have I2 : Inv X pins σ H1 { s1 with heap := h', toks := tk } := I1.kept fun b o e => k b o (Heap.lt_size e) e
  have dl := dd_le xs
  exact call_len_set ho hex hd hf (by rw [hn] <;> omega) ⟨.int (dd xs).length, H1, I2.tok _, ⟨_, by rw [hn]⟩, q1⟩
end
end U
/-! promises of defs that are called where nothing is being shown (no guard stands): repr of data may be asked within -/
namespace U
open PySem PySem.Spec PyProof.Rows L2
/-- no repr is under way -/
abbrev Quiet (B : Around) : Prop := B.guards = some []
structure FnG (P : Program) (w : World) (K : PySem.W.Frag) (mg : Str → Option Value) (base : Heap) (k : Nat) (f : Addr) (fd : FuncData) (ps : List Str) (sp : Sp) : Prop where
  len : ∀ vs H Q E, sp vs H Q E → vs.length = ps.length
  run : ∀ (B : Around) (outs : List Env) (t : Shared) (H : Hp) (gv : Args) (us : List Value) (vs : List V) (Q : VK) (E : XK), Room k B → Quiet B → Env0 P w K mg base B outs t H →
    BindsTo t fd gv (ps.zip us) → Vals vs us → sp vs H Q E → codeAny (model P w) B (.call (.ref f) gv) (CR (L2.CX P w) outs P w H t Q E) t
section
variable {P : Program} {w : World} {K : PySem.W.Frag} {mg : Str → Option Value} {base : Heap}
theorem FnG.of {k : Nat} {f : Addr} {fd : FuncData} {ps : List Str} {sp : Sp} (F : FnOk P w K mg base (L2.CX P w) k f fd ps sp) : FnG P w K mg base k f fd ps sp :=
  ⟨F.len, fun B outs t H gv us vs Q E r _ => F.run B outs t H gv us vs Q E r⟩
/-- a def by its body, read where no repr is under way -/
theorem fnG_body {k : Nat} {f : Addr} {nm ql : Str} {pr : Arguments} {bd : List Stmt} {sc : Scope} {dV kV doc pm cdv ct oc : Value} {an od : Option Addr} {osl : Array (Option Value)} {N ps : List Str} {sp : Sp}
    (at_ : K.lookup f = some ⟨oc, od, .func (PySem.W.fnOf nm ql pr bd sc dV kV doc pm an cdv ct), osl⟩) (cd : PySem.W.codeIn K cdv ql = true) (S : FnScope N ps sc) (ln : ∀ vs H Q E, sp vs H Q E → vs.length = ps.length)
    (body : ∀ (B : Around) (outs : List Env) (t : Shared) (H : Hp) (vs : List V) (Q : VK) (E : XK), Room k (B.deeper (envOfC ql sc t.heap.objs.size f cdv)) → Quiet (B.deeper (envOfC ql sc t.heap.objs.size f cdv)) → sp vs H Q E →
      ∃ T, PSs (cxOf (L2.CX P w) P w K mg base N ql sc f cdv B outs t H E) bd T ∧ T { nx := fun _ G => Q .non G, rt := Q } (start N vs) H) :
    FnG P w K mg base (k + 1) f (PySem.W.fnOf nm ql pr bd sc dV kV doc pm an cdv ct) ps sp where
  len := ln
  run := fun B outs t H gv us vs Q E rm qt e0 bi rv want => by
    have kin : K.In t.heap := e0.mod.kin.keeps fun b o z => (e0.bs b o z).1
    have unl : t.heap.NoLimit := e0.mod.nolimit.keeps fun b o z => (e0.bs b o z).1
    have kinds : ∀ z ∈ ps.zip us, sc.names.lookup z.1 = some .local ∨ (sc.names.lookup z.1 = some .cell ∧ ((cellsFrom (t.heap.objs.size + 1) sc.names []).lookup z.1).isSome = true) := fun z hz =>
      (S.par z.1 (List.of_mem_zip (a := z.1) (b := z.2) hz).1).imp id fun c => ⟨c, PySem.W.cellsFrom_some _ _ _ (.inl c)⟩
    refine codeAny_call_function rm.depth (kin _ _ at_) rfl S.co S.gen rfl (PySem.W.codeRec_of kin cd) (bi _ _ _ _ (wpAny_newFunctionEnv_cells S.kind kinds ?_))
    intro env ee t1 ic
    cases ee
    refine ⟨unl.keeps ic.toInCall.keep, codeAny_func ?_⟩
    obtain ⟨T, d, hT⟩ := body B outs t H vs Q E (rm.deeper _) qt want
    refine wpAny_mono (d.run [] t1 (start N vs) H _ (inv_start S rm.hd e0 (ln _ _ _ _ want) rv ic) hT) (fun fl t2 z => ?_) fun _ _ z => z
    match fl, z with
    | .ret u, ⟨v, _, G, J, ru, q⟩ => exact ⟨v, G, J.os, J.bare, J.base, J.hok, ru, q⟩
    | .next, ⟨_, G, J, q⟩ => exact ⟨V.non, G, J.os, J.bare, J.base, J.hok, rfl, q⟩
    | .brk, ⟨_, _, _, q⟩ => exact q.elim
    | .cont, ⟨_, _, _, q⟩ => exact q.elim
end
section
variable {X : Cx} {k : Nat} {f C : Addr} {fd : FuncData} {ps : List Str} {sp : Sp} {dvs : List V} {ds : List Value} {E : XK}
def Back (X : Cx) (pins : List (Addr × Obj)) (σ : L2.St) (Q : VK) : Result → Shared → Prop
  | .ok (.ret u), t => EP X pins σ Q u t
  | .ok _, _ => False
  | .error e, t => X.xe e t
theorem back_of {pins : List (Addr × Obj)} {σ : L2.St} {H : Hp} {s s' : Shared} {Q : VK} {r : Result} (I : Inv X pins σ H s) (hx : PassesAt (L2.CX X.prog X.w) X σ E) (h : CR (L2.CX X.prog X.w) X.stack X.prog X.w H s Q E r s') :
    Back X pins σ Q r s' := by
  match r, h with
  | .error e, h => exact hx pins H s e s' I h
  | .ok (.ret u), h => exact I.after h
  | .ok .next, h => exact h
  | .ok .brk, h => exact h
  | .ok .cont, h => exact h
theorem run_g {pins : List (Addr × Obj)} {σ : L2.St} {H : Hp} {s : Shared} {Q : VK} {us ws : List Value} {kw : List (Str × Value)} {vs : List V} (F : FnG X.prog X.w X.K X.mg X.base k f fd ps sp) (rm : Room k X.A) (qt : Quiet X.A) (hx : PassesAt (L2.CX X.prog X.w) X σ E)
    (I : Inv X pins σ H s) (b : BindsTo s fd ⟨us, kw⟩ (ps.zip ws)) (r : Vals vs ws) (h : sp vs H Q E) : wpAny (model X.prog X.w) X.A (call (.ref f) us kw) (EP X pins σ Q) X.xe s := by
  refine wpAny_call (codeAny_mono (F.run X.A X.stack s H _ ws vs Q E rm qt I.env0 b r h) fun r t z => ?_)
  have y := back_of I hx z
  clear z
  match r, y with
  | .error _, y => exact y
  | .ok (.ret _), y => exact y
theorem run_gb {pins : List (Addr × Obj)} {σ : L2.St} {H : Hp} {s : Shared} {Q : VK} {us : List Value} {vs : List V} (F : FnG X.prog X.w X.K X.mg X.base k f fd ps sp) (rm : Room k X.A) (qt : Quiet X.A) (hb : Binds X.K fd ps ds) (hd : Vals dvs ds) (hx : PassesAt (L2.CX X.prog X.w) X σ E)
    (I : Inv X pins σ H s) (r : Vals vs us) (h : sp (vs ++ dvs) H Q E) : wpAny (model X.prog X.w) X.A (call (.ref f) us) (EP X pins σ Q) X.xe s := by
  have r2 := r.append hd
  exact run_g F rm qt hx I (hb s us I.kIn (r2.length.symm.trans (F.len _ _ _ _ h))) r2 h
theorem quiet_make {B : Around} (q : Quiet B) (C : Addr) (us : List Value) (kw : List (Str × Value)) : Quiet (B.under (.builtin "type.__call__" ⟨.ref C :: us, kw⟩)) := by
  first | exact q | (simpa [Around.under, Code.guards, Code.isGuard, pushGuards] using q)
theorem run_mkG {pins : List (Addr × Obj)} {σ : L2.St} {H : Hp} {s : Shared} {Q : VK} {us : List Value} {vs : List V} (M : Mk X.K C f) (F : FnG X.prog X.w X.K X.mg X.base k f fd ps sp) (rm : Room (k + 1) X.A) (qt : Quiet X.A) (hb : Binds X.K fd ps []) (hx : PassesAt (L2.CX X.prog X.w) X σ E)
    (I : Inv X pins σ H s) (r : Vals vs us) (h : ∀ p dx, H p = none → H dx = none → dx ≠ p → sp (.ref p :: vs) (upd (upd H dx (.own p)) p (.ins C dx [])) (fun v G => v = .non ∧ Q (.ref p) G) E) :
    wpAny (model X.prog X.w) X.A (call (.ref C) us) (EP X pins σ Q) X.xe s := by
  have J := Inv.made (C := C) I
  have want := h _ _ (I.hok.fresh (Nat.le_succ _)) (I.hok.fresh (Nat.le_refl _)) (Nat.ne_of_lt (Nat.lt_succ_self _))
  have r2 : Vals (V.ref (s.heap.objs.size + 1) :: vs) (Value.ref (s.heap.objs.size + 1) :: us) := .cons rfl r
  have bi := hb { s with heap := (s.heap.push PySem.W.emptyDict).push (PySem.W.instObj C s.heap.objs.size) } (Value.ref (s.heap.objs.size + 1) :: us) J.kIn (by rw [List.append_nil, ← r2.length]; exact F.len _ _ _ _ want)
  rw [List.append_nil] at bi
  refine wpAny_call (make_map (f := f) I.kIn M.makes M.init (beq_iff_eq.mp M.fn) (codeAny_mono (F.run _ X.stack _ _ _ _ _ _ E (rm.make C us []) (quiet_make qt C us []) (J.env0.make C us []) bi r2 want) fun r t z => ?_))
  have y := back_of J hx z
  clear z
  match r, y with
  | .error _, y => exact y
  | .ok (.ret u), y =>
    obtain ⟨v, G, J2, ru, ev, q⟩ := y
    subst ev
    exact ⟨ru, V.ref (s.heap.objs.size + 1), G, J2, rfl, q⟩
end
/-- the head: the law's def is called where no repr is under way -/
theorem law_callG {P : Program} {w : World} {K : PySem.W.Frag} {mg mb : Str → Option Value} {k : Nat} {fa a : Addr} {fd : FuncData} {x : Str} {sp : Sp} {t : Shared} {vs : List Value} {ns : List Int}
    (kin : K.In t.heap) (gN : t.heap.Ns mainGlobals mg) (bN : t.heap.Ns builtinsNs mb) (bB : ∀ x : Str, x ≠ "__name__" → mb x = bootBuiltins x) (nl : t.heap.NoLimit) (gz : t.gens = #[])
    (ob : t.heap.get? a = some { cls := .type "list", data := .seq vs.toArray }) (inz : IntsAre vs ns) (fits : ns.length ≤ sizeLine) (rm : Room k callerA)
    (F : ∀ base : Heap, K.In base → base.Ns mainGlobals mg → FnG P w K mg base k fa fd [x] sp) (bi : ∀ (s : Shared) (u : Value), BindsTo s fd ⟨[u], []⟩ [(x, u)])
    (want : ∀ H : Hp, SqL K H a (ns.map V.int) → sp [.ref a] H (fun v _ => v = .bl true) fun _ _ _ => False) :
    codeAny (model P w) callerA (.call (.ref fa) ⟨[.ref a], []⟩) (fun r s' => r = .ok (.ret (.bool true)) ∧ OldK t.heap s'.heap ∧ s'.os = t.os ∧ AllBare s'.gens) t := by
  have vals := vals_ints inz
  have len := inz.length
  suffices go : ∀ H : Hp, (∀ b u, H b = some u → b = a ∧ K.lookup a = none ∧ u = .frz { cls := .type "list", data := .seq vs.toArray } (.lst (ns.map V.int))) → SqL K H a (ns.map V.int) → HOk P w H t.heap →
      codeAny (model P w) callerA (.call (.ref fa) ⟨[.ref a], []⟩) (fun r s' => r = .ok (.ret (.bool true)) ∧ OldK t.heap s'.heap ∧ s'.os = t.os ∧ AllBare s'.gens) t by
    cases lk : K.lookup a with
    | some o =>
      have z := kin a o lk
      rw [ob] at z
      cases z
      exact go (fun _ => none) (fun b u z => nomatch z) (.inr ⟨_, vs.toArray, _, lk, rfl, rfl, rfl, by rw [List.size_toArray, len]; exact fits, by simpa using vals⟩) fun b u z => nomatch z
    | none =>
      have at_ : ∀ b u, (if b = a then some (HO.frz { cls := .type "list", data := .seq vs.toArray } (.lst (ns.map V.int))) else none) = some u → b = a ∧ u = .frz { cls := .type "list", data := .seq vs.toArray } (.lst (ns.map V.int)) := fun b u z => by
        split at z
        · rename_i e; cases z; exact ⟨e, rfl⟩
        · cases z
      refine go (fun b => if b = a then some (.frz { cls := .type "list", data := .seq vs.toArray } (.lst (ns.map V.int))) else none) (fun b u z => ⟨(at_ b u z).1, lk, (at_ b u z).2⟩) (.inl (.inr ⟨_, if_pos rfl⟩)) fun b u z => ?_
      obtain ⟨rfl, rfl⟩ := at_ b u z
      exact ⟨ob, by rw [List.length_map]; exact fits, vs, _, vals, ob⟩
  intro H only sq hok
  have free : ∀ {b : Addr} {o : Obj}, t.heap.get? b = some o → o.data ≠ .seq vs.toArray → H b = none := fun {b o} z ne => by
    cases e : H b with
    | none => rfl
    | some u => obtain ⟨rfl, _⟩ := only b u e; rw [ob] at z; cases z; exact absurd rfl ne
  have names : ∀ {b : Addr} {m : Str → Option Value}, t.heap.Ns b m → (hidT t.heap H).Ns b m := fun {b m} ⟨o, es, ep, z, d, r⟩ => ⟨o, es, ep, hidT_get z (free z (by rw [d]; exact fun z => nomatch z)), d, r⟩
  have kin2 : K.In (hidT t.heap H) := fun b o z => hidT_get (kin b o z) (by
    cases e : H b with
    | none => rfl
    | some u => obtain ⟨rfl, z2, _⟩ := only b u e; rw [z2] at z; cases z)
  have md : Mod K mg (hidT t.heap H) := ⟨kin2, names gN, ⟨mb, names bN, bB⟩, let ⟨mc, z1, z2⟩ := nl; ⟨mc, names z1, z2⟩⟩
  have e0 : Env0 P w K mg (hidT t.heap H) callerA [] t H := ⟨rfl, md, fun b o z => of_hidT z, Nat.le_of_eq (hidT_size _ _), trivial, fun b z => absurd (show b ∈ ([] : List Addr) from z) (by simp), hok, .of_eq gz⟩
  refine codeAny_mono ((F _ kin2 (names gN)).run callerA [] t H ⟨[.ref a], []⟩ [.ref a] [.ref a] _ _ rm rfl e0 (bi t (.ref a)) (.cons rfl .nil) (want H sq)) fun r s' z => ?_
  match r, z with
  | .error e, z => obtain ⟨_, _, _, _, _, _, _, _, _, _, _, _, z⟩ := z; exact z.elim
  | .ok (.ret u), ⟨v, G, os, bare, un, hok', ru, q⟩ =>
    have q : v = .bl true := q
    subst q
    obtain rfl : u = Value.bool true := ru
    refine ⟨rfl, OldK.of_keep fun b o z => ?_, os, bare⟩
    cases e : H b with
    | none => exact un.keep b o z e (by intro y; exact absurd (show b ∈ ([] : List Addr) from y) (by simp)) (by simp)
    | some u =>
      obtain ⟨rfl, _, rfl⟩ := only b u e
      obtain ⟨z2, _⟩ := hok' _ _ (un.frzs _ _ _ e)
      rw [ob] at z
      cases z
      exact z2
theorem walk_g {l : PySem.W.OpenLaw} {n k : Nat} {q : Program} {loose : List Str} {XP : (Str → Option Value) → Heap → Prop} {YP : World → Heap → Prop} {d : DefRec} {K : Params → PySem.W.Frag} {sp : PySem.W.Frag → Sp} {x : Str}
    (hn : l.most = some n) (hn2 : n ≤ sizeLine) (hdf : d.params.defaults = []) (rm : Room k callerA) (hY : ∀ (w : World) (h : Heap), YP w h → (K w.params).In h)
    (F : ∀ (w : World) (mg : Str → Option Value) (fa : Addr) (h : Heap), (K w.params).In h → h.Ns mainGlobals mg → mg d.name = some (.ref fa) →
      ∃ fd : FuncData, (∀ (s : Shared) (u : Value), BindsTo s fd ⟨[u], []⟩ [(x, u)]) ∧ ∀ base : Heap, (K w.params).In base → base.Ns mainGlobals mg → FnG l.prog w (K w.params) mg base k fa fd [x] (sp (K w.params)))
    (want : ∀ (K : PySem.W.Frag) (H : Hp) (a : Addr) (ns : List Int), ns.length ≤ n → SqL K H a (ns.map V.int) → sp K [.ref a] H (fun v _ => v = .bl true) fun _ _ _ => False) :
    PySem.W.WalkO q loose XP YP l.row.toRowW d [] (fun f vs => PySem.call f vs) := by
  refine Att.attach_call hn hdf fun w s₀ t mg mb fa o pm cd doc a vs ns G Y ho hd hcd hmg ob inz hl gz => ?_
  obtain ⟨fd, bi, hF⟩ := F w mg fa _ (hY w _ Y) G.T.g hmg
  exact law_callG (hY w _ Y) G.T.g G.T.b G.T.builtins G.T.nolimit gz ob inz (Nat.le_trans hl hn2) rm hF bi fun H sq => want _ H a ns hl sq
end U
/-! exceptions that were caught, as values: they are tracked in the abstract heap -/
namespace U
open PySem PySem.Spec PyProof.Rows L2
/-- at a: an exception of the class cls that was caught; d: its dict -/
def exV (cls : Value) (d : Option Addr) (a : Addr) : HO := .ext fun h => ∃ (oe : Obj) (vs : Array Value), h.get? a = some oe ∧ Zc cls d oe ∧ oe.data = .fields vs
theorem exV_ok {P : Program} {w : World} {H : Hp} {h : Heap} {a : Addr} {cls : Value} {d : Option Addr} {oe : Obj} {vs : Array Value} (e : h.get? a = some oe) (z : Zc cls d oe) (q : oe.data = .fields vs) : ObjOk P w H h a (exV cls d a) :=
  ⟨⟨oe, vs, e, z, q⟩, ⟨oe, e⟩, fun _ _ ⟨o, v, i, j⟩ k => ⟨o, v, k o i, j⟩⟩
theorem exV_at {P : Program} {w : World} {H : Hp} {h : Heap} {a : Addr} {cls : Value} {d : Option Addr} (x : HOk P w H h) (e : H a = some (exV cls d a)) : ∃ (oe : Obj) (vs : Array Value), h.get? a = some oe ∧ Zc cls d oe ∧ oe.data = .fields vs := by
  have y : ObjOk P w H h a (.ext fun h => ∃ (oe : Obj) (vs : Array Value), h.get? a = some oe ∧ Zc cls d oe ∧ oe.data = .fields vs) := x a _ e
  exact y.1
/-! ### isinstance -/
section
open PySem.W PySem.Calls
variable {prog : Program} {w : World} {Ar : Around} {Ex : Value → Shared → Prop} {sh : Shared} {K : Frag} {x Dc : Addr} {ob : Obj} {od : Option Obj}
theorem fo_data {name : Str} {g a : Value} (h1 : (clsIn K Dc).isSome = true) (h2 : findIn K (.ref Dc) name = some (some a)) (h3 : specialIn K a "__get__" = some (some g)) (h4 : takesIn K a = some true) : findObj K Dc od name = some (.bind g a) := by
  obtain ⟨cd, h1⟩ := Option.isSome_iff_exists.mp h1
  unfold findObj; rw [h1, Option.bind_some, h2, Option.bind_some]
  simp [h3, h4]
theorem cls_of_exc {Qo : Option Value → Shared → Prop} (C : ExcC K Dc) (ki : K.In sh.heap) (I : InstAt sh.heap x ob Dc od) (fin : Qo (some (.ref Dc)) { sh with toks := sh.toks + 1 }) : wpAny (model prog w) Ar (getAttr? (.ref x) "__class__") Qo Ex sh := by
  have f0 : findObj K Dc od "__class__" = some (.bind (.builtin "getset_descriptor.__get__") (.builtin "object.__class__")) := fo_data (by obtain ⟨c0, e0, _⟩ := any_some C.hd; rw [e0]; rfl) C.ha C.hn C.ht
  obtain ⟨hp, gn, dr, tk, so⟩ := sh
  have T0 := I.type (M := model prog w)
  have T1 := looks_findIn (M := model prog w) ki C.hg
  have T2 := looks_findIn (M := model prog w) ki C.hk
  have T3 := looks_find (M := model prog w) ki I f0
  have su : Looks (model prog w) hp (isInstance (.ref x) (.type "BaseException")) true := T0.andThen (looks_subIn ki C.hs)
  have n0 : (false && onTheHeap (Value.builtin "BaseException.__getattribute__")) = false := rfl
  have n1 : (onTheHeap (Value.ref Dc) && Value.builtin "BaseException.__getattribute__" == Value.builtin "object.__getattribute__") = false := by rw [show (Value.builtin "BaseException.__getattribute__" == Value.builtin "object.__getattribute__") = false by decide +kernel]; rfl
  unfold getAttr? getAttrBy? getAttrBy; refine wpAny_bind (wpAny_mkText (wpAny_bind (wpAny_attempt (wpAny_holding (wpAny_bind (T0.at (wpAny_bind (T1.at ?_))))))))
  show wpAny _ _ (if (onTheHeap (Value.ref Dc) && Value.builtin "BaseException.__getattribute__" == Value.builtin "object.__getattribute__") = true then _ else _) _ _ _
  rw [n1, if_neg Bool.false_ne_true]; unfold getAttrByItsOwn hookBefore
  refine wpAny_bind ?_; rw [if_pos (show onTheHeap (Value.ref Dc) = true from rfl)]
  refine T2.at ?_; refine wpAny_bind (wpAny_attempt (wpAny_holding ?_)); unfold callGetattribute
  rw [n0, if_neg Bool.false_ne_true]; unfold boundAndCalled; rw [PySem.F.excAttr_ValueError.ga.bind (.ref x)]; refine wpAny_bind (wpAny_pure ?_)
  show wpAny _ _ (call (.builtin "BaseException.__getattribute__") [.ref x, .str "__class__" tk]) _ _ _
  refine wpAny_call (codeAny_call_builtin PySem.F.excAttr_ValueError.ga.plain PySem.F.entry_bexc_ga (@check_slot (model prog w) _ _ ⟨hp, gn, dr, tk + 1, so⟩ "BaseException.__getattribute__" "BaseException" "__getattribute__" (.ref x) [.str "__class__" tk] [] _ (by decide +kernel) (by decide +kernel) su (PySem.F.args_bexc_ga (.ref x) (.str "__class__" tk)) ?_))
  unfold Builtin.«object.__getattribute__»; refine wpAny_bind (wpAny_of_eq (a := ((Value.ref x : Value), [Value.str "__class__" tk])) (by first | rfl | (simp only [slotArgs]; rfl)) ?_)
  refine wpAny_bind (wpAny_pure (wpAny_bind (T0.at (wpAny_bind (T3.at ?_)))))
  show wpAny _ _ (holding [Value.builtin "object.__class__"] (call (.builtin "getset_descriptor.__get__") [.builtin "object.__class__", .ref x, .ref Dc]) >>= ret) _ _ _
  refine wpAny_bind (wpAny_holding (wpAny_call (class_get (s := ⟨hp, gn, dr, tk + 1, so⟩) (ox := ob) (od := od) ki I C.hm (wpAny_pure ?_))))
  show wpAny _ _ (handedOut (.ref Dc)) _ _ _
  rw [handedOut_of (v := .ref Dc) rfl]
  first | exact wpAny_pure (wpAny_pure fin) | exact wpAny_pure fin | exact wpAny_pure (wpAny_bind (wpAny_pure (wpAny_pure fin)))
theorem kitx_exc (C : ExcC K Dc) : KitX K (.ref x) (.ref Dc) (fun h => InstAt h x ob Dc od) where
  ty := fun _ _ _ I => I.type
  it := fun _ _ ki _ => by
    obtain ⟨c0, e0, _⟩ := any_some C.hd
    unfold clsIn at e0
    split at e0
    · rename_i c1 d1 c2 s1 lo
      intro A1 Q1 E1 s2 kp fin
      unfold isType loadHead; exact wpAny_bind (wpAny_loadPart (kp _ _ (ki _ _ lo)) (wpAny_pure fin))
    · cases e0
  ne := fun h tp dd its n sl ki at_ => by
    obtain ⟨c0, e0, _⟩ := any_some C.hd
    refine Bool.eq_false_iff.mpr fun z => ?_
    obtain rfl : Dc = tp := Value.ref.inj (beq_iff_eq.mp z)
    unfold clsIn at e0
    split at e0
    · rename_i c1 d1 c2 s1 lo
      have z2 := (ki _ _ lo).symm.trans at_; cases z2
    · cases e0
  ca := fun ki I k => cls_of_exc C ki I k
end
/-- the type of a value, of a caught exception too -/
inductive TyZ (K : PySem.W.Frag) (H : Hp) : V → Value → Prop where
  | x {v : V} {t : Value} (h : TyX K H v t) : TyZ K H v t
  | exc0 {a D : Addr} (h : H a = some (exV (.ref D) none a)) (C : ExcC K D) : TyZ K H (.ref a) (.ref D)
  | exc1 {a D dd : Addr} {fs : List (Str × V)} (h : H a = some (exV (.ref D) (some dd) a)) (hd : H dd = some (.xd fs)) (C : ExcC K D) : TyZ K H (.ref a) (.ref D)
section
variable {X : Cx} {pins : List (Addr × Obj)} {σ : L2.St} {H : Hp} {s : Shared}
theorem inst0 {a D : Addr} (I : Inv X pins σ H s) (h : H a = some (exV (.ref D) none a)) : ∃ oe, PySem.W.InstAt s.heap a oe D none := by
  obtain ⟨oe, vs, e, z, q⟩ := exV_at I.hok h
  exact ⟨oe, e, z.1, by unfold PySem.W.notCls; rw [q] <;> rfl, by rw [z.2]; trivial⟩
theorem inst1 {a D dd : Addr} {fs : List (Str × V)} (I : Inv X pins σ H s) (h : H a = some (exV (.ref D) (some dd) a)) (hd : H dd = some (.xd fs)) : ∃ (oe od : Obj) (mA : Str → Option Value), PySem.W.InstAt s.heap a oe D (some od) ∧ (∀ f, RelO (fs.lookup f) (mA f)) ∧ ∀ n, PySem.W.lookIn n od = some (mA n) := by
  obtain ⟨oe, vs, e, z, q⟩ := exV_at I.hok h
  have hx : ObjOk X.prog X.w H s.heap dd (.xd fs) := I.hok dd _ hd
  obtain ⟨mA, hns, hr⟩ := hx
  obtain ⟨od, ho, hl⟩ := lookIn_ns hns
  exact ⟨oe, od, mA, ⟨e, z.1, by unfold PySem.W.notCls; rw [q] <;> rfl, by rw [z.2]; exact ho⟩, hr, hl⟩
theorem kit_ofZ {x : V} {u t : Value} (I : Inv X pins σ H s) (rx : RelV x u) (ty : TyZ X.K H x t) : ∃ P : Heap → Prop, PySem.W.KitX X.K u t P ∧ P s.heap ∧ u ≠ .builtin "__main__.__loader__#opaque" := by
  cases ty with
  | x h => exact kit_of I rx h
  | exc0 h C =>
    obtain ⟨oe, J⟩ := inst0 I h
    cases rx
    exact ⟨_, kitx_exc C, J, fun z => nomatch z⟩
  | exc1 h hd C =>
    obtain ⟨oe, od, mA, J, _⟩ := inst1 I h hd
    cases rx
    exact ⟨_, kitx_exc C, J, fun z => nomatch z⟩
/-- isinstance(x, c) and isinstance(x, (c, ..)) -/
def Isi (K : PySem.W.Frag) (H : Hp) (x c : V) (b : Bool) : Prop := (∃ (t u : Value), ClsV c u ∧ TyZ K H x t ∧ PySem.W.kitOne K t u = some b) ∨ ∃ (t : Value) (tp : Addr) (cs : List V) (us : List Value), c = .ref tp ∧ SqT K H tp cs ∧ Paired ClsV cs us ∧ TyZ K H x t ∧ PySem.W.kitAny K t us = some b
def cIsi (K : PySem.W.Frag) : List V → Hp → VK → Prop := fun xs H Q => match xs with
  | [x, c] => ∃ b, Isi K H x c b ∧ Q (.bl b) H
  | _ => False
theorem call_cIsi : CallR X (.builtin "isinstance") (cIsi X.K) := by
  intro pins s σ H xs us Q I r h
  match xs, r, h with
  | [x, c], r, h =>
    obtain ⟨b, h, q⟩ := h
    obtain ⟨u1, u2, rfl, r1, r2⟩ := vals2 r
    rcases h with ⟨t, u, k, ty, e⟩ | ⟨t, tp, cs, ws, rfl, hT, k, ty, e⟩
    · obtain rfl := k.eq r2
      obtain ⟨P, Z, p, hx⟩ := kit_ofZ I r1 ty
      exact PySem.W.kia_one Z I.kIn p e hx fun tk => ⟨.bl b, H, I.tok tk, rfl, q⟩
    · cases (show u2 = Value.ref tp from r2)
      obtain ⟨P, Z, p, hx⟩ := kit_ofZ I r1 ty
      have fin : ∀ {o : Obj} {its : Array Value} {n : Nat}, s.heap.get? tp = some o → o.cls = .type "tuple" → o.data = .seq its n → Vals cs its.toList → wpAny (model X.prog X.w) X.A (PySem.call (.builtin "isinstance") [u1, .ref tp]) (EP X pins σ Q) X.xe s := by
        intro o its n g1 g2 g3 rv
        have e3 := ClsV.all k rv
        obtain ⟨oc, od, dt, sl⟩ := o
        simp only at g2 g3
        subst g2 g3
        have e4 : its = ws.toArray := by rw [← e3]
        subst e4
        exact PySem.W.kia_tup Z I.kIn p g1 e hx fun tk => ⟨.bl b, H, I.tok tk, rfl, q⟩
      rcases hT with r | ⟨o, its, n, g1, g2, g3, _, rv⟩
      · obtain ⟨_, its, rv, o, g1, g2, n, g3⟩ := r.ok I.hok
        exact fin g1 g2 g3 rv
      · exact fin (I.kIn _ _ g1) g2 g3 rv
end
end U
/-! rules by the construct alone: what is asked is found by the values -/
namespace U
open PySem PySem.Spec PyProof.Rows L2 ClX

/-! ### defs, classes, methods as they may be called; what they may raise goes to E -/
structure Fn (P : Program) (w : World) (K : PySem.W.Frag) (mg : Str → Option Value) (base : Heap) (k : Nat) (x : Str) (sp : Sp) : Prop where
  ex : ∃ (f : Addr) (fd : FuncData) (ps : List Str) (ds : List Value) (dvs : List V) (sp' : Sp), FnG P w K mg base k f fd ps sp' ∧ mg x = some (.ref f) ∧ PySem.W.keepIn K (.ref f) = true ∧ Binds K fd ps ds ∧ Vals dvs ds ∧ ∀ vs H Q E, sp vs H Q E → sp' (vs ++ dvs) H Q E
structure Mkr (P : Program) (w : World) (K : PySem.W.Frag) (mg : Str → Option Value) (base : Heap) (k : Nat) (x : Str) (C : Addr) (sp : Sp) : Prop where
  ex : ∃ (f : Addr) (fd : FuncData) (ps : List Str), Mk K C f ∧ FnG P w K mg base k f fd ps sp ∧ mg x = some (.ref C) ∧ Binds K fd ps []
structure Mth (P : Program) (w : World) (K : PySem.W.Frag) (mg : Str → Option Value) (base : Heap) (k : Nat) (C : Addr) (m : Str) (sp : Sp) : Prop where
  ex : ∃ (f : Addr) (fd : FuncData) (ps : List Str), Cls K C ∧ Meth K C m f ∧ FnG P w K mg base k f fd ps sp ∧ Binds K fd ps []

/-- where a call stands: the level at hand and what becomes of an exception (E); in a comprehension's block E is E0 -/
abbrev XS := L2.St → XK
abbrev E0s : XS := fun _ => E0
structure At (X : Cx) (j : Nat) (E : XS) : Prop where
  hr : Room j X.A
  hx : ∀ σ, PassesAt (L2.CX X.prog X.w) X σ (E σ)
  qt : Quiet X.A
theorem At.e0 {X : Cx} {j : Nat} (hr : Room j X.A) (qt : Quiet X.A) : At X j E0s := ⟨hr, fun σ pins H s e s' I c => passL pins σ H s e s' I c, qt⟩
theorem At.of {X : Cx} {j : Nat} {E : XK} (hr : Room j X.A) (qt : Quiet X.A) (tk : Takes X (fun cls d _ H => E cls d H)) : At X j (fun _ => E) := ⟨hr, fun σ pins H s e s' I c => passes_call tk (fun _ _ _ _ h => h) pins σ H s e s' I c, qt⟩
theorem At.ofW {X : Cx} {j : Nat} {W : WX} (hr : Room j X.A) (qt : Quiet X.A) (tk : Takes X W) : At X j (WE W) := ⟨hr, fun σ => passAt tk σ, qt⟩

def tFn (P : Program) (w : World) (K : PySem.W.Frag) (mg : Str → Option Value) (base : Heap) (x : Str) (j : Nat) (E : XS) (t : TA) : TE := fun σ H Q => ∃ k sp, Fn P w K mg base k x sp ∧ k ≤ j ∧ t σ H fun vs H1 => sp vs H1 Q (E σ)
def tMkr (P : Program) (w : World) (K : PySem.W.Frag) (mg : Str → Option Value) (base : Heap) (x : Str) (j : Nat) (E : XS) (t : TA) : TE := fun σ H Q => ∃ k C sp, Mkr P w K mg base k x C sp ∧ k + 1 ≤ j ∧ t σ H fun vs H1 =>
  ∀ p dx, H1 p = none → H1 dx = none → dx ≠ p → sp (.ref p :: vs) (upd (upd H1 dx (.own p)) p (.ins C dx [])) (fun v H' => v = .non ∧ Q (.ref p) H') (E σ)
def tMth (P : Program) (w : World) (K : PySem.W.Frag) (mg : Str → Option Value) (base : Heap) (m : Str) (j : Nat) (E : XS) (ta : TE) (t : TA) : TE := fun σ H Q => ta σ H fun x H1 => ∃ a C dx fs k sp, x = .ref a ∧ H1 a = some (.ins C dx fs) ∧ Mth P w K mg base k C m sp ∧ k ≤ j ∧ fs.lookup m = none ∧
  t σ H1 fun vs H2 => sp (.ref a :: vs) H2 Q (E σ)

section
variable {X : Cx} {j : Nat} {E : XS} {x m : Str} {e o : Expr} {es : List Expr} {t : TA} {ta tb te : TE} {p pos apos : Pos}
theorem pe_fn (a : At X j E) (hg : Gl X x) (ha : PA X (e :: es) t)
    (hdb : (x == ("__debug__" : Str)) = false := by decide) (he : starEach (e :: es) X.env = (false, eval e X.env) :: starEach es X.env := by rfl) (hpl : (backTo pos (starEach es X.env)).any (·.1) = false := by rfl) :
    PE X (.Call (.Name x p) (e :: es) [] pos) (tFn X.prog X.w X.K X.mg X.base x j E t) := by
  refine ⟨fun pins s σ H Q I h => ?_⟩
  obtain ⟨k, sp, F, hk, h⟩ := h
  obtain ⟨f, fd, ps, ds, dvs, sp', F, hm, kp, b, rd, im⟩ := F.ex
  refine wpAny_Call_Name_kw (ld_glob I hg hm (PySem.W.callWith_K (h₀ := X.base) I.ok.mod.kin kp (thn (ha.run pos pins s σ H _ I h) fun us s1 ⟨vs, H1, I1, r, q⟩ => ⟨I1.kIn, ?_⟩) he hpl) hdb)
  exact run_gb F (a.hr.mono hk) a.qt b rd (a.hx σ) I1 r (im _ _ _ _ q)
theorem pe_fn0 (a : At X j E) (hg : Gl X x) (hdb : (x == ("__debug__" : Str)) = false := by decide) : PE X (.Call (.Name x p) [] [] pos) (tFn X.prog X.w X.K X.mg X.base x j E tNil) := by
  refine ⟨fun pins s σ H Q I h => ?_⟩
  obtain ⟨k, sp, F, hk, h⟩ := h
  obtain ⟨f, fd, ps, ds, dvs, sp', F, hm, kp, b, rd, im⟩ := F.ex
  exact wpAny_Call_Name_kw (ld_glob I hg hm (PySem.W.callWith_K0 I.kIn kp (run_gb (us := []) F (a.hr.mono hk) a.qt b rd (a.hx σ) I .nil (im _ _ _ _ h))) hdb)
theorem pe_mkr (a : At X j E) (hg : Gl X x) (ha : PA X (e :: es) t)
    (hdb : (x == ("__debug__" : Str)) = false := by decide) (he : starEach (e :: es) X.env = (false, eval e X.env) :: starEach es X.env := by rfl) (hpl : (backTo pos (starEach es X.env)).any (·.1) = false := by rfl) :
    PE X (.Call (.Name x p) (e :: es) [] pos) (tMkr X.prog X.w X.K X.mg X.base x j E t) := by
  refine ⟨fun pins s σ H Q I h => ?_⟩
  obtain ⟨k, C, sp, F, hk, h⟩ := h
  obtain ⟨f, fd, ps, M, F, hm, b⟩ := F.ex
  refine wpAny_Call_Name_kw (ld_glob I hg hm (PySem.W.callWith_K (h₀ := X.base) I.ok.mod.kin M.kp (thn (ha.run pos pins s σ H _ I h) fun us s1 ⟨vs, H1, I1, r, q⟩ => ⟨I1.kIn, ?_⟩) he hpl) hdb)
  exact run_mkG M F (a.hr.mono hk) a.qt b (a.hx σ) I1 r q
theorem pe_mkr0 (a : At X j E) (hg : Gl X x) (hdb : (x == ("__debug__" : Str)) = false := by decide) : PE X (.Call (.Name x p) [] [] pos) (tMkr X.prog X.w X.K X.mg X.base x j E tNil) := by
  refine ⟨fun pins s σ H Q I h => ?_⟩
  obtain ⟨k, C, sp, F, hk, h⟩ := h
  obtain ⟨f, fd, ps, M, F, hm, b⟩ := F.ex
  exact wpAny_Call_Name_kw (ld_glob I hg hm (PySem.W.callWith_K0 I.kIn M.kp (run_mkG (us := []) M F (a.hr.mono hk) a.qt b (a.hx σ) I .nil h)) hdb)
theorem pe_mth {pl : Sem Bool} (a : At X j E) (ho : PE X o ta) (ha : PA X (e :: es) t)
    (hst : starEach (e :: es) X.env = (false, eval e X.env) :: starEach es X.env := by rfl) (hpl : (backTo pos (starEach es X.env)).any (·.1) = false := by rfl)
    (ht : eval (.Call (.Attribute o m apos) (e :: es) [] pos) X.env = (do
      let ov ← eval o X.env
      standAt apos.atName
      let (f, first) ← holding [ov] (getMethod ov m pl)
      callWith pos f first (backTo pos (starEach (e :: es) X.env)) (backToKw pos (keywordEach [] X.env))) := by rfl) :
    PE X (.Call (.Attribute o m apos) (e :: es) [] pos) (tMth X.prog X.w X.K X.mg X.base m j E ta t) := by
  refine ⟨fun pins s σ H Q I h => PySem.W.methodCall_KW (pl := pl) (thn (ho.run pins s σ H _ I h) fun u s1 ⟨x, H1, I1, rx, y, C, dx, fs, k, sp, ex, ea, M, hk, l, q⟩ => ?_) ht⟩
  subst ex
  obtain rfl : u = Value.ref y := rx
  obtain ⟨f, fd, ps, c, hm, F, b⟩ := M.ex
  refine getmeth_ok I1 ea c hm l (PySem.W.callWith_K (first := [.ref y]) (h₀ := X.base) I.ok.mod.kin hm.kp (thn (ha.run pos pins s1 σ H1 _ I1 q) fun us s2 ⟨vs, H2, I2, r, q2⟩ => ⟨I2.kIn, ?_⟩) hst hpl)
  exact run_gb (us := .ref y :: us) (vs := .ref y :: vs) F (a.hr.mono hk) a.qt b .nil (a.hx σ) I2 (.cons rfl r) (by rw [List.append_nil]; exact q2)
theorem pe_mth0 {pl : Sem Bool} (a : At X j E) (ho : PE X o ta)
    (ht : eval (.Call (.Attribute o m apos) [] [] pos) X.env = (do
      let ov ← eval o X.env
      standAt apos.atName
      let (f, first) ← holding [ov] (getMethod ov m pl)
      callWith pos f first (backTo pos (starEach [] X.env)) (backToKw pos (keywordEach [] X.env))) := by rfl) :
    PE X (.Call (.Attribute o m apos) [] [] pos) (tMth X.prog X.w X.K X.mg X.base m j E ta tNil) := by
  refine ⟨fun pins s σ H Q I h => PySem.W.methodCall_KW (pl := pl) (thn (ho.run pins s σ H _ I h) fun u s1 ⟨x, H1, I1, rx, y, C, dx, fs, k, sp, ex, ea, M, hk, l, q⟩ => ?_) ht⟩
  subst ex
  obtain rfl : u = Value.ref y := rx
  obtain ⟨f, fd, ps, c, hm, F, b⟩ := M.ex
  exact getmeth_ok I1 ea c hm l (PySem.W.callWith_K0 (first := [.ref y]) I1.kIn hm.kp (run_gb (us := [.ref y]) (vs := [.ref y]) F (a.hr.mono hk) a.qt b .nil (a.hx σ) I1 (.cons rfl .nil) q))

/-! ### attributes -/
/-- reading the attribute f of what stands at a gives v -/
inductive Att (P : Program) (w : World) (K : PySem.W.Frag) (mg : Str → Option Value) (base : Heap) (H : Hp) (a : Addr) (f : Str) (v : V) : Prop where
  | fld {C dx : Addr} {fs : List (Str × V)} (h : H a = some (.ins C dx fs)) (c : Cls K C) (n : NoAttr K C f) (l : fs.lookup f = some v)
  | con {C dx : Addr} {fs : List (Str × V)} {u : Value} (h : H a = some (.ins C dx fs)) (c : Cls K C) (k : Con K C f v u) (l : fs.lookup f = none)
  | prop {C dx p g : Addr} {fs : List (Str × V)} {f' : Str} {fd : FuncData} (h : H a = some (.ins C dx fs)) (c : Cls K C) (pr : PropOf K C f p g) (F : FnOk P w K mg base (L2.CX P w) 1 g fd ["self"] (getSp C f')) (b : Binds K fd ["self"] []) (l : fs.lookup f' = some v)
  | cls {mc u : Value} (r : CRead K a mc) (k : CVal K a mc f v u)
  | exc {C dd : Addr} {fs : List (Str × V)} (h : H a = some (exV (.ref C) (some dd) a)) (hd : H dd = some (.xd fs)) (x : XfC K C) (n : PySem.W.findIn K (.ref C) f = some none) (l : fs.lookup f = some v)
def tAtt (P : Program) (w : World) (K : PySem.W.Frag) (mg : Str → Option Value) (base : Heap) (f : Str) (ta : TE) : TE := fun σ H Q => ta σ H fun x H1 => ∃ a v, x = .ref a ∧ Att P w K mg base H1 a f v ∧ Q v H1
theorem pe_att {f : Str} (hr : Room j X.A) (he : PE X e ta) (hj : 2 ≤ j := by decide) (hab : attributeBase e f X.env (eval e X.env) = eval e X.env := by rfl) : PE X (.Attribute e f pos) (tAtt X.prog X.w X.K X.mg X.base f ta) := by
  refine ⟨fun pins s σ H Q I h => attr_of hab (thn (he.run pins s σ H _ I h) fun u s1 ⟨x, H1, I1, rx, a, v, ex, at_, q⟩ => ?_)⟩
  subst ex
  obtain rfl : u = Value.ref a := rx
  cases at_ with
  | fld h c n l => exact getattr_ok I1 h c n l fun u' s2 I2 ru => ⟨v, H1, I2, ru, q⟩
  | con h c k l => exact getcon_ok I1 h c k l fun s2 I2 => ⟨v, H1, I2, k.rel, q⟩
  | prop h c pr F b l => exact getprop_ok (E := E0) (dvs := []) I1 h c pr F (hr.mono hj) b .nil passL ⟨a, _, _, v, rfl, h, l, q⟩
  | cls r k => exact getcval_ok I1 r k fun s2 I2 => ⟨v, H1, I2, k.rel, q⟩
  | exc h hd x n l =>
    obtain ⟨oe, od, mA, J, hr', hl⟩ := inst1 I1 h hd
    obtain ⟨u', hu, ru⟩ := RelO.some_of (v := v) (o := mA f) (by rw [← l]; exact hr' f)
    exact HandSPX.exc_get I1.kIn J x.ga x.gg x.exC (PySem.W.findObj_own x.hdC n rfl (by rw [hl, hu])) (handed_of ru) ⟨v, H1, I1.tok _, ru, q⟩

/-- the attribute of a caught exception -/
def tAttE (K : PySem.W.Frag) (f : Str) (ta : TE) : TE := fun σ H Q => ta σ H fun x H1 => ∃ (a C dd : Addr) (fs : List (Str × V)) (v : V), x = .ref a ∧ H1 a = some (exV (.ref C) (some dd) a) ∧ H1 dd = some (.xd fs) ∧ XfC K C ∧ PySem.W.findIn K (.ref C) f = some none ∧ fs.lookup f = some v ∧ Q v H1
theorem pe_attE {f : Str} (he : PE X e ta) (hab : attributeBase e f X.env (eval e X.env) = eval e X.env := by rfl) : PE X (.Attribute e f pos) (tAttE X.K f ta) := by
  refine ⟨fun pins s σ H Q I h => attr_of hab (thn (he.run pins s σ H _ I h) fun u s1 ⟨x, H1, I1, rx, a, C, dd, fs, v, ex, h, hd, xc, n, l, q⟩ => ?_)⟩
  subst ex
  obtain rfl : u = Value.ref a := rx
  obtain ⟨oe, od, mA, J, hr', hl⟩ := inst1 I1 h hd
  obtain ⟨u', hu, ru⟩ := RelO.some_of (v := v) (o := mA f) (by rw [← l]; exact hr' f)
  exact HandSPX.exc_get I1.kIn J xc.ga xc.gg xc.exC (PySem.W.findObj_own xc.hdC n rfl (by rw [hl, hu])) (handed_of ru) ⟨v, H1, I1.tok _, ru, q⟩

/-! ### operators by the values -/
def uAdd : R2 := fun x y H Q => match x, y with
  | .int i, .int j => Q (.int (i + j)) H
  | .str a, .str b => a.length + b.length ≤ sizeLine ∧ Q (.str (a ++ b)) H
  | .ref l, .ref b => ∃ xs zs, H l = some (.lst xs) ∧ H b = some (.lst zs) ∧ xs.length + zs.length ≤ sizeLine ∧ ∀ p, H p = none → Q (.ref p) (upd H p (.lst (xs ++ zs)))
  | _, _ => False
theorem op_uAdd : OpR X (binaryOp .Add) uAdd := by
  intro pins s σ H x y v u Q I rx ry h
  match x, y, h with
  | .int i, .int j, h => exact op_add pins s σ H _ _ v u Q I rx ry ⟨i, j, rfl, rfl, h⟩
  | .str a, .str b, h => exact op_add_str pins s σ H _ _ v u Q I rx ry ⟨a, b, rfl, rfl, h⟩
  | .ref l, .ref b, h =>
    obtain ⟨xs, zs, h⟩ := h
    exact op_cat pins s σ H _ _ v u Q I rx ry ⟨l, b, xs, zs, rfl, rfl, h⟩
def uSub : R2 := fun x y H Q => match x, y with
  | .int i, .int j => Q (.int (i - j)) H
  | _, _ => False
theorem op_uSub : OpR X (binaryOp .Sub) uSub := by
  intro pins s σ H x y v u Q I rx ry h
  match x, y, h with
  | .int i, .int j, h => exact op_sub pins s σ H _ _ v u Q I rx ry ⟨i, j, rfl, rfl, h⟩
def uMul : R2 := fun x y H Q => match x, y with
  | .int i, .int j => CMul i j ∧ Q (.int (i * j)) H
  | .ref l, .int k => ∃ xs, H l = some (.lst xs) ∧ -(2 ^ 63) ≤ k ∧ k < 2 ^ 63 ∧ xs.length * k.toNat ≤ sizeLine ∧ ∀ p, H p = none → Q (.ref p) (upd H p (.lst (List.replicate k.toNat xs).flatten))
  | _, _ => False
theorem op_uMul : OpR X (binaryOp .Mult) uMul := by
  intro pins s σ H x y v u Q I rx ry h
  match x, y, h with
  | .int i, .int j, h => exact op_mul pins s σ H _ _ v u Q I rx ry ⟨i, j, rfl, rfl, h⟩
  | .ref l, .int k, h =>
    obtain ⟨xs, h⟩ := h
    exact op_rep pins s σ H _ _ v u Q I rx ry ⟨l, k, xs, rfl, rfl, h⟩
def uDiv : R2 := fun x y H Q => match x, y with
  | .int i, .int j => (0 < j ∧ j.natAbs.log2 < 9000) ∧ Q (.int (i / j)) H
  | _, _ => False
theorem op_uDiv : OpR X (binaryOp .FloorDiv) uDiv := by
  intro pins s σ H x y v u Q I rx ry h
  match x, y, h with
  | .int i, .int j, h => exact op_fdivW pins s σ H _ _ v u Q I rx ry ⟨i, j, rfl, rfl, h⟩
def uMod : R2 := fun x y H Q => match x, y with
  | .int i, .int j => 0 < j ∧ Q (.int (i % j)) H
  | _, _ => False
theorem op_uMod : OpR X (binaryOp .Mod) uMod := by
  intro pins s σ H x y v u Q I rx ry h
  match x, y, h with
  | .int i, .int j, h => exact op_mod pins s σ H _ _ v u Q I rx ry ⟨i, j, rfl, rfl, h⟩
def uPow : R2 := fun x y H Q => match x, y with
  | .int i, .int j => (0 ≤ j ∧ (Builtin.Int.intBits i : Int) * j ≤ 2 ^ 27) ∧ Q (.int (i ^ j.toNat)) H
  | _, _ => False
theorem op_uPow : OpR X (binaryOp .Pow) uPow := by
  intro pins s σ H x y v u Q I rx ry h
  match x, y, h with
  | .int i, .int j, h =>
    exact opI (C := fun i j => 0 ≤ j ∧ (Builtin.Int.intBits i : Int) * j ≤ 2 ^ 27) (g := fun i j => i ^ j.toNat) (fun _ _ _ _ _ _ _ hc q => pow_int hc.1 hc.2 q) pins s σ H _ _ v u Q I rx ry ⟨i, j, rfl, rfl, h⟩
def uCmp (g : Int → Int → Bool) (gs : List Nat → List Nat → Bool) : R2 := fun x y H Q => match x, y with
  | .int i, .int j => Q (.bl (g i j)) H
  | .str a, .str b => Q (.bl (gs a.cps.toList b.cps.toList)) H
  | _, _ => False
def uLt : R2 := uCmp (fun i j => decide (i < j)) (fun a b => decide (a < b))
def uLe : R2 := uCmp (fun i j => decide (i ≤ j)) (fun a b => !decide (b < a))
def uGt : R2 := uCmp (fun i j => decide (j < i)) (fun a b => decide (b < a))
def uGe : R2 := uCmp (fun i j => decide (j ≤ i)) (fun a b => !decide (a < b))
theorem op_uLt : OpR X (compareOp .Lt) uLt := by
  intro pins s σ H x y v u Q I rx ry h
  match x, y, h with
  | .int i, .int j, h => exact op_lt pins s σ H _ _ v u Q I rx ry ⟨i, j, rfl, rfl, h⟩
  | .str i, .str j, h => exact op_lt_str pins s σ H _ _ v u Q I rx ry ⟨i, j, rfl, rfl, h⟩
theorem op_uLe : OpR X (compareOp .LtE) uLe := by
  intro pins s σ H x y v u Q I rx ry h
  match x, y, h with
  | .int i, .int j, h => exact op_le pins s σ H _ _ v u Q I rx ry ⟨i, j, rfl, rfl, h⟩
  | .str i, .str j, h => exact op_le_str pins s σ H _ _ v u Q I rx ry ⟨i, j, rfl, rfl, h⟩
theorem op_uGt : OpR X (compareOp .Gt) uGt := by
  intro pins s σ H x y v u Q I rx ry h
  match x, y, h with
  | .int i, .int j, h => exact op_gt pins s σ H _ _ v u Q I rx ry ⟨i, j, rfl, rfl, h⟩
  | .str i, .str j, h => exact op_gt_str pins s σ H _ _ v u Q I rx ry ⟨i, j, rfl, rfl, h⟩
theorem op_uGe : OpR X (compareOp .GtE) uGe := by
  intro pins s σ H x y v u Q I rx ry h
  match x, y, h with
  | .int i, .int j, h => exact op_ge pins s σ H _ _ v u Q I rx ry ⟨i, j, rfl, rfl, h⟩
  | .str i, .str j, h => exact op_ge_str pins s σ H _ _ v u Q I rx ry ⟨i, j, rfl, rfl, h⟩
/-- x == y: scalars; else data of any depth, or two lists of unlike lengths -/
def uEqB (K : PySem.W.Frag) (neg : Bool) : R2 := fun x y H Q =>
  (∃ d e, Dp K H x d ∧ Dp K H y e ∧ SeqAt.shaped d = true ∧ SeqAt.shaped e = true ∧ Q (.bl (if neg = true then !PyData.eqv d e else PyData.eqv d e)) H) ∨
  (∃ p q xs ys, x = .ref p ∧ y = .ref q ∧ SqL K H p xs ∧ SqL K H q ys ∧ xs.length ≠ ys.length ∧ Q (.bl neg) H)
def uEq (K : PySem.W.Frag) : R2 := fun x y H Q => if scal x y = true then Q (.bl (decide (x = y))) H else uEqB K false x y H Q
def uNe (K : PySem.W.Frag) : R2 := fun x y H Q => if scal x y = true then Q (.bl (!decide (x = y))) H else uEqB K true x y H Q
theorem len_ne {p q : Addr} {xs ys : List V} {pins : List (Addr × Obj)} {s : Shared} {σ : L2.St} {H : Hp} (I : Inv X pins σ H s) (h1 : SqL X.K H p xs) (h2 : SqL X.K H q ys) (hn : xs.length ≠ ys.length) :
    ∃ its its2 : Array Value, s.heap.IsList p its ∧ s.heap.IsList q its2 ∧ (its.size != its2.size) = true := by
  obtain ⟨its, r, pl, _⟩ := I.list h1
  obtain ⟨its2, r2, pl2, _⟩ := I.list h2
  refine ⟨_, _, pl.isList, pl2.isList, ?_⟩
  have e1 := r.length
  have e2 := r2.length
  simp only [List.size_toArray, bne_iff_ne, ne_eq]
  omega
theorem op_uEq (hr : Room j X.A) : OpR X (compareOp .Eq) (uEq X.K) := by
  intro pins s σ H x y v u Q I rx ry h
  unfold uEq at h
  split at h
  · rename_i c; exact op_eq pins s σ H _ _ v u Q I rx ry ⟨c, h⟩
  · rcases h with h | ⟨p, q, xs, ys, rfl, rfl, h1, h2, hn, h⟩
    · exact op_eqD hr.units pins s σ H _ _ v u Q I rx ry h
    · cases rx
      cases ry
      obtain ⟨its, its2, l1, l2, ne⟩ := len_ne I h1 h2 hn
      exact SeqAt.RcAt.lists_lengths l1 l2 ne hr.units0 X.prog X.w _ _ ⟨.bl false, H, I, rfl, h⟩
theorem op_uNe (hr : Room j X.A) : OpR X (compareOp .NotEq) (uNe X.K) := by
  intro pins s σ H x y v u Q I rx ry h
  unfold uNe at h
  split at h
  · rename_i c; exact op_ne pins s σ H _ _ v u Q I rx ry ⟨c, h⟩
  · rcases h with h | ⟨p, q, xs, ys, rfl, rfl, h1, h2, hn, h⟩
    · exact op_neD hr.units pins s σ H _ _ v u Q I rx ry h
    · cases rx
      cases ry
      obtain ⟨its, its2, l1, l2, ne⟩ := len_ne I h1 h2 hn
      exact SeqAt.RcNeAt.lists_lengths l1 l2 ne hr.units0 X.prog X.w _ _ ⟨.bl true, H, I, rfl, h⟩
/-- in, not in: a sign in a text, a flat value in a list or tuple -/
def uIn (K : PySem.W.Frag) (neg : Bool) : R2 := fun x y H Q => match y with
  | .str z => ∃ c : Nat, x = .str ⟨#[c]⟩ ∧ Q (.bl (if neg = true then !decide (c ∈ z.cps.toList) else decide (c ∈ z.cps.toList))) H
  | .ref p => (∃ xs, (SqL K H p xs ∨ SqT K H p xs) ∧ flatV x = true ∧ xs.all flatV = true ∧ Q (.bl (if neg = true then !inV x xs else inV x xs)) H) ∨
    (∃ d ds, Dp K H x d ∧ Dp K H (.ref p) (.list ds) ∧ SeqAt.shaped d = true ∧ SeqAt.shaped (.list ds) = true ∧ Q (.bl (if neg = true then !ds.any fun z => PyData.eqv z d else ds.any fun z => PyData.eqv z d)) H) ∨
    ∃ o, DGet H p x o ∧ Q (.bl (if neg = true then !o.isSome else o.isSome)) H
  | _ => False
theorem units65 (hr : Room j X.A) : X.A.units + 65 < cLine := by
  have := hr.un
  omega
theorem op_uIn (hr : Room j X.A) : OpR X (compareOp .In) (uIn X.K false) := by
  intro pins s σ H x y v u Q I rx ry h
  match y, h with
  | .str z, h => obtain ⟨c, e, h⟩ := h; exact op_in_sign pins s σ H _ _ v u Q I rx ry ⟨c, z, e, rfl, h⟩
  | .ref p, .inl h => obtain ⟨xs, h1, h2, h3, h⟩ := h; exact op_in_seq pins s σ H _ _ v u Q I rx ry ⟨p, xs, rfl, h1, h2, h3, h⟩
  | .ref p, .inr (.inl h) => exact op_inD (units65 hr) pins s σ H _ _ v u Q I rx ry h
  | .ref p, .inr (.inr h) =>
    obtain ⟨o, g, q⟩ := h
    obtain rfl : u = Value.ref p := ry
    exact d_in (hu_of hr) I g rx fun s3 I3 => ⟨.bl o.isSome, H, I3, rfl, q⟩
theorem op_uNotIn (hr : Room j X.A) : OpR X (compareOp .NotIn) (uIn X.K true) := by
  intro pins s σ H x y v u Q I rx ry h
  match y, h with
  | .str z, h => obtain ⟨c, e, h⟩ := h; exact op_notIn_sign pins s σ H _ _ v u Q I rx ry ⟨c, z, e, rfl, h⟩
  | .ref p, .inl h => obtain ⟨xs, h1, h2, h3, h⟩ := h; exact op_notIn_seq pins s σ H _ _ v u Q I rx ry ⟨p, xs, rfl, h1, h2, h3, h⟩
  | .ref p, .inr (.inl h) => exact op_notInD (units65 hr) pins s σ H _ _ v u Q I rx ry h
  | .ref p, .inr (.inr h) =>
    obtain ⟨o, g, q⟩ := h
    obtain rfl : u = Value.ref p := ry
    exact d_notIn (hu_of hr) I g rx fun s3 I3 => ⟨.bl (!o.isSome), H, I3, rfl, q⟩
/-- x is None -/
def uIs : R2 := fun x y H Q => y = .non ∧ Q (.bl (decide (x = .non))) H
def uIsNot : R2 := fun x y H Q => y = .non ∧ Q (.bl (!decide (x = .non))) H
theorem op_uIs : OpR X (compareOp .Is) uIs := op_isN
theorem op_uIsNot : OpR X (compareOp .IsNot) uIsNot := op_notN
/-- x[i] -/
def uIx (K : PySem.W.Frag) : R2 := fun x y H Q => match x, y with
  | .ref p, .int i => ∃ xs v, (SqL K H p xs ∨ SqT K H p xs) ∧ atI xs i = some v ∧ Q v H
  | .str z, .int i => ∃ c, z.length ≤ sizeLine ∧ atI z.cps.toList i = some c ∧ Q (.str ⟨#[c]⟩) H
  | _, _ => False
theorem ix_u : IxR X (uIx X.K) := by
  intro value slice pins s σ H x y v u Q I rx ry h hs
  match x, y, h with
  | .ref p, .int i, h =>
    obtain ⟨xs, v, h1, h2, h⟩ := h
    exact ix_seq value slice pins s σ H _ _ _ u Q I rx ry (h1.elim (fun z => .inl ⟨p, xs, i, v, rfl, rfl, z, h2, h⟩) fun z => .inr (.inl ⟨p, xs, i, v, rfl, rfl, z, h2, h⟩)) hs
  | .str z, .int i, h =>
    obtain ⟨c, h1, h2, h⟩ := h
    exact ix_seq value slice pins s σ H _ _ _ u Q I rx ry (.inr (.inr ⟨z, i, c, rfl, rfl, h1, h2, h⟩)) hs
/-- -x -/
def uNeg : V → Hp → VK → Prop := fun x H Q => match x with
  | .int i => Q (.int (-i)) H
  | _ => False
theorem un_uNeg : UnR X (unaryOp .USub) uNeg := by
  intro pins s σ H x v Q I rx h
  match x, h with
  | .int i, h => exact un_neg pins s σ H _ v Q I rx ⟨i, rfl, h⟩

/-! ### calls of builtins by the values -/
def cLen (K : PySem.W.Frag) : List V → Hp → VK → Prop := fun xs H Q => match xs with
  | [.ref p] => ∃ ys, (SqL K H p ys ∨ SqT K H p ys) ∧ Q (.int ys.length) H
  | [.str z] => z.length ≤ sizeLine ∧ Q (.int z.length) H
  | _ => False
theorem call_cLen : CallR X (.builtin "len") (cLen X.K) := by
  intro pins s σ H xs us Q I r h
  match xs, h with
  | [.ref p], h => obtain ⟨ys, h⟩ := h; exact call_len_seq pins s σ H _ us Q I r ⟨p, ys, rfl, h⟩
  | [.str z], h => exact call_len_str pins s σ H _ us Q I r ⟨z, rfl, h⟩
def cAbs : List V → Hp → VK → Prop := fun xs H Q => match xs with
  | [.int i] => Q (.int (if i < 0 then -i else i)) H
  | _ => False
theorem call_cAbs : CallR X (.builtin "abs") cAbs := by
  intro pins s σ H xs us Q I r h
  match xs, h with
  | [.int i], h => exact call_abs pins s σ H _ us Q I r ⟨i, rfl, h⟩
def cMax (K : PySem.W.Frag) : List V → Hp → VK → Prop := fun xs H Q => match xs with
  | [.int i, .int j] => Q (.int (if j > i then j else i)) H
  | [.ref p] => ∃ ns : List Int, SqL K H p (ns.map V.int) ∧ 0 < ns.length ∧ ∀ m, m ∈ ns → (∀ y ∈ ns, y ≤ m) → Q (.int m) H
  | _ => False
theorem call_cMax (hc : X.calm = true) : CallR X (.builtin "max") (cMax X.K) := by
  intro pins s σ H xs us Q I r h
  match xs, h with
  | [.int i, .int j], h => exact call_max2 hc pins s σ H _ us Q I r ⟨i, j, rfl, h⟩
  | [.ref p], h => obtain ⟨ns, h1, h2, h⟩ := h; exact cr_max hc pins s σ H _ us Q I r ⟨p, ns, rfl, h1, h2, h⟩
def cMin (K : PySem.W.Frag) : List V → Hp → VK → Prop := fun xs H Q => match xs with
  | [.int i, .int j] => Q (.int (if j < i then j else i)) H
  | _ => False
theorem call_cMin (hc : X.calm = true) : CallR X (.builtin "min") (cMin X.K) := by
  intro pins s σ H xs us Q I r h
  match xs, h with
  | [.int i, .int j], h => exact call_min2 hc pins s σ H _ us Q I r ⟨i, j, rfl, h⟩
def cAll (K : PySem.W.Frag) : List V → Hp → VK → Prop := fun xs H Q => match xs with
  | [.ref p] => ∃ bs : List Bool, SqL K H p (bs.map V.bl) ∧ Q (.bl (bs.all id)) H
  | _ => False
theorem call_cAll (hc : X.calm = true) : CallR X (.builtin "all") (cAll X.K) := by
  intro pins s σ H xs us Q I r h
  match xs, h with
  | [.ref p], h => obtain ⟨bs, h⟩ := h; exact cr_all hc pins s σ H _ us Q I r ⟨p, bs, rfl, h⟩
def cList (K : PySem.W.Frag) : List V → Hp → VK → Prop := fun xs H Q => match xs with
  | [.ref p] => ∃ ys, (SqL K H p ys ∨ SqT K H p ys) ∧ ∀ l, H l = none → Q (.ref l) (upd H l (.lst ys))
  | _ => False
theorem call_cList : CallR X (.type "list") (cList X.K) := by
  intro pins s σ H xs us Q I r h
  match xs, h with
  | [.ref p], h => obtain ⟨ys, h⟩ := h; exact call_list_of pins s σ H _ us Q I r ⟨p, ys, rfl, h⟩
/-- sorted of ints -/
def cSort (K : PySem.W.Frag) : List V → Hp → VK → Prop := fun xs H Q => match xs with
  | [.ref p] => ∃ ns : List Int, SqL K H p (ns.map V.int) ∧ ∀ (ns' : List Int) (l : Addr), ns'.Perm ns → ns'.Pairwise (· ≤ ·) → H l = none → Q (.ref l) (upd H l (.lst (ns'.map V.int)))
  | _ => False
theorem call_cSort : CallR X (.builtin "sorted") (cSort X.K) := by
  intro pins s σ H xs us Q I r h
  match xs, h with
  | [.ref p], h => obtain ⟨ns, h⟩ := h; exact cr_sortedI pins s σ H _ us Q I r ⟨p, ns, rfl, h⟩
/-- sorted of texts -/
def cSortS (K : PySem.W.Frag) : List V → Hp → VK → Prop := fun xs H Q => match xs with
  | [.ref p] => ∃ zs : List Str, SqL K H p (zs.map V.str) ∧ zs.length < 64 ∧ ∀ (ys : List Str) (l : Addr), ys.Perm zs → sortedS ys = true → H l = none → Q (.ref l) (upd H l (.lst (ys.map V.str)))
  | _ => False
theorem call_cSortS : CallR X (.builtin "sorted") (cSortS X.K) := by
  intro pins s σ H xs us Q I r h
  match xs, h with
  | [.ref p], h => obtain ⟨zs, h⟩ := h; exact cr_sortedS pins s σ H _ us Q I r ⟨p, zs, rfl, h⟩
/-- sorted of a dict with ints as keys -/
def cSortD : List V → Hp → VK → Prop := fun xs H Q => match xs with
  | [.ref p] => ∃ (kvs : List (Key × V)) (ks : List Int), H p = some (.dK kvs) ∧ kvs.map (·.1) = ks.map Sum.inl ∧ ks.length < 64 ∧ ∀ (ys : List Int) (l : Addr), ys.Perm ks → ys.Pairwise (· ≤ ·) → H l = none → Q (.ref l) (upd H l (.lst (ys.map V.int)))
  | _ => False
theorem call_cSortD (hc : X.calm = true) : CallR X (.builtin "sorted") cSortD := by
  intro pins s σ H xs us Q I r h
  match xs, h with
  | [.ref p], h => obtain ⟨kvs, ks, h1, h2, h3, h⟩ := h; exact call_sortedDI hc pins s σ H _ us Q I r ⟨p, kvs, ks, rfl, .of h1, h2, h3, h⟩
/-- int(x) -/
def cInt : List V → Hp → VK → Prop := fun xs H Q => match xs with
  | [.int i] => Q (.int i) H
  | [.bl k] => Q (.int (if k = true then 1 else 0)) H
  | _ => False
theorem call_cInt : CallR X (.type "int") cInt := by
  intro pins s σ H xs us Q I r h
  match xs, h with
  | [.int i], h => exact call_int1 pins s σ H _ us Q I r (.inl ⟨i, rfl, h⟩)
  | [.bl k], h => exact call_int1 pins s σ H _ us Q I r (.inr ⟨k, rfl, h⟩)
def cTuple (K : PySem.W.Frag) : List V → Hp → VK → Prop := fun xs H Q => match xs with
  | [.ref p] => ∃ ys, (SqL K H p ys ∧ ∀ l, H l = none → Q (.ref l) (upd H l (.tup ys))) ∨ (SqT K H p ys ∧ Q (.ref p) H)
  | _ => False
theorem call_cTuple : CallR X (.type "tuple") (cTuple X.K) := by
  intro pins s σ H xs us Q I r h
  match xs, h with
  | [.ref p], h => obtain ⟨ys, h⟩ := h; exact call_tuple_of pins s σ H _ us Q I r ⟨p, ys, rfl, h⟩
/-- dict(pairs) -/
def cDict (K : PySem.W.Frag) : List V → Hp → VK → Prop := fun xs H Q => match xs with
  | [.ref p] => ∃ (ps : List Addr) (kvs : List (Key × V)), SqL K H p (ps.map V.ref) ∧ Paired (fun p kv => SqT K H p [kV kv.1, kv.2]) ps kvs ∧ ∀ l, H l = none → Q (.ref l) (upd H l (.dK (mergeK [] kvs)))
  | _ => False
theorem call_cDict (hc : X.calm = true) : CallR X (.type "dict") (cDict X.K) := by
  intro pins s σ H xs us Q I r h
  match xs, h with
  | [.ref p], h => obtain ⟨ps, kvs, h1, h2, h⟩ := h; exact call_dictP hc pins s σ H _ us Q I r ⟨p, ps, kvs, rfl, h1, h2, h⟩
/-- repr(int), repr(data) -/
def cRepr (K : PySem.W.Frag) : List V → Hp → VK → Prop := fun xs H Q => match xs with
  | [.int i] => i.natAbs.log2 < 1920 ∧ Q (.str (toString i)) H
  | [.non] => Q (.str "None") H
  | [.ref p] => ∃ d, Dp K H (.ref p) d ∧ d.showable = true ∧ d.hasDict = false ∧ d.depth ≤ 60 ∧ d.shown.length ≤ sizeLine ∧ Q (.str d.shown) H
  | _ => False
theorem call_cRepr (hr : Room j X.A) (qt : Quiet X.A) : CallR X (.builtin "repr") (cRepr X.K) := by
  intro pins s σ H xs us Q I r h
  match xs, h with
  | [.int i], h => exact SkE.call_repr_int pins s σ H _ us Q I r ⟨i, rfl, h⟩
  | [.non], h =>
    cases r with
    | cons r0 r1 =>
      cases r1
      obtain rfl : _ = Value.none := r0
      exact PySem.P.repr_of_none ⟨.str "None", H, I.tok _, ⟨_, rfl⟩, h⟩
  | [.ref p], h =>
    obtain ⟨d, dp, sh, nd, de, sz, q⟩ := h
    cases r with
    | cons r0 r1 =>
      cases r1
      cases r0
      obtain ⟨as, rd⟩ := Dp.reads I d (.ref p) (.ref p) dp rfl
      refine repr_of_reads' rd sh (fun z => by rw [nd] at z; cases z) qt (by have := hr.un; omega) (fun _ _ z => z) (fun h' u tk kp => ?_) sz
      exact ⟨.str d.shown, H, I.kept (t' := tk) kp, ⟨_, rfl⟩, q⟩

/-! ### x *= y -/
def ipM : TIp := fun x y H Q => ∃ i j, x = .int i ∧ y = .int j ∧ CMul i j ∧ Q (.int (i * j)) H
theorem ip_mul : PIp X .Mult ipM := by
  intro pins s σ H x y v u Q I r1 r2 h
  obtain ⟨i, j, rfl, rfl, c, q⟩ := h
  obtain ⟨t, rfl⟩ := r1
  obtain ⟨t', rfl⟩ := r2
  exact imul_int ⟨.int _, H, I.tok _, ⟨_, rfl⟩, q⟩ c.ok
/-! ### names of the module -/
theorem pe_g {v : V} (hg : Gl X x) (h : ∃ u, X.mg x = some u ∧ RelV v u) (hdb : (x == ("__debug__" : Str)) = false := by decide) : PE X (.Name x pos) (tC v) := by
  obtain ⟨u, hm, r⟩ := h
  exact pe_glob hg hm r hdb
/-! ### a, b, c = x, y, z: three locals -/
def tPar3 (i j k : Nat) (ta : TA) : TS := fun D σ H => ta σ H fun vs H1 => ∃ v w z, vs = [v, w, z] ∧ D.nx (((σ.set i (some v)).set j (some w)).set k (some z)) H1
theorem ps_par3 {i j k : Nat} {x y z : Str} {a b c : Expr} {ta : TA} {px py pz pt : Pos} {kt k2 pt2} (hc : X.calm = true) (hN : X.N.Nodup) (hi : X.N[i]? = some x) (hj : X.N[j]? = some y) (hk : X.N[k]? = some z) (hij : i ≠ j) (hik : i ≠ k) (hjk : j ≠ k)
    (hx : X.env.scope.names.lookup x = some .local) (hy : X.env.scope.names.lookup y = some .local) (hz : X.env.scope.names.lookup z = some .local) (ha : PA X [a, b, c] ta)
    (hw : swappedStores [.Tuple [.Name x px, .Name y py, .Name z pz] kt pt] (.Tuple [a, b, c] k2 pt2) X.env = pure (some [x, y, z]))
    (hs : swapsWithSole [.Tuple [.Name x px, .Name y py, .Name z pz] kt pt] (.Tuple [a, b, c] k2 pt2) pos.line X.env = pure false := by rfl) :
    PS X (.Assign [.Tuple [.Name x px, .Name y py, .Name z pz] kt pt] (.Tuple [a, b, c] k2 pt2) pos) (tPar3 i j k ta) := by
  refine ⟨fun pins s σ H D I h => ?_⟩
  rw [exec_Assign_arm]
  refine wpAny_bind (wpAny_standAt ?_)
  rw [hs]
  refine wpAny_bind (wpAny_pure ?_)
  rw [if_neg (by decide)]
  refine wpAny_bind (Tuple_ (thn (ha.run _ pins s σ H _ I h) fun us s1 ⟨vs, H1, I1, r1, v, w, q, e1, q1⟩ => ?_))
  subst e1
  obtain ⟨u1, u2, u3, rfl, rv, rw', rq⟩ : ∃ u1 u2 u3, us = [u1, u2, u3] ∧ RelV v u1 ∧ RelV w u2 ∧ RelV q u3 := by
    cases r1 with
    | cons a1 r1 =>
      cases r1 with
      | cons a2 r1 =>
        cases r1 with
        | cons a3 r1 => cases r1; exact ⟨_, _, _, rfl, a1, a2, a3⟩
  refine wpAny_newObj_type ?_ (by show 3 ≤ sizeLine; decide)
  have I2 : Inv X pins σ H1 { s1 with heap := s1.heap.push { cls := .type "tuple", data := .seq [u1, u2, u3].toArray } } := I1.kept (t' := s1.toks) fun b o e => Heap.get?_push_of_some _ e
  rw [hw]
  refine wpAny_bind (wpAny_pure ?_)
  unfold assignStores
  refine wpAny_bind (wpAny_rule (wpAny_bind (unpackItems_tuple (items := #[u1, u2, u3]) (I.ok.hd hc) (IsTup.new s1.heap _) fun h' hx' => ?_)))
  have I3 := I2.kept (h' := h') (t' := s1.toks) fun b o e => hx' b o (Nat.ne_of_lt (Heap.lt_size e)) e
  simp only [List.reverse_cons, List.reverse_nil, List.nil_append, List.cons_append, List.map_cons, List.map_nil]
  refine wpAny_bind (assignInOrder_cons (wpAny_bindName (store_ok I3 hN hk (.inl hz) rq (fun s2 I4 => ?_) (.inr hz))))
  refine assignInOrder_cons (wpAny_bindName (store_ok I4 hN hj (.inl hy) rw' (fun s3 I5 => ?_) (.inr hy)))
  refine assignInOrder_cons (wpAny_bindName (store_ok I5 hN hi (.inl hx) rv (fun s4 I6 => assignInOrder_nil (wpAny_pure ?_)) (.inr hx)))
  rw [List.set_comm _ _ (Ne.symm hij), List.set_comm _ _ (Ne.symm hik), List.set_comm _ _ (Ne.symm hjk)] at I6
  exact ⟨_, H1, I6, q1⟩

/-! ### calls by keywords alone (behind the receiver of a method) -/
structure KB (K : PySem.W.Frag) (fd : FuncData) (ps : List Str) (n : Nat) (ks : List Str) (g : List Value → List Value) (gV : List V → List V) : Prop where
  to : ∀ (s : Shared) (us ws : List Value), K.In s.heap → us.length = n → ws.length = ks.length → BindsTo s fd ⟨us, ks.zip ws⟩ (ps.zip (us ++ g ws))
  rel : ∀ {zs : List V} {ws : List Value}, Vals zs ws → Vals (gV zs) (g ws)
structure FnK (P : Program) (w : World) (K : PySem.W.Frag) (mg : Str → Option Value) (base : Heap) (k : Nat) (x : Str) (ks : List Str) (gV : List V → List V) (sp : Sp) : Prop where
  ex : ∃ (f : Addr) (fd : FuncData) (ps : List Str) (g : List Value → List Value), FnG P w K mg base k f fd ps sp ∧ mg x = some (.ref f) ∧ PySem.W.keepIn K (.ref f) = true ∧ KB K fd ps 0 ks g gV
structure MthK (P : Program) (w : World) (K : PySem.W.Frag) (mg : Str → Option Value) (base : Heap) (k : Nat) (C : Addr) (m : Str) (ks : List Str) (gV : List V → List V) (sp : Sp) : Prop where
  ex : ∃ (f : Addr) (fd : FuncData) (ps : List Str) (g : List Value → List Value), Cls K C ∧ Meth K C m f ∧ FnG P w K mg base k f fd ps sp ∧ KB K fd ps 1 ks g gV
def tFnK (P : Program) (w : World) (K : PySem.W.Frag) (mg : Str → Option Value) (base : Heap) (x : Str) (ks : List Str) (j : Nat) (E : XS) (t : TA) : TE := fun σ H Q => ∃ k gV sp, FnK P w K mg base k x ks gV sp ∧ k ≤ j ∧ t σ H fun vs H1 => vs.length = ks.length ∧ sp (gV vs) H1 Q (E σ)
def tMthK (P : Program) (w : World) (K : PySem.W.Frag) (mg : Str → Option Value) (base : Heap) (m : Str) (ks : List Str) (j : Nat) (E : XS) (ta : TE) (t : TA) : TE := fun σ H Q => ta σ H fun x H1 => ∃ a C dx fs k gV sp, x = .ref a ∧ H1 a = some (.ins C dx fs) ∧ MthK P w K mg base k C m ks gV sp ∧ k ≤ j ∧ fs.lookup m = none ∧
  t σ H1 fun vs H2 => vs.length = ks.length ∧ sp (.ref a :: gV vs) H2 Q (E σ)
theorem run_kb {k n : Nat} {f : Addr} {fd : FuncData} {ps ks : List Str} {sp : Sp} {g : List Value → List Value} {gV : List V → List V} {pins : List (Addr × Obj)} {σ : L2.St} {H : Hp} {s : Shared} {Q : VK} {us ws : List Value} {vs zs : List V} (F : FnG X.prog X.w X.K X.mg X.base k f fd ps sp) (a : At X j E) (hk : k ≤ j)
    (hb : KB X.K fd ps n ks g gV) (I : Inv X pins σ H s) (r : Vals vs us) (hn : us.length = n) (rz : Vals zs ws) (hl : zs.length = ks.length) (h : sp (vs ++ gV zs) H Q (E σ)) : wpAny (model X.prog X.w) X.A (call (.ref f) us (ks.zip ws)) (EP X pins σ Q) X.xe s :=
  run_g F (a.hr.mono hk) a.qt (a.hx σ) I (hb.to s us ws I.kIn hn (by rw [← rz.length]; exact hl)) (r.append (hb.rel rz)) h
section
variable {ks : List Str} {kws : List Keyword}
theorem pe_fnK (a : At X j E) (hg : Gl X x) (hkw : PK X kws t) (hall : (backToKw pos (keywordEach kws X.env)).all (·.1.isSome) = true := by rfl) (hks : (backToKw pos (keywordEach kws X.env)).filterMap (·.1) = ks := by rfl)
    (hdb : (x == ("__debug__" : Str)) = false := by decide) (hpl : ((backTo pos (starEach [] X.env)).any (·.1) || (backToKw pos (keywordEach kws X.env)).any (·.1.isNone)) = false := by rfl) :
    PE X (.Call (.Name x p) [] kws pos) (tFnK X.prog X.w X.K X.mg X.base x ks j E t) := by
  refine ⟨fun pins s σ H Q I h => ?_⟩
  obtain ⟨k, gV, sp, F, hk, h⟩ := h
  obtain ⟨f, fd, ps, g, F, hm, kp, b⟩ := F.ex
  refine wpAny_Call_Name_kw (ld_glob I hg hm (PySem.W.callWith_KW0 (h₀ := X.base) I.ok.mod.kin kp hall ?_ hpl) hdb)
  refine thn (hkw.run pos pins s σ H _ I h) fun ws s2 ⟨zs, H2, I2, rz, hl, q2⟩ => ⟨I2.kIn, ?_⟩
  rw [hks]
  exact run_kb (us := []) (vs := []) F a hk b I2 .nil rfl rz hl q2
theorem pe_mthK {pl : Sem Bool} (a : At X j E) (ho : PE X o ta) (hkw : PK X kws t) (hall : (backToKw pos (keywordEach kws X.env)).all (·.1.isSome) = true := by rfl) (hks : (backToKw pos (keywordEach kws X.env)).filterMap (·.1) = ks := by rfl)
    (hpl : ((backTo pos (starEach [] X.env)).any (·.1) || (backToKw pos (keywordEach kws X.env)).any (·.1.isNone)) = false := by rfl)
    (ht : eval (.Call (.Attribute o m apos) [] kws pos) X.env = (do
      let ov ← eval o X.env
      standAt apos.atName
      let (f, first) ← holding [ov] (getMethod ov m pl)
      callWith pos f first (backTo pos (starEach [] X.env)) (backToKw pos (keywordEach kws X.env))) := by rfl) :
    PE X (.Call (.Attribute o m apos) [] kws pos) (tMthK X.prog X.w X.K X.mg X.base m ks j E ta t) := by
  refine ⟨fun pins s σ H Q I h => PySem.W.methodCall_KW (pl := pl) (thn (ho.run pins s σ H _ I h) fun u s1 ⟨x, H1, I1, rx, y, C, dx, fs, k, gV, sp, ex, ea, M, hk, l, q⟩ => ?_) ht⟩
  subst ex
  obtain rfl : u = Value.ref y := rx
  obtain ⟨f, fd, ps, g, c, hm, F, b⟩ := M.ex
  refine getmeth_ok I1 ea c hm l (PySem.W.callWith_KW0 (first := [.ref y]) (h₀ := X.base) I.ok.mod.kin hm.kp hall ?_ hpl)
  refine thn (hkw.run pos pins s1 σ H1 _ I1 q) fun ws s2 ⟨zs, H2, I2, rz, hl, q2⟩ => ⟨I2.kIn, ?_⟩
  rw [hks]
  exact run_kb (us := [.ref y]) (vs := [.ref y]) F a hk b I2 (.cons rfl .nil) rfl rz hl q2
end
end

/-! ### isinstance, told by the kinds -/
section
variable {K : PySem.W.Frag} {H : Hp}
theorem isi_int {i : Int} {n : String} {b : Bool} (h : kitB "int" n = some b) : Isi K H (.int i) (.ty n) b := .inl ⟨_, _, .ty n, .x (.base (.int i)), kit_ty h⟩
theorem isi_str {z : Str} {n : String} {b : Bool} (h : kitB "str" n = some b) : Isi K H (.str z) (.ty n) b := .inl ⟨_, _, .ty n, .x (.base (.str z)), kit_ty h⟩
theorem isi_lst {a : Addr} {xs : List V} {n : String} {b : Bool} (e : H a = some (.lst xs)) (h : kitB "list" n = some b) : Isi K H (.ref a) (.ty n) b := .inl ⟨_, _, .ty n, .x (.base (.lst e)), kit_ty h⟩
/-- instances of C are told by their class -/
structure InsTy (K : PySem.W.Frag) (C : Addr) : Prop where
  ha : PySem.W.findIn K (.ref C) "__class__" = some (some (.builtin "object.__class__"))
  hn : PySem.W.specialIn K (.builtin "object.__class__") "__get__" = some (some (.builtin "getset_descriptor.__get__"))
  ht : PySem.W.takesIn K (.builtin "object.__class__") = some true
  hm : PySem.W.mroIn K C (.type "object") = some true
theorem isi_ins {a C D dx : Addr} {fs : List (Str × V)} {b : Bool} (e : H a = some (.ins C dx fs)) (c : Cls K C) (t : InsTy K C) (h : PySem.W.kitOne K (.ref C) (.ref D) = some b) : Isi K H (.ref a) (.ref D) b := .inl ⟨_, _, .own D, .x (.base (.ins e c t.ha t.hn t.ht t.hm)), h⟩
end

/-! ### a def, by what is true of its body's reading -/
section
variable {P : Program} {w : World} {K : PySem.W.Frag} {mg : Str → Option Value} {base : Heap}
/-- the def x of the module stands as st -/
structure Df (K : PySem.W.Frag) (mg : Str → Option Value) (x : Str) (st : Stmt) (ps : List Str) : Prop where
  ex : ∃ (f : Addr) (fd : FuncData), Fun K x x st f fd ∧ mg x = some (.ref f) ∧ Binds K fd ps []
/-- the method m of the class at C stands as st (of the class qual names) -/
structure Dm (K : PySem.W.Frag) (C : Addr) (m qual : Str) (st : Stmt) (ps : List Str) : Prop where
  cls : Cls K C
  ex : ∃ (f : Addr) (fd : FuncData), Fun K m qual st f fd ∧ Meth K C m f ∧ Binds K fd ps []
/-- the class x at C is made by the __init__ st -/
structure Dk (K : PySem.W.Frag) (mg : Str → Option Value) (x : Str) (C : Addr) (qual : Str) (st : Stmt) (ps : List Str) : Prop where
  ex : ∃ (f : Addr) (fd : FuncData), Fun K "__init__" qual st f fd ∧ Mk K C f ∧ mg x = some (.ref C) ∧ Binds K fd ps []
abbrev Der (P : Program) (w : World) (K : PySem.W.Frag) (mg : Str → Option Value) (base : Heap) (N : List Str) (qual : Str) (st : Stmt) (lv : Nat) (t : XK → TS) : Prop :=
  ∀ {f : Addr} {cdv : Value} {Ar : Around} {outer : List Env} {s : Shared} {H : Hp} {E : XK}, Room lv (Ar.deeper (PyProof.Rows.envOfC qual (defScope st) s.heap.objs.size f cdv)) → Quiet (Ar.deeper (PyProof.Rows.envOfC qual (defScope st) s.heap.objs.size f cdv)) → PSs (cxOf (L2.CX P w) P w K mg base N qual (defScope st) f cdv Ar outer s H E) (defBody st) (t E)
abbrev Pur (N ps : List Str) (t : XK → TS) (sp : Sp) : Prop := ∀ vs H Q E, sp vs H Q E → vs.length = ps.length ∧ t E { nx := fun _ H' => Q .non H', rt := Q } (start N vs) H
theorem fnok_of {x qual : Str} {st : Stmt} {f : Addr} {fd : FuncData} {N ps : List Str} {lv : Nat} {t : XK → TS} {sp : Sp} (F : Fun K x qual st f fd) (S : FnScope N ps (defScope st)) (D : Der P w K mg base N qual st lv t) (p : Pur N ps t sp) : FnG P w K mg base (lv + 1) f fd ps sp := by
  obtain ⟨oc, od, kV, doc, pm, an, cdv, ct, osl, rfl, lk, hcd⟩ := F.ex
  exact fnG_body lk hcd S (fun vs H Q E h => (p vs H Q E h).1) fun Ar outer s H vs Q E hr qt h => ⟨t E, D hr qt, (p vs H Q E h).2⟩
/-- a def with keyword-only defaults -/
structure Dfd (K : PySem.W.Frag) (mg : Str → Option Value) (x : Str) (st : Stmt) (ps : List Str) (dvs : List V) : Prop where
  ex : ∃ (f : Addr) (fd : FuncData) (ds : List Value), Fun K x x st f fd ∧ mg x = some (.ref f) ∧ Vals dvs ds ∧ Binds K fd ps ds
theorem Dfd.fn {x : Str} {st : Stmt} {N ps : List Str} {dvs : List V} {lv : Nat} {t : XK → TS} {sp sp' : Sp} (d : Dfd K mg x st ps dvs) (S : FnScope N ps (defScope st)) (D : Der P w K mg base N x st lv t) (p : Pur N ps t sp') (im : ∀ vs H Q E, sp vs H Q E → sp' (vs ++ dvs) H Q E) : Fn P w K mg base (lv + 1) x sp := by
  obtain ⟨f, fd, ds, F, hm, rd, b⟩ := d.ex
  exact ⟨f, fd, ps, ds, dvs, sp', fnok_of F S D p, hm, F.kp, b, rd, im⟩
theorem Df.fn {x : Str} {st : Stmt} {N ps : List Str} {lv : Nat} {t : XK → TS} {sp : Sp} (d : Df K mg x st ps) (S : FnScope N ps (defScope st)) (D : Der P w K mg base N x st lv t) (p : Pur N ps t sp) : Fn P w K mg base (lv + 1) x sp := by
  obtain ⟨f, fd, F, hm, b⟩ := d.ex
  exact ⟨f, fd, ps, [], [], sp, fnok_of F S D p, hm, F.kp, b, .nil, fun vs H Q E h => by rw [List.append_nil]; exact h⟩
theorem Dm.mth {m qual : Str} {C : Addr} {st : Stmt} {N ps : List Str} {lv : Nat} {t : XK → TS} {sp : Sp} (d : Dm K C m qual st ps) (S : FnScope N ps (defScope st)) (D : Der P w K mg base N qual st lv t) (p : Pur N ps t sp) : Mth P w K mg base (lv + 1) C m sp := by
  obtain ⟨f, fd, F, hm, b⟩ := d.ex
  exact ⟨f, fd, ps, d.cls, hm, fnok_of F S D p, b⟩
theorem Dk.mkr {x qual : Str} {C : Addr} {st : Stmt} {N ps : List Str} {lv : Nat} {t : XK → TS} {sp : Sp} (d : Dk K mg x C qual st ps) (S : FnScope N ps (defScope st)) (D : Der P w K mg base N qual st lv t) (p : Pur N ps t sp) : Mkr P w K mg base (lv + 1) x C sp := by
  obtain ⟨f, fd, F, M, hm, b⟩ := d.ex
  exact ⟨f, fd, ps, M, fnok_of F S D p, hm, b⟩
/-- by one keyword -/
theorem Fun.kb1 {x qual k : Str} {st : Stmt} {f : Addr} {fd : FuncData} (F : Fun K x qual st f fd)
    (h : ∀ (kV doc pm : Value) (an : Option Addr) (cdv ct u : Value), bindArgs (PySem.W.fnOf x qual (defArgs st) (defBody st) (defScope st) .none kV doc pm an cdv ct) ⟨[], [(k, u)]⟩ = pure [(k, u)]) : KB K fd [k] 0 [k] id id := by
  obtain ⟨oc, od, kV, doc, pm, an, cdv, ct, osl, rfl, lk, hcd⟩ := F.ex
  refine ⟨fun s us ws _ hu hw => ?_, fun r => r⟩
  match us, ws, hu, hw with
  | [], [u], _, _ => exact .of_eq (h kV doc pm an cdv ct u)
/-- by keywords alone, in any order -/
theorem Fun.kbG {x qual : Str} {ks ps : List Str} {st : Stmt} {f : Addr} {fd : FuncData} {g : List Value → List Value} {gV : List V → List V} (F : Fun K x qual st f fd) (rel : ∀ {zs : List V} {ws : List Value}, Vals zs ws → Vals (gV zs) (g ws))
    (h : ∀ (kV doc pm : Value) (an : Option Addr) (cdv ct : Value) (ws : List Value), ws.length = ks.length → bindArgs (PySem.W.fnOf x qual (defArgs st) (defBody st) (defScope st) .none kV doc pm an cdv ct) ⟨[], ks.zip ws⟩ = pure (ps.zip (g ws))) : KB K fd ps 0 ks g gV := by
  obtain ⟨oc, od, kV, doc, pm, an, cdv, ct, osl, rfl, lk, hcd⟩ := F.ex
  refine ⟨fun s us ws _ hu hw => ?_, rel⟩
  match us, hu with
  | [], _ => exact .of_eq (h kV doc pm an cdv ct ws hw)
theorem Df.fnKG {x : Str} {ks ps : List Str} {st : Stmt} {N : List Str} {lv : Nat} {t : XK → TS} {sp : Sp} {g : List Value → List Value} {gV : List V → List V} (d : Df K mg x st ps) (S : FnScope N ps (defScope st)) (D : Der P w K mg base N x st lv t) (p : Pur N ps t sp) (rel : ∀ {zs : List V} {ws : List Value}, Vals zs ws → Vals (gV zs) (g ws))
    (h : ∀ (kV doc pm : Value) (an : Option Addr) (cdv ct : Value) (ws : List Value), ws.length = ks.length → bindArgs (PySem.W.fnOf x x (defArgs st) (defBody st) (defScope st) .none kV doc pm an cdv ct) ⟨[], ks.zip ws⟩ = pure (ps.zip (g ws))) : FnK P w K mg base (lv + 1) x ks gV sp := by
  obtain ⟨f, fd, F, hm, b⟩ := d.ex
  exact ⟨f, fd, ps, g, fnok_of F S D p, hm, F.kp, Fun.kbG F rel h⟩
def swap2 {α : Type} : List α → List α | [a, b] => [b, a] | l => l
theorem swap2_rel {zs : List V} {ws : List Value} (r : Vals zs ws) : Vals (swap2 zs) (swap2 ws) := by
  cases r with
  | nil => exact .nil
  | cons a r =>
    cases r with
    | nil => exact .cons a .nil
    | cons b r =>
      cases r with
      | nil => exact .cons b (.cons a .nil)
      | cons c r => exact .cons a (.cons b (.cons c r))
theorem Df.fnK1 {x k : Str} {st : Stmt} {N : List Str} {lv : Nat} {t : XK → TS} {sp : Sp} (d : Df K mg x st [k]) (S : FnScope N [k] (defScope st)) (D : Der P w K mg base N x st lv t) (p : Pur N [k] t sp)
    (h : ∀ (kV doc pm : Value) (an : Option Addr) (cdv ct u : Value), bindArgs (PySem.W.fnOf x x (defArgs st) (defBody st) (defScope st) .none kV doc pm an cdv ct) ⟨[], [(k, u)]⟩ = pure [(k, u)]) : FnK P w K mg base (lv + 1) x [k] id sp := by
  obtain ⟨f, fd, F, hm, b⟩ := d.ex
  exact ⟨f, fd, [k], id, fnok_of F S D p, hm, F.kp, Fun.kb1 F h⟩
end

/-! ### comprehensions that read alone; loops -/
/-- the body of a comprehension's reading, J walked -/
def LcB (J : It) (g : TG) (tt : TT) (te : TE) (vs : List Nat) (σ : L2.St) (H1 : Hp) (Q : VK) : Prop := ∀ D, H1 D = none → ∃ W : Nat → Nat → Hp → Prop, (∃ m, W 0 m (upd H1 D (.lst []))) ∧ ∀ i m H, W i m H →
  (J.stop i H ∧ Q (.ref D) H) ∨ (J.go i H ∧ ∃ Nx : Hp → Prop, (∀ H', Nx H' → ∃ m', m' < m ∧ W (i + 1) m' H') ∧ ∀ x H', J.yld i H x H' → g x (wipe σ vs) H' fun σ2 H2 => wipe σ2 vs = wipe σ vs ∧ tt σ2 H2 fun b H3 =>
    if b = true then te σ2 H3 fun y H4 => ∃ acc, H4 D = some (.lst acc) ∧ acc.length < sizeLine ∧ Nx (upd H4 D (.lst (acc ++ [y]))) else Nx H3)
theorem tLc_eq (wi : TI) (g : TG) (tt : TT) (te : TE) (vs : List Nat) (σ : L2.St) (H : Hp) (Q : VK) : tLc wi g tt te vs σ H Q = wi σ H fun J H1 => LcB J g tt te vs σ H1 Q := rfl
def ForB (J : It) (g : TG) (tb : TS) (D : Ends) (σ : L2.St) (H1 : Hp) : Prop := ∃ W : Nat → Nat → L2.St → Hp → Prop, (∃ m, W 0 m σ H1) ∧ ∀ i m σ H, W i m σ H →
  (J.stop i H ∧ D.nx σ H) ∨ (J.go i H ∧ ∃ N : L2.St → Hp → Prop, (∀ σ' H', N σ' H' → ∃ m', m' < m ∧ W (i + 1) m' σ' H') ∧ ∀ x H', J.yld i H x H' → g x σ H' fun σ2 H2 => tb { D with nx := N, ct := N, bk := D.nx } σ2 H2)
theorem tFor_eq (wi : TI) (g : TG) (tb : TS) (D : Ends) (σ : L2.St) (H : Hp) : tFor wi g tb D σ H = wi σ H fun J H1 => ForB J g tb D σ H1 := rfl
theorem _root_.L2.Same.new {H : Hp} {p : Addr} {o : HO} (h : H p = none) : Same H (upd H p o) := fun a u e => by rw [upd_ne (ne_of_none e h)]; exact e
theorem _root_.L2.Same.mut {H H' : Hp} {p : Addr} {o : HO} (e : Same H H') (h : H p = none) : Same H (upd H' p o) := fun a u ha => by rw [upd_ne (ne_of_none ha h)]; exact e a u ha
theorem _root_.L2.Same.tup {K : PySem.W.Frag} {H H' : Hp} {a : Addr} {xs : List V} (e : Same H H') (h : SqT K H a xs) : SqT K H' a xs := by
  rcases h with (h | ⟨o, h⟩) | h
  · exact .inl (.inl (e _ _ h))
  · exact .inl (.inr ⟨o, e _ _ h⟩)
  · exact .inr h
/-- te gives v, leaving what is known -/
def Evs (te : TE) (σ : L2.St) (H : Hp) (v : V) : Prop := ∀ Q : VK, (∀ H2, Same H H2 → Q v H2) → te σ H Q
def Evt (tt : TT) (σ : L2.St) (H : Hp) (b : Bool) : Prop := ∀ Q : Bool → Hp → Prop, (∀ H2, Same H H2 → Q b H2) → tt σ H Q
theorem Evt.yes {σ : L2.St} {H : Hp} : Evt tYes σ H true := fun Q q => q H (Same.refl H)
/-- J makes n turns as long as H1 stays; item i is such that R i x H -/
structure Goes (J : It) (H1 : Hp) (n : Nat) (R : Nat → V → Hp → Prop) : Prop where
  go : ∀ i H, i < n → Same H1 H → J.go i H
  stop : ∀ H, Same H1 H → J.stop n H
  yld : ∀ i H x H', i < n → Same H1 H → J.yld i H x H' → Same H H' ∧ R i x H'
theorem goes_list {K : PySem.W.Frag} {H : Hp} {a : Addr} {xs : List V} (h : SqL K H a xs) : Goes (Itl K a) H xs.length (fun i x _ => xs[i]? = some x) where
  go := fun i H' hi e => ⟨xs, xs[i], e.seq h, by simp [hi]⟩
  stop := fun H' e => ⟨xs, e.seq h, Nat.le_refl _⟩
  yld := fun i H' x H2 hi e y => by
    obtain ⟨rfl, y⟩ := y
    exact ⟨Same.refl _, y xs (e.seq h)⟩
theorem goes_tup {K : PySem.W.Frag} {H : Hp} {a : Addr} {xs : List V} (h : SqT K H a xs) : Goes (Itt K a) H xs.length (fun i x _ => xs[i]? = some x) where
  go := fun i H' hi e => ⟨xs, xs[i], e.tup h, by simp [hi]⟩
  stop := fun H' e => ⟨xs, e.tup h, Nat.le_refl _⟩
  yld := fun i H' x H2 hi e y => by
    obtain ⟨rfl, y⟩ := y
    exact ⟨Same.refl _, y xs (e.tup h)⟩
theorem goes_str {z : Str} {H : Hp} : Goes (Its z) H z.cps.size (fun i x _ => ∃ c, z.cps[i]? = some c ∧ x = .str ⟨#[c]⟩) where
  go := fun i H' hi _ => hi
  stop := fun H' _ => Nat.le_refl _
  yld := fun i H' x H2 hi _ y => by
    obtain ⟨rfl, y⟩ := y
    exact ⟨Same.refl _, y⟩
theorem goes_range {lo : Int} {n : Nat} {H : Hp} : Goes (Itr lo n) H n (fun i x _ => x = .int (lo + i)) where
  go := fun i H' hi _ => hi
  stop := fun H' _ => Nat.le_refl _
  yld := fun i H' x H2 hi _ y => by
    obtain ⟨rfl, rfl⟩ := y
    exact ⟨Same.refl _, rfl⟩
theorem goes_enum {K : PySem.W.Frag} {H : Hp} {a : Addr} {xs : List V} (h : SqL K H a xs) : Goes (Ite K a) H xs.length (fun i x H' => ∃ T y, x = .ref T ∧ xs[i]? = some y ∧ H' T = some (.tup [.int (i : Nat), y])) where
  go := fun i H' hi e => ⟨xs, xs[i], e.seq h, by simp [hi]⟩
  stop := fun H' e => ⟨xs, e.seq h, Nat.le_refl _⟩
  yld := fun i H' x H2 hi e y => by
    obtain ⟨T, v, rfl, hn, rfl, y⟩ := y
    exact ⟨Same.new hn, T, v, rfl, y xs (e.seq h), upd_same⟩
theorem goes_zip {K : PySem.W.Frag} {H : Hp} {a b : Addr} {xs ys : List V} (h : SqL K H a xs) (h' : SqL K H b ys) (hl : xs.length = ys.length) : Goes (Itz K a b) H xs.length (fun i x H' => ∃ T u v, x = .ref T ∧ xs[i]? = some u ∧ ys[i]? = some v ∧ H' T = some (.tup [u, v])) where
  go := fun i H' hi e => ⟨xs, ys, xs[i], ys[i]'(by omega), e.seq h, e.seq h', by simp [hi], by simp [show i < ys.length by omega]⟩
  stop := fun H' e => ⟨xs, ys, e.seq h, e.seq h', .inl (Nat.le_refl _)⟩
  yld := fun i H' x H2 hi e y => by
    obtain ⟨T, u, v, rfl, hn, rfl, y1, y2⟩ := y
    exact ⟨Same.new hn, T, u, v, rfl, y1 xs (e.seq h), y2 ys (e.seq h'), upd_same⟩
/-- one turn of a comprehension: the item is taken to σ2; kept as y, or left -/
structure LcT (g : TG) (tt : TT) (te : TE) (vs : List Nat) (σ : L2.St) (x : V) (H : Hp) (sel : Option V) : Prop where
  ex : ∃ σ2, wipe σ2 vs = wipe σ vs ∧ (∀ R : L2.St → Hp → Prop, R σ2 H → g x (wipe σ vs) H R) ∧ (match sel with
    | some y => Evt tt σ2 H true ∧ ∀ H3, Same H H3 → Evs te σ2 H3 y
    | none => Evt tt σ2 H false)
theorem lc_goes {J : It} {g : TG} {tt : TT} {te : TE} {vs : List Nat} {σ : L2.St} {H1 : Hp} {Q : VK} {n : Nat} {R : Nat → V → Hp → Prop} (S : Goes J H1 n R) (sel : Nat → Option V) (hn : n < sizeLine)
    (turn : ∀ i x H, i < n → Same H1 H → R i x H → LcT g tt te vs σ x H (sel i))
    (hq : ∀ D H', H1 D = none → Same H1 H' → H' D = some (.lst ((List.range n).filterMap sel)) → Q (.ref D) H') : LcB J g tt te vs σ H1 Q := by
  intro D hD
  refine ⟨fun i m H => m = n - i ∧ i ≤ n ∧ Same H1 H ∧ H D = some (.lst ((List.range i).filterMap sel)), ⟨n, by simp, Nat.zero_le _, Same.new hD, upd_same⟩, ?_⟩
  rintro i m H ⟨rfl, hi, sm, hl⟩
  by_cases hlt : i < n
  · refine .inr ⟨S.go i H hlt sm, fun H' => Same H1 H' ∧ H' D = some (.lst ((List.range (i + 1)).filterMap sel)), fun H' h => ⟨n - (i + 1), by omega, rfl, hlt, h⟩, fun x H' y => ?_⟩
    obtain ⟨s1, r⟩ := S.yld i H x H' hlt sm y
    obtain ⟨σ2, e2, hg, ht⟩ := (turn i x H' hlt (sm.trans s1) r).ex
    refine hg _ ⟨e2, ?_⟩
    have hl1 := s1 _ _ hl
    cases e : sel i with
    | some y =>
      rw [e] at ht
      refine ht.1 _ fun H2 s2 => ?_
      rw [if_pos rfl]
      refine ht.2 H2 s2 _ fun H3 s3 => ⟨_, s3 _ _ (s2 _ _ hl1), ?_, ((sm.trans s1).trans (s2.trans s3)).mut hD, ?_⟩
      · have := List.length_filterMap_le sel (List.range i)
        rw [List.length_range] at this
        omega
      · rw [upd_same, List.range_succ, List.filterMap_append]
        simp [e]
    | none =>
      rw [e] at ht
      refine ht _ fun H2 s2 => ?_
      rw [if_neg Bool.false_ne_true]
      refine ⟨(sm.trans s1).trans s2, ?_⟩
      rw [s2 _ _ hl1, List.range_succ, List.filterMap_append]
      simp [e]
  · obtain rfl : i = n := by omega
    exact .inl ⟨S.stop H sm, hq D H hD sm hl⟩
theorem range_some {α : Type} (f : Nat → α) (n : Nat) : (List.range n).filterMap (fun i => some (f i)) = (List.range n).map f := by
  induction n with
  | zero => rfl
  | succ n ih => rw [List.range_succ, List.filterMap_append, List.map_append, ih]; rfl
theorem range_list {α β : Type} (f : α → Option β) (xs : List α) : (List.range xs.length).filterMap (fun i => (xs[i]?).bind f) = xs.filterMap f := by
  induction xs with
  | nil => rfl
  | cons x xs ih =>
    rw [List.length_cons, List.range_succ_eq_map, List.filterMap_cons, List.filterMap_map]
    have e : ((fun i => ((x :: xs)[i]?).bind f) ∘ Nat.succ) = fun i => (xs[i]?).bind f := by funext i; simp
    rw [e, ih, List.filterMap_cons]
    simp
/-- [e for v in xs if t], xs a list: e and t by a function of the item -/
theorem lc_lst {K : PySem.W.Frag} {a : Addr} {xs : List V} {g : TG} {tt : TT} {te : TE} {vs : List Nat} {σ : L2.St} {H1 : Hp} {Q : VK} (f : V → Option V) (h : SqL K H1 a xs) (hn : xs.length < sizeLine)
    (turn : ∀ x H, x ∈ xs → Same H1 H → LcT g tt te vs σ x H (f x)) (hq : ∀ D H', H1 D = none → Same H1 H' → H' D = some (.lst (xs.filterMap f)) → Q (.ref D) H') : LcB (Itl K a) g tt te vs σ H1 Q := by
  refine lc_goes (goes_list h) (fun i => (xs[i]?).bind f) hn (fun i x H hi s r => ?_) fun D H' hD s hl => hq D H' hD s (by rw [range_list] at hl; exact hl)
  have q := turn x H (List.mem_of_getElem? r) s
  rw [r]
  exact q

/-! ### data -/
section
variable {K : PySem.W.Frag} {H H' : Hp}
mutual
theorem dp_same (s : Same H H') : ∀ (d : PyData) (v : V), Dp K H v d → Dp K H' v d
  | .none, _, h => by cases h; exact .non
  | .bool _, _, h => by cases h; exact .bl _
  | .int _, _, h => by cases h; exact .int _
  | .str _, _, h => by cases h; exact .str _
  | .list ds, _, h => by
    cases h with
    | lst hs ha => exact .lst (s.seq hs) (dpa_same s ds _ ha)
  | .tuple ds, _, h => by
    cases h with
    | tup hs ha => exact .tup (s.tup hs) (dpa_same s ds _ ha)
  | .dict _, _, h => by cases h
theorem dpa_same (s : Same H H') : ∀ (ds : List PyData) (vs : List V), DpAll K H vs ds → DpAll K H' vs ds
  | [], _, h => by cases h; exact .nil
  | d :: ds, _, h => by
    cases h with
    | cons h1 h2 => exact .cons (dp_same s d _ h1) (dpa_same s ds _ h2)
end
theorem dpa_snoc {v : V} {d : PyData} : ∀ {vs : List V} {ds : List PyData}, DpAll K H vs ds → Dp K H v d → DpAll K H (vs ++ [v]) (ds ++ [d])
  | _, _, .nil, h => .cons h .nil
  | _, _, .cons a b, h => .cons a (dpa_snoc b h)
theorem dpa_map {α : Type} {f : α → V} {g : α → PyData} : ∀ (l : List α), (∀ x ∈ l, Dp K H (f x) (g x)) → DpAll K H (l.map f) (l.map g)
  | [], _ => .nil
  | x :: l, h => .cons (h x List.mem_cons_self) (dpa_map l fun y hy => h y (List.mem_cons_of_mem _ hy))
theorem dpa_len : ∀ {vs : List V} {ds : List PyData}, DpAll K H vs ds → vs.length = ds.length
  | _, _, .nil => rfl
  | _, _, .cons _ b => congrArg (· + 1) (dpa_len b)
/-- the heap without one address -/
def hide (p : Addr) (H : Hp) : Hp := fun b => if b = p then none else H b
theorem hide_same {p : Addr} : Same (hide p H) H := fun b o h => by
  unfold hide at h
  split at h
  · cases h
  · exact h
theorem hide_get {p b : Addr} {o : HO} (h : H b = some o) (n : b ≠ p) : hide p H b = some o := by unfold hide; rw [if_neg n]; exact h
theorem hide_mono {p : Addr} (s : Same H H') : Same (hide p H) (hide p H') := fun b o h => by
  unfold hide at h
  split at h
  · cases h
  · rename_i n; exact hide_get (s b o h) n
theorem hide_upd {p : Addr} {o : HO} : hide p (upd H p o) = hide p H := by
  funext b
  unfold hide upd
  split <;> rfl
/-- data of depth at most n -/
def okD (n : Nat) (d : PyData) : Prop := d.canLay0 = true ∧ d.depth ≤ n
theorem okD.list {n : Nat} {ds : List PyData} (h : ∀ d ∈ ds, okD n d) : okD (n + 1) (.list ds) := by
  have q : PyData.canLayAll0 ds = true ∧ PyData.depthAll ds ≤ n := by
    induction ds with
    | nil => exact ⟨rfl, Nat.zero_le _⟩
    | cons d ds ih =>
      have h1 := h d List.mem_cons_self
      have h2 := ih fun x hx => h x (List.mem_cons_of_mem _ hx)
      exact ⟨by unfold PyData.canLayAll0; rw [h1.1, h2.1]; rfl, Nat.max_le.mpr ⟨h1.2, h2.2⟩⟩
  exact ⟨by unfold PyData.canLay0; exact q.1, by unfold PyData.depth; exact Nat.succ_le_succ q.2⟩
theorem okD.tuple {n : Nat} {ds : List PyData} (h : ∀ d ∈ ds, okD n d) : okD (n + 1) (.tuple ds) := by
  have q := okD.list h
  exact ⟨by have := q.1; unfold PyData.canLay0 at this ⊢; exact this, by have := q.2; unfold PyData.depth at this ⊢; exact this⟩
theorem okD.int {n : Nat} {i : Int} : okD n (.int i) := ⟨rfl, Nat.zero_le _⟩
theorem okD.bool {n : Nat} {i : Bool} : okD n (.bool i) := ⟨rfl, Nat.zero_le _⟩
theorem okD.str {n : Nat} {z : Str} (h : PyData.strOk z = true) : okD n (.str z) := ⟨by unfold PyData.canLay0; exact h, Nat.zero_le _⟩
theorem okD.shaped {n : Nat} {d : PyData} (h : okD n d) (hn : n ≤ 64) : SeqAt.shaped d = true := by
  unfold SeqAt.shaped
  rw [h.1, decide_eq_true (Nat.le_trans h.2 hn)]; rfl
end

/-! ### comprehensions that make new things -/
/-- xs are related to as, item by item -/
structure Rel2 {α : Type} (Rl : V → α → Prop) (xs : List V) (as : List α) : Prop where
  len : xs.length = as.length
  at_ : ∀ (i : Nat) (x : V) (a : α), xs[i]? = some x → as[i]? = some a → Rl x a
theorem Rel2.nil {α : Type} {Rl : V → α → Prop} : Rel2 Rl [] [] := ⟨rfl, fun i x a h => by simp at h⟩
theorem Rel2.imp {α : Type} {Rl Rl' : V → α → Prop} {xs : List V} {as : List α} (h : Rel2 Rl xs as) (q : ∀ x a, Rl x a → Rl' x a) : Rel2 Rl' xs as := ⟨h.len, fun i x a h1 h2 => q x a (h.at_ i x a h1 h2)⟩
theorem Rel2.snoc {α : Type} {Rl : V → α → Prop} {xs : List V} {as : List α} {y : V} {b : α} (h : Rel2 Rl xs as) (hy : Rl y b) : Rel2 Rl (xs ++ [y]) (as ++ [b]) := by
  refine ⟨by simp [h.len], fun i x a h1 h2 => ?_⟩
  have hl := h.len
  by_cases c : i < xs.length
  · rw [List.getElem?_append_left c] at h1
    rw [List.getElem?_append_left (by omega)] at h2
    exact h.at_ i x a h1 h2
  · rw [List.getElem?_append_right (by omega)] at h1
    rw [List.getElem?_append_right (by omega)] at h2
    by_cases e : i = xs.length
    · subst e
      rw [show xs.length - xs.length = 0 by omega] at h1
      rw [show xs.length - as.length = 0 by omega] at h2
      simp at h1 h2
      subst h1; subst h2
      exact hy
    · rw [List.getElem?_eq_none (by simp; omega)] at h1
      cases h1
theorem Rel2.dpa {K : PySem.W.Frag} {H : Hp} : ∀ {xs : List V} {ds : List PyData}, Rel2 (Dp K H) xs ds → DpAll K H xs ds
  | [], [], _ => .nil
  | [], _ :: _, h => absurd h.len (by simp)
  | _ :: _, [], h => absurd h.len (by simp)
  | x :: xs, d :: ds, h => .cons (h.at_ 0 x d rfl rfl) (Rel2.dpa ⟨by have := h.len; simpa using this, fun i y e h1 h2 => h.at_ (i + 1) y e (by simpa using h1) (by simpa using h2)⟩)
theorem lc_rel {α : Type} {Rl : Hp → V → α → Prop} (mono : ∀ H H' y a, Same H H' → Rl H y a → Rl H' y a) {J : It} {g : TG} {tt : TT} {te : TE} {vs : List Nat} {σ : L2.St} {H1 : Hp} {Q : VK} {n : Nat} {R : Nat → V → Hp → Prop} (S : Goes J H1 n R) (sel : Nat → Option α) (hn : n < sizeLine)
    (turn : ∀ i x H D, i < n → Same H1 H → R i x H → H1 D = none → (∃ acc, H D = some (.lst acc)) → ∃ σ2, wipe σ2 vs = wipe σ vs ∧ (∀ R' : L2.St → Hp → Prop, R' σ2 H → g x (wipe σ vs) H R') ∧ (match sel i with
      | some d => Evt tt σ2 H true ∧ ∀ H3, Same H H3 → ∀ Q' : VK, (∀ y H4, Same H3 H4 → Rl (hide D H4) y d → Q' y H4) → te σ2 H3 Q'
      | none => Evt tt σ2 H false))
    (hq : ∀ D H' xs, H1 D = none → Same H1 H' → H' D = some (.lst xs) → Rel2 (Rl (hide D H')) xs ((List.range n).filterMap sel) → Q (.ref D) H') : LcB J g tt te vs σ H1 Q := by
  intro D hD
  refine ⟨fun i m H => m = n - i ∧ i ≤ n ∧ Same H1 H ∧ ∃ xs, H D = some (.lst xs) ∧ Rel2 (Rl (hide D H)) xs ((List.range i).filterMap sel), ⟨n, by simp, Nat.zero_le _, Same.new hD, [], upd_same, Rel2.nil⟩, ?_⟩
  rintro i m H ⟨rfl, hi, sm, xs, hl, rl⟩
  by_cases hlt : i < n
  · refine .inr ⟨S.go i H hlt sm, fun H' => Same H1 H' ∧ ∃ xs, H' D = some (.lst xs) ∧ Rel2 (Rl (hide D H')) xs ((List.range (i + 1)).filterMap sel), fun H' h => ⟨n - (i + 1), by omega, rfl, hlt, h⟩, fun x H' y => ?_⟩
    obtain ⟨s1, r⟩ := S.yld i H x H' hlt sm y
    have hl1 := s1 _ _ hl
    obtain ⟨σ2, e2, hg, ht⟩ := turn i x H' D hlt (sm.trans s1) r hD ⟨xs, hl1⟩
    refine hg _ ⟨e2, ?_⟩
    cases e : sel i with
    | some d =>
      rw [e] at ht
      refine ht.1 _ fun H2 s2 => ?_
      rw [if_pos rfl]
      refine ht.2 H2 s2 _ fun y H3 s3 ry => ⟨xs, s3 _ _ (s2 _ _ hl1), ?_, ((sm.trans s1).trans (s2.trans s3)).mut hD, xs ++ [y], upd_same, ?_⟩
      · have h1 := List.length_filterMap_le sel (List.range i)
        rw [List.length_range] at h1
        have := rl.len
        omega
      · rw [hide_upd, List.range_succ, List.filterMap_append]
        have q := (rl.imp fun z a hz => mono _ _ z a (hide_mono (s1.trans (s2.trans s3))) hz).snoc ry
        simpa [e] using q
    | none =>
      rw [e] at ht
      refine ht _ fun H2 s2 => ?_
      rw [if_neg Bool.false_ne_true]
      refine ⟨(sm.trans s1).trans s2, xs, s2 _ _ hl1, ?_⟩
      rw [List.range_succ, List.filterMap_append]
      have q := rl.imp fun z a hz => mono _ _ z a (hide_mono (s1.trans s2)) hz
      simpa [e] using q
  · obtain rfl : i = n := by omega
    exact .inl ⟨S.stop H sm, hq D H xs hD sm hl rl⟩
theorem seqU {t u : TS} {D : Ends} {σ : L2.St} {H : Hp} (h : ∀ U, U = u D → t { D with nx := U } σ H) : tSeq t u D σ H := h _ rfl
theorem kit_mk {K : PySem.W.Frag} {C D : Addr} {b : Bool} (hc : PySem.W.isClsIn K D = true) (ht : PySem.W.typeIn K (.ref D) = some (.type "type")) (hs : PySem.W.subIn K (.ref C) (.ref D) = some b) (hself : PySem.W.subIn K (.ref D) (.ref D) = some true) : PySem.W.kitOne K (.ref C) (.ref D) = some b := by
  unfold PySem.W.kitOne
  split
  · rename_i e
    have e2 : Value.ref C = Value.ref D := by simpa using e
    rw [e2, hself] at hs
    exact hs
  · have hc' : (PySem.W.clsIn K D).isSome = true := hc
    show (if ((PySem.W.clsIn K D).isSome && PySem.W.typeIn K (.ref D) == some (.type "type")) = true then PySem.W.subIn K (.ref C) (.ref D) else none) = some b
    rw [hc', ht]
    exact hs
end U
/-! data that may be shown -/
namespace U
open PySem PySem.Spec PyProof.Rows L2
/-- data of depth at most n and weight at most k that may be shown -/
structure okR (n k : Nat) (d : PyData) : Prop where
  lay : d.canLay0 = true
  dep : d.depth ≤ n
  wgt : d.weight ≤ k
  sh : d.showable = true
  ls : d.leavesShort 13 = true
theorem okR.okD {n k : Nat} {d : PyData} (h : okR n k d) : okD n d := ⟨h.lay, h.dep⟩
theorem okR.mono {n k n' k' : Nat} {d : PyData} (h : okR n k d) (h1 : n ≤ n') (h2 : k ≤ k') : okR n' k' d := ⟨h.lay, Nat.le_trans h.dep h1, Nat.le_trans h.wgt h2, h.sh, h.ls⟩
theorem okR.repr {n k : Nat} {d : PyData} (h : okR n k d) (hn : n ≤ 60) (hk : k ≤ 1000000) : d.showable = true ∧ d.hasDict = false ∧ d.depth ≤ 60 ∧ d.shown.length ≤ sizeLine :=
  ⟨h.sh, PyData.hasDict_of_canLay d h.lay, Nat.le_trans h.dep hn, PyData.shown_fits (B := 13) (by decide) (by decide) h.ls (Nat.le_trans h.wgt (Nat.le_trans hk (by decide)))⟩
theorem okR.str {n : Nat} {z : Str} (h : PyData.strOk z = true) : okR n z.cps.size (.str z) := by
  refine ⟨by unfold PyData.canLay0; exact h, Nat.zero_le _, Nat.le_refl _, rfl, ?_⟩
  exact PyData.leavesShort_of_canLay0 13 _ (by unfold PyData.canLay0; exact h) rfl
theorem okR.bool {n : Nat} {b : Bool} : okR n 0 (.bool b) := ⟨rfl, Nat.zero_le _, Nat.le_refl _, rfl, rfl⟩
theorem okR.non {n : Nat} : okR n 0 .none := ⟨rfl, Nat.zero_le _, Nat.le_refl _, rfl, rfl⟩
theorem okR_all {n k : Nat} : ∀ {ds : List PyData}, (∀ d ∈ ds, okR n k d) → PyData.canLayAll0 ds = true ∧ PyData.depthAll ds ≤ n ∧ PyData.weightAll ds ≤ (k + 1) * ds.length ∧ PyData.showableAll ds = true ∧ PyData.leavesShortAll 13 ds = true
  | [], _ => ⟨rfl, Nat.zero_le _, Nat.zero_le _, rfl, rfl⟩
  | d :: ds, h => by
    have h1 := h d List.mem_cons_self
    obtain ⟨a, b, c, e, f⟩ := okR_all fun x hx => h x (List.mem_cons_of_mem _ hx)
    refine ⟨by unfold PyData.canLayAll0; rw [h1.lay, a]; rfl, Nat.max_le.mpr ⟨h1.dep, b⟩, ?_, by unfold PyData.showableAll; rw [h1.sh, e]; rfl, by unfold PyData.leavesShortAll; rw [h1.ls, f]; rfl⟩
    have := h1.wgt
    show d.weight + 1 + PyData.weightAll ds ≤ (k + 1) * (ds.length + 1)
    rw [Nat.mul_add, Nat.mul_one]
    omega
theorem okR.list {n k : Nat} {ds : List PyData} (h : ∀ d ∈ ds, okR n k d) : okR (n + 1) ((k + 1) * ds.length) (.list ds) := by
  obtain ⟨a, b, c, e, f⟩ := okR_all h
  exact ⟨by unfold PyData.canLay0; exact a, by unfold PyData.depth; exact Nat.succ_le_succ b, c, e, f⟩
theorem okR.tuple {n k : Nat} {ds : List PyData} (h : ∀ d ∈ ds, okR n k d) : okR (n + 1) ((k + 1) * ds.length) (.tuple ds) := by
  obtain ⟨a, b, c, e, f⟩ := okR_all h
  exact ⟨by unfold PyData.canLay0; exact a, by unfold PyData.depth; exact Nat.succ_le_succ b, c, e, f⟩
theorem okR.int {n : Nat} {i : Int} (h : i.natAbs < 1024) : okR n 10 (.int i) := by
  have lg : i.natAbs ≠ 0 → i.natAbs.log2 < 10 := fun h0 => (Nat.log2_lt h0).mpr h
  refine ⟨rfl, Nat.zero_le _, ?_, ?_, ?_⟩
  · show (if i == 0 then 0 else i.natAbs.log2 + 1) ≤ 10
    split
    · omega
    · rename_i z
      have : i ≠ 0 := by simpa using z
      have := lg (by omega)
      omega
  · show decide (i.natAbs.log2 < 1920) = true
    by_cases z : i.natAbs = 0
    · rw [z]; decide
    · have := lg z; exact decide_eq_true (by omega)
  · show decide ((PyData.shown (.int i)).length ≤ 13) = true
    have e : ∀ k : Nat, k < 1024 → (PyData.shown (.int (k : Int))).length ≤ 13 ∧ (PyData.shown (.int (-(k : Int)))).length ≤ 13 := by decide +kernel
    have := e i.natAbs h
    rcases Int.natAbs_eq i with z | z
    · rw [z]; exact decide_eq_true this.1
    · rw [z]; exact decide_eq_true this.2
end U
/-! super().m() in a method -/
namespace U
open PySem PySem.Spec PyProof.Rows L2
open NdefX (NScope envF ncx startF CellsAt inv_startN NF)
/-- an expression read at its activation -/
structure PEt (X : Cx) (bd : List Stmt) (e : Expr) (t : TE) : Prop where
  run : ∀ (pins : List (Addr × Obj)) (s : Shared) (σ : L2.St) (H : Hp) (Q : VK), Inv X pins σ H s → t σ H Q → PySem.wpAt (model X.prog X.w) X.A (.func bd X.env) (eval e X.env) (EP X pins σ Q) X.xe s
/-- super().m(), the class of the def being D -/
def tSup (P : Program) (w : World) (K : PySem.W.Frag) (mg : Str → Option Value) (base : Heap) (D : Addr) (m : Str) (k : Nat) (E : XK) : TE := fun σ H Q => ∃ (a C dx : Addr) (fs : List (Str × V)) (f2 : Addr) (fd2 : FuncData) (sp : Sp),
  σ[0]? = some (some (.ref a)) ∧ H a = some (.ins C dx fs) ∧ PySem.W.mroIn K C (.ref D) = some true ∧ PySem.W.ks_superIn K C D m = some (some (.ref f2)) ∧ PySem.W.typeIn K (.ref f2) = some (.type "function") ∧ PySem.W.fnIn K f2 = true ∧
  FnOk P w K mg base (L2.CX P w) k f2 fd2 ["self"] sp ∧ Binds K fd2 ["self"] [] ∧ sp [.ref a] H Q E
section
variable {X : Cx} {bd : List Stmt} {k : Nat} {E : XK}
theorem pet_super {p0 p1 apos pos : Pos} {m : Str} {pl : Sem Bool} {f cda cc D : Addr} {fd : FuncData} {ar : Arg} {vs : Array Value} {file : Str} {tf : Tok} {oc ccl cl : Value} {od cdd cld : Option Addr} {osl ccs csl : Array (Option Value)} {cdD : ClassData}
    (hfu : X.env.func = some f) (hco : X.env.code = .ref cda) (hcl : X.env.cells.lookup ("__class__" : Str) = some cc) (hf : X.K.lookup f = some ⟨oc, od, .func fd, osl⟩) (hp : (fd.params.posonlyargs ++ fd.params.args).head? = some ar)
    (hN : X.N[0]? = some ar.arg) (hka : X.env.scope.names.lookup ar.arg = some .local) (hcode : X.K.lookup cda = some ⟨ccl, cdd, .fields vs, ccs⟩) (hvs : vs[2]? = some (.str file tf)) (hfile : ((X.prog.main.file : Str) == file) = true)
    (hcell : X.K.lookup cc = some ⟨cl, cld, .cell (some (.ref D)), csl⟩) (hD : PySem.W.clsIn X.K D = some cdD) (hsup : X.mg "super" = none) (hks : X.env.scope.names.lookup ("super" : Str) = some .globalImplicit) (hkc : X.env.scope.names.lookup ("__class__" : Str) = some .free)
    (htop : (X.prog.main.scope.names.lookup ("super" : Str)).isSome = false) (hat : (m == ("__class__" : Str)) = false) (ho : PySem.W.nsIn X.K cStatics "thirdparty.any" = some none) (hx : Passes (L2.CX X.prog X.w) X E) (hr : Room k X.A)
    (he : eval (.Call (.Attribute (.Call (.Name "super" p0) [] [] p1) m apos) [] [] pos) X.env = (do
      let ov ← attributeBase (.Call (.Name "super" p0) [] [] p1) m X.env (eval (.Call (.Name "super" p0) [] [] p1) X.env)
      standAt apos.atName
      let (f, first) ← holding [ov] (getMethod ov m pl)
      callWith pos f first (backTo pos (starEach [] X.env)) []) := by rfl) :
    PEt X bd (.Call (.Attribute (.Call (.Name "super" p0) [] [] p1) m apos) [] [] pos) (tSup X.prog X.w X.K X.mg X.base D m k E) := by
  refine ⟨fun pins s σ H Q I h => ?_⟩
  obtain ⟨a, C, dx, fs, f2, fd2, sp, e0, ea, hsub, hm, ht, hfn, F, hb, q⟩ := h
  have kin := I.kIn
  obtain ⟨mA, O, r, _, _, _⟩ := ins_get I.hok ea
  obtain ⟨oD, hD1, hD2⟩ : ∃ oD, s.heap.get? D = some oD ∧ oD.data = .cls cdD := by
    unfold PySem.W.clsIn at hD
    split at hD
    · rename_i c d cd' sl ho
      cases hD
      exact ⟨_, kin _ _ ho, rfl⟩
    · cases hD
  obtain ⟨oda, IA, _⟩ := O.look
  refine ks_wpAt_MethodCall (pl := pl) ?_ he
  refine ks_wpAt_super_base hks hkc hat hfu (kin _ _ hf) rfl hp hco (kin _ _ hcode) rfl hvs hfile htop ?_
  obtain ⟨mb, h1, h2⟩ := I.mod.blt
  refine PySem.W.ks_loadName_global I.ok.kind hks (Calls.loadGlobal_builtin (by rw [I.ok.glob]; exact I.mod.glob.keeps I.bk) hsup (by rw [I.ok.blt]; exact h1.keeps I.bk) ((h2 _ (by decide)).trans (by decide +kernel : bootBuiltins "super" = some (.type "super"))) ⟨rfl, ?_⟩)
  refine wpAny_loadName_free I.ok.kind hkc hcl ⟨_, kin _ _ hcell, rfl⟩ ?_
  obtain ⟨ml, hn, hl⟩ := I.loc
  obtain ⟨u, ru, l⟩ := hl 0 _ _ hN e0 (.inl hka)
  obtain rfl : u = Value.ref a := ru
  have ml1 : ml ar.arg = some (.ref a) := by
    rcases l with ⟨_, hm'⟩ | ⟨hk, _⟩
    · exact hm'
    · have hka' : X.env.kindOf ar.arg = some .local := hka
      rw [hka'] at hk; rcases hk with hk | hk <;> cases hk
  refine wpAny_loadName_local I.ok.kind hka hn ml1 ?_
  refine ks_wpAny_isType_cls hD1 hD2 ⟨rfl, ?_⟩
  refine ks_wpAny_call_super (h := s.heap) (g := s.gens) (d := s.drawn) (t := s.toks) (os := s.os) hD1 hD2 IA.at_ IA.cls (fun c e => ?_) (PySem.W.looks_mroIn kin hsub) (fun h' e kp => ?_)
  · have := IA.no
    unfold PySem.W.notCls at this
    rw [e] at this
    exact Bool.noConfusion this
  have I1 : Inv X pins σ H { s with heap := h', toks := s.toks } := I.kept kp
  have kin1 : X.K.In h' := I1.kIn
  cases hc : PySem.W.clsIn X.K C with
  | none => unfold PySem.W.ks_superIn at hm; rw [hc] at hm; cases hm
  | some cd =>
    unfold PySem.W.ks_superIn at hm
    rw [hc] at hm
    obtain ⟨of, hof, hofc⟩ : ∃ of, h'.get? f2 = some of ∧ of.cls = .type "function" := by
      have ht' : (X.K.lookup f2).map (·.cls) = some (.type "function") := ht
      cases z : X.K.lookup f2 with
      | none => rw [z] at ht'; cases ht'
      | some of => rw [z] at ht'; exact ⟨of, kin1 _ _ z, Option.some.inj ht'⟩
    have xC : a ≠ C := PySem.W.ks_ne kin IA hc
    refine ks_wpAny_getMethod_super e (PySem.W.looks_opaque kin1 ho) (l₀ := cd.mro) ?_ rfl kin1 hm hof hofc xC hat ?_
    · exact fun A Q E s k q => wpAny_bind ((PySem.W.looks_clsIn kin1 hc) A _ E s k (wpAny_pure q))
    have I2 : Inv X pins σ H { s with heap := h'.push (PySem.W.methodObj (.ref f2) (.ref a)), toks := s.toks + 1 } := I.kept fun b o z => Heap.get?_push_of_some _ (kp b o z)
    have hb2 : (h'.push (PySem.W.methodObj (.ref f2) (.ref a))).get? h'.objs.size = some (PySem.W.methodObj (.ref f2) (.ref a)) := Heap.get?_push_at rfl rfl
    refine PySem.W.callWith_M0 (K := X.K) (g := f2) (self := .ref a) ⟨hb2, I2.kIn⟩ hfn ?_
    refine wpAny_call (ks_codeAny_call_bound hb2 ?_)
    have bi := hb { s with heap := h'.push (PySem.W.methodObj (.ref f2) (.ref a)), toks := s.toks + 1 } [.ref a] I2.kIn rfl
    refine codeAny_mono (F.run X.A X.stack _ H ⟨[.ref a], []⟩ [.ref a] [.ref a] Q E hr I2.env0 bi (.cons rfl .nil) q) fun r t z => ?_
    have y := back_of I2 (fun p H s e s' I h => hx p _ H s e s' I h) z
    clear z
    match r, y with
    | .error _, y => exact y
    | .ok (.ret _), y => exact y
theorem pet_of {e : Expr} {te : TE} (h : PE X e te) : PEt X bd e te := ⟨fun pins s σ H Q I q => wpAt_of_wpAny (h.run pins s σ H Q I q)⟩
theorem pet_op {op : Operator} {r : R2} {a b : Expr} {ta tb : TE} {pos : Pos} (ho : OpR X (binaryOp op) r) (ha : PE X a ta) (hb : PEt X bd b tb) : PEt X bd (.BinOp a op b pos) (tOp r ta tb) := by
  refine ⟨fun pins s σ H Q I h => ?_⟩
  refine ks_wpAt_BinOp2 (wpAt_of_wpAny (thn (ha.run pins s σ H _ I h) fun v s1 ⟨x, H1, I1, r1, q1⟩ => ?_))
  exact ks_wpAt_mono (hb.run pins s1 σ H1 _ I1 q1) (fun u s2 ⟨y, H2, I2, r2, q2⟩ => ho pins s2 σ H2 x y v u Q I2 r1 r2 q2) fun _ _ z => z
end
section
variable {P : Program} {w : World} {K : PySem.W.Frag} {mg : Str → Option Value} {base : Heap}
/-- a method that returns one expression, with super() in it -/
theorem fnok_sup {k : Nat} {f c cc D : Addr} {nm ql : Str} {pr : Arguments} {e : Expr} {rp : Pos} {sc : Scope} {dV kV doc pm ct oc cl : Value} {an od cld : Option Addr} {osl csl : Array (Option Value)} {N ps : List Str} {sp : Sp}
    (at_ : K.lookup f = some ⟨oc, od, .func (PySem.W.fnX nm ql pr [.Return (some e) rp] sc [("__class__", cc)] dV kV doc pm an (.ref c) ct), osl⟩) (cd : PySem.W.codeIn K (.ref c) ql = true) (S : NScope N ps ["__class__"] sc)
    (cell : K.lookup cc = some ⟨cl, cld, .cell (some (.ref D)), csl⟩) (ln : ∀ vs H Q E, sp vs H Q E → vs.length = ps.length)
    (body : ∀ (B : Around) (outs : List Env) (t : Shared) (H : Hp) (vs : List V) (Q : VK) (E : XK), Room k (B.deeper (envF ⟨nm, ql, pr, [.Return (some e) rp], sc, [("__class__", cc)], c⟩ f t.heap.objs.size)) → sp vs H Q E →
      ∃ te, PEt (ncx (L2.CX P w) P w K mg base N ⟨nm, ql, pr, [.Return (some e) rp], sc, [("__class__", cc)], c⟩ f B outs t H E) [.Return (some e) rp] e te ∧ te (startF N vs [some (.ref D)]) H Q) :
    FnOk P w K mg base (L2.CX P w) (k + 1) f (PySem.W.fnX nm ql pr [.Return (some e) rp] sc [("__class__", cc)] dV kV doc pm an (.ref c) ct) ps sp where
  len := ln
  run := fun B outs t H gv us vs Q E rm e0 bi rv want => by
    have kin : K.In t.heap := e0.mod.kin.keeps fun b o z => (e0.bs b o z).1
    have unl : t.heap.NoLimit := e0.mod.nolimit.keeps fun b o z => (e0.bs b o z).1
    refine codeAny_call_function rm.depth (kin _ _ at_) rfl S.co S.gen rfl (PySem.W.codeRec_of kin cd) (bi _ _ _ _ (wpAny_newFunctionEnv S.nocell (fun ⟨n, _⟩ hy => S.par n (List.of_mem_zip hy).1) (fun h₁ hns hsb => ⟨unl.fresh _ hsb, ?_⟩) S.kind))
    show codeAny _ _ (.func [.Return (some e) rp] (envF ⟨nm, ql, pr, [.Return (some e) rp], sc, [("__class__", cc)], c⟩ f t.heap.objs.size)) _ _
    refine ks_codeAny_funcAt ?_
    have kp : ∀ b o, t.heap.get? b = some o → h₁.get? b = some o := fun b o e => hsb.extBut b o (Nat.ne_of_lt (Heap.lt_size e)) (Heap.get?_push_of_some _ e)
    obtain ⟨te, ht, hq⟩ := body B outs t H vs Q E (rm.deeper _) want
    have one : ∀ (y : Str) (d : Addr), ([(("__class__" : Str), cc)] : List (Str × Addr)).lookup y = some d → y = "__class__" ∧ d = cc := fun y d h => by
      have := PySem.mem_of_lookup h
      simp at this
      exact this
    have C : CellsAt [(("__class__" : Str), cc)] ["__class__"] [some (.ref D)] t.heap H := by
      refine ⟨rfl, fun y d h => ?_, fun x y d h1 h2 => (one x d h1).1.trans (one y d h2).1.symm, fun i y h => ?_⟩
      · obtain ⟨_, rfl⟩ := one y d h
        have z := e0.mod.kin _ _ cell
        exact ⟨(e0.bs _ _ z).2, _, _, (e0.bs _ _ z).1, rfl⟩
      · cases i with
        | zero =>
          simp at h; subst h
          have z := e0.mod.kin _ _ cell
          exact ⟨cc, by simp [List.lookup], fun v hv => by simp at hv; subst hv; exact ⟨.ref D, rfl, _, (e0.bs _ _ z).1, rfl⟩⟩
        | succ i => simp at h
    have I := inv_startN (CX := L2.CX P w) (f := f) (E := E) (F := ⟨nm, ql, pr, [.Return (some e) rp], sc, [("__class__", cc)], c⟩) (tk := t.toks + (ps.zip us).length) S rm.hd e0 (ln _ _ _ _ want) rv C hns kp
    refine ks_wpAt_execs_cons (ks_wpAt_Return_some (ks_wpAt_mono (ht.run [] _ _ H Q I hq) (fun u s' z => ?_) fun _ _ z => z))
    obtain ⟨v, G, J, ru, q⟩ := z
    exact ⟨v, G, J.os, J.bare, J.base, J.hok, ru, q⟩
end
end U
/-! trees: values without addresses; what a heap says of them -/
namespace Z
open PySem PySem.Spec PyProof.Rows L2 U
/-- a value as a tree; loc n: the n-th thing of the store; cl, obj: classes by number -/
inductive D where
  | non | bl (b : Bool) | int (i : Int) | str (z : Str) | ty (n : String) | cl (c : Nat) | loc (n : Nat)
  | list (ds : List D) | scr (ds : List D) | tup (ds : List D) | dict (kvs : List (Key × D)) | obj (c : Nat) (fs : List (Str × D)) | exc (c : Nat) (fs : List (Str × D))
/-- what is given: the module's things, the classes' addresses -/
structure Cz where
  K : PySem.W.Frag
  cad : Nat → Addr
mutual
inductive Tr (c : Cz) (ρ : List Addr) (F : Hp) : V → D → Prop
  | non : Tr c ρ F .non .non
  | bl (b : Bool) : Tr c ρ F (.bl b) (.bl b)
  | int (i : Int) : Tr c ρ F (.int i) (.int i)
  | str (z : Str) : Tr c ρ F (.str z) (.str z)
  | ty (n : String) : Tr c ρ F (.ty n) (.ty n)
  | cl (k : Nat) : Tr c ρ F (.ref (c.cad k)) (.cl k)
  | loc {n : Nat} {a : Addr} (h : ρ[n]? = some a) : Tr c ρ F (.ref a) (.loc n)
  | list {a : Addr} {vs : List V} {ds : List D} (h : F a = some (.lst vs)) (r : TrAll c ρ F vs ds) : Tr c ρ F (.ref a) (.list ds)
  | scr {a : Addr} {vs : List V} {ds : List D} (h : SqL c.K F a vs) (r : TrAll c ρ F vs ds) : Tr c ρ F (.ref a) (.scr ds)
  | tup {a : Addr} {vs : List V} {ds : List D} (h : SqT c.K F a vs) (r : TrAll c ρ F vs ds) : Tr c ρ F (.ref a) (.tup ds)
  | dict {a : Addr} {kvs : List (Key × V)} {ds : List (Key × D)} (h : Rd F a (.dK kvs)) (r : TrK c ρ F kvs ds) : Tr c ρ F (.ref a) (.dict ds)
  | obj {a dx : Addr} {k : Nat} {fs : List (Str × V)} {ds : List (Str × D)} (h : F a = some (.ins (c.cad k) dx fs)) (r : TrF c ρ F fs ds) : Tr c ρ F (.ref a) (.obj k ds)
  | exc0 {a : Addr} {k : Nat} (h : F a = some (exV (.ref (c.cad k)) none a)) : Tr c ρ F (.ref a) (.exc k [])
  | exc1 {a dd : Addr} {k : Nat} {fs : List (Str × V)} {ds : List (Str × D)} (h : F a = some (exV (.ref (c.cad k)) (some dd) a)) (hd : F dd = some (.xd fs)) (r : TrF c ρ F fs ds) : Tr c ρ F (.ref a) (.exc k ds)
inductive TrAll (c : Cz) (ρ : List Addr) (F : Hp) : List V → List D → Prop
  | nil : TrAll c ρ F [] []
  | cons {v : V} {d : D} {vs : List V} {ds : List D} (h : Tr c ρ F v d) (r : TrAll c ρ F vs ds) : TrAll c ρ F (v :: vs) (d :: ds)
inductive TrK (c : Cz) (ρ : List Addr) (F : Hp) : List (Key × V) → List (Key × D) → Prop
  | nil : TrK c ρ F [] []
  | cons {k : Key} {v : V} {d : D} {vs : List (Key × V)} {ds : List (Key × D)} (h : Tr c ρ F v d) (r : TrK c ρ F vs ds) : TrK c ρ F ((k, v) :: vs) ((k, d) :: ds)
inductive TrF (c : Cz) (ρ : List Addr) (F : Hp) : List (Str × V) → List (Str × D) → Prop
  | nil : TrF c ρ F [] []
  | cons {k : Str} {v : V} {d : D} {vs : List (Str × V)} {ds : List (Str × D)} (h : Tr c ρ F v d) (r : TrF c ρ F vs ds) : TrF c ρ F ((k, v) :: vs) ((k, d) :: ds)
end
theorem pre_get {α : Type} {l l' : List α} (h : l <+: l') {n : Nat} {a : α} (e : l[n]? = some a) : l'[n]? = some a := by
  obtain ⟨t, rfl⟩ := h
  rw [List.getElem?_append_left (List.getElem?_eq_some_iff.mp e).1]; exact e
theorem _root_.L2.Same.rd {H H' : Hp} {a : Addr} {u : HO} (s : Same H H') (h : Rd H a u) : Rd H' a u := by
  rcases h with h | ⟨o, h⟩
  · exact .inl (s _ _ h)
  · exact .inr ⟨o, s _ _ h⟩
section
variable {c : Cz} {ρ ρ' : List Addr} {F F' : Hp}
theorem tr_mono (hρ : ρ <+: ρ') (s : Same F F') : (∀ v d, Tr c ρ F v d → Tr c ρ' F' v d) ∧ (∀ vs ds, TrAll c ρ F vs ds → TrAll c ρ' F' vs ds) ∧ (∀ vs ds, TrK c ρ F vs ds → TrK c ρ' F' vs ds) ∧ (∀ vs ds, TrF c ρ F vs ds → TrF c ρ' F' vs ds) := by
  refine ⟨fun v d h => ?_, fun v d h => ?_, fun v d h => ?_, fun v d h => ?_⟩
  · exact Tr.rec (motive_1 := fun v d _ => Tr c ρ' F' v d) (motive_2 := fun v d _ => TrAll c ρ' F' v d) (motive_3 := fun v d _ => TrK c ρ' F' v d) (motive_4 := fun v d _ => TrF c ρ' F' v d) .non .bl .int .str .ty .cl (fun h => .loc (pre_get hρ h)) (fun h _ r => .list (s _ _ h) r) (fun h _ r => .scr (s.seq h) r) (fun h _ r => .tup (s.tup h) r) (fun h _ r => .dict (s.rd h) r) (fun h _ r => .obj (s _ _ h) r) (fun h => .exc0 (s _ _ h)) (fun h hd _ r => .exc1 (s _ _ h) (s _ _ hd) r) .nil (fun _ _ h r => .cons h r) .nil (fun _ _ h r => .cons h r) .nil (fun _ _ h r => .cons h r) h
  · exact TrAll.rec (motive_1 := fun v d _ => Tr c ρ' F' v d) (motive_2 := fun v d _ => TrAll c ρ' F' v d) (motive_3 := fun v d _ => TrK c ρ' F' v d) (motive_4 := fun v d _ => TrF c ρ' F' v d) .non .bl .int .str .ty .cl (fun h => .loc (pre_get hρ h)) (fun h _ r => .list (s _ _ h) r) (fun h _ r => .scr (s.seq h) r) (fun h _ r => .tup (s.tup h) r) (fun h _ r => .dict (s.rd h) r) (fun h _ r => .obj (s _ _ h) r) (fun h => .exc0 (s _ _ h)) (fun h hd _ r => .exc1 (s _ _ h) (s _ _ hd) r) .nil (fun _ _ h r => .cons h r) .nil (fun _ _ h r => .cons h r) .nil (fun _ _ h r => .cons h r) h
  · exact TrK.rec (motive_1 := fun v d _ => Tr c ρ' F' v d) (motive_2 := fun v d _ => TrAll c ρ' F' v d) (motive_3 := fun v d _ => TrK c ρ' F' v d) (motive_4 := fun v d _ => TrF c ρ' F' v d) .non .bl .int .str .ty .cl (fun h => .loc (pre_get hρ h)) (fun h _ r => .list (s _ _ h) r) (fun h _ r => .scr (s.seq h) r) (fun h _ r => .tup (s.tup h) r) (fun h _ r => .dict (s.rd h) r) (fun h _ r => .obj (s _ _ h) r) (fun h => .exc0 (s _ _ h)) (fun h hd _ r => .exc1 (s _ _ h) (s _ _ hd) r) .nil (fun _ _ h r => .cons h r) .nil (fun _ _ h r => .cons h r) .nil (fun _ _ h r => .cons h r) h
  · exact TrF.rec (motive_1 := fun v d _ => Tr c ρ' F' v d) (motive_2 := fun v d _ => TrAll c ρ' F' v d) (motive_3 := fun v d _ => TrK c ρ' F' v d) (motive_4 := fun v d _ => TrF c ρ' F' v d) .non .bl .int .str .ty .cl (fun h => .loc (pre_get hρ h)) (fun h _ r => .list (s _ _ h) r) (fun h _ r => .scr (s.seq h) r) (fun h _ r => .tup (s.tup h) r) (fun h _ r => .dict (s.rd h) r) (fun h _ r => .obj (s _ _ h) r) (fun h => .exc0 (s _ _ h)) (fun h hd _ r => .exc1 (s _ _ h) (s _ _ hd) r) .nil (fun _ _ h r => .cons h r) .nil (fun _ _ h r => .cons h r) .nil (fun _ _ h r => .cons h r) h
theorem Tr.mono {v : V} {d : D} (h : Tr c ρ F v d) (hρ : ρ <+: ρ') (s : Same F F') : Tr c ρ' F' v d := (tr_mono hρ s).1 v d h
theorem TrAll.mono {v : List V} {d : List D} (h : TrAll c ρ F v d) (hρ : ρ <+: ρ') (s : Same F F') : TrAll c ρ' F' v d := (tr_mono hρ s).2.1 v d h
theorem TrK.mono {v : List (Key × V)} {d : List (Key × D)} (h : TrK c ρ F v d) (hρ : ρ <+: ρ') (s : Same F F') : TrK c ρ' F' v d := (tr_mono hρ s).2.2.1 v d h
theorem TrF.mono {v : List (Str × V)} {d : List (Str × D)} (h : TrF c ρ F v d) (hρ : ρ <+: ρ') (s : Same F F') : TrF c ρ' F' v d := (tr_mono hρ s).2.2.2 v d h
/-- what one thing says -/
inductive CellO (c : Cz) (ρ : List Addr) (F : Hp) : HO → D → Prop
  | list {vs : List V} {ds : List D} (r : TrAll c ρ F vs ds) : CellO c ρ F (.lst vs) (.list ds)
  | tup {vs : List V} {ds : List D} (r : TrAll c ρ F vs ds) : CellO c ρ F (.tup vs) (.tup ds)
  | dict {kvs : List (Key × V)} {ds : List (Key × D)} (r : TrK c ρ F kvs ds) : CellO c ρ F (.dK kvs) (.dict ds)
  | obj {dx : Addr} {k : Nat} {fs : List (Str × V)} {ds : List (Str × D)} (r : TrF c ρ F fs ds) : CellO c ρ F (.ins (c.cad k) dx fs) (.obj k ds)
theorem CellO.mono {o : HO} {d : D} (h : CellO c ρ F o d) (hρ : ρ <+: ρ') (s : Same F F') : CellO c ρ' F' o d := by
  cases h with
  | list r => exact .list (r.mono hρ s)
  | tup r => exact .tup (r.mono hρ s)
  | dict r => exact .dict (r.mono hρ s)
  | obj r => exact .obj (r.mono hρ s)
theorem CellO.tr {o : HO} {d : D} {p : Addr} (h : CellO c ρ F o d) (s : Same F F') (e : F' p = some o) : Tr c ρ F' (.ref p) d := by
  cases h with
  | list r => exact .list e (r.mono (List.prefix_refl _) s)
  | tup r => exact .tup (.inl (.inl e)) (r.mono (List.prefix_refl _) s)
  | dict r => exact .dict (.inl e) (r.mono (List.prefix_refl _) s)
  | obj r => exact .obj e (r.mono (List.prefix_refl _) s)
end
/-- a state: what is frozen (F), whose cells may change (O), the heap (H), the store's cells (ρ) -/
structure Wd where
  F : Hp
  O : Addr → Prop
  H : Hp
  ρ : List Addr
structure Le (w w' : Wd) : Prop where
  fz : Same w.F w'.F
  nf : ∀ b, w'.F b ≠ none → w.F b ≠ none ∨ w.O b ∨ w.H b = none
  fr : ∀ b o, w.H b = some o → ¬ w.O b → w'.H b = some o
  no : ∀ b, w'.O b → w.O b ∨ w.H b = none
  dm : ∀ b, w.H b ≠ none → w'.H b ≠ none
  pr : w.ρ <+: w'.ρ
theorem Le.refl {w : Wd} : Le w w := ⟨Same.refl _, fun _ h => .inl h, fun _ _ h _ => h, fun _ h => .inl h, fun _ h => h, List.prefix_refl _⟩
theorem Le.dm' {w w' : Wd} (h : Le w w') {b : Addr} (e : w'.H b = none) : w.H b = none := by
  cases z : w.H b with
  | none => rfl
  | some o => exact absurd e (h.dm b (by rw [z]; simp))
theorem Le.trans {w w' w'' : Wd} (h : Le w w') (k : Le w' w'') : Le w w'' where
  fz := h.fz.trans k.fz
  nf := fun b z => by
    rcases k.nf b z with z | z | z
    · exact h.nf b z
    · exact .inr (h.no b z)
    · exact .inr (.inr (h.dm' z))
  fr := fun b o e n => k.fr b o (h.fr b o e n) fun z => (h.no b z).elim n fun z => by rw [z] at e; cases e
  no := fun b z => (k.no b z).elim (h.no b) fun z => .inr (h.dm' z)
  dm := fun b z => k.dm b (h.dm b z)
  pr := h.pr.trans k.pr
/-- a variable: shared, or the only one that knows its thing -/
inductive A where | s (d : D) | o (d : D)
/-- what an expression gives: a value that stays, a new thing, the thing of the variable i -/
inductive Rs where | v (d : D) | fr (d : D) | al (i : Nat)
structure S where
  env : List (Option A)
  μ : List D
structure Xn where
  c : Nat
  fs : List (Str × D)
inductive Rz (β : Type) where | ok (b : β) | ex (x : Xn)
abbrev M (β : Type) := S → Option (Rz β × S)
def bnd {β γ : Type} (m : M β) (k : β → M γ) : M γ := fun s => match m s with
  | some (.ok b, s1) => k b s1
  | some (.ex x, s1) => some (.ex x, s1)
  | none => none
def ret {β : Type} (b : β) : M β := fun s => some (.ok b, s)
def opt {β : Type} (o : Option β) : M β := fun s => match o with
  | some b => some (.ok b, s)
  | none => none
def peek (s : S) : Rs → Option D
  | .v (.loc n) => s.μ[n]?
  | .v d => some d
  | .fr d => some d
  | .al i => match s.env[i]? with
    | some (some (.o d)) => some d
    | some (some (.s d)) => some d
    | _ => none
/-- the value stays from here on -/
def stab (r : Rs) : M D := fun s => match r with
  | .v d => some (.ok d, s)
  | .fr d => some (.ok d, s)
  | .al i => match s.env[i]? with
    | some (some (.o d)) => some (.ok d, { s with env := s.env.set i (some (.s d)) })
    | some (some (.s d)) => some (.ok d, s)
    | _ => none
section
variable (c : Cz)
/-- the variable's value -/
def Va (w : Wd) (v : V) : A → Prop
  | .s d => Tr c w.ρ w.F v d
  | .o d => ∃ p o, v = .ref p ∧ w.O p ∧ p ∉ w.ρ ∧ w.H p = some o ∧ CellO c w.ρ w.F o d
structure R (w : Wd) (σ : L2.St) (s : S) : Prop where
  ok : Same w.F w.H
  ow : ∀ b, w.O b → w.F b = none ∧ w.H b ≠ none
  len : w.ρ.length = s.μ.length
  nd : w.ρ.Nodup
  sz : s.env.length = σ.length
  st : ∀ (n : Nat) (p : Addr) (d : D), w.ρ[n]? = some p → s.μ[n]? = some d → w.O p ∧ ∃ o, w.H p = some o ∧ CellO c w.ρ w.F o d
  vr : ∀ (i : Nat) (a : A), s.env[i]? = some (some a) → ∃ v, σ[i]? = some (some v) ∧ Va c w v a
  ne : ∀ (i j : Nat) (p : Addr) (d e : D), s.env[i]? = some (some (.o d)) → s.env[j]? = some (some (.o e)) → σ[i]? = some (some (.ref p)) → σ[j]? = some (some (.ref p)) → i = j
/-- what came: w0 is where it began -/
def Rv (w0 w : Wd) (σ : L2.St) (v : V) : Rs → Prop
  | .v d => Tr c w.ρ w.F v d
  | .fr d => ∃ p o, v = .ref p ∧ w0.H p = none ∧ w.H p = some o ∧ CellO c w.ρ w.F o d ∧ w.F p = none ∧ ¬ w.O p
  | .al i => σ[i]? = some (some v)
/-- an exception's own dict -/
def Xa (w : Wd) (d : Option Addr) (x : Xn) : Prop := (x.fs = [] ∧ d = none) ∨ ∃ a ws, d = some a ∧ w.F a = some (.xd ws) ∧ TrF c w.ρ w.F ws x.fs
/-- a value that is looked at now -/
inductive Pk (w : Wd) : V → D → Prop
  | sc {v : V} {d : D} (h : Tr c w.ρ w.F v d) : Pk w v d
  | cell {p : Addr} {o : HO} {d : D} (e : w.H p = some o) (h : CellO c w.ρ w.F o d) : Pk w (.ref p) d
end
section
variable {c : Cz} {w w' w0 w1 : Wd} {σ : L2.St} {s : S} {v : V} {r : Rs} {d : D}
theorem Rv.base (l : Le w0 w1) (h : Rv c w1 w σ v r) : Rv c w0 w σ v r := by
  cases r with
  | v d => exact h
  | fr d => obtain ⟨p, o, e, n, q⟩ := h; exact ⟨p, o, e, l.dm' n, q⟩
  | al i => exact h
theorem Rv.mono (h : Rv c w0 w σ v r) (l : Le w w') : Rv c w0 w' σ v r := by
  cases r with
  | v d => exact Tr.mono h l.pr l.fz
  | fr d =>
    obtain ⟨p, o, e, n, q, ce, f, no⟩ := h
    refine ⟨p, o, e, n, l.fr p o q no, ce.mono l.pr l.fz, ?_, fun z => (l.no p z).elim no fun z => by rw [z] at q; cases q⟩
    cases z : w'.F p with
    | none => rfl
    | some u =>
      rcases l.nf p (by rw [z]; simp) with y | y | y
      · exact absurd f y
      · exact absurd y no
      · rw [y] at q; cases q
  | al i => exact h
theorem peek_pk (R1 : R c w σ s) (h : Rv c w0 w σ v r) (e : peek s r = some d) : Pk c w v d := by
  cases r with
  | v u =>
    cases u with
    | loc n =>
      cases h with
      | loc hn =>
        obtain ⟨_, o, e1, e2⟩ := R1.st n _ d hn e
        exact .cell e1 e2
    | _ => cases e; exact .sc h
  | fr u =>
    obtain ⟨p, o, rfl, _, q, ce, _⟩ := h
    cases e
    exact .cell q ce
  | al i =>
    unfold peek at e
    simp only at e
    split at e
    · rename_i u hu
      cases e
      obtain ⟨x, hx, p, o, rfl, _, _, q, ce⟩ := R1.vr i _ hu
      rw [h] at hx
      cases hx
      exact .cell q ce
    · rename_i u hu
      cases e
      obtain ⟨x, hx, t⟩ := R1.vr i _ hu
      rw [h] at hx
      cases hx
      exact .sc t
    · cases e
theorem Pk.list {ds : List D} (ok : Same w.F w.H) (h : Pk c w v (.list ds)) : ∃ a vs, v = .ref a ∧ w.H a = some (.lst vs) ∧ TrAll c w.ρ w.F vs ds := by
  cases h with
  | sc h => cases h with | list h r => exact ⟨_, _, rfl, ok _ _ h, r⟩
  | cell e h => cases h with | list r => exact ⟨_, _, rfl, e, r⟩
theorem Pk.scr {ds : List D} (ok : Same w.F w.H) (h : Pk c w v (.scr ds)) : ∃ a vs, v = .ref a ∧ SqL c.K w.H a vs ∧ TrAll c w.ρ w.F vs ds := by
  cases h with
  | sc h => cases h with | scr h r => exact ⟨_, _, rfl, ok.seq h, r⟩
  | cell e h => cases h
theorem Pk.tup {ds : List D} (ok : Same w.F w.H) (h : Pk c w v (.tup ds)) : ∃ a vs, v = .ref a ∧ SqT c.K w.H a vs ∧ TrAll c w.ρ w.F vs ds := by
  cases h with
  | sc h => cases h with | tup h r => exact ⟨_, _, rfl, ok.tup h, r⟩
  | cell e h => cases h with | tup r => exact ⟨_, _, rfl, .inl (.inl e), r⟩
theorem Pk.dict {ds : List (Key × D)} (ok : Same w.F w.H) (h : Pk c w v (.dict ds)) : ∃ a vs, v = .ref a ∧ Rd w.H a (.dK vs) ∧ TrK c w.ρ w.F vs ds := by
  cases h with
  | sc h => cases h with | dict h r => exact ⟨_, _, rfl, ok.rd h, r⟩
  | cell e h => cases h with | dict r => exact ⟨_, _, rfl, .inl e, r⟩
theorem Pk.obj {k : Nat} {ds : List (Str × D)} (ok : Same w.F w.H) (h : Pk c w v (.obj k ds)) : ∃ a dx vs, v = .ref a ∧ w.H a = some (.ins (c.cad k) dx vs) ∧ TrF c w.ρ w.F vs ds := by
  cases h with
  | sc h => cases h with | obj h r => exact ⟨_, _, _, rfl, ok _ _ h, r⟩
  | cell e h => cases h with | obj r => exact ⟨_, _, _, rfl, e, r⟩
theorem Pk.int {i : Int} (h : Pk c w v (.int i)) : v = .int i := by
  cases h with
  | sc h => cases h; rfl
  | cell e h => cases h
theorem Pk.str {i : Str} (h : Pk c w v (.str i)) : v = .str i := by
  cases h with
  | sc h => cases h; rfl
  | cell e h => cases h
theorem Pk.bl {i : Bool} (h : Pk c w v (.bl i)) : v = .bl i := by
  cases h with
  | sc h => cases h; rfl
  | cell e h => cases h
theorem Pk.non (h : Pk c w v .non) : v = .non := by
  cases h with
  | sc h => cases h; rfl
  | cell e h => cases h
theorem Pk.ty {n : String} (h : Pk c w v (.ty n)) : v = .ty n := by
  cases h with
  | sc h => cases h; rfl
  | cell e h => cases h
theorem Pk.cl {n : Nat} (h : Pk c w v (.cl n)) : v = .ref (c.cad n) := by
  cases h with
  | sc h => cases h; rfl
  | cell e h => cases h
/-- the state behind a new thing -/
def Wd.new (w : Wd) (p : Addr) (o : HO) : Wd := ⟨w.F, w.O, upd w.H p o, w.ρ⟩
theorem Va.new {a : A} {p : Addr} {o : HO} (h : Va c w v a) (hp : w.H p = none) : Va c (w.new p o) v a := by
  cases a with
  | s d => exact h
  | o d =>
    obtain ⟨q, u, e, h1, h2, h3, h4⟩ := h
    exact ⟨q, u, e, h1, h2, by show upd w.H p o q = _; rw [upd_ne (ne_of_none h3 hp)]; exact h3, h4⟩
theorem R.new {p : Addr} {o : HO} (R1 : R c w σ s) (hp : w.H p = none) : R c (w.new p o) σ s where
  ok := fun b u e => by show upd w.H p o b = _; rw [upd_ne (ne_of_none (R1.ok _ _ e) hp)]; exact R1.ok _ _ e
  ow := fun b z => ⟨(R1.ow b z).1, by
    show upd w.H p o b ≠ none
    have : b ≠ p := fun e => (R1.ow b z).2 (by rw [e]; exact hp)
    rw [upd_ne this]; exact (R1.ow b z).2⟩
  len := R1.len
  nd := R1.nd
  sz := R1.sz
  st := fun n q d e1 e2 => by
    obtain ⟨h1, u, h2, h3⟩ := R1.st n q d e1 e2
    exact ⟨h1, u, by show upd w.H p o q = _; rw [upd_ne (ne_of_none h2 hp)]; exact h2, h3⟩
  vr := fun i a e => by
    obtain ⟨v, h1, h2⟩ := R1.vr i a e
    exact ⟨v, h1, h2.new hp⟩
  ne := R1.ne
theorem Le.new {p : Addr} {o : HO} (hp : w.H p = none) : Le w (w.new p o) where
  fz := Same.refl _
  nf := fun _ z => .inl z
  fr := fun b u e _ => by show upd w.H p o b = _; rw [upd_ne (ne_of_none e hp)]; exact e
  no := fun _ z => .inl z
  dm := fun b z => by
    show upd w.H p o b ≠ none
    by_cases e : b = p
    · rw [e, upd_same]; simp
    · rw [upd_ne e]; exact z
  pr := List.prefix_refl _
theorem Rv.new {p : Addr} {o : HO} (R1 : R c w σ s) (hp : w.H p = none) (h : CellO c w.ρ w.F o d) : Rv c w (w.new p o) σ (.ref p) (.fr d) := by
  refine ⟨p, o, rfl, hp, upd_same, h, ?_, fun z => (R1.ow p z).2 hp⟩
  cases e : w.F p with
  | none => exact e
  | some u => exact absurd (R1.ok _ _ e) (by rw [hp]; simp)
/-- a new thing that stays -/
def Wd.keep (w : Wd) (p : Addr) (o : HO) : Wd := ⟨upd w.F p o, w.O, w.H, w.ρ⟩
theorem same_keep {p : Addr} {o : HO} (h : w.F p = none) : Same w.F (w.keep p o).F := Same.new h
theorem R.keep {p : Addr} {o : HO} (R1 : R c w σ s) (hp : w.F p = none) (ho : w.H p = some o) (no : ¬ w.O p) : R c (w.keep p o) σ s where
  ok := fun b u e => by
    by_cases z : b = p
    · subst z
      have : upd w.F b o b = some u := e
      rw [upd_same] at this
      cases this
      exact ho
    · have : upd w.F p o b = some u := e
      rw [upd_ne z] at this
      exact R1.ok _ _ this
  ow := fun b z => ⟨by
    show upd w.F p o b = none
    have : b ≠ p := fun e => no (e ▸ z)
    rw [upd_ne this]; exact (R1.ow b z).1, (R1.ow b z).2⟩
  len := R1.len
  nd := R1.nd
  sz := R1.sz
  st := fun n q d e1 e2 => by
    obtain ⟨h1, u, h2, h3⟩ := R1.st n q d e1 e2
    exact ⟨h1, u, h2, h3.mono (List.prefix_refl _) (same_keep hp)⟩
  vr := fun i a e => by
    obtain ⟨v, h1, h2⟩ := R1.vr i a e
    refine ⟨v, h1, ?_⟩
    cases a with
    | s d => exact Tr.mono h2 (List.prefix_refl _) (same_keep hp)
    | o d => obtain ⟨q, u, e, h1, h2, h3, h4⟩ := h2; exact ⟨q, u, e, h1, h2, h3, h4.mono (List.prefix_refl _) (same_keep hp)⟩
  ne := R1.ne
/-- a variable's thing stays from here on -/
def Wd.frz (w : Wd) (p : Addr) (o : HO) : Wd := ⟨upd w.F p o, fun b => w.O b ∧ b ≠ p, w.H, w.ρ⟩
theorem frz_ok {i : Nat} (R1 : R c w σ s) (h : s.env[i]? = some (some (.o d))) (hv : σ[i]? = some (some v)) :
    ∃ w', Le w w' ∧ w'.H = w.H ∧ R c w' σ { s with env := s.env.set i (some (.s d)) } ∧ Tr c w'.ρ w'.F v d := by
  obtain ⟨x, hx, p, o, rfl, hO, hρ, hH, ce⟩ := R1.vr i _ h
  rw [hv] at hx
  cases hx
  have hF := (R1.ow p hO).1
  have sm : Same w.F (w.frz p o).F := Same.new hF
  have tr : Tr c w.ρ (w.frz p o).F (.ref p) d := ce.tr sm upd_same
  refine ⟨w.frz p o, ⟨sm, fun b z => ?_, fun b u e _ => e, fun b z => .inl z.1, fun b z => z, List.prefix_refl _⟩, rfl, ⟨fun b u e => ?_, fun b z => ⟨?_, (R1.ow b z.1).2⟩, R1.len, R1.nd, (List.length_set ..).trans R1.sz, fun n q u e1 e2 => ?_, fun j a e => ?_, fun j k q u z e1 e2 e3 e4 => ?_⟩, tr⟩
  · by_cases e : b = p
    · exact .inr (.inl (e ▸ hO))
    · have : upd w.F p o b ≠ none := z
      rw [upd_ne e] at this
      exact .inl this
  · by_cases z : b = p
    · subst z
      have : upd w.F b o b = some u := e
      rw [upd_same] at this
      cases this
      exact hH
    · have : upd w.F p o b = some u := e
      rw [upd_ne z] at this
      exact R1.ok _ _ this
  · show upd w.F p o b = none
    rw [upd_ne z.2]; exact (R1.ow b z.1).1
  · obtain ⟨h1, u, h2, h3⟩ := R1.st n q u e1 e2
    exact ⟨⟨h1, fun z => hρ (by rw [← z]; exact List.mem_of_getElem? e1)⟩, u, h2, h3.mono (List.prefix_refl _) sm⟩
  · by_cases ij : i = j
    · subst ij
      have hi : i < s.env.length := (List.getElem?_eq_some_iff.mp h).1
      rw [List.getElem?_set_self hi] at e
      cases e
      exact ⟨_, hv, tr⟩
    · rw [List.getElem?_set_ne ij] at e
      obtain ⟨x, h1, h2⟩ := R1.vr j a e
      refine ⟨x, h1, ?_⟩
      cases a with
      | s u => exact Tr.mono h2 (List.prefix_refl _) sm
      | o u =>
        obtain ⟨q, y, rfl, h3, h4, h5, h6⟩ := h2
        exact ⟨q, y, rfl, ⟨h3, fun z => ij (R1.ne i j q d u h e (by rw [z]; exact hv) h1)⟩, h4, h5, h6.mono (List.prefix_refl _) sm⟩
  · have g : ∀ {j : Nat} {u : D}, (s.env.set i (some (A.s d)))[j]? = some (some (A.o u)) → s.env[j]? = some (some (A.o u)) := by
      intro j u e
      by_cases ij : i = j
      · subst ij
        have hi : i < s.env.length := (List.getElem?_eq_some_iff.mp h).1
        rw [List.getElem?_set_self hi] at e
        cases e
      · rw [List.getElem?_set_ne ij] at e; exact e
    exact R1.ne j k q u z (g e1) (g e2) e3 e4
/-- stab, told by states -/
theorem stab_ok {s' : S} (R1 : R c w σ s) (l : Le w0 w) (h : Rv c w0 w σ v r) (e : stab r s = some (.ok d, s')) :
    ∃ w', Le w0 w' ∧ w'.H = w.H ∧ R c w' σ s' ∧ Tr c w'.ρ w'.F v d := by
  cases r with
  | v u => cases e; exact ⟨w, l, rfl, R1, h⟩
  | fr u =>
    cases e
    obtain ⟨p, o, rfl, n, q, ce, f, no⟩ := h
    refine ⟨w.keep p o, ⟨l.fz.trans (same_keep f), fun b z => ?_, l.fr, l.no, l.dm, l.pr⟩, rfl, R1.keep f q no, ce.tr (same_keep f) upd_same⟩
    by_cases e : b = p
    · exact .inr (.inr (e ▸ n))
    · have : upd w.F p o b ≠ none := z
      rw [upd_ne e] at this
      exact l.nf b this
  | al i =>
    unfold stab at e
    simp only at e
    split at e
    · rename_i u hu
      cases e
      obtain ⟨w', l', eh, R', t⟩ := frz_ok R1 hu h
      exact ⟨w', l.trans l', eh, R', t⟩
    · rename_i u hu
      cases e
      obtain ⟨x, hx, t⟩ := R1.vr i _ hu
      rw [h] at hx
      cases hx
      exact ⟨w, l, rfl, R1, t⟩
    · cases e
theorem stab_not_ex {x : Xn} {s' : S} (e : stab r s = some (.ex x, s')) : False := by
  unfold stab at e
  cases r with
  | v _ => cases e
  | fr _ => cases e
  | al i => simp only at e; split at e <;> cases e
end
end Z
/-! readings of expressions as functions on trees -/
namespace Z
open PySem PySem.Spec PyProof.Rows L2 U
/-- none of the new things stands at p -/
inductive NoFr (p : Addr) : List V → List Rs → Prop
  | nil : NoFr p [] []
  | cons {v : V} {r : Rs} {vs : List V} {rs : List Rs} (h : ∀ d, r = .fr d → v ≠ .ref p) (t : NoFr p vs rs) : NoFr p (v :: vs) (r :: rs)
section
variable (c : Cz)
def PostE (w : Wd) (σ : L2.St) (s' : S) (Q : VK) (E : XS) : Rz Rs → Prop
  | .ok r => ∀ w' v, Le w w' → R c w' σ s' → Rv c w w' σ v r → Q v w'.H
  | .ex x => ∀ w' d, Le w w' → R c w' σ s' → Xa c w' d x → E σ (.ref (c.cad x.c)) d w'.H
def Sim (E : XS) (t : TE) (T : M Rs) : Prop := ∀ w σ s out s' Q, R c w σ s → T s = some (out, s') → PostE c w σ s' Q E out → t σ w.H Q
def PostA (w : Wd) (σ : L2.St) (s' : S) (Q : List V → Hp → Prop) (E : XS) : Rz (List D) → Prop
  | .ok ds => ∀ w' vs, Le w w' → R c w' σ s' → TrAll c w'.ρ w'.F vs ds → Q vs w'.H
  | .ex x => ∀ w' d, Le w w' → R c w' σ s' → Xa c w' d x → E σ (.ref (c.cad x.c)) d w'.H
/-- arguments that are handed on -/
def SimA (E : XS) (t : TA) (T : M (List D)) : Prop := ∀ w σ s out s' Q, R c w σ s → T s = some (out, s') → PostA c w σ s' Q E out → t σ w.H Q
inductive RvAll (w0 w : Wd) (σ : L2.St) : List V → List Rs → Prop
  | nil : RvAll w0 w σ [] []
  | cons {v : V} {r : Rs} {vs : List V} {rs : List Rs} (h : Rv c w0 w σ v r) (t : RvAll w0 w σ vs rs) (ne : ∀ d p, r = .fr d → v = .ref p → NoFr p vs rs) : RvAll w0 w σ (v :: vs) (r :: rs)
def PostP (w : Wd) (σ : L2.St) (s' : S) (Q : List V → Hp → Prop) (E : XS) : Rz (List Rs) → Prop
  | .ok ds => ∀ w' vs, Le w w' → R c w' σ s' → RvAll c w w' σ vs ds → Q vs w'.H
  | .ex x => ∀ w' d, Le w w' → R c w' σ s' → Xa c w' d x → E σ (.ref (c.cad x.c)) d w'.H
/-- arguments that are looked at -/
def SimP (E : XS) (t : TA) (T : M (List Rs)) : Prop := ∀ w σ s out s' Q, R c w σ s → T s = some (out, s') → PostP c w σ s' Q E out → t σ w.H Q
def PostT (w : Wd) (σ : L2.St) (s' : S) (Q : Bool → Hp → Prop) (E : XS) : Rz Bool → Prop
  | .ok b => ∀ w', Le w w' → R c w' σ s' → Q b w'.H
  | .ex x => ∀ w' d, Le w w' → R c w' σ s' → Xa c w' d x → E σ (.ref (c.cad x.c)) d w'.H
def SimT (E : XS) (t : TT) (T : M Bool) : Prop := ∀ w σ s out s' Q, R c w σ s → T s = some (out, s') → PostT c w σ s' Q E out → t σ w.H Q
/-- what an operation on values owes -/
def RQ (w : Wd) (r : Rs) (Q : VK) : Prop := match r with
  | .v d => ∀ v, Tr c w.ρ w.F v d → Q v w.H
  | .fr d => ∀ p o, w.H p = none → CellO c w.ρ w.F o d → Q (.ref p) (upd w.H p o)
  | .al _ => True
def OpS (op : R2) (f : D → D → Option Rs) : Prop := ∀ w x y d e r Q, Same w.F w.H → Pk c w x d → Pk c w y e → f d e = some r → RQ c w r Q → op x y w.H Q
def UnS (op : V → Hp → VK → Prop) (f : D → Option Rs) : Prop := ∀ w x d r Q, Same w.F w.H → Pk c w x d → f d = some r → RQ c w r Q → op x w.H Q
inductive PkAll (w : Wd) : List V → List D → Prop
  | nil : PkAll w [] []
  | cons {v : V} {d : D} {vs : List V} {ds : List D} (h : Pk c w v d) (r : PkAll w vs ds) : PkAll w (v :: vs) (d :: ds)
def CallS (op : List V → Hp → VK → Prop) (f : List D → Option Rs) : Prop := ∀ w xs ds r Q, Same w.F w.H → PkAll c w xs ds → f ds = some r → RQ c w r Q → op xs w.H Q
end
def pk (r : Rs) : M D := fun s => opt (peek s r) s
def pks : List Rs → M (List D)
  | [] => ret []
  | r :: rs => bnd (pk r) fun d => bnd (pks rs) fun ds => ret (d :: ds)
def TC (d : D) : M Rs := ret (.v d)
def TVar (i : Nat) : M Rs := fun s => match s.env[i]? with
  | some (some (.s d)) => some (.ok (.v d), s)
  | some (some (.o _)) => some (.ok (.al i), s)
  | _ => none
def TOp (f : D → D → Option Rs) (a b : M Rs) : M Rs := bnd a fun x => bnd b fun y => bnd (pk x) fun d => bnd (pk y) fun e => opt (f d e)
def TUn (f : D → Option Rs) (a : M Rs) : M Rs := bnd a fun x => bnd (pk x) fun d => opt (f d)
def asB : D → M Bool
  | .bl b => ret b
  | _ => fun _ => none
def TB (a : M Rs) : M Bool := bnd a fun x => bnd (pk x) asB
def TNotV (a : M Rs) : M Rs := bnd (TB a) fun b => ret (.v (.bl (!b)))
def TAndV (a b : M Rs) : M Rs := bnd (TB a) fun x => if x = true then b else ret (.v (.bl false))
def TOrV (a b : M Rs) : M Rs := bnd (TB a) fun x => if x = true then ret (.v (.bl true)) else b
def TIf {β : Type} (t : M Bool) (a b : M β) : M β := bnd t fun x => if x = true then a else b
def TNot (t : M Bool) : M Bool := bnd t fun x => ret (!x)
def TAnd (t u : M Bool) : M Bool := bnd t fun x => if x = true then u else ret false
def TOr (t u : M Bool) : M Bool := bnd t fun x => if x = true then ret true else u
def TYes : M Bool := ret true
def TChain (f g : D → D → Option Rs) (a b k : M Rs) : M Rs := bnd a fun x => bnd b fun y => bnd (pk x) fun d => bnd (pk y) fun e => bnd (opt (f d e)) fun r => match r with
  | .v (.bl z) => if z = true then bnd k fun q => bnd (pk y) fun e2 => bnd (pk q) fun u => opt (g e2 u) else ret (.v (.bl false))
  | _ => fun _ => none
def TNil : M (List D) := ret []
def TCons (a : M Rs) (t : M (List D)) : M (List D) := bnd a fun x => bnd (stab x) fun d => bnd t fun ds => ret (d :: ds)
def TStar (a : M Rs) (t : M (List D)) : M (List D) := bnd a fun x => bnd (pk x) fun d => match d with
  | .list xs => bnd t fun ds => ret (xs ++ ds)
  | .tup xs => bnd t fun ds => ret (xs ++ ds)
  | .scr xs => bnd t fun ds => ret (xs ++ ds)
  | _ => fun _ => none
def PNil : M (List Rs) := ret []
def PCons (a : M Rs) (t : M (List Rs)) : M (List Rs) := bnd a fun x => bnd t fun xs => ret (x :: xs)
def fits (n : Nat) : Bool := decide (n ≤ 16777216)
def TLst (t : M (List D)) : M Rs := bnd t fun ds => if fits ds.length = true then ret (.fr (.list ds)) else fun _ => none
def TTup (t : M (List D)) : M Rs := bnd t fun ds => if fits ds.length = true then ret (.fr (.tup ds)) else fun _ => none
def TCB (f : List D → Option Rs) (t : M (List Rs)) : M Rs := bnd t fun rs => bnd (pks rs) fun ds => opt (f ds)
theorem fits_le {n : Nat} (h : fits n = true) : n ≤ sizeLine := by
  have := of_decide_eq_true h
  unfold sizeLine
  omega
section
variable {β γ : Type} {m : M β} {k : β → M γ} {s s' : S} {out : Rz γ}
theorem bnd_some (h : bnd m k s = some (out, s')) : (∃ b s1, m s = some (.ok b, s1) ∧ k b s1 = some (out, s')) ∨ (∃ x, m s = some (.ex x, s') ∧ out = .ex x) := by
  unfold bnd at h
  split at h
  · rename_i b s1 e; exact .inl ⟨b, s1, e, h⟩
  · rename_i x s1 e; cases h; exact .inr ⟨x, e, rfl⟩
  · cases h
theorem opt_some {o : Option β} {z : Rz β} (h : opt o s = some (z, s')) : ∃ b, o = some b ∧ z = .ok b ∧ s' = s := by
  unfold opt at h
  split at h
  · cases h; exact ⟨_, rfl, rfl, rfl⟩
  · cases h
theorem bnd_opt {o : Option β} (h : bnd (opt o) k s = some (out, s')) : ∃ b, o = some b ∧ k b s = some (out, s') := by
  rcases bnd_some h with ⟨b, s1, e, q⟩ | ⟨x, e, _⟩
  · obtain ⟨b', e1, e2, e3⟩ := opt_some e
    cases e2; subst e3
    exact ⟨b, e1, q⟩
  · obtain ⟨b', _, e2, _⟩ := opt_some e
    cases e2
theorem bnd_pk {r : Rs} {k : D → M γ} (h : bnd (pk r) k s = some (out, s')) : ∃ d, peek s r = some d ∧ k d s = some (out, s') := bnd_opt (o := peek s r) h
end
theorem bnd_pks {γ : Type} {s s' : S} {out : Rz γ} : ∀ {rs : List Rs} {k : List D → M γ}, bnd (pks rs) k s = some (out, s') → ∃ ds, rs.map (peek s) = ds.map some ∧ k ds s = some (out, s')
  | [], k, h => ⟨[], rfl, h⟩
  | r :: rs, k, h => by
    rcases bnd_some h with ⟨b, s1, e, h⟩ | ⟨x, e, _⟩
    · obtain ⟨d, e1, e2⟩ := bnd_pk e
      obtain ⟨ds, e3, e4⟩ := bnd_pks e2
      cases e4
      exact ⟨d :: ds, by simp [e1, e3], h⟩
    · obtain ⟨d, e1, e2⟩ := bnd_pk e
      obtain ⟨ds, e3, e4⟩ := bnd_pks e2
      cases e4
section
variable {c : Cz} {E : XS} {w w0 : Wd} {σ : L2.St} {s : S}
theorem RvAll.mono {w' : Wd} (l : Le w w') : ∀ {vs : List V} {rs : List Rs}, RvAll c w0 w σ vs rs → RvAll c w0 w' σ vs rs
  | _, _, .nil => .nil
  | _, _, .cons h t n => .cons (h.mono l) (t.mono l) n
theorem RvAll.base {w1 : Wd} (l : Le w0 w1) : ∀ {vs : List V} {rs : List Rs}, RvAll c w1 w σ vs rs → RvAll c w0 w σ vs rs
  | _, _, .nil => .nil
  | _, _, .cons h t n => .cons (h.base l) (t.base l) n
theorem RvAll.pk (R1 : R c w σ s) : ∀ {vs : List V} {rs : List Rs} {ds : List D}, RvAll c w0 w σ vs rs → rs.map (peek s) = ds.map some → PkAll c w vs ds
  | _, _, [], .nil, _ => .nil
  | _, _, _ :: _, .nil, e => by cases e
  | _, _, [], .cons h t _, e => by cases e
  | _, _, d :: ds, .cons h t _, e => by
    simp only [List.map_cons, List.cons.injEq] at e
    exact .cons (peek_pk R1 h e.1) (RvAll.pk R1 t e.2)
theorem RvAll.noFr {p : Addr} {o : HO} (hp : w0.H p = some o) : ∀ {vs : List V} {rs : List Rs}, RvAll c w0 w σ vs rs → NoFr p vs rs
  | _, _, .nil => .nil
  | _, _, .cons h t _ => .cons (fun d e1 e2 => by subst e1; subst e2; obtain ⟨q, o, e, n, _⟩ := h; cases e; rw [hp] at n; cases n) (t.noFr hp)
theorem rq_post {r : Rs} {Q : VK} (R1 : R c w σ s) (l : Le w0 w) (post : PostE c w0 σ s Q E (.ok r)) : RQ c w r Q := by
  cases r with
  | v d => exact fun v t => post w v l R1 t
  | fr d => exact fun p o hp ce => post (w.new p o) (.ref p) (l.trans (Le.new hp)) (R1.new hp) ((Rv.new R1 hp ce).base l)
  | al i => trivial
theorem sim_C {v : V} {d : D} (h : ∀ ρ F, Tr c ρ F v d) : Sim c E (tC v) (TC d) := by
  intro w σ s out s' Q R1 e post
  cases e
  exact post w v Le.refl R1 (h _ _)
theorem sim_Var {i : Nat} : Sim c E (tVar i) (TVar i) := by
  intro w σ s out s' Q R1 e post
  unfold TVar at e
  split at e
  · rename_i d hd
    cases e
    obtain ⟨v, h1, h2⟩ := R1.vr i _ hd
    exact ⟨v, h1, post w v Le.refl R1 h2⟩
  · rename_i d hd
    cases e
    obtain ⟨v, h1, h2⟩ := R1.vr i _ hd
    exact ⟨v, h1, post w v Le.refl R1 h1⟩
  · cases e
theorem sim_Op {op : R2} {f : D → D → Option Rs} {ta tb : TE} {Ta Tb : M Rs} (ho : OpS c op f) (ha : Sim c E ta Ta) (hb : Sim c E tb Tb) : Sim c E (tOp op ta tb) (TOp f Ta Tb) := by
  intro w σ s out s' Q R1 e post
  rcases bnd_some e with ⟨x, s1, e1, e⟩ | ⟨x, e1, rfl⟩
  · refine ha w σ s _ s1 _ R1 e1 fun w1 v1 l1 R2 rv1 => ?_
    rcases bnd_some e with ⟨y, s2, e2, e⟩ | ⟨x', e2, rfl⟩
    · refine hb w1 σ s1 _ s2 _ R2 e2 fun w2 v2 l2 R3 rv2 => ?_
      obtain ⟨d, p1, e⟩ := bnd_pk e
      obtain ⟨d2, p2, e⟩ := bnd_pk e
      obtain ⟨r, e3, rfl, rfl⟩ := opt_some e
      exact ho w2 v1 v2 d d2 r Q R3.ok (peek_pk R3 (rv1.mono l2) p1) (peek_pk R3 rv2 p2) e3 (rq_post R3 (l1.trans l2) post)
    · exact hb w1 σ s1 _ s' _ R2 e2 fun w2 d l2 R3 xa => post w2 d (l1.trans l2) R3 xa
  · exact ha w σ s _ s' _ R1 e1 fun w1 d l1 R2 xa => post w1 d l1 R2 xa
theorem sim_Un {op : V → Hp → VK → Prop} {f : D → Option Rs} {ta : TE} {Ta : M Rs} (ho : UnS c op f) (ha : Sim c E ta Ta) : Sim c E (tUn op ta) (TUn f Ta) := by
  intro w σ s out s' Q R1 e post
  rcases bnd_some e with ⟨x, s1, e1, e⟩ | ⟨x, e1, rfl⟩
  · refine ha w σ s _ s1 _ R1 e1 fun w1 v1 l1 R2 rv1 => ?_
    obtain ⟨d, p1, e⟩ := bnd_pk e
    obtain ⟨r, e3, rfl, rfl⟩ := opt_some e
    exact ho w1 v1 d r Q R2.ok (peek_pk R2 rv1 p1) e3 (rq_post R2 l1 post)
  · exact ha w σ s _ s' _ R1 e1 fun w1 d l1 R2 xa => post w1 d l1 R2 xa
theorem asB_some {d : D} {s s' : S} {out : Rz Bool} (h : asB d s = some (out, s')) : ∃ b, d = .bl b ∧ out = .ok b ∧ s' = s := by
  cases d with
  | bl b => cases h; exact ⟨b, rfl, rfl, rfl⟩
  | _ => cases h
/-- a value that is a bool -/
theorem tb_run {ta : TE} {Ta : M Rs} (ha : Sim c E ta Ta) {out : Rz Bool} {s' : S} {Q : Bool → Hp → Prop} (R1 : R c w σ s) (e : TB Ta s = some (out, s')) (post : PostT c w σ s' Q E out) : ta σ w.H fun x H1 => ∃ k, x = .bl k ∧ Q k H1 := by
  rcases bnd_some e with ⟨x, s1, e1, e⟩ | ⟨x, e1, rfl⟩
  · refine ha w σ s _ s1 _ R1 e1 fun w1 v1 l1 R2 rv1 => ?_
    obtain ⟨d, p1, e⟩ := bnd_pk e
    obtain ⟨b, rfl, rfl, rfl⟩ := asB_some e
    exact ⟨b, (peek_pk R2 rv1 p1).bl, post w1 l1 R2⟩
  · exact ha w σ s _ s' _ R1 e1 fun w1 d l1 R2 xa => post w1 d l1 R2 xa
theorem sim_B {ta : TE} {Ta : M Rs} (ha : Sim c E ta Ta) : SimT c E (tB ta) (TB Ta) := fun w σ s out s' Q R1 e post => tb_run ha R1 e post
theorem sim_Test {ta : TE} {Ta : M Rs} (ha : Sim c E ta Ta) : SimT c E (tTest ta) (TB Ta) := fun w σ s out s' Q R1 e post => tb_run ha R1 e post
theorem sim_NotV {ta : TE} {Ta : M Rs} (ha : Sim c E ta Ta) : Sim c E (tNotV ta) (TNotV Ta) := by
  intro w σ s out s' Q R1 e post
  rcases bnd_some e with ⟨b, s1, e1, e⟩ | ⟨x, e1, rfl⟩
  · cases e
    exact tb_run ha (Q := fun k H1 => Q (.bl (!k)) H1) R1 e1 fun w1 l1 R2 => post w1 _ l1 R2 (.bl _)
  · exact tb_run ha (Q := fun k H1 => Q (.bl (!k)) H1) R1 e1 post
theorem sim_AndV {ta tb : TE} {Ta Tb : M Rs} (ha : Sim c E ta Ta) (hb : Sim c E tb Tb) : Sim c E (tAndV ta tb) (TAndV Ta Tb) := by
  intro w σ s out s' Q R1 e post
  rcases bnd_some e with ⟨b, s1, e1, e⟩ | ⟨x, e1, rfl⟩
  · refine tb_run ha (Q := fun k H1 => if k = true then tb σ H1 Q else Q (.bl false) H1) R1 e1 fun w1 l1 R2 => ?_
    cases b with
    | true =>
      refine hb w1 σ s1 out s' Q R2 e ?_
      cases out with
      | ok r => exact fun w2 v l2 R3 rv => post w2 v (l1.trans l2) R3 (rv.base l1)
      | ex x => exact fun w2 d l2 R3 xa => post w2 d (l1.trans l2) R3 xa
    | false => cases e; exact post w1 _ l1 R2 (.bl _)
  · exact tb_run ha (Q := fun k H1 => if k = true then tb σ H1 Q else Q (.bl false) H1) R1 e1 post
theorem sim_OrV {ta tb : TE} {Ta Tb : M Rs} (ha : Sim c E ta Ta) (hb : Sim c E tb Tb) : Sim c E (tOrV ta tb) (TOrV Ta Tb) := by
  intro w σ s out s' Q R1 e post
  rcases bnd_some e with ⟨b, s1, e1, e⟩ | ⟨x, e1, rfl⟩
  · refine tb_run ha (Q := fun k H1 => if k = true then Q (.bl true) H1 else tb σ H1 Q) R1 e1 fun w1 l1 R2 => ?_
    cases b with
    | false =>
      refine hb w1 σ s1 out s' Q R2 e ?_
      cases out with
      | ok r => exact fun w2 v l2 R3 rv => post w2 v (l1.trans l2) R3 (rv.base l1)
      | ex x => exact fun w2 d l2 R3 xa => post w2 d (l1.trans l2) R3 xa
    | true => cases e; exact post w1 _ l1 R2 (.bl _)
  · exact tb_run ha (Q := fun k H1 => if k = true then Q (.bl true) H1 else tb σ H1 Q) R1 e1 post
theorem sim_If {t : TT} {T : M Bool} {ta tb : TE} {Ta Tb : M Rs} (ht : SimT c E t T) (ha : Sim c E ta Ta) (hb : Sim c E tb Tb) : Sim c E (tIf t ta tb) (TIf T Ta Tb) := by
  intro w σ s out s' Q R1 e post
  rcases bnd_some e with ⟨b, s1, e1, e⟩ | ⟨x, e1, rfl⟩
  · refine ht w σ s _ s1 _ R1 e1 fun w1 l1 R2 => ?_
    have post2 : PostE c w1 σ s' Q E out := by
      cases out with
      | ok r => exact fun w2 v l2 R3 rv => post w2 v (l1.trans l2) R3 (rv.base l1)
      | ex x => exact fun w2 d l2 R3 xa => post w2 d (l1.trans l2) R3 xa
    cases b with
    | true => exact ha w1 σ s1 out s' Q R2 e post2
    | false => exact hb w1 σ s1 out s' Q R2 e post2
  · exact ht w σ s _ s' _ R1 e1 post
theorem sim_Not {t : TT} {T : M Bool} (ht : SimT c E t T) : SimT c E (tNot t) (TNot T) := by
  intro w σ s out s' Q R1 e post
  rcases bnd_some e with ⟨b, s1, e1, e⟩ | ⟨x, e1, rfl⟩
  · cases e; exact ht w σ s _ _ _ R1 e1 fun w1 l1 R2 => post w1 l1 R2
  · exact ht w σ s _ s' _ R1 e1 post
theorem sim_And {t u : TT} {T U : M Bool} (ht : SimT c E t T) (hu : SimT c E u U) : SimT c E (tAnd t u) (TAnd T U) := by
  intro w σ s out s' Q R1 e post
  rcases bnd_some e with ⟨b, s1, e1, e⟩ | ⟨x, e1, rfl⟩
  · refine ht w σ s _ s1 _ R1 e1 fun w1 l1 R2 => ?_
    cases b with
    | true =>
      refine hu w1 σ s1 out s' Q R2 e ?_
      cases out with
      | ok r => exact fun w2 l2 R3 => post w2 (l1.trans l2) R3
      | ex x => exact fun w2 d l2 R3 xa => post w2 d (l1.trans l2) R3 xa
    | false => cases e; exact post w1 l1 R2
  · exact ht w σ s _ s' _ R1 e1 post
theorem sim_Or {t u : TT} {T U : M Bool} (ht : SimT c E t T) (hu : SimT c E u U) : SimT c E (tOr t u) (TOr T U) := by
  intro w σ s out s' Q R1 e post
  rcases bnd_some e with ⟨b, s1, e1, e⟩ | ⟨x, e1, rfl⟩
  · refine ht w σ s _ s1 _ R1 e1 fun w1 l1 R2 => ?_
    cases b with
    | false =>
      refine hu w1 σ s1 out s' Q R2 e ?_
      cases out with
      | ok r => exact fun w2 l2 R3 => post w2 (l1.trans l2) R3
      | ex x => exact fun w2 d l2 R3 xa => post w2 d (l1.trans l2) R3 xa
    | true => cases e; exact post w1 l1 R2
  · exact ht w σ s _ s' _ R1 e1 post
theorem sim_Yes : SimT c E tYes TYes := by
  intro w σ s out s' Q R1 e post
  cases e; exact post w Le.refl R1
theorem sim_Chain {op op2 : R2} {f g : D → D → Option Rs} {ta tb tk : TE} {Ta Tb Tk : M Rs} (ho : OpS c op f) (ho2 : OpS c op2 g) (ha : Sim c E ta Ta) (hb : Sim c E tb Tb) (hk : Sim c E tk Tk) : Sim c E (tChain op op2 ta tb tk) (TChain f g Ta Tb Tk) := by
  intro w σ s out s' Q R1 e post
  rcases bnd_some e with ⟨x, s1, e1, e⟩ | ⟨x, e1, rfl⟩
  · refine ha w σ s _ s1 _ R1 e1 fun w1 v1 l1 R2 rv1 => ?_
    rcases bnd_some e with ⟨y, s2, e2, e⟩ | ⟨x', e2, rfl⟩
    · refine hb w1 σ s1 _ s2 _ R2 e2 fun w2 v2 l2 R3 rv2 => ?_
      obtain ⟨d, p1, e⟩ := bnd_pk e
      obtain ⟨d2, p2, e⟩ := bnd_pk e
      obtain ⟨r, e3, e⟩ := bnd_opt e
      have pa := peek_pk R3 (rv1.mono l2) p1
      have pb := peek_pk R3 rv2 p2
      match r, e, e3 with
      | .v (.bl z), e, e3 =>
        refine ho w2 v1 v2 d d2 _ _ R3.ok pa pb e3 fun v tv => ?_
        cases tv
        refine ⟨z, rfl, ?_⟩
        cases z with
        | false => cases e; exact post w2 _ (l1.trans l2) R3 (.bl _)
        | true =>
          rcases bnd_some e with ⟨q, s3, e4, e⟩ | ⟨x', e4, rfl⟩
          · refine hk w2 σ s2 _ s3 _ R3 e4 fun w3 v3 l3 R4 rv3 => ?_
            obtain ⟨d3, p3, e⟩ := bnd_pk e
            obtain ⟨d4, p4, e⟩ := bnd_pk e
            obtain ⟨r, e5, rfl, rfl⟩ := opt_some e
            exact ho2 w3 v2 v3 d3 d4 r Q R4.ok (peek_pk R4 (rv2.mono l3) p3) (peek_pk R4 rv3 p4) e5 (rq_post R4 ((l1.trans l2).trans l3) post)
          · exact hk w2 σ s2 _ s' _ R3 e4 fun w3 d l3 R4 xa => post w3 d ((l1.trans l2).trans l3) R4 xa
    · exact hb w1 σ s1 _ s' _ R2 e2 fun w2 d l2 R3 xa => post w2 d (l1.trans l2) R3 xa
  · exact ha w σ s _ s' _ R1 e1 fun w1 d l1 R2 xa => post w1 d l1 R2 xa
theorem sim_Nil : SimA c E tNil TNil := by
  intro w σ s out s' Q R1 e post
  cases e; exact post w [] Le.refl R1 .nil
theorem sim_Cons {ta : TE} {Ta : M Rs} {t : TA} {T : M (List D)} (ha : Sim c E ta Ta) (ht : SimA c E t T) : SimA c E (tCons ta t) (TCons Ta T) := by
  intro w σ s out s' Q R1 e post
  rcases bnd_some e with ⟨x, s1, e1, e⟩ | ⟨x, e1, rfl⟩
  · refine ha w σ s _ s1 _ R1 e1 fun w1 v1 l1 R2 rv1 => ?_
    rcases bnd_some e with ⟨d, s2, e2, e⟩ | ⟨x', e2, rfl⟩
    · obtain ⟨w2, l2, eH, R3, tr⟩ := stab_ok R2 l1 rv1 e2
      rw [← eH]
      rcases bnd_some e with ⟨ds, s3, e3, e⟩ | ⟨x', e3, rfl⟩
      · cases e
        exact ht w2 σ s2 _ _ _ R3 e3 fun w3 vs l3 R4 ta => post w3 _ (l2.trans l3) R4 (.cons (tr.mono l3.pr l3.fz) ta)
      · exact ht w2 σ s2 _ s' _ R3 e3 fun w3 d l3 R4 xa => post w3 d (l2.trans l3) R4 xa
    · exact (stab_not_ex e2).elim
  · exact ha w σ s _ s' _ R1 e1 fun w1 d l1 R2 xa => post w1 d l1 R2 xa
theorem TrAll.append {ρ : List Addr} {F : Hp} : ∀ {vs us : List V} {ds es : List D}, TrAll c ρ F vs ds → TrAll c ρ F us es → TrAll c ρ F (vs ++ us) (ds ++ es)
  | _, _, _, _, .nil, h => h
  | _, _, _, _, .cons a b, h => .cons a (b.append h)
theorem sim_Star {ta : TE} {Ta : M Rs} {t : TA} {T : M (List D)} (ha : Sim c E ta Ta) (ht : SimA c E t T) : SimA c E (StX.tStar c.K ta t) (TStar Ta T) := by
  intro w σ s out s' Q R1 e post
  rcases bnd_some e with ⟨x, s1, e1, e⟩ | ⟨x, e1, rfl⟩
  · refine ha w σ s _ s1 _ R1 e1 fun w1 v1 l1 R2 rv1 => ?_
    obtain ⟨d, p1, e⟩ := bnd_pk e
    have pa := peek_pk R2 rv1 p1
    have go : ∀ {xs : List D} {us : List V}, TrAll c w1.ρ w1.F us xs → bnd T (fun ds => ret (xs ++ ds)) s1 = some (out, s') → t σ w1.H fun ys H2 => Q (us ++ ys) H2 := by
      intro xs us tu e
      rcases bnd_some e with ⟨ds, s3, e3, e⟩ | ⟨x', e3, rfl⟩
      · cases e
        exact ht w1 σ s1 _ _ _ R2 e3 fun w3 vs l3 R4 ta => post w3 _ (l1.trans l3) R4 ((tu.mono l3.pr l3.fz).append ta)
      · exact ht w1 σ s1 _ s' _ R2 e3 fun w3 d l3 R4 xa => post w3 d (l1.trans l3) R4 xa
    match d, e, pa with
    | .list xs, e, pa => obtain ⟨a, us, rfl, hs, tu⟩ := pa.list R2.ok; exact ⟨a, us, rfl, .inr (.inl (.inl hs)), go tu e⟩
    | .tup xs, e, pa => obtain ⟨a, us, rfl, hs, tu⟩ := pa.tup R2.ok; exact ⟨a, us, rfl, .inl hs, go tu e⟩
    | .scr xs, e, pa => obtain ⟨a, us, rfl, hs, tu⟩ := pa.scr R2.ok; exact ⟨a, us, rfl, .inr hs, go tu e⟩
  · exact ha w σ s _ s' _ R1 e1 fun w1 d l1 R2 xa => post w1 d l1 R2 xa
theorem sim_PNil : SimP c E tNil PNil := by
  intro w σ s out s' Q R1 e post
  cases e; exact post w [] Le.refl R1 .nil
theorem sim_PCons {ta : TE} {Ta : M Rs} {t : TA} {T : M (List Rs)} (ha : Sim c E ta Ta) (ht : SimP c E t T) : SimP c E (tCons ta t) (PCons Ta T) := by
  intro w σ s out s' Q R1 e post
  rcases bnd_some e with ⟨x, s1, e1, e⟩ | ⟨x, e1, rfl⟩
  · refine ha w σ s _ s1 _ R1 e1 fun w1 v1 l1 R2 rv1 => ?_
    rcases bnd_some e with ⟨ds, s3, e3, e⟩ | ⟨x', e3, rfl⟩
    · cases e
      exact ht w1 σ s1 _ _ _ R2 e3 fun w3 vs l3 R4 ta => post w3 _ (l1.trans l3) R4 (.cons (rv1.mono l3) (ta.base l1) fun d p e1 e2 => by subst e1; subst e2; obtain ⟨q, o, e, n, h, _⟩ := rv1; cases e; exact ta.noFr h)
    · exact ht w1 σ s1 _ s' _ R2 e3 fun w3 d l3 R4 xa => post w3 d (l1.trans l3) R4 xa
  · exact ha w σ s _ s' _ R1 e1 fun w1 d l1 R2 xa => post w1 d l1 R2 xa
theorem trall_len {ρ : List Addr} {F : Hp} : ∀ {vs : List V} {ds : List D}, TrAll c ρ F vs ds → vs.length = ds.length
  | _, _, .nil => rfl
  | _, _, .cons _ b => congrArg (· + 1) (trall_len b)
theorem sim_Lst {t : TA} {T : M (List D)} (ht : SimA c E t T) : Sim c E (tLst t) (TLst T) := by
  intro w σ s out s' Q R1 e post
  rcases bnd_some e with ⟨ds, s1, e1, e⟩ | ⟨x, e1, rfl⟩
  · by_cases f : fits ds.length = true
    · rw [if_pos f] at e
      cases e
      refine ht w σ s _ _ _ R1 e1 fun w1 vs l1 R2 ta => ⟨by rw [trall_len ta]; exact fits_le f, fun p hp => ?_⟩
      exact rq_post (E := E) R2 l1 post p _ hp (.list ta)
    · rw [if_neg f] at e; cases e
  · exact ht w σ s _ s' _ R1 e1 post
theorem sim_Tup {t : TA} {T : M (List D)} (ht : SimA c E t T) : Sim c E (tTup t) (TTup T) := by
  intro w σ s out s' Q R1 e post
  rcases bnd_some e with ⟨ds, s1, e1, e⟩ | ⟨x, e1, rfl⟩
  · by_cases f : fits ds.length = true
    · rw [if_pos f] at e
      cases e
      refine ht w σ s _ _ _ R1 e1 fun w1 vs l1 R2 ta => ⟨by rw [trall_len ta]; exact fits_le f, fun p hp => ?_⟩
      exact rq_post (E := E) R2 l1 post p _ hp (.tup ta)
    · rw [if_neg f] at e; cases e
  · exact ht w σ s _ s' _ R1 e1 post
theorem sim_CB {op : List V → Hp → VK → Prop} {f : List D → Option Rs} {t : TA} {T : M (List Rs)} (ho : CallS c op f) (ht : SimP c E t T) : Sim c E (tCB op t) (TCB f T) := by
  intro w σ s out s' Q R1 e post
  rcases bnd_some e with ⟨rs, s1, e1, e⟩ | ⟨x, e1, rfl⟩
  · refine ht w σ s _ s1 _ R1 e1 fun w1 vs l1 R2 rv => ?_
    obtain ⟨ds, e2, e⟩ := bnd_pks e
    obtain ⟨r, e3, rfl, rfl⟩ := opt_some e
    exact ho w1 vs ds r Q R2.ok (rv.pk R2 e2) e3 (rq_post R2 l1 post)
  · exact ht w σ s _ s' _ R1 e1 post
end
end Z
/-! readings of statements as functions on trees -/
namespace Z
open PySem PySem.Spec PyProof.Rows L2 U
inductive Fl where | nx | rt (r : Rs) | bk | ct | ex (x : Xn)
abbrev TSd := S → Option (Fl × S)
section
variable (c : Cz)
def PostS (w : Wd) (D : Ends) (E : XS) (s' : S) : Fl → Prop
  | .nx => ∀ w' σ', Le w w' → R c w' σ' s' → D.nx σ' w'.H
  | .rt r => ∀ w' σ' v, Le w w' → R c w' σ' s' → Rv c w w' σ' v r → D.rt v w'.H
  | .bk => ∀ w' σ', Le w w' → R c w' σ' s' → D.bk σ' w'.H
  | .ct => ∀ w' σ', Le w w' → R c w' σ' s' → D.ct σ' w'.H
  | .ex x => ∀ w' σ' d, Le w w' → R c w' σ' s' → Xa c w' d x → E σ' (.ref (c.cad x.c)) d w'.H
def SimS (E : XS) (t : TS) (T : TSd) : Prop := ∀ w σ s fl s' D, R c w σ s → T s = some (fl, s') → PostS c w D E s' fl → t D σ w.H
end
def sb {β : Type} (m : M β) (k : β → TSd) : TSd := fun s => match m s with
  | some (.ok b, s1) => k b s1
  | some (.ex x, s1) => some (.ex x, s1)
  | none => none
theorem sb_some {β : Type} {m : M β} {k : β → TSd} {s s' : S} {fl : Fl} (h : sb m k s = some (fl, s')) : (∃ b s1, m s = some (.ok b, s1) ∧ k b s1 = some (fl, s')) ∨ (∃ x, m s = some (.ex x, s') ∧ fl = .ex x) := by
  unfold sb at h
  split at h
  · rename_i b s1 e; exact .inl ⟨b, s1, e, h⟩
  · rename_i x s1 e; cases h; exact .inr ⟨x, e, rfl⟩
  · cases h
def nxt (o : Option S) : Option (Fl × S) := match o with
  | some s => some (.nx, s)
  | none => none
theorem nxt_some {o : Option S} {fl : Fl} {s' : S} (h : nxt o = some (fl, s')) : o = some s' ∧ fl = .nx := by
  cases o with
  | none => cases h
  | some s => cases h; exact ⟨rfl, rfl⟩
def TNext : TSd := fun s => some (.nx, s)
def TBreak : TSd := fun s => some (.bk, s)
def TCont : TSd := fun s => some (.ct, s)
def TNever : TSd := fun _ => none
def TSeq (T U : TSd) : TSd := fun s => match T s with
  | some (.nx, s1) => U s1
  | x => x
def TRet (T : M Rs) : TSd := sb T fun r s => some (.rt r, s)
def TRetN : TSd := fun s => some (.rt (.v .non), s)
def TDrop (T : M Rs) : TSd := sb T fun _ s => some (.nx, s)
def TIfS (t : M Bool) (T U : TSd) : TSd := sb t fun b => if b = true then T else U
def setV (i : Nat) (a : A) (s : S) : Option S := if i < s.env.length then some { s with env := s.env.set i (some a) } else none
/-- a variable's thing is shared from here on -/
def res1 (r : Rs) : M Rs := match r with
  | .al i => bnd (stab (.al i)) fun d => ret (.v d)
  | r => ret r
def asg (i : Nat) (r : Rs) (s : S) : Option S := match r with
  | .v d => setV i (.s d) s
  | .fr d => setV i (.o d) s
  | .al _ => none
def TAsg (T : M Rs) (i : Nat) : TSd := sb T fun r => sb (res1 r) fun r s => nxt (asg i r s)
section
variable {c : Cz} {E : XS} {w w0 : Wd} {σ : L2.St} {s s' : S}
theorem PostS.from {D : Ends} {fl : Fl} (l : Le w0 w) (h : PostS c w0 D E s' fl) : PostS c w D E s' fl := by
  cases fl with
  | nx => exact fun w' σ' l' R' => h w' σ' (l.trans l') R'
  | rt r => exact fun w' σ' v l' R' rv => h w' σ' v (l.trans l') R' (rv.base l)
  | bk => exact fun w' σ' l' R' => h w' σ' (l.trans l') R'
  | ct => exact fun w' σ' l' R' => h w' σ' (l.trans l') R'
  | ex x => exact fun w' σ' d l' R' xa => h w' σ' d (l.trans l') R' xa
theorem sim_Next : SimS c E tNext TNext := by
  intro w σ s fl s' D R1 e post
  cases e; exact post w σ Le.refl R1
theorem sim_Break : SimS c E tBreak TBreak := by
  intro w σ s fl s' D R1 e post
  cases e; exact post w σ Le.refl R1
theorem sim_Cont : SimS c E tCont TCont := by
  intro w σ s fl s' D R1 e post
  cases e; exact post w σ Le.refl R1
theorem sim_Never : SimS c E tNever TNever := by
  intro w σ s fl s' D R1 e post
  cases e
theorem sim_Seq {t u : TS} {T U : TSd} (ht : SimS c E t T) (hu : SimS c E u U) : SimS c E (tSeq t u) (TSeq T U) := by
  intro w σ s fl s' D R1 e post
  unfold TSeq at e
  split at e
  · rename_i s1 e1
    exact ht w σ s _ s1 _ R1 e1 fun w1 σ1 l1 R2 => hu w1 σ1 s1 fl s' D R2 e (post.from l1)
  · rename_i ne
    refine ht w σ s fl s' _ R1 e ?_
    cases fl with
    | nx => exact absurd e (ne s')
    | rt r => exact post
    | bk => exact post
    | ct => exact post
    | ex x => exact post
theorem sim_Ret {t : TE} {T : M Rs} (ht : Sim c E t T) : SimS c E (tRet t) (TRet T) := by
  intro w σ s fl s' D R1 e post
  rcases sb_some e with ⟨r, s1, e1, e⟩ | ⟨x, e1, rfl⟩
  · cases e
    exact ht w σ s _ _ _ R1 e1 fun w1 v l1 R2 rv => post w1 σ v l1 R2 rv
  · exact ht w σ s _ _ _ R1 e1 fun w1 d l1 R2 xa => post w1 σ d l1 R2 xa
theorem sim_RetN : SimS c E tRetN TRetN := by
  intro w σ s fl s' D R1 e post
  cases e; exact post w σ .non Le.refl R1 .non
theorem sim_Drop {t : TE} {T : M Rs} (ht : Sim c E t T) : SimS c E (tDrop t) (TDrop T) := by
  intro w σ s fl s' D R1 e post
  rcases sb_some e with ⟨r, s1, e1, e⟩ | ⟨x, e1, rfl⟩
  · cases e
    exact ht w σ s _ _ _ R1 e1 fun w1 v l1 R2 rv => post w1 σ l1 R2
  · exact ht w σ s _ _ _ R1 e1 fun w1 d l1 R2 xa => post w1 σ d l1 R2 xa
theorem sim_IfS {b : TT} {B : M Bool} {t u : TS} {T U : TSd} (hb : SimT c E b B) (ht : SimS c E t T) (hu : SimS c E u U) : SimS c E (tIfS b t u) (TIfS B T U) := by
  intro w σ s fl s' D R1 e post
  rcases sb_some e with ⟨z, s1, e1, e⟩ | ⟨x, e1, rfl⟩
  · refine hb w σ s _ s1 _ R1 e1 fun w1 l1 R2 => ?_
    cases z with
    | true => exact ht w1 σ s1 fl s' D R2 e (post.from l1)
    | false => exact hu w1 σ s1 fl s' D R2 e (post.from l1)
  · exact hb w σ s _ s' _ R1 e1 fun w1 d l1 R2 xa => post w1 σ d l1 R2 xa
/-! ### assignments -/
theorem setV_some {i : Nat} {a : A} (h : setV i a s = some s') : i < s.env.length ∧ s' = { s with env := s.env.set i (some a) } := by
  unfold setV at h
  split at h
  · rename_i z; cases h; exact ⟨z, rfl⟩
  · cases h
/-- a shared value given to a variable -/
theorem setS_ok {i : Nat} {v : V} {d : D} (R1 : R c w σ s) (t : Tr c w.ρ w.F v d) (h : setV i (.s d) s = some s') : R c w (σ.set i (some v)) s' := by
  obtain ⟨hi, rfl⟩ := setV_some h
  have hi2 : i < σ.length := by rw [← R1.sz]; exact hi
  refine ⟨R1.ok, R1.ow, R1.len, R1.nd, by simp [R1.sz], R1.st, fun j a e => ?_, fun j k p u z e1 e2 e3 e4 => ?_⟩
  · by_cases ij : i = j
    · subst ij
      rw [List.getElem?_set_self hi] at e
      cases e
      exact ⟨v, List.getElem?_set_self hi2, t⟩
    · rw [List.getElem?_set_ne ij] at e
      rw [List.getElem?_set_ne ij]
      exact R1.vr j a e
  · have g : ∀ {j : Nat} {u : D}, (s.env.set i (some (A.s d)))[j]? = some (some (A.o u)) → i ≠ j ∧ s.env[j]? = some (some (A.o u)) := by
      intro j u e
      by_cases ij : i = j
      · subst ij
        rw [List.getElem?_set_self hi] at e
        cases e
      · rw [List.getElem?_set_ne ij] at e; exact ⟨ij, e⟩
    obtain ⟨n1, e1⟩ := g e1
    obtain ⟨n2, e2⟩ := g e2
    rw [List.getElem?_set_ne n1] at e3
    rw [List.getElem?_set_ne n2] at e4
    exact R1.ne j k p u z e1 e2 e3 e4
def Wd.own (w : Wd) (p : Addr) : Wd := ⟨w.F, fun b => w.O b ∨ b = p, w.H, w.ρ⟩
theorem R.rho {n : Nat} {p : Addr} (R1 : R c w σ s) (h : w.ρ[n]? = some p) : w.O p := by
  have hn : n < s.μ.length := by rw [← R1.len]; exact (List.getElem?_eq_some_iff.mp h).1
  exact (R1.st n p _ h (List.getElem?_eq_getElem hn)).1
theorem R.rho' {p : Addr} (R1 : R c w σ s) (h : p ∈ w.ρ) : w.O p := by
  obtain ⟨n, h⟩ := List.mem_iff_getElem?.mp h
  exact R1.rho h
/-- a new thing given to a variable -/
theorem setO_ok {i : Nat} {p : Addr} {o : HO} {d : D} (R1 : R c w σ s) (hp : w.H p = some o) (ce : CellO c w.ρ w.F o d) (hf : w.F p = none) (no : ¬ w.O p) (h : setV i (.o d) s = some s') : R c (w.own p) (σ.set i (some (.ref p))) s' := by
  obtain ⟨hi, rfl⟩ := setV_some h
  have hi2 : i < σ.length := by rw [← R1.sz]; exact hi
  refine ⟨R1.ok, fun b z => ?_, R1.len, R1.nd, by simp [R1.sz], fun n q u e1 e2 => ?_, fun j a e => ?_, fun j k q u z e1 e2 e3 e4 => ?_⟩
  · rcases z with z | rfl
    · exact R1.ow b z
    · exact ⟨hf, by show w.H b ≠ none; rw [hp]; simp⟩
  · obtain ⟨h1, h2⟩ := R1.st n q u e1 e2
    exact ⟨.inl h1, h2⟩
  · by_cases ij : i = j
    · subst ij
      rw [List.getElem?_set_self hi] at e
      cases e
      exact ⟨.ref p, List.getElem?_set_self hi2, p, o, rfl, .inr rfl, fun z => no (R1.rho' z), hp, ce⟩
    · rw [List.getElem?_set_ne ij] at e
      rw [List.getElem?_set_ne ij]
      obtain ⟨v, h1, h2⟩ := R1.vr j a e
      refine ⟨v, h1, ?_⟩
      cases a with
      | s u => exact h2
      | o u => obtain ⟨q, y, e, h3, h4⟩ := h2; exact ⟨q, y, e, .inl h3, h4⟩
  · have g : ∀ {j : Nat} {u : D} {q : Addr}, (s.env.set i (some (A.o d)))[j]? = some (some (A.o u)) → (σ.set i (some (.ref p)))[j]? = some (some (.ref q)) → (i = j ∧ q = p) ∨ (i ≠ j ∧ s.env[j]? = some (some (A.o u)) ∧ σ[j]? = some (some (.ref q)) ∧ w.O q) := by
      intro j u q e e'
      by_cases ij : i = j
      · subst ij
        rw [List.getElem?_set_self hi2] at e'
        cases e'
        exact .inl ⟨rfl, rfl⟩
      · rw [List.getElem?_set_ne ij] at e e'
        obtain ⟨v, h1, p', o', rfl, h3, _⟩ := R1.vr j _ e
        rw [e'] at h1
        cases h1
        exact .inr ⟨ij, e, e', h3⟩
    rcases g e1 e3 with ⟨rfl, rfl⟩ | ⟨n1, a1, b1, c1⟩
    · rcases g e2 e4 with ⟨rfl, _⟩ | ⟨n2, a2, b2, c2⟩
      · rfl
      · exact absurd c2 no
    · rcases g e2 e4 with ⟨rfl, rfl⟩ | ⟨n2, a2, b2, c2⟩
      · exact absurd c1 no
      · exact R1.ne j k q u z a1 a2 b1 b2
theorem Le.own {p : Addr} (l : Le w0 w) (n : w0.H p = none) : Le w0 (w.own p) := ⟨l.fz, l.nf, l.fr, fun b z => z.elim (l.no b) fun e => .inr (e ▸ n), l.dm, l.pr⟩
theorem asg_ok {i : Nat} {v : V} {r : Rs} (R1 : R c w σ s) (l : Le w0 w) (h : Rv c w0 w σ v r) (e : asg i r s = some s') :
    ∃ w', Le w0 w' ∧ w'.H = w.H ∧ w'.F = w.F ∧ w'.ρ = w.ρ ∧ (∀ b, w'.O b → w.O b ∨ (v = .ref b ∧ ∃ d, r = .fr d)) ∧ R c w' (σ.set i (some v)) s' := by
  cases r with
  | v d => exact ⟨w, l, rfl, rfl, rfl, fun b z => .inl z, setS_ok R1 h e⟩
  | fr d =>
    obtain ⟨p, o, rfl, n, q, ce, f, no⟩ := h
    exact ⟨w.own p, l.own n, rfl, rfl, rfl, fun b z => z.elim .inl fun z => .inr ⟨by rw [z], d, rfl⟩, setO_ok R1 q ce f no e⟩
  | al j => cases e
theorem res1_ok {v : V} {r r' : Rs} (R1 : R c w σ s) (h : Rv c w0 w σ v r) (e : res1 r s = some (.ok r', s')) : ∃ w', Le w w' ∧ w'.H = w.H ∧ R c w' σ s' ∧ Rv c w0 w' σ v r' ∧ ((∃ d, r' = .fr d) → r' = r) := by
  cases r with
  | v d => cases e; exact ⟨w, Le.refl, rfl, R1, h, fun _ => rfl⟩
  | fr d => cases e; exact ⟨w, Le.refl, rfl, R1, h, fun _ => rfl⟩
  | al i =>
    rcases bnd_some e with ⟨d, s1, e1, e⟩ | ⟨x, e1, h⟩
    · cases e
      obtain ⟨w', l', eh, R', t⟩ := stab_ok R1 Le.refl (w0 := w) (r := .al i) h e1
      exact ⟨w', l', eh, R', t, fun ⟨d, z⟩ => by cases z⟩
    · exact (stab_not_ex e1).elim
theorem res1_not_ex {r : Rs} {x : Xn} (e : res1 r s = some (.ex x, s')) : False := by
  cases r with
  | v d => cases e
  | fr d => cases e
  | al i =>
    rcases bnd_some e with ⟨d, s1, e1, e⟩ | ⟨x, e1, h⟩
    · cases e
    · exact stab_not_ex e1
theorem sim_Asg {t : TE} {T : M Rs} {i : Nat} (ht : Sim c E t T) : SimS c E (tAsg t (gName i)) (TAsg T i) := by
  intro w σ s fl s' D R1 e post
  rcases sb_some e with ⟨r, s1, e1, e⟩ | ⟨x, e1, rfl⟩
  · refine ht w σ s _ s1 _ R1 e1 fun w1 v l1 R2 rv => ?_
    rcases sb_some e with ⟨r', s2, e2, e⟩ | ⟨x, e2, rfl⟩
    · obtain ⟨w2, l2, eh, R3, rv2, _⟩ := res1_ok R2 rv e2
      obtain ⟨e3, rfl⟩ := nxt_some e
      obtain ⟨w3, l3, eh3, _, _, _, R4⟩ := asg_ok R3 (l1.trans l2) rv2 e3
      show D.nx (σ.set i (some v)) w1.H
      rw [← eh, ← eh3]
      exact post w3 _ l3 R4
    · exact (res1_not_ex e2).elim
  · exact ht w σ s _ _ _ R1 e1 fun w1 d l1 R2 xa => post w1 σ d l1 R2 xa
end
/-- several values given to several variables -/
def res : List Rs → M (List Rs)
  | [] => ret []
  | r :: rs => bnd (res1 r) fun r => bnd (res rs) fun rs => ret (r :: rs)
def asgs : List Nat → List Rs → S → Option S
  | [], [], s => some s
  | i :: is, r :: rs, s => (asg i r s).bind fun s => asgs is rs s
  | _, _, _ => none
def TPar (is : List Nat) (T : M (List Rs)) : TSd := sb T fun rs => sb (res rs) fun rs s => nxt (asgs is rs s)
def setVs : List Nat → List V → L2.St → L2.St
  | i :: is, v :: vs, σ => setVs is vs (σ.set i (some v))
  | _, _, σ => σ
section
variable {c : Cz} {E : XS} {w w0 : Wd} {σ : L2.St} {s s' : S}
inductive VF : List Rs → Prop
  | nil : VF []
  | cons {r : Rs} {rs : List Rs} (h : ∀ i, r ≠ .al i) (t : VF rs) : VF (r :: rs)
theorem res_ok : ∀ {w : Wd} {s s' : S} {vs : List V} {rs rs' : List Rs}, R c w σ s → RvAll c w0 w σ vs rs → res rs s = some (.ok rs', s') → ∃ w', Le w w' ∧ w'.H = w.H ∧ R c w' σ s' ∧ RvAll c w0 w' σ vs rs' ∧ VF rs' ∧ ∀ p, NoFr p vs rs → NoFr p vs rs'
  | w, s, s', _, _, rs', R1, .nil, e => by cases e; exact ⟨w, Le.refl, rfl, R1, .nil, .nil, fun p h => h⟩
  | w, s, s', _, _, rs', R1, .cons (v := v) (r := r) h t ne, e => by
    rcases bnd_some e with ⟨r', s1, e1, e⟩ | ⟨x, e1, h⟩
    · obtain ⟨w1, l1, h1, R2, rv, fe⟩ := res1_ok R1 h e1
      rcases bnd_some e with ⟨rs2, s2, e2, e⟩ | ⟨x, e2, h⟩
      · cases e
        obtain ⟨w2, l2, h2, R3, ra, vf, nf⟩ := res_ok R2 (t.mono l1) e2
        have na : ∀ i, r' ≠ .al i := fun i z => by
          subst z
          cases r with
          | v d => cases e1
          | fr d => cases e1
          | al j =>
            rcases bnd_some e1 with ⟨d, s1, e1, e⟩ | ⟨x, e1, h⟩
            · cases e
            · cases h
        refine ⟨w2, l1.trans l2, h2.trans h1, R3, .cons (rv.mono l2) ra fun d p z1 z2 => nf p (ne d p ?_ z2), .cons na vf, fun p h => ?_⟩
        · rw [← fe ⟨d, z1⟩]; exact z1
        · cases h with
          | cons h1 h2 => exact .cons (fun d z => h1 d (by rw [← fe ⟨d, z⟩]; exact z)) (nf p h2)
      · cases h
    · cases h
theorem res_not_ex : ∀ {s s' : S} {rs : List Rs} {x : Xn}, res rs s = some (.ex x, s') → False
  | s, s', [], x, e => by cases e
  | s, s', r :: rs, x, e => by
    rcases bnd_some e with ⟨r', s1, e1, e⟩ | ⟨x, e1, h⟩
    · rcases bnd_some e with ⟨rs2, s2, e2, e⟩ | ⟨x, e2, h⟩
      · cases e
      · exact res_not_ex e2
    · exact res1_not_ex e1
theorem asgs_ok : ∀ {w : Wd} {σ : L2.St} {s s' : S} {is : List Nat} {vs : List V} {rs : List Rs}, R c w σ s → Le w0 w → RvAll c w0 w σ vs rs → VF rs → asgs is rs s = some s' → ∃ w', Le w0 w' ∧ w'.H = w.H ∧ R c w' (setVs is vs σ) s'
  | w, σ, s, s', [], _, _, R1, l, .nil, _, e => by cases e; exact ⟨w, l, rfl, R1⟩
  | w, σ, s, s', i :: is, _, _, R1, l, .nil, _, e => by cases e
  | w, σ, s, s', [], _, _, R1, l, .cons .., _, e => by cases e
  | w, σ, s, s', i :: is, _, _, R1, l, .cons (v := v) (r := r) (vs := vs) (rs := rs) h t ne, .cons na vf, e => by
    unfold asgs at e
    cases e1 : asg i r s with
    | none => rw [e1] at e; cases e
    | some s1 =>
      rw [e1] at e
      obtain ⟨w1, l1, h1, hF, hρ, hO, R2⟩ := asg_ok R1 l h e1
      have ra : RvAll c w0 w1 (σ.set i (some v)) vs rs := by
        have go : ∀ {vs : List V} {rs : List Rs}, RvAll c w0 w σ vs rs → VF rs → (∀ d p, r = Rs.fr d → v = .ref p → NoFr p vs rs) → RvAll c w0 w1 (σ.set i (some v)) vs rs := by
          intro vs rs ra
          induction ra with
          | nil => exact fun _ _ => .nil
          | cons h t ne ih =>
            rename_i v' r' vs' rs'
            intro vf nf
            cases vf with
            | cons na vf =>
              refine .cons ?_ (ih vf fun d p a b => by cases nf d p a b with | cons _ t => exact t) ne
              cases r' with
              | v d => show Tr c w1.ρ w1.F _ _; rw [hF, hρ]; exact h
              | al j => exact absurd rfl (na j)
              | fr d =>
                obtain ⟨p, o, rfl, n, q, ce, f, no⟩ := h
                refine ⟨p, o, rfl, n, by rw [h1]; exact q, by rw [hF, hρ]; exact ce, by rw [hF]; exact f, fun z => ?_⟩
                rcases hO p z with z | ⟨z, d', z2⟩
                · exact no z
                · cases nf d' p z2 z with
                  | cons hh _ => exact hh d rfl rfl
        exact go t vf ne
      obtain ⟨w2, l2, h2, R3⟩ := asgs_ok R2 l1 ra vf e
      exact ⟨w2, l2, h2.trans h1, R3⟩
theorem par_run {t : TA} {T : M (List Rs)} {is : List Nat} (ht : SimP c E t T) {fl : Fl} {D : Ends} (R1 : R c w σ s) (e : TPar is T s = some (fl, s')) (post : PostS c w D E s' fl) {Q : List V → Hp → Prop} (hq : ∀ vs H1, vs.length = is.length → D.nx (setVs is vs σ) H1 → Q vs H1) : t σ w.H Q := by
  rcases sb_some e with ⟨rs, s1, e1, e⟩ | ⟨x, e1, rfl⟩
  · refine ht w σ s _ s1 _ R1 e1 fun w1 vs l1 R2 rv => ?_
    rcases sb_some e with ⟨rs', s2, e2, e⟩ | ⟨x, e2, rfl⟩
    · obtain ⟨w2, l2, eh, R3, rv2, vf, _⟩ := res_ok R2 rv e2
      obtain ⟨e3, rfl⟩ := nxt_some e
      obtain ⟨w3, l3, eh3, R4⟩ := asgs_ok R3 (l1.trans l2) rv2 vf e3
      refine hq vs w1.H ?_ (by rw [← eh, ← eh3]; exact post w3 _ l3 R4)
      have g : ∀ {vs : List V} {rs : List Rs} {is : List Nat} {s s' : S}, RvAll c w w2 σ vs rs → asgs is rs s = some s' → vs.length = is.length := by
        intro vs rs is s s' ra
        induction ra generalizing is s with
        | nil =>
          intro e
          cases is with
          | nil => rfl
          | cons _ _ => cases e
        | cons h t ne ih =>
          intro e
          cases is with
          | nil => cases e
          | cons i is =>
            unfold asgs at e
            cases e1 : asg i _ s with
            | none => rw [e1] at e; cases e
            | some s1 => rw [e1] at e; exact congrArg (· + 1) (ih e)
      exact g rv2 e3
    · exact (res_not_ex e2).elim
  · exact ht w σ s _ _ _ R1 e1 fun w1 d l1 R2 xa => post w1 σ d l1 R2 xa
theorem len2 {vs : List V} (h : vs.length = 2) : ∃ a b, vs = [a, b] := by
  match vs, h with
  | [a, b], _ => exact ⟨a, b, rfl⟩
theorem len3 {vs : List V} (h : vs.length = 3) : ∃ a b d, vs = [a, b, d] := by
  match vs, h with
  | [a, b, d], _ => exact ⟨a, b, d, rfl⟩
/-- a reading of arguments may be weakened at its end -/
theorem sim_Par {t : TA} {T : M (List Rs)} {i j : Nat} (ht : SimP c E t T) : SimS c E (tPar i j t) (TPar [i, j] T) := by
  intro w σ s fl s' D R1 e post
  refine par_run ht R1 e post fun vs H hl q => ?_
  obtain ⟨a, b, rfl⟩ := len2 hl
  exact ⟨a, b, rfl, q⟩
theorem sim_Par3 {t : TA} {T : M (List Rs)} {i j k : Nat} (ht : SimP c E t T) : SimS c E (U.tPar3 i j k t) (TPar [i, j, k] T) := by
  intro w σ s fl s' D R1 e post
  refine par_run ht R1 e post fun vs H hl q => ?_
  obtain ⟨a, b, d, rfl⟩ := len3 hl
  exact ⟨a, b, d, rfl, q⟩
end
end Z
/-! loops, comprehensions, changes in place -/
namespace Z
open PySem PySem.Spec PyProof.Rows L2 U
/-! ### targets -/
abbrev GD := D → S → Option S
abbrev GDs := List D → S → Option S
def GName (i : Nat) : GD := fun d s => setV i (.s d) s
def GNil : GDs := fun ds s => match ds with
  | [] => some s
  | _ => none
def GCons (g : GD) (h : GDs) : GDs := fun ds s => match ds with
  | d :: ds => (g d s).bind (h ds)
  | [] => none
def GTup (n : Nat) (h : GDs) : GD := fun d s => match d with
  | .tup ds => if ds.length = n then h ds s else none
  | _ => none
section
variable (c : Cz)
/-- a target, its variables ix -/
def SimG (ix : List Nat) (g : TG) (G : GD) : Prop := ∀ w σ s v d s' Q, R c w σ s → Tr c w.ρ w.F v d → G d s = some s' → (∀ σ', R c w σ' s' → (∀ vs, (∀ i ∈ ix, i ∈ vs) → wipe σ' vs = wipe σ vs) → Q σ' w.H) → g v σ w.H Q
def SimGs (ix : List Nat) (g : TGs) (G : GDs) : Prop := ∀ w σ s v d s' Q, R c w σ s → TrAll c w.ρ w.F v d → G d s = some s' → (∀ σ', R c w σ' s' → (∀ vs, (∀ i ∈ ix, i ∈ vs) → wipe σ' vs = wipe σ vs) → Q σ' w.H) → g v σ w.H Q
end
theorem wipe_set {i : Nat} {x : Option V} : ∀ {vs : List Nat} {σ : L2.St}, i ∈ vs → wipe (σ.set i x) vs = wipe σ vs
  | [], σ, h => by cases h
  | v :: vs, σ, h => by
    unfold wipe
    by_cases e : i = v
    · subst e
      by_cases m : i ∈ vs
      · rw [wipe_set m]
      · have : ∀ (vs : List Nat) (σ : L2.St), i ∉ vs → wipe (σ.set i x) vs = (wipe σ vs).set i x := by
          intro vs
          induction vs with
          | nil => intro σ _; rfl
          | cons u us ih =>
            intro σ hu
            simp only [List.mem_cons, not_or] at hu
            unfold wipe
            rw [ih σ hu.2, List.set_comm _ _ hu.1]
        rw [this vs σ m, List.set_set]
    · rw [wipe_set (by cases h with | head => exact absurd rfl e | tail _ h => exact h)]
section
variable {c : Cz} {E : XS} {w w0 : Wd} {σ : L2.St} {s s' : S}
theorem sim_GName {i : Nat} : SimG c [i] (gName i) (GName i) := fun w σ s v d s' Q R1 t e q => q _ (setS_ok R1 t e) fun vs h => wipe_set (h i (by simp))
theorem sim_GNil : SimGs c [] gNil GNil := by
  intro w σ s v d s' Q R1 t e q
  cases t with
  | nil => cases e; exact ⟨rfl, q σ R1 fun _ _ => rfl⟩
  | cons _ _ => cases e
theorem sim_GCons {ix iy : List Nat} {g : TG} {G : GD} {h : TGs} {G2 : GDs} (hg : SimG c ix g G) (hh : SimGs c iy h G2) : SimGs c (ix ++ iy) (gCons g h) (GCons G G2) := by
  intro w σ s v d s' Q R1 t e q
  cases t with
  | nil => cases e
  | cons t1 t2 =>
    unfold GCons at e
    simp only [Option.bind_eq_some_iff] at e
    obtain ⟨s1, e1, e2⟩ := e
    refine ⟨_, _, rfl, hg w σ s _ _ s1 _ R1 t1 e1 fun σ1 R2 w1 => hh w σ1 s1 _ _ s' _ R2 t2 e2 fun σ2 R3 w2 => q σ2 R3 fun vs hv => ?_⟩
    rw [w2 vs fun i hi => hv i (List.mem_append_right _ hi), w1 vs fun i hi => hv i (List.mem_append_left _ hi)]
theorem sim_GTup {n : Nat} {ix : List Nat} {g : TGs} {G : GDs} (hg : SimGs c ix g G) : SimG c ix (gTup c.K n g) (GTup n G) := by
  intro w σ s v d s' Q R1 t e q
  unfold GTup at e
  split at e
  · rename_i ds
    split at e
    · rename_i hn
      cases t with
      | tup h r => exact ⟨_, _, rfl, R1.ok.tup h, (trall_len r).trans hn, hg w σ s _ _ s' Q R1 r e q⟩
    · cases e
  · cases e
end
/-! ### what a loop walks -/
section
variable (c : Cz)
structure GoesD (w : Wd) (J : It) (ds : List D) : Prop where
  go : ∀ w2 i, Le w w2 → Same w2.F w2.H → i < ds.length → J.go i w2.H
  stop : ∀ w2, Le w w2 → Same w2.F w2.H → J.stop ds.length w2.H
  yld : ∀ w2 i d x H', Le w w2 → Same w2.F w2.H → ds[i]? = some d → J.yld i w2.H x H' → ∃ w3, w3.H = H' ∧ Le w2 w3 ∧ (∀ σ s, R c w2 σ s → R c w3 σ s) ∧ Tr c w3.ρ w3.F x d
def PostI (w : Wd) (σ : L2.St) (s' : S) (Q : It → Hp → Prop) (E : XS) : Rz (List D) → Prop
  | .ok ds => ∀ w' J, Le w w' → R c w' σ s' → GoesD c w' J ds → Q J w'.H
  | .ex x => ∀ w' d, Le w w' → R c w' σ s' → Xa c w' d x → E σ (.ref (c.cad x.c)) d w'.H
def SimI (E : XS) (t : TI) (T : M (List D)) : Prop := ∀ w σ s out s' Q, R c w σ s → T s = some (out, s') → PostI c w σ s' Q E out → t σ w.H Q
end
/-- the items of a list that stays -/
def itemsL : D → Option (List D)
  | .list ds => some ds
  | .scr ds => some ds
  | _ => none
def ILst (T : M Rs) : M (List D) := bnd T fun r => bnd (stab r) fun d => opt (itemsL d)
def ITup (T : M Rs) : M (List D) := bnd T fun r => bnd (stab r) fun d => opt (match d with | .tup ds => some ds | _ => none)
def IStr (T : M Rs) : M (List D) := bnd T fun r => bnd (pk r) fun d => opt (match d with | .str z => some (z.cps.toList.map fun k => D.str ⟨#[k]⟩) | _ => none)
def rngD (lo : Int) (n : Nat) : List D := (List.range n).map fun (k : Nat) => D.int (lo + (k : Int))
def smallI (i : Int) : Bool := decide (-(2 ^ 62) ≤ i) && decide (i < 2 ^ 62)
def IRng1 (T : M (List D)) : M (List D) := bnd T fun ds => opt (match ds with | [.int j] => if smallI j = true then some (rngD 0 j.toNat) else none | _ => none)
def IRng2 (T : M (List D)) : M (List D) := bnd T fun ds => opt (match ds with | [.int i, .int j] => if (smallI i && smallI j) = true then some (rngD i (j - i).toNat) else none | _ => none)
def enumD (ds : List D) : List D := ds.mapIdx fun i d => D.tup [.int (i : Nat), d]
def IEnum (T : M (List D)) : M (List D) := bnd T fun ds => opt (match ds with | [d] => (itemsL d).map enumD | _ => none)
def IZip (T : M (List D)) : M (List D) := bnd T fun ds => opt (match ds with | [a, b] => (match itemsL a, itemsL b with | some xs, some ys => some ((xs.zip ys).map fun p => D.tup [p.1, p.2]) | _, _ => none) | _ => none)
section
variable {c : Cz} {E : XS} {w w0 : Wd} {σ : L2.St} {s s' : S}
theorem itemsL_some {v : V} {d : D} {ds : List D} {ρ : List Addr} {F : Hp} (t : Tr c ρ F v d) (h : itemsL d = some ds) : ∃ a vs, v = .ref a ∧ SqL c.K F a vs ∧ TrAll c ρ F vs ds := by
  cases d with
  | list xs => cases h; cases t with | list h r => exact ⟨_, _, rfl, .inl (.inl h), r⟩
  | scr xs => cases h; cases t with | scr h r => exact ⟨_, _, rfl, h, r⟩
  | _ => cases h
theorem trall_get {ρ : List Addr} {F : Hp} : ∀ {vs : List V} {ds : List D} {i : Nat} {v : V} {d : D}, TrAll c ρ F vs ds → vs[i]? = some v → ds[i]? = some d → Tr c ρ F v d
  | _, _, 0, _, _, .cons h _, e1, e2 => by simp at e1 e2; subst e1; subst e2; exact h
  | _, _, i + 1, _, _, .cons _ t, e1, e2 => trall_get t (by simpa using e1) (by simpa using e2)
  | _, _, _, _, _, .nil, e1, _ => by simp at e1
theorem goesD_list {a : Addr} {vs : List V} {ds : List D} (h : SqL c.K w.F a vs) (r : TrAll c w.ρ w.F vs ds) : GoesD c w (Itl c.K a) ds where
  go := fun w2 i l ok hi => by
    have hl := trall_len r
    exact ⟨vs, vs[i], ok.seq (l.fz.seq h), by simp [show i < vs.length by omega]⟩
  stop := fun w2 l ok => ⟨vs, ok.seq (l.fz.seq h), by rw [trall_len r]; exact Nat.le_refl _⟩
  yld := fun w2 i d x H' l ok hd y => by
    obtain ⟨rfl, y⟩ := y
    exact ⟨w2, rfl, Le.refl, fun _ _ h => h, (trall_get r (y vs (ok.seq (l.fz.seq h))) hd).mono l.pr l.fz⟩
theorem goesD_tup {a : Addr} {vs : List V} {ds : List D} (h : SqT c.K w.F a vs) (r : TrAll c w.ρ w.F vs ds) : GoesD c w (Itt c.K a) ds where
  go := fun w2 i l ok hi => by
    have hl := trall_len r
    exact ⟨vs, vs[i], ok.tup (l.fz.tup h), by simp [show i < vs.length by omega]⟩
  stop := fun w2 l ok => ⟨vs, ok.tup (l.fz.tup h), by rw [trall_len r]; exact Nat.le_refl _⟩
  yld := fun w2 i d x H' l ok hd y => by
    obtain ⟨rfl, y⟩ := y
    exact ⟨w2, rfl, Le.refl, fun _ _ h => h, (trall_get r (y vs (ok.tup (l.fz.tup h))) hd).mono l.pr l.fz⟩
theorem goesD_str {z : Str} : GoesD c w (Its z) (z.cps.toList.map fun k => D.str ⟨#[k]⟩) where
  go := fun w2 i l ok hi => by show i < z.cps.size; simpa using hi
  stop := fun w2 l ok => by show z.cps.size ≤ _; simp
  yld := fun w2 i d x H' l ok hd y => by
    obtain ⟨rfl, k, hk, rfl⟩ := y
    rw [List.getElem?_map, Array.getElem?_toList, hk] at hd
    cases hd
    exact ⟨w2, rfl, Le.refl, fun _ _ h => h, .str _⟩
theorem goesD_rng {lo : Int} {n : Nat} : GoesD c w (Itr lo n) (rngD lo n) where
  go := fun w2 i l ok hi => by show i < n; simpa [rngD] using hi
  stop := fun w2 l ok => by show n ≤ _; simp [rngD]
  yld := fun w2 i d x H' l ok hd y => by
    obtain ⟨rfl, rfl⟩ := y
    unfold rngD at hd
    rw [List.getElem?_map] at hd
    by_cases hi : i < n
    · rw [List.getElem?_range hi] at hd
      cases hd
      exact ⟨w2, rfl, Le.refl, fun _ _ h => h, .int _⟩
    · rw [List.getElem?_eq_none (by simpa using hi)] at hd; cases hd
/-- a new tuple that stays at once -/
theorem new_keep {w : Wd} {p : Addr} {o : HO} (ok : Same w.F w.H) (hp : w.H p = none) : ∃ w3, w3.H = upd w.H p o ∧ Le w w3 ∧ (∀ σ s, R c w σ s → R c w3 σ s) ∧ Same w.F w3.F ∧ w3.F p = some o ∧ w3.ρ = w.ρ := by
  have f : w.F p = none := by
    cases e : w.F p with
    | none => rfl
    | some u => exact absurd (ok _ _ e) (by rw [hp]; simp)
  refine ⟨(w.new p o).keep p o, rfl, ⟨same_keep (w := w.new p o) f, fun b z => ?_, (Le.new hp).fr, fun b z => .inl z, (Le.new hp).dm, List.prefix_refl _⟩, fun σ s R1 => (R1.new hp).keep f upd_same fun z => (R1.ow p z).2 hp, same_keep (w := w.new p o) f, upd_same, rfl⟩
  by_cases e : b = p
  · exact .inr (.inr (e ▸ hp))
  · have : upd w.F p o b ≠ none := z
    rw [upd_ne e] at this
    exact .inl this
theorem goesD_enum {a : Addr} {vs : List V} {ds : List D} (h : SqL c.K w.F a vs) (r : TrAll c w.ρ w.F vs ds) : GoesD c w (Ite c.K a) (enumD ds) where
  go := fun w2 i l ok hi => by
    have hl := trall_len r
    have hi : i < ds.length := by simpa [enumD] using hi
    exact ⟨vs, vs[i], ok.seq (l.fz.seq h), by simp [show i < vs.length by omega]⟩
  stop := fun w2 l ok => ⟨vs, ok.seq (l.fz.seq h), by rw [trall_len r]; simp [enumD]⟩
  yld := fun w2 i d x H' l ok hd y => by
    obtain ⟨T, v, rfl, hn, rfl, y⟩ := y
    have hv := y vs (ok.seq (l.fz.seq h))
    unfold enumD at hd
    rw [List.getElem?_mapIdx] at hd
    cases e : ds[i]? with
    | none => rw [e] at hd; cases hd
    | some u =>
      rw [e] at hd
      cases hd
      obtain ⟨w3, h3, l3, r3, sm, ht, hρ⟩ := new_keep (c := c) (o := .tup [.int (i : Nat), v]) ok hn
      refine ⟨w3, h3, l3, r3, .tup (.inl (.inl ht)) (.cons (.int _) (.cons ?_ .nil))⟩
      exact (trall_get r hv e).mono (l.pr.trans l3.pr) (l.fz.trans l3.fz)
theorem goesD_zip {a b : Addr} {vs us : List V} {ds es : List D} (h : SqL c.K w.F a vs) (r : TrAll c w.ρ w.F vs ds) (h2 : SqL c.K w.F b us) (r2 : TrAll c w.ρ w.F us es) : GoesD c w (Itz c.K a b) ((ds.zip es).map fun p => D.tup [p.1, p.2]) where
  go := fun w2 i l ok hi => by
    have hl := trall_len r
    have hl2 := trall_len r2
    have hi : i < min ds.length es.length := by simpa using hi
    exact ⟨vs, us, vs[i], us[i], ok.seq (l.fz.seq h), ok.seq (l.fz.seq h2), by simp [show i < vs.length by omega], by simp [show i < us.length by omega]⟩
  stop := fun w2 l ok => ⟨vs, us, ok.seq (l.fz.seq h), ok.seq (l.fz.seq h2), by
    have hl := trall_len r
    have hl2 := trall_len r2
    simp
    omega⟩
  yld := fun w2 i d x H' l ok hd y => by
    obtain ⟨T, v, u, rfl, hn, rfl, y, y2⟩ := y
    have hv := y vs (ok.seq (l.fz.seq h))
    have hu := y2 us (ok.seq (l.fz.seq h2))
    rw [List.getElem?_map] at hd
    cases e : (ds.zip es)[i]? with
    | none => rw [e] at hd; cases hd
    | some p =>
      rw [e] at hd
      cases hd
      obtain ⟨e1, e2⟩ := List.getElem?_zip_eq_some.mp e
      obtain ⟨w3, h3, l3, r3, sm, ht, hρ⟩ := new_keep (c := c) (o := .tup [v, u]) ok hn
      refine ⟨w3, h3, l3, r3, .tup (.inl (.inl ht)) (.cons ?_ (.cons ?_ .nil))⟩
      · exact (trall_get r hv e1).mono (l.pr.trans l3.pr) (l.fz.trans l3.fz)
      · exact (trall_get r2 hu e2).mono (l.pr.trans l3.pr) (l.fz.trans l3.fz)
theorem sim_ILst {t : TE} {T : M Rs} (ht : Sim c E t T) : SimI c E (iList c.K t) (ILst T) := by
  intro w σ s out s' Q R1 e post
  rcases bnd_some e with ⟨r, s1, e1, e⟩ | ⟨x, e1, rfl⟩
  · refine ht w σ s _ s1 _ R1 e1 fun w1 v l1 R2 rv => ?_
    rcases bnd_some e with ⟨d, s2, e2, e⟩ | ⟨x, e2, rfl⟩
    · obtain ⟨w2, l2, eh, R3, tr⟩ := stab_ok R2 l1 rv e2
      obtain ⟨ds, e3, rfl, rfl⟩ := opt_some e
      obtain ⟨a, vs, rfl, hs, ta⟩ := itemsL_some tr e3
      rw [← eh]
      exact ⟨a, rfl, ⟨vs, R3.ok.seq hs⟩, post w2 _ l2 R3 (goesD_list hs ta)⟩
    · exact (stab_not_ex e2).elim
  · exact ht w σ s _ _ _ R1 e1 fun w1 d l1 R2 xa => post w1 d l1 R2 xa
theorem sim_ITup {t : TE} {T : M Rs} (ht : Sim c E t T) : SimI c E (iTup c.K t) (ITup T) := by
  intro w σ s out s' Q R1 e post
  rcases bnd_some e with ⟨r, s1, e1, e⟩ | ⟨x, e1, rfl⟩
  · refine ht w σ s _ s1 _ R1 e1 fun w1 v l1 R2 rv => ?_
    rcases bnd_some e with ⟨d, s2, e2, e⟩ | ⟨x, e2, rfl⟩
    · obtain ⟨w2, l2, eh, R3, tr⟩ := stab_ok R2 l1 rv e2
      obtain ⟨ds, e3, rfl, rfl⟩ := opt_some e
      split at e3
      · cases e3
        cases tr with
        | tup hs ta =>
          rw [← eh]
          exact ⟨_, rfl, ⟨_, R3.ok.tup hs⟩, post w2 _ l2 R3 (goesD_tup hs ta)⟩
      · cases e3
    · exact (stab_not_ex e2).elim
  · exact ht w σ s _ _ _ R1 e1 fun w1 d l1 R2 xa => post w1 d l1 R2 xa
theorem sim_IStr {t : TE} {T : M Rs} (ht : Sim c E t T) : SimI c E (iStr t) (IStr T) := by
  intro w σ s out s' Q R1 e post
  rcases bnd_some e with ⟨r, s1, e1, e⟩ | ⟨x, e1, rfl⟩
  · refine ht w σ s _ s1 _ R1 e1 fun w1 v l1 R2 rv => ?_
    obtain ⟨d, p1, e⟩ := bnd_pk e
    obtain ⟨ds, e3, rfl, rfl⟩ := opt_some e
    have pa := peek_pk R2 rv p1
    split at e3
    · cases e3
      exact ⟨_, pa.str, post w1 _ l1 R2 goesD_str⟩
    · cases e3
  · exact ht w σ s _ _ _ R1 e1 fun w1 d l1 R2 xa => post w1 d l1 R2 xa
theorem trall1 {ρ : List Addr} {F : Hp} {vs : List V} {d : D} (h : TrAll c ρ F vs [d]) : ∃ v, vs = [v] ∧ Tr c ρ F v d := by
  cases h with
  | cons a b => cases b; exact ⟨_, rfl, a⟩
theorem trall2 {ρ : List Addr} {F : Hp} {vs : List V} {d e : D} (h : TrAll c ρ F vs [d, e]) : ∃ v u, vs = [v, u] ∧ Tr c ρ F v d ∧ Tr c ρ F u e := by
  cases h with
  | cons a b => obtain ⟨u, rfl, q⟩ := trall1 b; exact ⟨_, u, rfl, a, q⟩
theorem sim_IRng1 {t : TA} {T : M (List D)} (ht : SimA c E t T) : SimI c E (iRng1 t) (IRng1 T) := by
  intro w σ s out s' Q R1 e post
  rcases bnd_some e with ⟨r, s1, e1, e⟩ | ⟨x, e1, rfl⟩
  · refine ht w σ s _ s1 _ R1 e1 fun w1 vs l1 R2 ta => ?_
    obtain ⟨ds, e3, rfl, rfl⟩ := opt_some e
    split at e3
    · rename_i j
      split at e3
      · rename_i hs
        cases e3
        obtain ⟨v, rfl, tv⟩ := trall1 ta
        cases tv
        unfold smallI at hs
        simp only [Bool.and_eq_true, decide_eq_true_eq] at hs
        exact ⟨j, rfl, hs.1, hs.2, post w1 _ l1 R2 goesD_rng⟩
      · cases e3
    · cases e3
  · exact ht w σ s _ _ _ R1 e1 fun w1 d l1 R2 xa => post w1 d l1 R2 xa
theorem sim_IRng2 {t : TA} {T : M (List D)} (ht : SimA c E t T) : SimI c E (iRng2 t) (IRng2 T) := by
  intro w σ s out s' Q R1 e post
  rcases bnd_some e with ⟨r, s1, e1, e⟩ | ⟨x, e1, rfl⟩
  · refine ht w σ s _ s1 _ R1 e1 fun w1 vs l1 R2 ta => ?_
    obtain ⟨ds, e3, rfl, rfl⟩ := opt_some e
    split at e3
    · rename_i i j
      split at e3
      · rename_i hs
        cases e3
        obtain ⟨v, u, rfl, tv, tu⟩ := trall2 ta
        cases tv
        cases tu
        unfold smallI at hs
        simp only [Bool.and_eq_true, decide_eq_true_eq] at hs
        exact ⟨i, j, rfl, ⟨hs.1.1, hs.1.2, hs.2.1, hs.2.2⟩, post w1 _ l1 R2 goesD_rng⟩
      · cases e3
    · cases e3
  · exact ht w σ s _ _ _ R1 e1 fun w1 d l1 R2 xa => post w1 d l1 R2 xa
theorem sim_IEnum {t : TA} {T : M (List D)} (ht : SimA c E t T) : SimI c E (iEnum c.K t) (IEnum T) := by
  intro w σ s out s' Q R1 e post
  rcases bnd_some e with ⟨r, s1, e1, e⟩ | ⟨x, e1, rfl⟩
  · refine ht w σ s _ s1 _ R1 e1 fun w1 vs l1 R2 ta => ?_
    obtain ⟨ds, e3, rfl, rfl⟩ := opt_some e
    split at e3
    · rename_i d
      obtain ⟨xs, e4, rfl⟩ := Option.map_eq_some_iff.mp e3
      obtain ⟨v, rfl, tv⟩ := trall1 ta
      obtain ⟨a, us, rfl, hs, tu⟩ := itemsL_some tv e4
      exact ⟨a, us, rfl, R2.ok.seq hs, post w1 _ l1 R2 (goesD_enum hs tu)⟩
    · cases e3
  · exact ht w σ s _ _ _ R1 e1 fun w1 d l1 R2 xa => post w1 d l1 R2 xa
theorem sim_IZip {t : TA} {T : M (List D)} (ht : SimA c E t T) : SimI c E (iZip c.K t) (IZip T) := by
  intro w σ s out s' Q R1 e post
  rcases bnd_some e with ⟨r, s1, e1, e⟩ | ⟨x, e1, rfl⟩
  · refine ht w σ s _ s1 _ R1 e1 fun w1 vs l1 R2 ta => ?_
    obtain ⟨ds, e3, rfl, rfl⟩ := opt_some e
    split at e3
    · rename_i d1 d2
      split at e3
      · rename_i xs ys e4 e5
        cases e3
        obtain ⟨v, u, rfl, tv, tu⟩ := trall2 ta
        obtain ⟨a, us, rfl, hs, tu1⟩ := itemsL_some tv e4
        obtain ⟨b, us2, rfl, hs2, tu2⟩ := itemsL_some tu e5
        exact ⟨a, b, us, us2, rfl, R2.ok.seq hs, R2.ok.seq hs2, post w1 _ l1 R2 (goesD_zip hs tu1 hs2 tu2)⟩
      · cases e3
    · cases e3
  · exact ht w σ s _ _ _ R1 e1 fun w1 d l1 R2 xa => post w1 d l1 R2 xa
end
/-! ### for, while -/
def forD (G : GD) (T : TSd) : List D → TSd
  | [], s => some (.nx, s)
  | d :: ds, s => match G d s with
    | none => none
    | some s1 => match T s1 with
      | some (.nx, s2) => forD G T ds s2
      | some (.ct, s2) => forD G T ds s2
      | some (.bk, s2) => some (.nx, s2)
      | some (.rt r, s2) => some (.rt r, s2)
      | some (.ex x, s2) => some (.ex x, s2)
      | none => none
def TFor (I : M (List D)) (G : GD) (T : TSd) : TSd := sb I fun ds => forD G T ds
def whD (B : M Bool) (T : TSd) : Nat → TSd
  | 0, _ => none
  | n + 1, s => match B s with
    | some (.ok true, s1) => (match T s1 with
      | some (.nx, s2) => whD B T n s2
      | some (.ct, s2) => whD B T n s2
      | some (.bk, s2) => some (.nx, s2)
      | some (.rt r, s2) => some (.rt r, s2)
      | some (.ex x, s2) => some (.ex x, s2)
      | none => none)
    | some (.ok false, s1) => some (.nx, s1)
    | some (.ex x, s1) => some (.ex x, s1)
    | none => none
def TWhile (n : Nat) (B : M Bool) (T : TSd) : TSd := whD B T n
section
variable {c : Cz} {E : XS} {w w0 : Wd} {σ : L2.St} {s s' : S}
theorem sim_For {i : TI} {I : M (List D)} {ix : List Nat} {g : TG} {G : GD} {t : TS} {T : TSd} (hi : SimI c E i I) (hg : SimG c ix g G) (ht : SimS c E t T) : SimS c E (tFor i g t) (TFor I G T) := by
  intro w σ s fl s' D R1 e post
  rcases sb_some e with ⟨ds, s1, e1, e⟩ | ⟨x, e1, rfl⟩
  · refine hi w σ s _ s1 _ R1 e1 fun w1 J l1 R2 gs => ?_
    refine ⟨fun k m σ2 H2 => m = ds.length - k ∧ k ≤ ds.length ∧ ∃ w2 s2, Le w1 w2 ∧ R c w2 σ2 s2 ∧ w2.H = H2 ∧ forD G T (ds.drop k) s2 = some (fl, s'), ⟨ds.length, by simp, Nat.zero_le _, w1, s1, Le.refl, R2, rfl, by simpa using e⟩, ?_⟩
    rintro k m σ2 H2 ⟨rfl, hk, w2, s2, l2, R3, rfl, e2⟩
    by_cases hlt : k < ds.length
    · refine .inr ⟨gs.go w2 k l2 R3.ok hlt, fun σ' H' => k + 1 ≤ ds.length ∧ ∃ w3 s3, Le w1 w3 ∧ R c w3 σ' s3 ∧ w3.H = H' ∧ forD G T (ds.drop (k + 1)) s3 = some (fl, s'), fun σ' H' ⟨h1, h2⟩ => ⟨ds.length - (k + 1), by omega, rfl, h1, h2⟩, fun x H' y => ?_⟩
      obtain ⟨w3, rfl, l3, r3, tx⟩ := gs.yld w2 k ds[k] x H' l2 R3.ok (List.getElem?_eq_getElem hlt) y
      have R4 := r3 _ _ R3
      rw [List.drop_eq_getElem_cons hlt] at e2
      unfold forD at e2
      split at e2
      · cases e2
      · rename_i s3 e3
        refine hg w3 σ2 s2 x _ s3 _ R4 tx e3 fun σ3 R5 _ => ?_
        have l13 := l2.trans l3
        have lw3 := l1.trans l13
        split at e2
        · rename_i s4 e4
          exact ht w3 σ3 s3 _ s4 _ R5 e4 fun w4 σ4 l4 R6 => ⟨hlt, w4, s4, l13.trans l4, R6, rfl, e2⟩
        · rename_i s4 e4
          exact ht w3 σ3 s3 _ s4 _ R5 e4 fun w4 σ4 l4 R6 => ⟨hlt, w4, s4, l13.trans l4, R6, rfl, e2⟩
        · rename_i s4 e4
          cases e2
          exact ht w3 σ3 s3 _ _ _ R5 e4 fun w4 σ4 l4 R6 => post w4 σ4 (lw3.trans l4) R6
        · rename_i r s4 e4
          cases e2
          exact ht w3 σ3 s3 _ _ _ R5 e4 fun w4 σ4 v l4 R6 rv => post w4 σ4 v (lw3.trans l4) R6 (rv.base lw3)
        · rename_i r s4 e4
          cases e2
          exact ht w3 σ3 s3 _ _ _ R5 e4 fun w4 σ4 d l4 R6 xa => post w4 σ4 d (lw3.trans l4) R6 xa
        · cases e2
    · obtain rfl : k = ds.length := by omega
      rw [List.drop_length] at e2
      cases e2
      exact .inl ⟨gs.stop w2 l2 R3.ok, post w2 σ2 (l1.trans l2) R3⟩
  · exact hi w σ s _ _ _ R1 e1 fun w1 d l1 R2 xa => post w1 σ d l1 R2 xa
theorem sim_While {n : Nat} {b : TT} {B : M Bool} {t : TS} {T : TSd} (hb : SimT c E b B) (ht : SimS c E t T) : SimS c E (tWhile b t) (TWhile n B T) := by
  intro w σ s fl s' D R1 e post
  refine ⟨fun m σ2 H2 => ∃ w2 s2, Le w w2 ∧ R c w2 σ2 s2 ∧ w2.H = H2 ∧ whD B T m s2 = some (fl, s'), ⟨n, w, s, Le.refl, R1, rfl, e⟩, ?_⟩
  rintro m σ2 H2 ⟨w2, s2, l2, R2, rfl, e2⟩
  cases m with
  | zero => cases e2
  | succ m =>
    unfold whD at e2
    split at e2
    · rename_i s3 e3
      refine hb w2 σ2 s2 _ s3 _ R2 e3 fun w3 l3 R3 => ?_
      have l23 := l2.trans l3
      rw [if_pos rfl]
      refine ⟨fun σ' H' => ∃ w3 s3, Le w w3 ∧ R c w3 σ' s3 ∧ w3.H = H' ∧ whD B T m s3 = some (fl, s'), fun σ' H' h => ⟨m, Nat.lt_succ_self _, h⟩, ?_⟩
      split at e2
      · rename_i s4 e4
        exact ht w3 σ2 s3 _ s4 _ R3 e4 fun w4 σ4 l4 R6 => ⟨w4, s4, l23.trans l4, R6, rfl, e2⟩
      · rename_i s4 e4
        exact ht w3 σ2 s3 _ s4 _ R3 e4 fun w4 σ4 l4 R6 => ⟨w4, s4, l23.trans l4, R6, rfl, e2⟩
      · rename_i s4 e4
        cases e2
        exact ht w3 σ2 s3 _ _ _ R3 e4 fun w4 σ4 l4 R6 => post w4 σ4 (l23.trans l4) R6
      · rename_i r s4 e4
        cases e2
        exact ht w3 σ2 s3 _ _ _ R3 e4 fun w4 σ4 v l4 R6 rv => post w4 σ4 v (l23.trans l4) R6 (rv.base l23)
      · rename_i r s4 e4
        cases e2
        exact ht w3 σ2 s3 _ _ _ R3 e4 fun w4 σ4 d l4 R6 xa => post w4 σ4 d (l23.trans l4) R6 xa
      · cases e2
    · rename_i s3 e3
      cases e2
      refine hb w2 σ2 s2 _ _ _ R2 e3 fun w3 l3 R3 => ?_
      rw [if_neg (by decide)]
      exact post w3 σ2 (l2.trans l3) R3
    · rename_i x s3 e3
      cases e2
      exact hb w2 σ2 s2 _ _ _ R2 e3 fun w3 d l3 R3 xa => post w3 σ2 d (l2.trans l3) R3 xa
    · cases e2
end
end Z
/-! comprehensions, changes in place, attributes, calls -/
namespace Z
open PySem PySem.Spec PyProof.Rows L2 U
/-! ### comprehensions -/
def wipeE (vs : List Nat) (e : List (Option A)) : List (Option A) := match vs with
  | [] => e
  | v :: vs => (wipeE vs e).set v none
def restE (vs : List Nat) (e0 e1 : List (Option A)) : List (Option A) := match vs with
  | [] => e1
  | v :: vs => (restE vs e0 e1).set v (match e0[v]? with
    | some (some (.s d)) => some (.s d)
    | _ => none)
def lcD (G : GD) (B : M Bool) (T : M Rs) (vs : List Nat) : List D → List D → M (List D)
  | [], acc, s => some (.ok acc, s)
  | d :: ds, acc, s => match G d s with
    | none => none
    | some s1 => match B s1 with
      | some (.ok true, s2) => (match bnd T stab s2 with
        | some (.ok e, s3) => lcD G B T vs ds (acc ++ [e]) { s3 with env := wipeE vs s3.env }
        | _ => none)
      | some (.ok false, s2) => lcD G B T vs ds acc { s2 with env := wipeE vs s2.env }
      | _ => none
def TLc (I : M (List D)) (G : GD) (B : M Bool) (T : M Rs) (vs : List Nat) : M Rs := bnd I fun ds s => if fits ds.length = true then (match lcD G B T vs ds [] { s with env := wipeE vs s.env } with
  | some (.ok es, s2) => some (.ok (.fr (.list es)), { s2 with env := restE vs s.env s2.env })
  | _ => none) else none
def toKey : D → Option Key
  | .int i => some (.inl i)
  | .str z => some (.inr z)
  | _ => none
def putD (kvs : List (Key × D)) (k : Key) (v : D) : List (Key × D) :=
  if (kvs.any fun kv => decide (kv.1 = k)) = true then kvs.map (fun kv => if kv.1 = k then (kv.1, v) else kv) else kvs ++ [(k, v)]
def valD (kvs : List (Key × D)) (k : Key) : Option D := (kvs.find? fun kv => decide (kv.1 = k)).map (·.2)
def dcD (G : GD) (B : M Bool) (T U : M Rs) (vs : List Nat) : List D → List (Key × D) → M (List (Key × D))
  | [], acc, s => some (.ok acc, s)
  | d :: ds, acc, s => match G d s with
    | none => none
    | some s1 => match B s1 with
      | some (.ok true, s2) => (match bnd T stab s2 with
        | some (.ok k, s3) => (match toKey k with
          | some k => (match bnd U stab s3 with
            | some (.ok e, s4) => dcD G B T U vs ds (putD acc k e) { s4 with env := wipeE vs s4.env }
            | _ => none)
          | none => none)
        | _ => none)
      | some (.ok false, s2) => dcD G B T U vs ds acc { s2 with env := wipeE vs s2.env }
      | _ => none
def TDc (I : M (List D)) (G : GD) (B : M Bool) (T U : M Rs) (vs : List Nat) : M Rs := bnd I fun ds s => if fits ds.length = true then (match dcD G B T U vs ds [] { s with env := wipeE vs s.env } with
  | some (.ok es, s2) => some (.ok (.fr (.dict es)), { s2 with env := restE vs s.env s2.env })
  | _ => none) else none
theorem wipe_get {j : Nat} : ∀ {vs : List Nat} {σ : L2.St}, j ∉ vs → (wipe σ vs)[j]? = σ[j]?
  | [], σ, _ => rfl
  | v :: vs, σ, h => by
    simp only [List.mem_cons, not_or] at h
    unfold wipe
    rw [List.getElem?_set_ne (Ne.symm h.1), wipe_get h.2]
theorem wipeE_len : ∀ {vs : List Nat} {e : List (Option A)}, (wipeE vs e).length = e.length
  | [], _ => rfl
  | v :: vs, e => by unfold wipeE; rw [List.length_set, wipeE_len]
theorem restE_len {e0 : List (Option A)} : ∀ {vs : List Nat} {e : List (Option A)}, (restE vs e0 e).length = e.length
  | [], _ => rfl
  | v :: vs, e => by unfold restE; rw [List.length_set, restE_len]
theorem wipeE_some {j : Nat} {a : A} : ∀ {vs : List Nat} {e : List (Option A)}, (wipeE vs e)[j]? = some (some a) → j ∉ vs ∧ e[j]? = some (some a)
  | [], _, h => ⟨by simp, h⟩
  | v :: vs, e, h => by
    unfold wipeE at h
    by_cases z : v = j
    · subst z
      by_cases hv : v < (wipeE vs e).length
      · rw [List.getElem?_set_self hv] at h; cases h
      · rw [List.getElem?_eq_none (by simpa using hv)] at h; cases h
    · rw [List.getElem?_set_ne z] at h
      obtain ⟨h1, h2⟩ := wipeE_some h
      exact ⟨by simp only [List.mem_cons, not_or]; exact ⟨fun e => z e.symm, h1⟩, h2⟩
theorem restE_some {j : Nat} {a : A} {e0 : List (Option A)} : ∀ {vs : List Nat} {e : List (Option A)}, (restE vs e0 e)[j]? = some (some a) → (e0[j]? = some (some a) ∧ ∃ d, a = .s d) ∨ (j ∉ vs ∧ e[j]? = some (some a))
  | [], _, h => .inr ⟨by simp, h⟩
  | v :: vs, e, h => by
    unfold restE at h
    by_cases z : v = j
    · subst z
      by_cases hv : v < (restE vs e0 e).length
      · rw [List.getElem?_set_self hv] at h
        split at h
        · rename_i d hd; cases h; exact .inl ⟨hd, d, rfl⟩
        · cases h
      · rw [List.getElem?_eq_none (by simpa using hv)] at h; cases h
    · rw [List.getElem?_set_ne z] at h
      rcases restE_some h with h | ⟨h1, h2⟩
      · exact .inl h
      · exact .inr ⟨by simp only [List.mem_cons, not_or]; exact ⟨fun e => z e.symm, h1⟩, h2⟩
theorem wipe_wipe : ∀ {vs : List Nat} {σ : L2.St}, wipe (wipe σ vs) vs = wipe σ vs := by
  intro vs σ
  apply List.ext_getElem?
  intro j
  by_cases h : j ∈ vs
  · have g : ∀ σ : L2.St, ∀ vs : List Nat, j ∈ vs → (wipe σ vs)[j]? = if j < σ.length then some none else none := by
      intro σ vs
      induction vs with
      | nil => intro h; cases h
      | cons v vs ih =>
        intro h
        unfold wipe
        by_cases e : v = j
        · subst e
          by_cases hl : v < σ.length
          · rw [if_pos hl, List.getElem?_set_self (by rw [wipe_length]; exact hl)]
          · rw [if_neg hl, List.getElem?_eq_none (by simp [wipe_length]; omega)]
        · rw [List.getElem?_set_ne e]
          exact ih (by cases h with | head => exact absurd rfl e | tail _ h => exact h)
    rw [g _ _ h, g _ _ h, wipe_length]
  · rw [wipe_get h]
section
variable {c : Cz} {E : XS} {w w0 w1 w2 : Wd} {σ : L2.St} {s s' s2 : S}
theorem R.wipe {vs : List Nat} (R1 : R c w σ s) : R c w (L2.wipe σ vs) { s with env := wipeE vs s.env } := by
  refine ⟨R1.ok, R1.ow, R1.len, R1.nd, by show (wipeE vs s.env).length = _; rw [wipeE_len, wipe_length, R1.sz], R1.st, fun j a e => ?_, fun j k p u z e1 e2 e3 e4 => ?_⟩
  · obtain ⟨h1, h2⟩ := wipeE_some e
    obtain ⟨v, h3, h4⟩ := R1.vr j a h2
    exact ⟨v, by rw [wipe_get h1]; exact h3, h4⟩
  · exact R1.ne j k p u z (wipeE_some e1).2 (wipeE_some e2).2 (wipe_some e3).1 (wipe_some e4).1
theorem R.rest {vs : List Nat} (R1 : R c w1 σ s) (l : Le w1 w2) (R2 : R c w2 (L2.wipe σ vs) s2) : R c w2 σ { s2 with env := restE vs s.env s2.env } := by
  refine ⟨R2.ok, R2.ow, R2.len, R2.nd, by show (restE vs s.env s2.env).length = _; rw [restE_len, R2.sz, wipe_length], R2.st, fun j a e => ?_, fun j k p u z e1 e2 e3 e4 => ?_⟩
  · rcases restE_some e with ⟨h1, d, rfl⟩ | ⟨h1, h2⟩
    · obtain ⟨v, h3, h4⟩ := R1.vr j _ h1
      exact ⟨v, h3, Tr.mono h4 l.pr l.fz⟩
    · obtain ⟨v, h3, h4⟩ := R2.vr j a h2
      exact ⟨v, (wipe_some h3).1, h4⟩
  · rcases restE_some e1 with ⟨_, d, h⟩ | ⟨h1, h2⟩
    · cases h
    · rcases restE_some e2 with ⟨_, d, h⟩ | ⟨h3, h4⟩
      · cases h
      · exact R2.ne j k p u z h2 h4 (by rw [wipe_get h1]; exact e3) (by rw [wipe_get h3]; exact e4)
/-- a cell that nobody knows is written -/
theorem R.poke {p : Addr} {o : HO} (R1 : R c w σ s) (hf : w.F p = none) (no : ¬ w.O p) : R c (w.new p o) σ s where
  ok := fun b u e => by
    show upd w.H p o b = _
    have : b ≠ p := fun z => by rw [z] at e; have e : w.F p = some u := e; rw [hf] at e; cases e
    rw [upd_ne this]; exact R1.ok _ _ e
  ow := fun b z => ⟨(R1.ow b z).1, by
    show upd w.H p o b ≠ none
    have : b ≠ p := fun e => no (e ▸ z)
    rw [upd_ne this]; exact (R1.ow b z).2⟩
  len := R1.len
  nd := R1.nd
  sz := R1.sz
  st := fun n q d e1 e2 => by
    obtain ⟨h1, u, h2, h3⟩ := R1.st n q d e1 e2
    have n : q ≠ p := fun e => no (e ▸ h1)
    exact ⟨h1, u, by show upd w.H p o q = _; rw [upd_ne n]; exact h2, h3⟩
  vr := fun i a e => by
    obtain ⟨v, h1, h2⟩ := R1.vr i a e
    refine ⟨v, h1, ?_⟩
    cases a with
    | s d => exact h2
    | o d =>
      obtain ⟨q, u, e, h1, h2, h3, h4⟩ := h2
      have n : q ≠ p := fun e => no (e ▸ h1)
      exact ⟨q, u, e, h1, h2, by show upd w.H p o q = _; rw [upd_ne n]; exact h3, h4⟩
  ne := R1.ne
theorem Le.poke {p : Addr} {o : HO} (l : Le w0 w) (hp : w0.H p = none) : Le w0 (w.new p o) where
  fz := l.fz
  nf := l.nf
  fr := fun b u e n => by show upd w.H p o b = _; rw [upd_ne (ne_of_none e hp)]; exact l.fr b u e n
  no := l.no
  dm := fun b z => by
    show upd w.H p o b ≠ none
    by_cases e : b = p
    · rw [e, upd_same]; simp
    · rw [upd_ne e]; exact l.dm b z
  pr := l.pr
theorem trall_snoc {ρ : List Addr} {F : Hp} {v : V} {d : D} {vs : List V} {ds : List D} (h : TrAll c ρ F vs ds) (t : Tr c ρ F v d) : TrAll c ρ F (vs ++ [v]) (ds ++ [d]) := h.append (.cons t .nil)
theorem sim_Lc {i : TI} {I : M (List D)} {ix vs : List Nat} {g : TG} {G : GD} {b : TT} {B : M Bool} {t : TE} {T : M Rs} (hix : ix.all (vs.contains ·) = true) (hi : SimI c E i I) (hg : SimG c ix g G) (hb : SimT c E0s b B) (ht : Sim c E0s t T) : Sim c E (tLc i g b t vs) (TLc I G B T vs) := by
  have hix : ∀ i ∈ ix, i ∈ vs := fun i hi => by simpa using List.all_eq_true.mp hix i hi
  intro w σ s out s' Q R1 e post
  rcases bnd_some e with ⟨ds, s1, e1, e⟩ | ⟨x, e1, rfl⟩
  · refine hi w σ s _ s1 _ R1 e1 fun w1 J l1 R2 gs => ?_
    by_cases hf : fits ds.length = true
    · rw [if_pos hf] at e
      split at e
      · rename_i es s2 e2
        cases e
        intro Dd hD
        refine ⟨fun k m H => m = ds.length - k ∧ k ≤ ds.length ∧ ∃ w3 s3 acc, Le w1 w3 ∧ R c w3 (wipe σ vs) s3 ∧ w3.H = H ∧ Rv c w1 w3 σ (.ref Dd) (.fr (.list acc)) ∧ acc.length ≤ k ∧ lcD G B T vs (ds.drop k) acc s3 = some (.ok es, s2), ?_, ?_⟩
        · exact ⟨ds.length, by simp, Nat.zero_le _, w1.new Dd (.lst []), _, [], Le.new hD, R2.wipe.new hD, rfl, Rv.new R2 hD (.list .nil), Nat.le_refl _, by simpa using e2⟩
        rintro k m H ⟨rfl, hk, w3, s3, acc, l3, R3, rfl, rv, hacc, e3⟩
        by_cases hlt : k < ds.length
        · refine .inr ⟨gs.go w3 k l3 R3.ok hlt, fun H' => k + 1 ≤ ds.length ∧ ∃ w3 s3 acc, Le w1 w3 ∧ R c w3 (wipe σ vs) s3 ∧ w3.H = H' ∧ Rv c w1 w3 σ (.ref Dd) (.fr (.list acc)) ∧ acc.length ≤ k + 1 ∧ lcD G B T vs (ds.drop (k + 1)) acc s3 = some (.ok es, s2), fun H' ⟨h1, h2⟩ => ⟨ds.length - (k + 1), by omega, rfl, h1, h2⟩, fun x H' y => ?_⟩
          obtain ⟨w4, rfl, l4, r4, tx⟩ := gs.yld w3 k ds[k] x H' l3 R3.ok (List.getElem?_eq_getElem hlt) y
          have R4 := r4 _ _ R3
          have rv4 := rv.mono l4
          have l14 := l3.trans l4
          rw [List.drop_eq_getElem_cons hlt] at e3
          unfold lcD at e3
          split at e3
          · cases e3
          · rename_i s5 e5
            refine hg w4 _ s3 x _ s5 _ R4 tx e5 fun σ5 R5 hw => ?_
            have hw' := (hw vs hix).trans wipe_wipe
            refine ⟨hw', ?_⟩
            split at e3
            · rename_i s6 e6
              refine hb w4 σ5 s5 _ s6 _ R5 e6 fun w6 l6 R6 => ?_
              rw [if_pos rfl]
              split at e3
              · rename_i u s7 e7
                rcases bnd_some e7 with ⟨r, s8, e8, e9⟩ | ⟨x', e8, h⟩
                · refine ht w6 σ5 s6 _ s8 _ R6 e8 fun w8 v l8 R8 rv8 => ?_
                  obtain ⟨w9, l9, eh, R9, tr⟩ := stab_ok R8 l8 rv8 e9
                  obtain ⟨p, o, ep, n1, q, ce, f, no⟩ := (rv4.mono l6).mono l9
                  cases ep
                  cases ce with
                  | list ta =>
                    rename_i ws
                    have hl := trall_len ta
                    refine ⟨ws, by rw [← eh]; exact q, ?_, hlt, w9.new Dd (.lst (ws ++ [v])), _, acc ++ [u], (((l14.trans l6).trans l9).poke hD), ?_, by rw [← eh]; rfl, ?_, by simp; omega, e3⟩
                    · have := fits_le hf; omega
                    · have := (R9.poke (o := .lst (ws ++ [v])) f no).wipe (vs := vs)
                      rw [hw'] at this
                      exact this
                    · exact ⟨Dd, _, rfl, hD, upd_same, .list (trall_snoc ta tr), f, no⟩
                · cases h
              · cases e3
            · rename_i s6 e6
              refine hb w4 σ5 s5 _ s6 _ R5 e6 fun w6 l6 R6 => ?_
              rw [if_neg (by decide)]
              refine ⟨hlt, w6, _, acc, l14.trans l6, ?_, rfl, rv4.mono l6, by omega, e3⟩
              have := R6.wipe (vs := vs)
              rw [hw'] at this
              exact this
            · cases e3
        · obtain rfl : k = ds.length := by omega
          rw [List.drop_length] at e3
          cases e3
          exact .inl ⟨gs.stop w3 l3 R3.ok, post w3 _ (l1.trans l3) (R2.rest l3 R3) (rv.base l1)⟩
      · cases e
    · rw [if_neg hf] at e; cases e
  · exact hi w σ s _ _ _ R1 e1 fun w1 d l1 R2 xa => post w1 d l1 R2 xa
theorem toKey_some {v : V} {d : D} {k : Key} {ρ : List Addr} {F : Hp} (t : Tr c ρ F v d) (h : toKey d = some k) : v = kV k := by
  cases d with
  | int i => cases h; cases t; rfl
  | str i => cases h; cases t; rfl
  | _ => cases h
theorem trk_any {ρ : List Addr} {F : Hp} {k : Key} : ∀ {vs : List (Key × V)} {ds : List (Key × D)}, TrK c ρ F vs ds → (vs.any fun kv => decide (kv.1 = k)) = (ds.any fun kv => decide (kv.1 = k))
  | _, _, .nil => rfl
  | _, _, .cons h t => by simp only [List.any_cons]; rw [trk_any t]
theorem trk_map {ρ : List Addr} {F : Hp} {k : Key} {v : V} {d : D} (t : Tr c ρ F v d) : ∀ {vs : List (Key × V)} {ds : List (Key × D)}, TrK c ρ F vs ds → TrK c ρ F (vs.map fun kv => if kv.1 = k then (kv.1, v) else kv) (ds.map fun kv => if kv.1 = k then (kv.1, d) else kv)
  | _, _, .nil => .nil
  | _, _, .cons (k := k') h r => by
    simp only [List.map_cons]
    by_cases e : k' = k
    · rw [if_pos e, if_pos e]; exact .cons t (trk_map t r)
    · rw [if_neg e, if_neg e]; exact .cons h (trk_map t r)
theorem trk_snoc {ρ : List Addr} {F : Hp} {k : Key} {v : V} {d : D} (t : Tr c ρ F v d) : ∀ {vs : List (Key × V)} {ds : List (Key × D)}, TrK c ρ F vs ds → TrK c ρ F (vs ++ [(k, v)]) (ds ++ [(k, d)])
  | _, _, .nil => .cons t .nil
  | _, _, .cons h r => .cons h (trk_snoc t r)
theorem trk_put {ρ : List Addr} {F : Hp} {k : Key} {v : V} {d : D} {vs : List (Key × V)} {ds : List (Key × D)} (h : TrK c ρ F vs ds) (t : Tr c ρ F v d) : TrK c ρ F (putK vs k v) (putD ds k d) := by
  unfold putK putD
  rw [trk_any h]
  split
  · exact trk_map t h
  · exact trk_snoc t h
theorem trk_len {ρ : List Addr} {F : Hp} : ∀ {vs : List (Key × V)} {ds : List (Key × D)}, TrK c ρ F vs ds → vs.length = ds.length
  | _, _, .nil => rfl
  | _, _, .cons _ t => congrArg (· + 1) (trk_len t)
theorem putD_len {ds : List (Key × D)} {k : Key} {d : D} : (putD ds k d).length ≤ ds.length + 1 := by
  unfold putD
  split <;> simp
theorem sim_Dc {i : TI} {I : M (List D)} {ix vs : List Nat} {g : TG} {G : GD} {b : TT} {B : M Bool} {t u : TE} {T U : M Rs} (hix : ix.all (vs.contains ·) = true) (hi : SimI c E i I) (hg : SimG c ix g G) (hb : SimT c E0s b B) (ht : Sim c E0s t T) (hu : Sim c E0s u U) : Sim c E (tDc i g b t u vs) (TDc I G B T U vs) := by
  have hix : ∀ i ∈ ix, i ∈ vs := fun i hi => by simpa using List.all_eq_true.mp hix i hi
  intro w σ s out s' Q R1 e post
  rcases bnd_some e with ⟨ds, s1, e1, e⟩ | ⟨x, e1, rfl⟩
  · refine hi w σ s _ s1 _ R1 e1 fun w1 J l1 R2 gs => ?_
    by_cases hf : fits ds.length = true
    · rw [if_pos hf] at e
      split at e
      · rename_i es s2 e2
        cases e
        intro Dd hD
        refine ⟨fun k m H => m = ds.length - k ∧ k ≤ ds.length ∧ ∃ w3 s3 acc, Le w1 w3 ∧ R c w3 (wipe σ vs) s3 ∧ w3.H = H ∧ Rv c w1 w3 σ (.ref Dd) (.fr (.dict acc)) ∧ acc.length ≤ k ∧ dcD G B T U vs (ds.drop k) acc s3 = some (.ok es, s2), ?_, ?_⟩
        · exact ⟨ds.length, by simp, Nat.zero_le _, w1.new Dd (.dK []), _, [], Le.new hD, R2.wipe.new hD, rfl, Rv.new R2 hD (.dict .nil), Nat.le_refl _, by simpa using e2⟩
        rintro k m H ⟨rfl, hk, w3, s3, acc, l3, R3, rfl, rv, hacc, e3⟩
        by_cases hlt : k < ds.length
        · refine .inr ⟨gs.go w3 k l3 R3.ok hlt, fun H' => k + 1 ≤ ds.length ∧ ∃ w3 s3 acc, Le w1 w3 ∧ R c w3 (wipe σ vs) s3 ∧ w3.H = H' ∧ Rv c w1 w3 σ (.ref Dd) (.fr (.dict acc)) ∧ acc.length ≤ k + 1 ∧ dcD G B T U vs (ds.drop (k + 1)) acc s3 = some (.ok es, s2), fun H' ⟨h1, h2⟩ => ⟨ds.length - (k + 1), by omega, rfl, h1, h2⟩, fun x H' y => ?_⟩
          obtain ⟨w4, rfl, l4, r4, tx⟩ := gs.yld w3 k ds[k] x H' l3 R3.ok (List.getElem?_eq_getElem hlt) y
          have R4 := r4 _ _ R3
          have rv4 := rv.mono l4
          have l14 := l3.trans l4
          rw [List.drop_eq_getElem_cons hlt] at e3
          unfold dcD at e3
          split at e3
          · cases e3
          · rename_i s5 e5
            refine hg w4 _ s3 x _ s5 _ R4 tx e5 fun σ5 R5 hw => ?_
            have hw' := (hw vs hix).trans wipe_wipe
            refine ⟨hw', ?_⟩
            split at e3
            · rename_i s6 e6
              refine hb w4 σ5 s5 _ s6 _ R5 e6 fun w6 l6 R6 => ?_
              rw [if_pos rfl]
              split at e3
              · rename_i y1 s7 e7
                split at e3
                · rename_i key ek
                  split at e3
                  · rename_i y2 s10 e10
                    rcases bnd_some e7 with ⟨r, s8, e8, e9⟩ | ⟨x', e8, h⟩
                    · refine ht w6 σ5 s6 _ s8 _ R6 e8 fun w8 v l8 R8 rv8 => ?_
                      obtain ⟨w9, l9, eh, R9, tr⟩ := stab_ok R8 l8 rv8 e9
                      rw [← eh]
                      rcases bnd_some e10 with ⟨r, s11, e11, e12⟩ | ⟨x', e8, h⟩
                      · refine hu w9 σ5 s7 _ s11 _ R9 e11 fun w11 v2 l11 R11 rv11 => ?_
                        obtain ⟨w12, l12, eh2, R12, tr2⟩ := stab_ok R11 l11 rv11 e12
                        obtain ⟨p, o, ep, n1, q, ce, f, no⟩ := ((rv4.mono l6).mono l9).mono l12
                        cases ep
                        cases ce with
                        | dict ta =>
                          rename_i ws
                          have hl := trk_len ta
                          refine ⟨ws, key, toKey_some tr ek, by rw [← eh2]; exact q, ?_, hlt, w12.new Dd (.dK (putK ws key v2)), _, putD acc key y2, ((((l14.trans l6).trans l9).trans l12).poke hD), ?_, by rw [← eh2]; rfl, ?_, ?_, e3⟩
                          · have := fits_le hf; omega
                          · have := (R12.poke (o := .dK (putK ws key v2)) f no).wipe (vs := vs)
                            rw [hw'] at this
                            exact this
                          · exact ⟨Dd, _, rfl, hD, upd_same, .dict (trk_put ta tr2), f, no⟩
                          · have := putD_len (ds := acc) (k := key) (d := y2); omega
                      · cases h
                    · cases h
                  · cases e3
                · cases e3
              · cases e3
            · rename_i s6 e6
              refine hb w4 σ5 s5 _ s6 _ R5 e6 fun w6 l6 R6 => ?_
              rw [if_neg (by decide)]
              refine ⟨hlt, w6, _, acc, l14.trans l6, ?_, rfl, rv4.mono l6, by omega, e3⟩
              have := R6.wipe (vs := vs)
              rw [hw'] at this
              exact this
            · cases e3
        · obtain rfl : k = ds.length := by omega
          rw [List.drop_length] at e3
          cases e3
          exact .inl ⟨gs.stop w3 l3 R3.ok, post w3 _ (l1.trans l3) (R2.rest l3 R3) (rv.base l1)⟩
      · cases e
    · rw [if_neg hf] at e; cases e
  · exact hi w σ s _ _ _ R1 e1 fun w1 d l1 R2 xa => post w1 d l1 R2 xa
end
end Z
/-! changes in place, attributes, calls -/
namespace Z
open PySem PySem.Spec PyProof.Rows L2 U
/-- the thing is changed: what comes of it, what it is then -/
def mutD {β : Type} (r : Rs) (f : D → Option (β × D)) : M β := fun s => match r with
  | .al i => (match s.env[i]? with
    | some (some (.o d)) => (match f d with
      | some (b, d') => some (.ok b, { s with env := s.env.set i (some (.o d')) })
      | none => none)
    | _ => none)
  | .v (.loc n) => (match s.μ[n]? with
    | some d => (match f d with
      | some (b, d') => some (.ok b, { s with μ := s.μ.set n d' })
      | none => none)
    | none => none)
  | _ => none
section
variable {c : Cz} {E : XS} {w w0 w1 w2 : Wd} {σ : L2.St} {s s' s2 : S} {v : V} {r : Rs}
theorem Le.upd {p : Addr} {o : HO} (hO : w.O p) : Le w (w.new p o) where
  fz := Same.refl _
  nf := fun _ z => .inl z
  fr := fun b u e n => by
    have : b ≠ p := fun z => n (z ▸ hO)
    show L2.upd w.H p o b = _; rw [upd_ne this]; exact e
  no := fun _ z => .inl z
  dm := fun b z => by
    show L2.upd w.H p o b ≠ none
    by_cases e : b = p
    · rw [e, upd_same]; simp
    · rw [upd_ne e]; exact z
  pr := List.prefix_refl _
theorem R.updV {i : Nat} {p : Addr} {o : HO} {d d' : D} (R1 : R c w σ s) (hi : s.env[i]? = some (some (.o d))) (hv : σ[i]? = some (some (.ref p))) (ce : CellO c w.ρ w.F o d') : R c (w.new p o) σ { s with env := s.env.set i (some (.o d')) } := by
  obtain ⟨x, hx, q, u, rfl, hO, hρ, hH, _⟩ := R1.vr i _ hi
  rw [hv] at hx
  cases hx
  have hf := (R1.ow p hO).1
  have hil : i < s.env.length := (List.getElem?_eq_some_iff.mp hi).1
  have ge : ∀ {j : Nat} {a : A}, (s.env.set i (some (A.o d')))[j]? = some (some a) → (i = j ∧ a = .o d') ∨ (i ≠ j ∧ s.env[j]? = some (some a)) := by
    intro j a e
    by_cases ij : i = j
    · subst ij
      rw [List.getElem?_set_self hil] at e
      cases e
      exact .inl ⟨rfl, rfl⟩
    · rw [List.getElem?_set_ne ij] at e; exact .inr ⟨ij, e⟩
  refine ⟨fun b u e => ?_, fun b z => ⟨(R1.ow b z).1, ?_⟩, R1.len, R1.nd, (List.length_set ..).trans R1.sz, fun n q d e1 e2 => ?_, fun j a e => ?_, fun j k q d e e1 e2 e3 e4 => ?_⟩
  · show L2.upd w.H p o b = _
    have : b ≠ p := fun z => by rw [z] at e; have e : w.F p = some u := e; rw [hf] at e; cases e
    rw [upd_ne this]; exact R1.ok _ _ e
  · show L2.upd w.H p o b ≠ none
    by_cases e : b = p
    · rw [e, upd_same]; simp
    · rw [upd_ne e]; exact (R1.ow b z).2
  · obtain ⟨h1, u, h2, h3⟩ := R1.st n q d e1 e2
    have n : q ≠ p := fun e => hρ (by rw [← e]; exact List.mem_of_getElem? e1)
    exact ⟨h1, u, by show L2.upd w.H p o q = _; rw [upd_ne n]; exact h2, h3⟩
  · rcases ge e with ⟨rfl, rfl⟩ | ⟨ij, e⟩
    · exact ⟨.ref p, hv, p, o, rfl, hO, hρ, upd_same, ce⟩
    · obtain ⟨x, h1, h2⟩ := R1.vr j a e
      refine ⟨x, h1, ?_⟩
      cases a with
      | s d => exact h2
      | o u =>
        obtain ⟨q, y, rfl, h3, h4, h5, h6⟩ := h2
        have n : q ≠ p := fun z => ij (R1.ne i j p d u hi e hv (by rw [← z]; exact h1))
        exact ⟨q, y, rfl, h3, h4, by show L2.upd w.H p o q = _; rw [upd_ne n]; exact h5, h6⟩
  · have g : ∀ {j : Nat} {d : D}, (s.env.set i (some (A.o d')))[j]? = some (some (A.o d)) → ∃ d, s.env[j]? = some (some (A.o d)) := by
      intro j d e
      rcases ge e with ⟨rfl, _⟩ | ⟨_, e⟩
      · exact ⟨_, hi⟩
      · exact ⟨_, e⟩
    obtain ⟨_, e1⟩ := g e1
    obtain ⟨_, e2⟩ := g e2
    exact R1.ne j k q _ _ e1 e2 e3 e4
theorem nodup_get {α : Type} : ∀ {l : List α} {i j : Nat} {a : α}, l.Nodup → l[i]? = some a → l[j]? = some a → i = j
  | [], _, _, _, _, h, _ => by simp at h
  | x :: l, 0, 0, a, nd, h, h' => rfl
  | x :: l, 0, j + 1, a, nd, h, h' => by
    simp at h h'
    subst h
    exact absurd (List.mem_of_getElem? h') (List.nodup_cons.mp nd).1
  | x :: l, i + 1, 0, a, nd, h, h' => by
    simp at h h'
    subst h'
    exact absurd (List.mem_of_getElem? h) (List.nodup_cons.mp nd).1
  | x :: l, i + 1, j + 1, a, nd, h, h' => by
    simp at h h'
    exact congrArg (· + 1) (nodup_get (List.nodup_cons.mp nd).2 h h')
theorem R.updL {n : Nat} {p : Addr} {o : HO} {d' : D} (R1 : R c w σ s) (hn : w.ρ[n]? = some p) (ce : CellO c w.ρ w.F o d') : R c (w.new p o) σ { s with μ := s.μ.set n d' } := by
  have hO := R1.rho hn
  have hf := (R1.ow p hO).1
  refine ⟨fun b u e => ?_, fun b z => ⟨(R1.ow b z).1, ?_⟩, by show w.ρ.length = (s.μ.set n d').length; rw [List.length_set]; exact R1.len, R1.nd, R1.sz, fun m q d e1 e2 => ?_, fun j a e => ?_, R1.ne⟩
  · show L2.upd w.H p o b = _
    have : b ≠ p := fun z => by rw [z] at e; have e : w.F p = some u := e; rw [hf] at e; cases e
    rw [upd_ne this]; exact R1.ok _ _ e
  · show L2.upd w.H p o b ≠ none
    by_cases e : b = p
    · rw [e, upd_same]; simp
    · rw [upd_ne e]; exact (R1.ow b z).2
  · by_cases e : n = m
    · subst e
      have e1 : w.ρ[n]? = some q := e1
      rw [hn] at e1
      cases e1
      have e2 : (s.μ.set n d')[n]? = some d := e2
      rw [List.getElem?_set_self (by rw [← R1.len]; exact (List.getElem?_eq_some_iff.mp hn).1)] at e2
      cases e2
      exact ⟨hO, o, upd_same, ce⟩
    · have e2 : (s.μ.set n d')[m]? = some d := e2
      rw [List.getElem?_set_ne e] at e2
      obtain ⟨h1, u, h2, h3⟩ := R1.st m q d e1 e2
      have ne : q ≠ p := fun z => e (nodup_get R1.nd hn (by rw [← z]; exact e1))
      exact ⟨h1, u, by show L2.upd w.H p o q = _; rw [upd_ne ne]; exact h2, h3⟩
  · obtain ⟨x, h1, h2⟩ := R1.vr j a e
    refine ⟨x, h1, ?_⟩
    cases a with
    | s d => exact h2
    | o u =>
      obtain ⟨q, y, rfl, h3, h4, h5, h6⟩ := h2
      have n : q ≠ p := fun z => h4 (by rw [z]; exact List.mem_of_getElem? hn)
      exact ⟨q, y, rfl, h3, h4, by show L2.upd w.H p o q = _; rw [upd_ne n]; exact h5, h6⟩
theorem mut_ok {β : Type} {f : D → Option (β × D)} {b : β} (R1 : R c w σ s) (h : Rv c w0 w σ v r) (e : mutD r f s = some (.ok b, s')) :
    ∃ p o d d', v = .ref p ∧ w.H p = some o ∧ CellO c w.ρ w.F o d ∧ f d = some (b, d') ∧ peek s r = some d ∧ ∀ o', CellO c w.ρ w.F o' d' → R c (w.new p o') σ s' ∧ Le w (w.new p o') := by
  unfold mutD at e
  split at e
  · rename_i i
    split at e
    · rename_i d hd
      split at e
      · rename_i b' d' e1
        cases e
        obtain ⟨x, hx, p, o, rfl, hO, hρ, hH, ce⟩ := R1.vr i _ hd
        rw [h] at hx
        cases hx
        exact ⟨p, o, d, d', rfl, hH, ce, e1, by unfold peek; simp only [hd], fun o' ce' => ⟨R1.updV hd h ce', Le.upd hO⟩⟩
      · cases e
    · cases e
  · rename_i n
    split at e
    · rename_i d hd
      split at e
      · rename_i b' d' e1
        cases e
        cases h with
        | loc hn =>
          obtain ⟨hO, o, hH, ce⟩ := R1.st n _ d hn hd
          exact ⟨_, o, d, d', rfl, hH, ce, e1, hd, fun o' ce' => ⟨R1.updL hn ce', Le.upd hO⟩⟩
      · cases e
    · cases e
  · cases e
theorem mut_not_ex {β : Type} {f : D → Option (β × D)} {x : Xn} (e : mutD r f s = some (.ex x, s')) : False := by
  unfold mutD at e
  split at e
  · split at e
    · split at e <;> cases e
    · cases e
  · split at e
    · split at e <;> cases e
    · cases e
  · cases e
end
def isL : D → Bool
  | .list _ => true
  | _ => false
def TBM (f : List D → D → Option (D × D)) (o : M Rs) (t : M (List D)) : M Rs := bnd o fun r => bnd (pk r) fun d => if isL d = true then bnd t fun ds => bnd (mutD r (f ds)) fun d => ret (.v d) else fun _ => none
/-- a method that changes a list, its argument being looked at -/
def TBP (f : List D → D → Option (D × D)) (o : M Rs) (t : M (List Rs)) : M Rs := bnd o fun r => bnd (pk r) fun d => if isL d = true then bnd t fun rs => bnd (pks rs) fun ds => bnd (mutD r (f ds)) fun d => ret (.v d) else fun _ => none
section
variable (c : Cz)
def BmS (r : V → List V → Hp → VK → Prop) (f : List D → D → Option (D × D)) : Prop := ∀ (w : Wd) (p : Addr) (o : HO) (d : D) (ds : List D) (vs : List V) (res d' : D) (Q : VK), Same w.F w.H → w.H p = some o → CellO c w.ρ w.F o d → TrAll c w.ρ w.F vs ds → f ds d = some (res, d') → (∀ o' v', CellO c w.ρ w.F o' d' → Tr c w.ρ w.F v' res → Q v' (upd w.H p o')) → r (.ref p) vs w.H Q
def BpS (r : V → List V → Hp → VK → Prop) (f : List D → D → Option (D × D)) : Prop := ∀ (w : Wd) (p : Addr) (o : HO) (d : D) (ds : List D) (vs : List V) (res d' : D) (Q : VK), Same w.F w.H → w.H p = some o → CellO c w.ρ w.F o d → PkAll c w vs ds → f ds d = some (res, d') → (∀ o' v', CellO c w.ρ w.F o' d' → Tr c w.ρ w.F v' res → Q v' (upd w.H p o')) → r (.ref p) vs w.H Q
end
section
variable {c : Cz} {E : XS} {w w0 w1 w2 : Wd} {σ : L2.St} {s s' s2 : S} {v : V} {r : Rs}
theorem isL_some {d : D} (h : isL d = true) : ∃ ds, d = .list ds := by
  cases d with
  | list ds => exact ⟨ds, rfl⟩
  | _ => cases h
theorem sim_BM {op : V → List V → Hp → VK → Prop} {f : List D → D → Option (D × D)} {to : TE} {To : M Rs} {t : TA} {T : M (List D)} (ho : BmS c op f) (hto : Sim c E to To) (ht : SimA c E t T) : Sim c E (tBM c.K "list" op to t) (TBM f To T) := by
  intro w σ s out s' Q R1 e post
  rcases bnd_some e with ⟨r, s1, e1, e⟩ | ⟨x, e1, rfl⟩
  · refine hto w σ s _ s1 _ R1 e1 fun w1 v l1 R2 rv => ?_
    obtain ⟨d0, p0, e⟩ := bnd_pk e
    by_cases hd : isL d0 = true
    · rw [if_pos hd] at e
      obtain ⟨xs, rfl⟩ := isL_some hd
      obtain ⟨a, us, rfl, hH, _⟩ := (peek_pk R2 rv p0).list R2.ok
      refine ⟨.inl ⟨rfl, us, .inl (.inl hH)⟩, ?_⟩
      rcases bnd_some e with ⟨ds, s2, e2, e⟩ | ⟨x, e2, rfl⟩
      · refine ht w1 σ s1 _ s2 _ R2 e2 fun w2 vs l2 R3 ta => ?_
        rcases bnd_some e with ⟨y, s3, e3, e⟩ | ⟨x, e3, rfl⟩
        · obtain ⟨p, o, d, d', ep, hp, ce, ef, _, k⟩ := mut_ok R3 (rv.mono l2) e3
          cases ep
          cases e
          refine ho w2 _ o d ds vs y d' Q R3.ok hp ce ta ef fun o' v' ce' tr => ?_
          obtain ⟨R4, l4⟩ := k o' ce'
          exact post _ v' ((l1.trans l2).trans l4) R4 tr
        · exact (mut_not_ex e3).elim
      · exact ht w1 σ s1 _ _ _ R2 e2 fun w2 d l2 R3 xa => post w2 d (l1.trans l2) R3 xa
    · rw [if_neg hd] at e; cases e
  · exact hto w σ s _ _ _ R1 e1 fun w1 d l1 R2 xa => post w1 d l1 R2 xa
theorem sim_BP {op : V → List V → Hp → VK → Prop} {f : List D → D → Option (D × D)} {to : TE} {To : M Rs} {t : TA} {T : M (List Rs)} (ho : BpS c op f) (hto : Sim c E to To) (ht : SimP c E t T) : Sim c E (tBM c.K "list" op to t) (TBP f To T) := by
  intro w σ s out s' Q R1 e post
  rcases bnd_some e with ⟨r, s1, e1, e⟩ | ⟨x, e1, rfl⟩
  · refine hto w σ s _ s1 _ R1 e1 fun w1 v l1 R2 rv => ?_
    obtain ⟨d0, p0, e⟩ := bnd_pk e
    by_cases hd : isL d0 = true
    · rw [if_pos hd] at e
      obtain ⟨xs, rfl⟩ := isL_some hd
      obtain ⟨a, us, rfl, hH, _⟩ := (peek_pk R2 rv p0).list R2.ok
      refine ⟨.inl ⟨rfl, us, .inl (.inl hH)⟩, ?_⟩
      rcases bnd_some e with ⟨rs, s2, e2, e⟩ | ⟨x, e2, rfl⟩
      · refine ht w1 σ s1 _ s2 _ R2 e2 fun w2 vs l2 R3 ta => ?_
        obtain ⟨ds, ed, e⟩ := bnd_pks e
        rcases bnd_some e with ⟨y, s3, e3, e⟩ | ⟨x, e3, rfl⟩
        · obtain ⟨p, o, d, d', ep, hp, ce, ef, _, k⟩ := mut_ok R3 (rv.mono l2) e3
          cases ep
          cases e
          refine ho w2 _ o d ds vs y d' Q R3.ok hp ce (ta.pk R3 ed) ef fun o' v' ce' tr => ?_
          obtain ⟨R4, l4⟩ := k o' ce'
          exact post _ v' ((l1.trans l2).trans l4) R4 tr
        · exact (mut_not_ex e3).elim
      · exact ht w1 σ s1 _ _ _ R2 e2 fun w2 d l2 R3 xa => post w2 d (l1.trans l2) R3 xa
    · rw [if_neg hd] at e; cases e
  · exact hto w σ s _ _ _ R1 e1 fun w1 d l1 R2 xa => post w1 d l1 R2 xa
theorem sim_BM0 {op : V → List V → Hp → VK → Prop} {f : List D → D → Option (D × D)} {to : TE} {To : M Rs} (ho : BmS c op f) (hto : Sim c E to To) : Sim c E (tBM0 c.K "list" op to) (TBM f To TNil) := by
  intro w σ s out s' Q R1 e post
  exact sim_BM (t := tNil) ho hto sim_Nil w σ s out s' Q R1 e post
/-! ### x += y, o[i] = v, d[k] = v, o.f = v -/
end
def TAug (i : Nat) (f : D → D → Option Rs) (T : M Rs) : TSd := sb (TVar i) fun x => sb T fun y => sb (bnd (pk x) fun d => bnd (pk y) fun e => opt (f d e)) fun r s => nxt (asg i r s)
/-- o[i] = v -/
def TSub (o i t : M Rs) : TSd := sb t fun r => sb (stab r) fun d => sb o fun ro => sb i fun ri => sb (pk ri) fun k => sb (mutD ro fun l => match l, k with
  | .list xs, .int k => (ixN xs.length k).map fun j => ((), D.list (xs.set j d))
  | _, _ => none) fun _ s => some (.nx, s)
def TDPut (o i t : M Rs) : TSd := sb t fun r => sb (stab r) fun d => sb o fun ro => sb i fun ri => sb (pk ri) fun k => sb (mutD ro fun l => match l, toKey k with
  | .dict kvs, some k => if kvs.length < 16777216 then some ((), D.dict (putD kvs k d)) else none
  | _, _ => none) fun _ s => some (.nx, s)
def putFd (f : Str) (v : D) : List (Str × D) → List (Str × D)
  | [] => [(f, v)]
  | (g, x) :: r => if g = f then (g, v) :: r else (g, x) :: putFd f v r
/-- o.f = v, for the classes that ok tells -/
def TFld (ok : Nat → Bool) (f : Str) (o t : M Rs) : TSd := sb t fun r => sb (stab r) fun d => sb o fun ro => sb (mutD ro fun l => match l with
  | .obj k fs => if (ok k && decide (fs.length < 1000)) = true then some ((), D.obj k (putFd f d fs)) else none
  | _ => none) fun _ s => some (.nx, s)
section
variable {c : Cz} {E : XS} {w w0 w1 w2 : Wd} {σ : L2.St} {s s' s2 : S} {v : V} {r : Rs}
theorem sim_Aug {i : Nat} {f : D → D → Option Rs} {t : TE} {T : M Rs} {ip : TIp} (ho : OpS c ip f) (ht : Sim c E t T) : SimS c E (tAug i t ip) (TAug i f T) := by
  intro w σ s fl s' D R1 e post
  rcases sb_some e with ⟨x, s1, e1, e⟩ | ⟨x, e1, rfl⟩
  · refine sim_Var (E := E) w σ s _ s1 (fun x H => t σ H fun y H1 => ip x y H1 fun z H2 => D.nx (σ.set i (some z)) H2) R1 e1 fun w1 v l1 R2 rv => ?_
    rcases sb_some e with ⟨y, s2, e2, e⟩ | ⟨x, e2, rfl⟩
    · refine ht w1 σ s1 _ s2 _ R2 e2 fun w2 u l2 R3 ru => ?_
      rcases sb_some e with ⟨z, s3, e3, e9⟩ | ⟨x, e3, rfl⟩
      · obtain ⟨d1, p1, e3⟩ := bnd_pk e3
        obtain ⟨d2, p2, e3⟩ := bnd_pk e3
        obtain ⟨r', e4, e5, rfl⟩ := opt_some e3
        cases e5
        obtain ⟨e6, rfl⟩ := nxt_some e9
        refine ho w2 v u d1 d2 _ _ R3.ok (peek_pk R3 (rv.mono l2) p1) (peek_pk R3 ru p2) e4 (rq_post (E := E) (w0 := w) (s := s3) (Q := fun z H2 => D.nx (σ.set i (some z)) H2) R3 (l1.trans l2) fun w3 x3 l3 R4 rv4 => ?_)
        obtain ⟨w4, l4, eh, _, _, _, R5⟩ := asg_ok R4 l3 rv4 e6
        rw [← eh]
        exact post w4 _ l4 R5
      · obtain ⟨d1, p1, e3⟩ := bnd_pk e3
        obtain ⟨d2, p2, e3⟩ := bnd_pk e3
        obtain ⟨r', e4, e5, rfl⟩ := opt_some e3
        cases e5
    · exact ht w1 σ s1 _ _ _ R2 e2 fun w2 d l2 R3 xa => post w2 σ d (l1.trans l2) R3 xa
  · unfold TVar at e1
    split at e1 <;> cases e1
theorem Tr.int' {ρ : List Addr} {F : Hp} {i : Int} (h : Tr c ρ F v (.int i)) : v = .int i := by cases h; rfl
theorem trall_set {ρ : List Addr} {F : Hp} {u : V} {d : D} (t : Tr c ρ F u d) : ∀ {vs : List V} {ds : List D} (j : Nat), TrAll c ρ F vs ds → TrAll c ρ F (vs.set j u) (ds.set j d)
  | _, _, _, .nil => .nil
  | _, _, 0, .cons _ b => .cons t b
  | _, _, j + 1, .cons a b => .cons a (trall_set t j b)
theorem sb_pk {r : Rs} {k : D → TSd} {fl : Fl} (h : sb (pk r) k s = some (fl, s')) : ∃ d, peek s r = some d ∧ k d s = some (fl, s') := by
  rcases sb_some h with ⟨d, s1, e1, e⟩ | ⟨x, e1, _⟩
  · obtain ⟨d', h1, h2, rfl⟩ := opt_some (o := peek s r) e1
    cases h2
    exact ⟨d, h1, e⟩
  · obtain ⟨d', h1, h2, _⟩ := opt_some (o := peek s r) e1
    cases h2
theorem sim_Sub {o i t : TE} {O I T : M Rs} (ho : Sim c E o O) (hi : Sim c E i I) (ht : Sim c E t T) : SimS c E (tAsg t (gSub o i rSetL)) (TSub O I T) := by
  intro w σ s fl s' D R1 e post
  rcases sb_some e with ⟨r, s1, e1, e⟩ | ⟨x, e1, rfl⟩
  · refine ht w σ s _ s1 _ R1 e1 fun w1 v l1 R2 rv => ?_
    rcases sb_some e with ⟨d, s2, e2, e⟩ | ⟨x, e2, rfl⟩
    · obtain ⟨w2, l2, eh, R3, tr⟩ := stab_ok R2 l1 rv e2
      rw [← eh]
      rcases sb_some e with ⟨ro, s3, e3, e⟩ | ⟨x, e3, rfl⟩
      · refine ho w2 σ s2 _ s3 _ R3 e3 fun w3 vo l3 R4 rvo => ?_
        rcases sb_some e with ⟨ri, s4, e4, e⟩ | ⟨x, e4, rfl⟩
        · refine hi w3 σ s3 _ s4 _ R4 e4 fun w4 vi l4 R5 rvi => ?_
          obtain ⟨dk, pk1, e⟩ := sb_pk e
          rcases sb_some e with ⟨_, s5, e5, e⟩ | ⟨x, e5, rfl⟩
          · obtain ⟨p, ob, dl, d', rfl, hp, ce, ef, hpk, k⟩ := mut_ok R5 (rvo.mono l4) e5
            clear hpk
            cases e
            split at ef
            · rename_i xs kk
              obtain ⟨j, ej, ef⟩ := Option.map_eq_some_iff.mp ef
              cases ef
              cases ce with
              | list ta =>
                rename_i ws
                have hk := (peek_pk R5 rvi pk1).int
                subst hk
                refine ⟨p, ws, kk, j, rfl, rfl, hp, by rw [trall_len ta]; exact ej, ?_⟩
                obtain ⟨R6, l6⟩ := k (.lst (ws.set j v)) (.list (trall_set (tr.mono (l3.trans l4).pr (l3.trans l4).fz) j ta))
                exact post _ σ (l2.trans ((l3.trans l4).trans l6)) R6
            · cases ef
          · exact (mut_not_ex e5).elim
        · exact hi w3 σ s3 _ _ _ R4 e4 fun w4 d l4 R5 xa => post w4 σ d (l2.trans (l3.trans l4)) R5 xa
      · exact ho w2 σ s2 _ _ _ R3 e3 fun w3 d l3 R4 xa => post w3 σ d (l2.trans l3) R4 xa
    · exact (stab_not_ex e2).elim
  · exact ht w σ s _ _ _ R1 e1 fun w1 d l1 R2 xa => post w1 σ d l1 R2 xa
theorem Pk.key {d : D} {k : Key} (h : Pk c w v d) (e : toKey d = some k) : v = kV k := by
  cases d with
  | int i => cases e; exact h.int
  | str i => cases e; exact h.str
  | _ => cases e
theorem sim_DPut {o i t : TE} {O I T : M Rs} (ho : Sim c E o O) (hi : Sim c E i I) (ht : Sim c E t T) : SimS c E (sDPut o i t) (TDPut O I T) := by
  intro w σ s fl s' D R1 e post
  rcases sb_some e with ⟨r, s1, e1, e⟩ | ⟨x, e1, rfl⟩
  · refine ht w σ s _ s1 _ R1 e1 fun w1 v l1 R2 rv => ?_
    rcases sb_some e with ⟨d, s2, e2, e⟩ | ⟨x, e2, rfl⟩
    · obtain ⟨w2, l2, eh, R3, tr⟩ := stab_ok R2 l1 rv e2
      rw [← eh]
      rcases sb_some e with ⟨ro, s3, e3, e⟩ | ⟨x, e3, rfl⟩
      · refine ho w2 σ s2 _ s3 _ R3 e3 fun w3 vo l3 R4 rvo => ?_
        rcases sb_some e with ⟨ri, s4, e4, e⟩ | ⟨x, e4, rfl⟩
        · refine hi w3 σ s3 _ s4 _ R4 e4 fun w4 vi l4 R5 rvi => ?_
          obtain ⟨dk, pk1, e⟩ := sb_pk e
          rcases sb_some e with ⟨_, s5, e5, e⟩ | ⟨x, e5, rfl⟩
          · obtain ⟨p, ob, dl, d', rfl, hp, ce, ef, hpk, k⟩ := mut_ok R5 (rvo.mono l4) e5
            clear hpk
            cases e
            split at ef
            · rename_i kvs kk ek
              split at ef
              · rename_i hsz
                cases ef
                cases ce with
                | dict ta =>
                  rename_i ws
                  have hk := (peek_pk R5 rvi pk1).key ek
                  subst hk
                  refine ⟨p, _, rfl, .inl ⟨ws, kk, hp, rfl, by rw [trk_len ta]; exact hsz, rfl⟩, ?_⟩
                  obtain ⟨R6, l6⟩ := k (.dK (putK ws kk v)) (.dict (trk_put ta (tr.mono (l3.trans l4).pr (l3.trans l4).fz)))
                  exact post _ σ (l2.trans ((l3.trans l4).trans l6)) R6
              · cases ef
            · cases ef
          · exact (mut_not_ex e5).elim
        · exact hi w3 σ s3 _ _ _ R4 e4 fun w4 d l4 R5 xa => post w4 σ d (l2.trans (l3.trans l4)) R5 xa
      · exact ho w2 σ s2 _ _ _ R3 e3 fun w3 d l3 R4 xa => post w3 σ d (l2.trans l3) R4 xa
    · exact (stab_not_ex e2).elim
  · exact ht w σ s _ _ _ R1 e1 fun w1 d l1 R2 xa => post w1 σ d l1 R2 xa
theorem trf_put {ρ : List Addr} {F : Hp} {f : Str} {u : V} {d : D} (t : Tr c ρ F u d) : ∀ {vs : List (Str × V)} {ds : List (Str × D)}, TrF c ρ F vs ds → TrF c ρ F (putF f u vs) (putFd f d ds)
  | _, _, .nil => .cons t .nil
  | _, _, .cons (k := k) h r => by
    unfold putF putFd
    by_cases e : k = f
    · rw [if_pos e, if_pos e]; exact .cons t r
    · rw [if_neg e, if_neg e]; exact .cons h (trf_put t r)
theorem trf_len {ρ : List Addr} {F : Hp} : ∀ {vs : List (Str × V)} {ds : List (Str × D)}, TrF c ρ F vs ds → vs.length = ds.length
  | _, _, .nil => rfl
  | _, _, .cons _ t => congrArg (· + 1) (trf_len t)
theorem trf_look {ρ : List Addr} {F : Hp} {f : Str} : ∀ {vs : List (Str × V)} {ds : List (Str × D)}, TrF c ρ F vs ds → (∀ d, ds.lookup f = some d → ∃ v, vs.lookup f = some v ∧ Tr c ρ F v d) ∧ (ds.lookup f = none → vs.lookup f = none)
  | _, _, .nil => ⟨fun d h => (by cases h), fun _ => rfl⟩
  | _, _, .cons (k := k) (v := v) (d := d) h r => by
    obtain ⟨h1, h2⟩ := trf_look (f := f) r
    simp only [List.lookup_cons]
    cases e : (f == k) with
    | true => exact ⟨fun d' z => by cases z; exact ⟨v, rfl, h⟩, fun z => by cases z⟩
    | false => exact ⟨h1, h2⟩
theorem sim_Fld {ok : Nat → Bool} {f : Str} {o t : TE} {O T : M Rs} (hok : ∀ k, ok k = true → Cls c.K (c.cad k) ∧ NoAttr c.K (c.cad k) f) (ho : Sim c E o O) (ht : Sim c E t T) : SimS c E (sFld c.K o t f) (TFld ok f O T) := by
  intro w σ s fl s' D R1 e post
  rcases sb_some e with ⟨r, s1, e1, e⟩ | ⟨x, e1, rfl⟩
  · refine ht w σ s _ s1 _ R1 e1 fun w1 v l1 R2 rv => ?_
    rcases sb_some e with ⟨d, s2, e2, e⟩ | ⟨x, e2, rfl⟩
    · obtain ⟨w2, l2, eh, R3, tr⟩ := stab_ok R2 l1 rv e2
      rw [← eh]
      rcases sb_some e with ⟨ro, s3, e3, e⟩ | ⟨x, e3, rfl⟩
      · refine ho w2 σ s2 _ s3 _ R3 e3 fun w3 vo l3 R4 rvo => ?_
        rcases sb_some e with ⟨_, s5, e5, e⟩ | ⟨x, e5, rfl⟩
        · obtain ⟨p, ob, dl, d', rfl, hp, ce, ef, hpk, k⟩ := mut_ok R4 rvo e5
          clear hpk
          cases e
          split at ef
          · rename_i kk fs
            split at ef
            · rename_i hb
              simp only [Bool.and_eq_true, decide_eq_true_eq] at hb
              cases ef
              cases ce with
              | obj ta =>
                rename_i dx ws
                obtain ⟨h1, h2⟩ := hok kk hb.1
                refine ⟨p, _, dx, ws, rfl, hp, h1, h2, by rw [trf_len ta]; exact hb.2, ?_⟩
                obtain ⟨R6, l6⟩ := k (.ins (c.cad kk) dx (putF f v ws)) (.obj (trf_put (tr.mono l3.pr l3.fz) ta))
                exact post _ σ (l2.trans (l3.trans l6)) R6
            · cases ef
          · cases ef
        · exact (mut_not_ex e5).elim
      · exact ho w2 σ s2 _ _ _ R3 e3 fun w3 d l3 R4 xa => post w3 σ d (l2.trans l3) R4 xa
    · exact (stab_not_ex e2).elim
  · exact ht w σ s _ _ _ R1 e1 fun w1 d l1 R2 xa => post w1 σ d l1 R2 xa
end
end Z
/-! attributes, calls, defs -/
namespace Z
open PySem PySem.Spec PyProof.Rows L2 U
abbrev FT := List D → List D → Option (Rz Rs × List D)
def call (F : FT) (ds : List D) : M Rs := fun s => match F ds s.μ with
  | some (.ok (.v d), μ) => some (.ok (.v d), { s with μ := μ })
  | some (.ok (.fr d), μ) => some (.ok (.fr d), { s with μ := μ })
  | some (.ex x, μ) => some (.ex x, { s with μ := μ })
  | _ => none
section
variable (c : Cz)
def PostF (w : Wd) (μ' : List D) (Q : VK) (E : XK) : Rz Rs → Prop
  | .ok r => ∀ w' v, Le w w' → R c w' [] ⟨[], μ'⟩ → Rv c w w' [] v r → Q v w'.H
  | .ex x => ∀ w' d, Le w w' → R c w' [] ⟨[], μ'⟩ → Xa c w' d x → E (.ref (c.cad x.c)) d w'.H
/-- the promise of a def that is the function F on trees -/
def spF (F : FT) : Sp := fun vs H Q E => ∃ w ds μ out μ', w.H = H ∧ (∀ b, w.O b → b ∈ w.ρ) ∧ R c w [] ⟨[], μ⟩ ∧ TrAll c w.ρ w.F vs ds ∧ F ds μ = some (out, μ') ∧ PostF c w μ' Q E out
def PostK (w : Wd) (p : Addr) (μ' : List D) (Q : VK) (E : XK) : Rz Rs → Prop
  | .ok r => ∀ w', Le w w' → R c w' [] ⟨[], μ'⟩ → (∀ w0 : Wd, w0.H p = none → Rv c w0 w' [] (.ref p) r) → Q .non w'.H
  | .ex x => ∀ w' d, Le w w' → R c w' [] ⟨[], μ'⟩ → Xa c w' d x → E (.ref (c.cad x.c)) d w'.H
/-- the promise of an __init__ of the class k -/
def spI (k : Nat) (F : FT) : Sp := fun vs H Q E => ∃ w p args ds μ out μ', vs = .ref p :: args ∧ w.H = H ∧ (∀ b, w.O b → b ∈ w.ρ ∨ b = p) ∧ R c w [some (.ref p)] ⟨[some (.o (.obj k []))], μ⟩ ∧ TrAll c w.ρ w.F args ds ∧ F ds μ = some (out, μ') ∧ PostK c w p μ' Q E out
end
section
variable {c : Cz} {E : XS} {w w0 w1 w' : Wd} {σ : L2.St} {s s' : S}
def Wd.callee (w : Wd) : Wd := ⟨w.F, fun b => b ∈ w.ρ, w.H, w.ρ⟩
def Wd.back (w w' : Wd) : Wd := ⟨w'.F, fun b => w.O b ∨ b ∈ w'.ρ, w'.H, w'.ρ⟩
theorem R.callee (R1 : R c w σ s) : R c w.callee [] ⟨[], s.μ⟩ :=
  ⟨R1.ok, fun b z => R1.ow b (R1.rho' z), R1.len, R1.nd, rfl, fun n p d e1 e2 => ⟨List.mem_of_getElem? e1, (R1.st n p d e1 e2).2⟩, fun i a e => by simp at e, fun i j p d e h => by simp at h⟩
theorem R.back {μ' : List D} (R1 : R c w σ s) (l : Le w.callee w') (R2 : R c w' [] ⟨[], μ'⟩) : R c (w.back w') σ { s with μ := μ' } := by
  have fn : ∀ b, w.O b → w'.F b = none := fun b z => by
    cases e : w'.F b with
    | none => rfl
    | some u =>
      rcases l.nf b (by rw [e]; simp) with y | y | y
      · exact absurd (R1.ow b z).1 y
      · have : b ∈ w'.ρ := by obtain ⟨t, ht⟩ := l.pr; rw [← ht]; exact List.mem_append_left _ y
        rw [(R2.ow b (R2.rho' this)).1] at e
        cases e
      · exact absurd y (R1.ow b z).2
  refine ⟨R2.ok, fun b z => ?_, R2.len, R2.nd, R1.sz, fun n p d e1 e2 => ⟨.inr (List.mem_of_getElem? e1), (R2.st n p d e1 e2).2⟩, fun i a e => ?_, R1.ne⟩
  · rcases z with z | z
    · exact ⟨fn b z, l.dm b (R1.ow b z).2⟩
    · exact R2.ow b (R2.rho' z)
  · obtain ⟨v, h1, h2⟩ := R1.vr i a e
    refine ⟨v, h1, ?_⟩
    cases a with
    | s d => exact Tr.mono h2 l.pr l.fz
    | o d =>
      obtain ⟨p, o, rfl, h3, h4, h5, h6⟩ := h2
      refine ⟨p, o, rfl, .inl h3, fun z => ?_, l.fr p o h5 h4, h6.mono l.pr l.fz⟩
      rcases l.no p (R2.rho' z) with y | y
      · exact h4 y
      · have y : w.H p = none := y
        rw [h5] at y; cases y
theorem Le.back {μ' : List D} (R1 : R c w σ s) (l : Le w.callee w') (R2 : R c w' [] ⟨[], μ'⟩) : Le w (w.back w') where
  fz := l.fz
  nf := fun b z => by
    rcases l.nf b z with y | y | y
    · exact .inl y
    · exact .inr (.inl (R1.rho' y))
    · exact .inr (.inr y)
  fr := fun b o e n => l.fr b o e fun z => n (R1.rho' z)
  no := fun b z => by
    rcases z with z | z
    · exact .inl z
    · rcases l.no b (R2.rho' z) with y | y
      · exact .inl (R1.rho' y)
      · exact .inr y
  dm := l.dm
  pr := l.pr
theorem Rv.back {μ' : List D} {v : V} {r : Rs} (R1 : R c w σ s) (R2 : R c w' [] ⟨[], μ'⟩) (h : Rv c w.callee w' [] v r) : Rv c w (w.back w') σ v r := by
  cases r with
  | v d => exact h
  | fr d =>
    obtain ⟨p, o, rfl, n, q, ce, f, no⟩ := h
    refine ⟨p, o, rfl, n, q, ce, f, fun z => ?_⟩
    rcases z with z | z
    · exact (R1.ow p z).2 n
    · exact no (R2.rho' z)
  | al i => exact absurd h (by simp [Rv])
theorem call_ok {F : FT} {vs : List V} {ds : List D} {out : Rz Rs} {Q : VK} (R1 : R c w σ s) (l : Le w0 w) (ta : TrAll c w.ρ w.F vs ds) (e : call F ds s = some (out, s')) (post : PostE c w0 σ s' Q E out) : spF c F vs w.H Q (E σ) := by
  unfold call at e
  split at e
  · rename_i d μ e1
    cases e
    exact ⟨w.callee, ds, s.μ, _, μ, rfl, fun b z => z, R1.callee, ta, e1, fun w' v l' R' rv => post (w.back w') v (l.trans (Le.back R1 l' R')) (R1.back l' R') ((rv.back R1 R').base l)⟩
  · rename_i d μ e1
    cases e
    exact ⟨w.callee, ds, s.μ, _, μ, rfl, fun b z => z, R1.callee, ta, e1, fun w' v l' R' rv => post (w.back w') v (l.trans (Le.back R1 l' R')) (R1.back l' R') ((rv.back R1 R').base l)⟩
  · rename_i x μ e1
    cases e
    exact ⟨w.callee, ds, s.μ, _, μ, rfl, fun b z => z, R1.callee, ta, e1, fun w' d l' R' xa => post (w.back w') d (l.trans (Le.back R1 l' R')) (R1.back l' R') xa⟩
  · cases e
end
def TFn (F : FT) (T : M (List D)) : M Rs := bnd T fun ds => call F ds
def TFnK (F : FT) (n : Nat) (g : List D → List D) (T : M (List D)) : M Rs := bnd T fun ds => if ds.length = n then call F (g ds) else fun _ => none
/-- o.m(..): the classes' methods by their numbers -/
def meth (tab : Nat → Option FT) (m : Str) (d0 : D) (k : FT → M Rs) : M Rs := match d0 with
  | .obj c fs => if (fs.lookup m).isNone = true then (match tab c with
    | some F => k F
    | none => fun _ => none) else fun _ => none
  | _ => fun _ => none
def TMth (tab : Nat → Option FT) (m : Str) (o : M Rs) (T : M (List D)) : M Rs := bnd o fun r => bnd (stab r) fun d => bnd (pk (.v d)) fun d0 => meth tab m d0 fun F => bnd T fun ds => call F (d :: ds)
def TMthK (tab : Nat → Option FT) (m : Str) (n : Nat) (g : List D → List D) (o : M Rs) (T : M (List D)) : M Rs := bnd o fun r => bnd (stab r) fun d => bnd (pk (.v d)) fun d0 => meth tab m d0 fun F => bnd T fun ds => if ds.length = n then call F (d :: g ds) else fun _ => none
section
variable {c : Cz} {E : XS} {w w0 w1 w' : Wd} {σ : L2.St} {s s' : S} {P : Program} {wl : World} {mg : Str → Option Value} {base : Heap} {x m : Str} {j k : Nat} {F : FT} {t : TA} {T : M (List D)} {to : TE} {To : M Rs}
theorem sim_Fn (h : Fn P wl c.K mg base k x (spF c F)) (hk : k ≤ j) (ht : SimA c E t T) : Sim c E (tFn P wl c.K mg base x j E t) (TFn F T) := by
  intro w σ s out s' Q R1 e post
  refine ⟨k, _, h, hk, ?_⟩
  rcases bnd_some e with ⟨ds, s1, e1, e⟩ | ⟨x, e1, rfl⟩
  · exact ht w σ s _ s1 _ R1 e1 fun w1 vs l1 R2 ta => call_ok R2 l1 ta e post
  · exact ht w σ s _ _ _ R1 e1 post
theorem sim_FnK {ks : List Str} {gV : List V → List V} {g : List D → List D} (h : FnK P wl c.K mg base k x ks gV (spF c F)) (hg : ∀ {ρ F vs ds}, TrAll c ρ F vs ds → TrAll c ρ F (gV vs) (g ds)) (hk : k ≤ j) (ht : SimA c E t T) : Sim c E (tFnK P wl c.K mg base x ks j E t) (TFnK F ks.length g T) := by
  intro w σ s out s' Q R1 e post
  refine ⟨k, gV, _, h, hk, ?_⟩
  rcases bnd_some e with ⟨ds, s1, e1, e⟩ | ⟨x, e1, rfl⟩
  · refine ht w σ s _ s1 _ R1 e1 fun w1 vs l1 R2 ta => ?_
    by_cases hl : ds.length = ks.length
    · rw [if_pos hl] at e
      exact ⟨(trall_len ta).trans hl, call_ok R2 l1 (hg ta) e post⟩
    · rw [if_neg hl] at e; cases e
  · exact ht w σ s _ _ _ R1 e1 post
theorem meth_some {tab : Nat → Option FT} {d0 : D} {f : FT → M Rs} {out : Rz Rs} (h : meth tab m d0 f s = some (out, s')) : ∃ k fs F, d0 = .obj k fs ∧ fs.lookup m = none ∧ tab k = some F ∧ f F s = some (out, s') := by
  unfold meth at h
  split at h
  · rename_i k fs
    by_cases hl : (fs.lookup m).isNone = true
    · rw [if_pos hl] at h
      cases hF : tab k with
      | some F => rw [hF] at h; exact ⟨k, fs, F, rfl, by simpa using hl, hF, h⟩
      | none => rw [hF] at h; cases h
    · rw [if_neg hl] at h; cases h
  · cases h
theorem peekv_pk {v : V} {d d0 : D} (R1 : R c w σ s) (t : Tr c w.ρ w.F v d) (e : peek s (.v d) = some d0) : Pk c w v d0 := peek_pk (w0 := w) (r := .v d) R1 t e
theorem sim_Mth {tab : Nat → Option FT} (h : ∀ k F, tab k = some F → ∃ lv, lv ≤ j ∧ Mth P wl c.K mg base lv (c.cad k) m (spF c F)) (ho : Sim c E to To) (ht : SimA c E t T) : Sim c E (tMth P wl c.K mg base m j E to t) (TMth tab m To T) := by
  intro w σ s out s' Q R1 e post
  rcases bnd_some e with ⟨r, s1, e1, e⟩ | ⟨x, e1, rfl⟩
  · refine ho w σ s _ s1 _ R1 e1 fun w1 v l1 R2 rv => ?_
    rcases bnd_some e with ⟨d, s2, e2, e⟩ | ⟨x, e2, rfl⟩
    · obtain ⟨w2, l2, eh, R3, tr⟩ := stab_ok R2 l1 rv e2
      obtain ⟨d0, p0, e⟩ := bnd_pk e
      obtain ⟨k, fs, F, rfl, hl, hF, e⟩ := meth_some e
      obtain ⟨a, dx, vs0, rfl, hH, tf⟩ := (peekv_pk R3 tr p0).obj R3.ok
      obtain ⟨lv, hlv, M⟩ := h k F hF
      rw [← eh]
      refine ⟨a, c.cad k, dx, vs0, lv, _, rfl, hH, M, hlv, (trf_look tf).2 hl, ?_⟩
      rcases bnd_some e with ⟨ds, s3, e3, e⟩ | ⟨x, e3, rfl⟩
      · exact ht w2 σ s2 _ s3 _ R3 e3 fun w3 vs l3 R4 ta => call_ok R4 (l2.trans l3) (.cons (tr.mono l3.pr l3.fz) ta) e post
      · exact ht w2 σ s2 _ _ _ R3 e3 fun w3 d l3 R4 xa => post w3 d (l2.trans l3) R4 xa
    · exact (stab_not_ex e2).elim
  · exact ho w σ s _ _ _ R1 e1 post
theorem sim_MthK {ks : List Str} {tab : Nat → Option FT} {gV : List V → List V} {g : List D → List D} (h : ∀ k F, tab k = some F → ∃ lv, lv ≤ j ∧ MthK P wl c.K mg base lv (c.cad k) m ks gV (spF c F)) (hg : ∀ {ρ F vs ds}, TrAll c ρ F vs ds → TrAll c ρ F (gV vs) (g ds)) (ho : Sim c E to To) (ht : SimA c E t T) : Sim c E (tMthK P wl c.K mg base m ks j E to t) (TMthK tab m ks.length g To T) := by
  intro w σ s out s' Q R1 e post
  rcases bnd_some e with ⟨r, s1, e1, e⟩ | ⟨x, e1, rfl⟩
  · refine ho w σ s _ s1 _ R1 e1 fun w1 v l1 R2 rv => ?_
    rcases bnd_some e with ⟨d, s2, e2, e⟩ | ⟨x, e2, rfl⟩
    · obtain ⟨w2, l2, eh, R3, tr⟩ := stab_ok R2 l1 rv e2
      obtain ⟨d0, p0, e⟩ := bnd_pk e
      obtain ⟨k, fs, F, rfl, hl, hF, e⟩ := meth_some e
      obtain ⟨a, dx, vs0, rfl, hH, tf⟩ := (peekv_pk R3 tr p0).obj R3.ok
      obtain ⟨lv, hlv, M⟩ := h k F hF
      rw [← eh]
      refine ⟨a, c.cad k, dx, vs0, lv, gV, _, rfl, hH, M, hlv, (trf_look tf).2 hl, ?_⟩
      rcases bnd_some e with ⟨ds, s3, e3, e⟩ | ⟨x, e3, rfl⟩
      · refine ht w2 σ s2 _ s3 _ R3 e3 fun w3 vs l3 R4 ta => ?_
        by_cases hn : ds.length = ks.length
        · rw [if_pos hn] at e
          exact ⟨(trall_len ta).trans hn, call_ok R4 (l2.trans l3) (.cons (tr.mono l3.pr l3.fz) (hg ta)) e post⟩
        · rw [if_neg hn] at e; cases e
      · exact ht w2 σ s2 _ _ _ R3 e3 fun w3 d l3 R4 xa => post w3 d (l2.trans l3) R4 xa
    · exact (stab_not_ex e2).elim
  · exact ho w σ s _ _ _ R1 e1 post
/-- a new object: the cell of its attributes, then __init__ -/
theorem sim_Mkr {cn : Nat} (h : Mkr P wl c.K mg base k x (c.cad cn) (spI c cn F)) (hk : k + 1 ≤ j) (ht : SimA c E t T) : Sim c E (tMkr P wl c.K mg base x j E t) (TFn F T) := by
  intro w σ s out s' Q R1 e post
  refine ⟨k, _, _, h, hk, ?_⟩
  rcases bnd_some e with ⟨ds, s1, e1, e⟩ | ⟨x, e1, rfl⟩
  · refine ht w σ s _ s1 _ R1 e1 fun w1 vs l1 R2 ta => fun p dx hp hdx ne => ?_
    have np : ∀ b, b ∈ w1.ρ → b ≠ p := fun b z y => (R2.ow b (R2.rho' z)).2 (by rw [y]; exact hp)
    have ndx : ∀ b, b ∈ w1.ρ → b ≠ dx := fun b z y => (R2.ow b (R2.rho' z)).2 (by rw [y]; exact hdx)
    have fp : w1.F p = none := by
      cases z : w1.F p with
      | none => rfl
      | some u => exact absurd (R2.ok _ _ z) (by rw [hp]; simp)
    have hp2 : upd w1.H dx (.own p) p = none := by rw [upd_ne (Ne.symm ne)]; exact hp
    -- the state at the call
    have Rc := ((R2.callee.new (p := dx) (o := .own p) hdx).new (p := p) (o := .ins (c.cad cn) dx []) hp2)
    have Rk : R c ⟨w1.F, fun b => b ∈ w1.ρ ∨ b = p, upd (upd w1.H dx (.own p)) p (.ins (c.cad cn) dx []), w1.ρ⟩ [some (.ref p)] ⟨[some (.o (.obj cn []))], s1.μ⟩ := by
      refine ⟨Rc.ok, fun b z => ?_, Rc.len, Rc.nd, rfl, fun n q d a1 a2 => ⟨.inl (Rc.st n q d a1 a2).1, (Rc.st n q d a1 a2).2⟩, fun i a hi => ?_, fun i i' q d d' a1 a2 _ _ => ?_⟩
      · rcases z with z | rfl
        · exact Rc.ow b z
        · exact ⟨fp, by show upd _ b _ b ≠ none; rw [upd_same]; simp⟩
      · match i, hi with
        | 0, hi =>
          cases hi
          exact ⟨.ref p, rfl, p, _, rfl, .inr rfl, fun z => np p z rfl, upd_same, .obj .nil⟩
        | i + 1, hi => simp at hi
      · match i, i', a1, a2 with
        | 0, 0, _, _ => rfl
        | 0, i + 1, _, a2 => simp at a2
        | i + 1, _, a1, _ => simp at a1
    -- back
    have back : ∀ {w' : Wd} {μ' : List D}, Le ⟨w1.F, fun b => b ∈ w1.ρ ∨ b = p, upd (upd w1.H dx (.own p)) p (.ins (c.cad cn) dx []), w1.ρ⟩ w' → R c w' [] ⟨[], μ'⟩ → Le w1.callee ⟨w'.F, fun b => b ∈ w'.ρ, w'.H, w'.ρ⟩ ∧ R c ⟨w'.F, fun b => b ∈ w'.ρ, w'.H, w'.ρ⟩ [] ⟨[], μ'⟩ := by
      intro w' μ' l' R'
      have low : Le w1.callee ((w1.callee.new dx (.own p)).new p (.ins (c.cad cn) dx [])) := (Le.new (w := w1.callee) hdx).trans (Le.new (w := w1.callee.new dx (.own p)) hp2)
      refine ⟨⟨l'.fz, fun b z => ?_, fun b o a1 a2 => ?_, fun b z => ?_, fun b z => l'.dm b (low.dm b z), l'.pr⟩, R'.callee⟩
      · rcases l'.nf b z with y | y | y
        · exact .inl y
        · rcases y with y | rfl
          · exact .inr (.inl y)
          · exact .inr (.inr hp)
        · exact .inr (.inr (low.dm' y))
      · have hb : b ≠ p := ne_of_none a1 hp
        exact l'.fr b o (low.fr b o a1 a2) fun z => z.elim a2 hb
      · rcases l'.no b (R'.rho' z) with y | y
        · rcases y with y | rfl
          · exact .inl y
          · exact .inr hp
        · exact .inr (low.dm' y)
    unfold call at e
    split at e
    · rename_i d μ e2
      cases e
      refine ⟨_, p, vs, ds, s1.μ, _, μ, rfl, rfl, fun b z => z, Rk, ta, e2, fun w' l' R' rv => ⟨rfl, ?_⟩⟩
      obtain ⟨l2, R3⟩ := back l' R'
      exact post (w1.back ⟨w'.F, fun b => b ∈ w'.ρ, w'.H, w'.ρ⟩) (.ref p) (l1.trans (Le.back R2 l2 R3)) (R2.back l2 R3) (rv w1 hp)
    · rename_i d μ e2
      cases e
      refine ⟨_, p, vs, ds, s1.μ, _, μ, rfl, rfl, fun b z => z, Rk, ta, e2, fun w' l' R' rv => ⟨rfl, ?_⟩⟩
      obtain ⟨l2, R3⟩ := back l' R'
      refine post (w1.back ⟨w'.F, fun b => b ∈ w'.ρ, w'.H, w'.ρ⟩) (.ref p) (l1.trans (Le.back R2 l2 R3)) (R2.back l2 R3) (Rv.base l1 ?_)
      refine Rv.back R2 R3 ?_
      obtain ⟨q, o, eq, n, h1, h2, h3, h4⟩ := rv w1 hp
      cases eq
      exact ⟨p, o, rfl, n, h1, h2, h3, fun z => h4 (R'.rho' z)⟩
    · rename_i x μ e2
      cases e
      refine ⟨_, p, vs, ds, s1.μ, _, μ, rfl, rfl, fun b z => z, Rk, ta, e2, fun w' d l' R' xa => ?_⟩
      obtain ⟨l2, R3⟩ := back l' R'
      exact post (w1.back ⟨w'.F, fun b => b ∈ w'.ρ, w'.H, w'.ρ⟩) d (l1.trans (Le.back R2 l2 R3)) (R2.back l2 R3) xa
    · cases e
  · exact ht w σ s _ _ _ R1 e1 post
end
/-! ### defs -/
/-- what a body gives to its caller -/
def outF : Option (Fl × S) → Option (Rz Rs × List D)
  | some (.rt (.v d), s) => some (.ok (.v d), s.μ)
  | some (.rt (.fr d), s) => some (.ok (.fr d), s.μ)
  | some (.rt (.al i), s) => (match s.env[i]? with
    | some (some (.o d)) => some (.ok (.fr d), s.μ)
    | some (some (.s d)) => some (.ok (.v d), s.μ)
    | _ => none)
  | some (.nx, s) => some (.ok (.v .non), s.μ)
  | some (.ex x, s) => some (.ex x, s.μ)
  | _ => none
def env0 (n : Nat) (ds : List D) : List (Option A) := ds.map (fun d => some (.s d)) ++ List.replicate (n - ds.length) none
/-- a def of m parameters and n names, by its body -/
def runF (m n : Nat) (T : TSd) : FT := fun ds μ => if ds.length = m then outF (T ⟨env0 n ds, μ⟩) else none
section
variable {c : Cz} {E : XS} {w : Wd}
theorem env0_R {N : List Str} {vs : List V} {ds : List D} {μ : List D} (R1 : R c w [] ⟨[], μ⟩) (ta : TrAll c w.ρ w.F vs ds) : R c w (start N vs) ⟨env0 N.length ds, μ⟩ := by
  have hl := trall_len ta
  have get : ∀ {i : Nat} {a : A}, (env0 N.length ds)[i]? = some (some a) → ∃ d, ds[i]? = some d ∧ a = .s d := by
    intro i a e
    unfold env0 at e
    by_cases hi : i < ds.length
    · rw [List.getElem?_append_left (by simpa using hi), List.getElem?_map, List.getElem?_eq_getElem hi] at e
      cases e
      exact ⟨_, List.getElem?_eq_getElem hi, rfl⟩
    · rw [List.getElem?_append_right (by simpa using hi), List.getElem?_replicate] at e
      split at e <;> cases e
  refine ⟨R1.ok, R1.ow, R1.len, R1.nd, by simp [env0, L2.start, hl], R1.st, fun i a e => ?_, fun i j p d e h => ?_⟩
  · obtain ⟨d, hd, rfl⟩ := get e
    have hi : i < vs.length := by rw [hl]; exact (List.getElem?_eq_some_iff.mp hd).1
    refine ⟨vs[i], ?_, trall_get ta (List.getElem?_eq_getElem hi) hd⟩
    unfold L2.start
    rw [List.getElem?_append_left (by simpa using hi), List.getElem?_map, List.getElem?_eq_getElem hi]
    rfl
  · obtain ⟨d, _, z⟩ := get h
    cases z
theorem R.bare {σ : L2.St} {s : S} (R1 : R c w σ s) : R c w [] ⟨[], s.μ⟩ :=
  ⟨R1.ok, R1.ow, R1.len, R1.nd, rfl, R1.st, fun i a e => by simp at e, fun i j p d e h => by simp at h⟩
/-- a def whose body is T -/
theorem pur_F {N ps : List Str} {t : XS → TS} {T : TSd} (h : ∀ E, SimS c E (t E) T) : Pur N ps (fun E => t fun _ => E) (spF c (runF ps.length N.length T)) := by
  intro vs H Q E hsp
  obtain ⟨w, ds, μ, out, μ', rfl, hO, R1, ta, e, post⟩ := hsp
  unfold runF at e
  by_cases hl : ds.length = ps.length
  · rw [if_pos hl] at e
    refine ⟨(trall_len ta).trans hl, ?_⟩
    have R2 := env0_R (N := N) R1 ta
    cases eT : T ⟨env0 N.length ds, μ⟩ with
    | none => rw [eT] at e; cases e
    | some p =>
      obtain ⟨fl, s'⟩ := p
      rw [eT] at e
      refine h (fun _ => E) w (start N vs) _ fl s' _ R2 eT ?_
      unfold outF at e
      split at e
      · rename_i d s2 e2
        cases e2; cases e
        exact fun w' σ' v l R' rv => post w' v l R'.bare rv
      · rename_i d s2 e2
        cases e2; cases e
        exact fun w' σ' v l R' rv => post w' v l R'.bare rv
      · rename_i i s2 e2
        cases e2
        split at e
        · rename_i d hd
          cases e
          refine fun w' σ' v l R' rv => ?_
          obtain ⟨x, hx, p, o, rfl, hO', hρ, hH, ce⟩ := R'.vr i _ hd
          have rv : σ'[i]? = some (some v) := rv
          rw [rv] at hx
          cases hx
          refine post w'.callee (.ref p) ⟨l.fz, l.nf, l.fr, fun b z => l.no b (R'.rho' z), l.dm, l.pr⟩ R'.callee ⟨p, o, rfl, ?_, hH, ce, (R'.ow p hO').1, hρ⟩
          rcases l.no p hO' with z | z
          · have := hO p z
            obtain ⟨tl, ht⟩ := l.pr
            exact absurd (by rw [← ht]; exact List.mem_append_left _ this) hρ
          · exact z
        · rename_i d hd
          cases e
          refine fun w' σ' v l R' rv => ?_
          obtain ⟨x, hx, tr⟩ := R'.vr i _ hd
          have rv : σ'[i]? = some (some v) := rv
          rw [rv] at hx
          cases hx
          exact post w' v l R'.bare tr
        · cases e
      · rename_i s2 e2
        cases e2; cases e
        exact fun w' σ' l R' => post w' .non l R'.bare .non
      · rename_i x s2 e2
        cases e2; cases e
        exact fun w' σ' d l R' xa => post w' d l R'.bare xa
      · cases e
  · rw [if_neg hl] at e; cases e
end
end Z
/-! __init__, attributes -/
namespace Z
open PySem PySem.Spec PyProof.Rows L2 U ClX
section
variable (c : Cz)
def PostN (w : Wd) (σ : L2.St) (D : Ends) (E : XS) (s' : S) : Fl → Prop
  | .nx => ∀ w', Le w w' → R c w' σ s' → D.nx σ w'.H
  | .rt r => ∀ w' v, Le w w' → R c w' σ s' → Rv c w w' σ v r → D.rt v w'.H
  | .bk => ∀ w', Le w w' → R c w' σ s' → D.bk σ w'.H
  | .ct => ∀ w', Le w w' → R c w' σ s' → D.ct σ w'.H
  | .ex x => ∀ w' d, Le w w' → R c w' σ s' → Xa c w' d x → E σ (.ref (c.cad x.c)) d w'.H
/-- a statement that gives no variable -/
def SimN (E : XS) (t : TS) (T : TSd) : Prop := ∀ w σ s fl s' D, R c w σ s → T s = some (fl, s') → PostN c w σ D E s' fl → t D σ w.H
end
section
variable {c : Cz} {E : XS} {w w0 : Wd} {σ : L2.St} {s s' : S}
theorem PostN.from {D : Ends} {fl : Fl} (l : Le w0 w) (h : PostN c w0 σ D E s' fl) : PostN c w σ D E s' fl := by
  cases fl with
  | nx => exact fun w' l' R' => h w' (l.trans l') R'
  | rt r => exact fun w' v l' R' rv => h w' v (l.trans l') R' (rv.base l)
  | bk => exact fun w' l' R' => h w' (l.trans l') R'
  | ct => exact fun w' l' R' => h w' (l.trans l') R'
  | ex x => exact fun w' d l' R' xa => h w' d (l.trans l') R' xa
theorem simN_Next : SimN c E tNext TNext := by
  intro w σ s fl s' D R1 e post
  cases e; exact post w Le.refl R1
theorem simN_Never : SimN c E tNever TNever := by
  intro w σ s fl s' D R1 e post
  cases e
theorem simN_Seq {t u : TS} {T U : TSd} (ht : SimN c E t T) (hu : SimN c E u U) : SimN c E (tSeq t u) (TSeq T U) := by
  intro w σ s fl s' D R1 e post
  unfold TSeq at e
  split at e
  · rename_i s1 e1
    exact ht w σ s _ s1 _ R1 e1 fun w1 l1 R2 => hu w1 σ s1 fl s' D R2 e (post.from l1)
  · rename_i ne
    refine ht w σ s fl s' _ R1 e ?_
    cases fl with
    | nx => exact absurd e (ne s')
    | rt r => exact post
    | bk => exact post
    | ct => exact post
    | ex x => exact post
theorem simN_Drop {t : TE} {T : M Rs} (ht : Sim c E t T) : SimN c E (tDrop t) (TDrop T) := by
  intro w σ s fl s' D R1 e post
  rcases sb_some e with ⟨r, s1, e1, e⟩ | ⟨x, e1, rfl⟩
  · cases e
    exact ht w σ s _ _ _ R1 e1 fun w1 v l1 R2 rv => post w1 l1 R2
  · exact ht w σ s _ _ _ R1 e1 fun w1 d l1 R2 xa => post w1 d l1 R2 xa
theorem simN_IfS {b : TT} {B : M Bool} {t u : TS} {T U : TSd} (hb : SimT c E b B) (ht : SimN c E t T) (hu : SimN c E u U) : SimN c E (tIfS b t u) (TIfS B T U) := by
  intro w σ s fl s' D R1 e post
  rcases sb_some e with ⟨z, s1, e1, e⟩ | ⟨x, e1, rfl⟩
  · refine hb w σ s _ s1 _ R1 e1 fun w1 l1 R2 => ?_
    cases z with
    | true => exact ht w1 σ s1 fl s' D R2 e (post.from l1)
    | false => exact hu w1 σ s1 fl s' D R2 e (post.from l1)
  · exact hb w σ s _ s' _ R1 e1 fun w1 d l1 R2 xa => post w1 d l1 R2 xa
theorem simN_Fld {ok : Nat → Bool} {f : Str} {o t : TE} {O T : M Rs} (hok : ∀ k, ok k = true → Cls c.K (c.cad k) ∧ NoAttr c.K (c.cad k) f) (ho : Sim c E o O) (ht : Sim c E t T) : SimN c E (sFld c.K o t f) (TFld ok f O T) := by
  intro w σ s fl s' D R1 e post
  rcases sb_some e with ⟨r, s1, e1, e⟩ | ⟨x, e1, rfl⟩
  · refine ht w σ s _ s1 _ R1 e1 fun w1 v l1 R2 rv => ?_
    rcases sb_some e with ⟨d, s2, e2, e⟩ | ⟨x, e2, rfl⟩
    · obtain ⟨w2, l2, eh, R3, tr⟩ := stab_ok R2 l1 rv e2
      rw [← eh]
      rcases sb_some e with ⟨ro, s3, e3, e⟩ | ⟨x, e3, rfl⟩
      · refine ho w2 σ s2 _ s3 _ R3 e3 fun w3 vo l3 R4 rvo => ?_
        rcases sb_some e with ⟨_, s5, e5, e⟩ | ⟨x, e5, rfl⟩
        · obtain ⟨p, ob, dl, d', rfl, hp, ce, ef, hpk, k⟩ := mut_ok R4 rvo e5
          clear hpk
          cases e
          split at ef
          · rename_i kk fs
            split at ef
            · rename_i hb
              simp only [Bool.and_eq_true, decide_eq_true_eq] at hb
              cases ef
              cases ce with
              | obj ta =>
                rename_i dx ws
                obtain ⟨h1, h2⟩ := hok kk hb.1
                refine ⟨p, _, dx, ws, rfl, hp, h1, h2, by rw [trf_len ta]; exact hb.2, ?_⟩
                obtain ⟨R6, l6⟩ := k (.ins (c.cad kk) dx (putF f v ws)) (.obj (trf_put (tr.mono l3.pr l3.fz) ta))
                exact post _ (l2.trans (l3.trans l6)) R6
            · cases ef
          · cases ef
        · exact (mut_not_ex e5).elim
      · exact ho w2 σ s2 _ _ _ R3 e3 fun w3 d l3 R4 xa => post w3 d (l2.trans l3) R4 xa
    · exact (stab_not_ex e2).elim
  · exact ht w σ s _ _ _ R1 e1 fun w1 d l1 R2 xa => post w1 d l1 R2 xa
end
def outI : Option (Fl × S) → Option (Rz Rs × List D)
  | some (.nx, s) => (match s.env[(0 : Nat)]? with
    | some (some (.o d)) => some (.ok (.fr d), s.μ)
    | some (some (.s d)) => some (.ok (.v d), s.μ)
    | _ => none)
  | some (.ex x, s) => some (.ex x, s.μ)
  | _ => none
def envI (n k : Nat) (ds : List D) : List (Option A) := some (.o (.obj k [])) :: (ds.map (fun d => some (.s d)) ++ List.replicate (n - (ds.length + 1)) none)
/-- an __init__ of the class k, by its body -/
def runI (m n k : Nat) (T : TSd) : FT := fun ds μ => if ds.length + 1 = m then outI (T ⟨envI n k ds, μ⟩) else none
section
variable {c : Cz} {E : XS} {w : Wd}
theorem envI_R {k : Nat} {N : List Str} {p : Addr} {vs : List V} {ds : List D} {μ : List D} (R1 : R c w [some (.ref p)] ⟨[some (.o (.obj k []))], μ⟩) (ta : TrAll c w.ρ w.F vs ds) : R c w (L2.start N (.ref p :: vs)) ⟨envI N.length k ds, μ⟩ := by
  have hl := trall_len ta
  have get : ∀ {i : Nat} {a : A}, (envI N.length k ds)[i]? = some (some a) → (i = 0 ∧ a = .o (.obj k [])) ∨ ∃ j d, i = j + 1 ∧ ds[j]? = some d ∧ a = .s d := by
    intro i a e
    unfold envI at e
    cases i with
    | zero => cases e; exact .inl ⟨rfl, rfl⟩
    | succ i =>
      rw [List.getElem?_cons_succ] at e
      by_cases hi : i < ds.length
      · rw [List.getElem?_append_left (by simpa using hi), List.getElem?_map, List.getElem?_eq_getElem hi] at e
        cases e
        exact .inr ⟨i, _, rfl, List.getElem?_eq_getElem hi, rfl⟩
      · rw [List.getElem?_append_right (by simpa using hi), List.getElem?_replicate] at e
        split at e <;> cases e
  refine ⟨R1.ok, R1.ow, R1.len, R1.nd, by simp [envI, L2.start, hl], R1.st, fun i a e => ?_, fun i j p d e h h' => ?_⟩
  · rcases get e with ⟨rfl, rfl⟩ | ⟨j, d, rfl, hd, rfl⟩
    · obtain ⟨v, h1, h2⟩ := R1.vr 0 _ rfl
      cases h1
      exact ⟨.ref p, rfl, h2⟩
    · have hi : j < vs.length := by rw [hl]; exact (List.getElem?_eq_some_iff.mp hd).1
      refine ⟨vs[j], ?_, trall_get ta (List.getElem?_eq_getElem hi) hd⟩
      unfold L2.start
      rw [List.getElem?_append_left (by simpa using hi), List.getElem?_map, List.getElem?_cons_succ, List.getElem?_eq_getElem hi]
      rfl
  · rcases get h with ⟨rfl, _⟩ | ⟨_, _, _, _, z⟩
    · rcases get h' with ⟨rfl, _⟩ | ⟨_, _, _, _, z⟩
      · exact fun _ _ => rfl
      · cases z
    · cases z
theorem pur_I {k : Nat} {N ps : List Str} {t : XS → TS} {T : TSd} (h : ∀ E, SimN c E (t E) T) : Pur N ps (fun E => t fun _ => E) (spI c k (runI ps.length N.length k T)) := by
  intro vs H Q E hsp
  obtain ⟨w, p, args, ds, μ, out, μ', rfl, rfl, hO, R1, ta, e, post⟩ := hsp
  unfold runI at e
  by_cases hl : ds.length + 1 = ps.length
  · rw [if_pos hl] at e
    refine ⟨by rw [List.length_cons, trall_len ta]; exact hl, ?_⟩
    have R2 := envI_R (N := N) R1 ta
    cases eT : T ⟨envI N.length k ds, μ⟩ with
    | none => rw [eT] at e; cases e
    | some q =>
      obtain ⟨fl, s'⟩ := q
      rw [eT] at e
      refine h (fun _ => E) w _ _ fl s' _ R2 eT ?_
      unfold outI at e
      split at e
      · rename_i s2 e2
        cases e2
        split at e
        · rename_i d hd
          cases e
          refine fun w' l R' => ?_
          obtain ⟨x, hx, p', o, rfl, hO', hρ, hH, ce⟩ := R'.vr 0 _ hd
          cases hx
          exact post w'.callee ⟨l.fz, l.nf, l.fr, fun b z => l.no b (R'.rho' z), l.dm, l.pr⟩ R'.callee fun w0 h0 => ⟨p, o, rfl, h0, hH, ce, (R'.ow p hO').1, hρ⟩
        · rename_i d hd
          cases e
          refine fun w' l R' => ?_
          obtain ⟨x, hx, tr⟩ := R'.vr 0 _ hd
          cases hx
          exact post w' l R'.bare fun w0 _ => tr
        · cases e
      · rename_i x s2 e2
        cases e2; cases e
        exact fun w' d l R' xa => post w' d l R'.bare xa
      · cases e
  · rw [if_neg hl] at e; cases e
end
/-! ### attributes -/
inductive AK where | fld | con (d : D) | get (f : Str) | xf
def attD (tab : Nat → Option AK) (ct : Nat → Option D) (f : Str) : D → Option D
  | .obj k fs => (match tab k with
    | some .fld => fs.lookup f
    | some (.con d) => if (fs.lookup f).isNone = true then some d else none
    | some (.get g) => fs.lookup g
    | _ => none)
  | .exc k fs => (match tab k with
    | some .xf => fs.lookup f
    | _ => none)
  | .cl k => ct k
  | _ => none
def TAtt (tab : Nat → Option AK) (ct : Nat → Option D) (f : Str) (a : M Rs) : M Rs := bnd a fun r => bnd (pk r) fun d0 => bnd (opt (attD tab ct f d0)) fun d => ret (.v d)
structure AttOk (c : Cz) (P : Program) (wl : World) (mg : Str → Option Value) (base : Heap) (f : Str) (tab : Nat → Option AK) (ct : Nat → Option D) : Prop where
  fld : ∀ k, tab k = some .fld → Cls c.K (c.cad k) ∧ NoAttr c.K (c.cad k) f
  con : ∀ k d, tab k = some (.con d) → Cls c.K (c.cad k) ∧ ∃ v u, Con c.K (c.cad k) f v u ∧ ∀ ρ F, Tr c ρ F v d
  get : ∀ k g, tab k = some (.get g) → Cls c.K (c.cad k) ∧ ∃ p ga fd, PropOf c.K (c.cad k) f p ga ∧ FnOk P wl c.K mg base (L2.CX P wl) 1 ga fd ["self"] (getSp (c.cad k) g) ∧ Binds c.K fd ["self"] []
  xf : ∀ k, tab k = some .xf → XfC c.K (c.cad k) ∧ PySem.W.findIn c.K (.ref (c.cad k)) f = some none
  cls : ∀ k d, ct k = some d → ∃ v mc u, CRead c.K (c.cad k) mc ∧ CVal c.K (c.cad k) mc f v u ∧ ∀ ρ F, Tr c ρ F v d
section
variable {c : Cz} {E : XS} {P : Program} {wl : World} {mg : Str → Option Value} {base : Heap}
theorem sim_Att {f : Str} {tab : Nat → Option AK} {ct : Nat → Option D} {t : TE} {T : M Rs} (h : AttOk c P wl mg base f tab ct) (ht : Sim c E t T) : Sim c E (tAtt P wl c.K mg base f t) (TAtt tab ct f T) := by
  intro w σ s out s' Q R1 e post
  rcases bnd_some e with ⟨r, s1, e1, e⟩ | ⟨x, e1, rfl⟩
  · refine ht w σ s _ s1 _ R1 e1 fun w1 v l1 R2 rv => ?_
    obtain ⟨d0, p0, e⟩ := bnd_pk e
    obtain ⟨d, ed, e⟩ := bnd_opt e
    cases e
    have pk := peek_pk R2 rv p0
    unfold attD at ed
    split at ed
    · rename_i k fs
      obtain ⟨a, dx, ws, rfl, hH, tf⟩ := pk.obj R2.ok
      split at ed
      · rename_i hk
        obtain ⟨h1, h2⟩ := h.fld k hk
        obtain ⟨u, hu, tu⟩ := (trf_look tf).1 d ed
        exact ⟨a, u, rfl, .fld hH h1 h2 hu, post w1 u l1 R2 tu⟩
      · rename_i d' hk
        by_cases hn : (fs.lookup f).isNone = true
        · rw [if_pos hn] at ed
          cases ed
          obtain ⟨h1, u, u', h2, tu⟩ := h.con k d hk
          exact ⟨a, u, rfl, .con hH h1 h2 ((trf_look tf).2 (by simpa using hn)), post w1 u l1 R2 (tu _ _)⟩
        · rw [if_neg hn] at ed; cases ed
      · rename_i g hk
        obtain ⟨h1, p, ga, fd, h2, h3, h4⟩ := h.get k g hk
        obtain ⟨u, hu, tu⟩ := (trf_look tf).1 d ed
        exact ⟨a, u, rfl, .prop hH h1 h2 h3 h4 hu, post w1 u l1 R2 tu⟩
      · cases ed
    · rename_i k fs
      split at ed
      · rename_i hk
        obtain ⟨h1, h2⟩ := h.xf k hk
        cases pk with
        | sc p =>
          cases p with
          | exc0 h => cases ed
          | exc1 h hd r =>
            obtain ⟨u, hu, tu⟩ := (trf_look r).1 d ed
            exact ⟨_, u, rfl, .exc (R2.ok _ _ h) (R2.ok _ _ hd) h1 h2 hu, post w1 u l1 R2 tu⟩
        | cell q ce => cases ce
      · cases ed
    · rename_i k
      obtain ⟨u, mc, u', h1, h2, tu⟩ := h.cls k d ed
      exact ⟨_, u, pk.cl, .cls h1 h2, post w1 u l1 R2 (tu _ _)⟩
    · cases ed
  · exact ht w σ s _ _ _ R1 e1 post
def attE (tab : Nat → Option AK) (f : Str) : D → Option D
  | .exc k fs => (match tab k with
    | some .xf => fs.lookup f
    | _ => none)
  | _ => none
def TAttE (tab : Nat → Option AK) (f : Str) (a : M Rs) : M Rs := bnd a fun r => bnd (pk r) fun d0 => bnd (opt (attE tab f d0)) fun d => ret (.v d)
theorem sim_AttE {f : Str} {tab : Nat → Option AK} {ct : Nat → Option D} {t : TE} {T : M Rs} (h : AttOk c P wl mg base f tab ct) (ht : Sim c E t T) : Sim c E (tAttE c.K f t) (TAttE tab f T) := by
  intro w σ s out s' Q R1 e post
  rcases bnd_some e with ⟨r, s1, e1, e⟩ | ⟨x, e1, rfl⟩
  · refine ht w σ s _ s1 _ R1 e1 fun w1 v l1 R2 rv => ?_
    obtain ⟨d0, p0, e⟩ := bnd_pk e
    obtain ⟨d, ed, e⟩ := bnd_opt e
    cases e
    have pk := peek_pk R2 rv p0
    unfold attE at ed
    split at ed
    · rename_i k fs
      split at ed
      · rename_i hk
        obtain ⟨h1, h2⟩ := h.xf k hk
        cases pk with
        | sc p =>
          cases p with
          | exc0 h => cases ed
          | exc1 h hd r =>
            obtain ⟨u, hu, tu⟩ := (trf_look r).1 d ed
            exact ⟨_, _, _, _, u, rfl, R2.ok _ _ h, R2.ok _ _ hd, h1, h2, hu, post w1 u l1 R2 tu⟩
        | cell q ce => cases ce
      · cases ed
    · cases ed
  · exact ht w σ s _ _ _ R1 e1 post
end
end Z
/-! operations on trees -/
namespace Z
open PySem PySem.Spec PyProof.Rows L2 U ClX
mutual
def toP : D → Option PyData
  | .non => some .none
  | .bl b => some (.bool b)
  | .int i => some (.int i)
  | .str z => some (.str z)
  | .list ds => (toPs ds).map .list
  | .scr ds => (toPs ds).map .list
  | .tup ds => (toPs ds).map .tuple
  | .ty _ => none
  | .cl _ => none
  | .loc _ => none
  | .dict _ => none
  | .obj _ _ => none
  | .exc _ _ => none
def toPs : List D → Option (List PyData)
  | [] => some []
  | d :: ds => match toP d, toPs ds with
    | some p, some ps => some (p :: ps)
    | _, _ => none
end
section
variable {c : Cz} {w : Wd} {v : V}
theorem tr_dp {ρ : List Addr} {F H : Hp} (ok : Same F H) : (∀ {v d}, Tr c ρ F v d → ∀ p, toP d = some p → Dp c.K H v p) ∧ (∀ {vs ds}, TrAll c ρ F vs ds → ∀ ps, toPs ds = some ps → DpAll c.K H vs ps) := by
  have sc : ∀ {a : Addr} {vs : List V}, F a = some (.lst vs) → SqL c.K H a vs := fun h => .inl (.inl (ok _ _ h))
  refine ⟨fun h => ?_, fun h => ?_⟩
  · exact Tr.rec (motive_1 := fun v d _ => ∀ p, toP d = some p → Dp c.K H v p) (motive_2 := fun vs ds _ => ∀ ps, toPs ds = some ps → DpAll c.K H vs ps) (motive_3 := fun _ _ _ => True) (motive_4 := fun _ _ _ => True)
      (fun p e => by unfold toP at e; cases e; exact .non) (fun b p e => by unfold toP at e; cases e; exact .bl _) (fun b p e => by unfold toP at e; cases e; exact .int _) (fun b p e => by unfold toP at e; cases e; exact .str _)
      (fun b p e => by unfold toP at e; cases e) (fun b p e => by unfold toP at e; cases e) (fun b p e => by unfold toP at e; cases e)
      (fun h _ ih p e => by unfold toP at e; obtain ⟨q, e1, rfl⟩ := Option.map_eq_some_iff.mp e; exact .lst (sc h) (ih q e1))
      (fun h _ ih p e => by unfold toP at e; obtain ⟨q, e1, rfl⟩ := Option.map_eq_some_iff.mp e; exact .lst (ok.seq h) (ih q e1))
      (fun h _ ih p e => by unfold toP at e; obtain ⟨q, e1, rfl⟩ := Option.map_eq_some_iff.mp e; exact .tup (ok.tup h) (ih q e1))
      (fun h _ ih p e => by unfold toP at e; cases e) (fun h _ ih p e => by unfold toP at e; cases e) (fun h p e => by unfold toP at e; cases e) (fun h hd _ ih p e => by unfold toP at e; cases e)
      (fun p e => by unfold toPs at e; cases e; exact .nil)
      (fun _ _ ih1 ih2 p e => by
        unfold toPs at e
        split at e
        · rename_i a b e1 e2; cases e; exact .cons (ih1 a e1) (ih2 b e2)
        · cases e) trivial (fun _ _ _ _ => trivial) trivial (fun _ _ _ _ => trivial) h
  · exact TrAll.rec (motive_1 := fun v d _ => ∀ p, toP d = some p → Dp c.K H v p) (motive_2 := fun vs ds _ => ∀ ps, toPs ds = some ps → DpAll c.K H vs ps) (motive_3 := fun _ _ _ => True) (motive_4 := fun _ _ _ => True)
      (fun p e => by unfold toP at e; cases e; exact .non) (fun b p e => by unfold toP at e; cases e; exact .bl _) (fun b p e => by unfold toP at e; cases e; exact .int _) (fun b p e => by unfold toP at e; cases e; exact .str _)
      (fun b p e => by unfold toP at e; cases e) (fun b p e => by unfold toP at e; cases e) (fun b p e => by unfold toP at e; cases e)
      (fun h _ ih p e => by unfold toP at e; obtain ⟨q, e1, rfl⟩ := Option.map_eq_some_iff.mp e; exact .lst (sc h) (ih q e1))
      (fun h _ ih p e => by unfold toP at e; obtain ⟨q, e1, rfl⟩ := Option.map_eq_some_iff.mp e; exact .lst (ok.seq h) (ih q e1))
      (fun h _ ih p e => by unfold toP at e; obtain ⟨q, e1, rfl⟩ := Option.map_eq_some_iff.mp e; exact .tup (ok.tup h) (ih q e1))
      (fun h _ ih p e => by unfold toP at e; cases e) (fun h _ ih p e => by unfold toP at e; cases e) (fun h p e => by unfold toP at e; cases e) (fun h hd _ ih p e => by unfold toP at e; cases e)
      (fun p e => by unfold toPs at e; cases e; exact .nil)
      (fun _ _ ih1 ih2 p e => by
        unfold toPs at e
        split at e
        · rename_i a b e1 e2; cases e; exact .cons (ih1 a e1) (ih2 b e2)
        · cases e) trivial (fun _ _ _ _ => trivial) trivial (fun _ _ _ _ => trivial) h
theorem Pk.dp {d : D} {p : PyData} (ok : Same w.F w.H) (h : Pk c w v d) (e : toP d = some p) : Dp c.K w.H v p := by
  cases h with
  | sc h => exact (tr_dp ok).1 h p e
  | cell e1 h =>
    cases h with
    | list r => unfold toP at e; obtain ⟨q, e2, rfl⟩ := Option.map_eq_some_iff.mp e; exact .lst (.inl (.inl e1)) ((tr_dp ok).2 r q e2)
    | tup r => unfold toP at e; obtain ⟨q, e2, rfl⟩ := Option.map_eq_some_iff.mp e; exact .tup (.inl (.inl e1)) ((tr_dp ok).2 r q e2)
    | dict r => unfold toP at e; cases e
    | obj r => unfold toP at e; cases e
end
/-! ### operators -/
def vAdd : D → D → Option Rs
  | .int i, .int j => some (.v (.int (i + j)))
  | .str a, .str b => if fits (a.length + b.length) = true then some (.v (.str (a ++ b))) else none
  | .list xs, .list ys => if fits (xs.length + ys.length) = true then some (.fr (.list (xs ++ ys))) else none
  | _, _ => none
def vSub : D → D → Option Rs
  | .int i, .int j => some (.v (.int (i - j)))
  | _, _ => none
def mulOk (i j : Int) : Bool := (decide (-(2 ^ 64) < i) && decide (i < 2 ^ 64)) || (decide (-(2 ^ 64) < j) && decide (j < 2 ^ 64))
def vMul : D → D → Option Rs
  | .int i, .int j => if mulOk i j = true then some (.v (.int (i * j))) else none
  | .list xs, .int k => if (decide (-(2 ^ 63) ≤ k) && decide (k < 2 ^ 63) && fits (xs.length * k.toNat)) = true then some (.fr (.list (List.replicate k.toNat xs).flatten)) else none
  | _, _ => none
def vDiv : D → D → Option Rs
  | .int i, .int j => if (decide (0 < j) && decide (j.natAbs.log2 < 9000)) = true then some (.v (.int (i / j))) else none
  | _, _ => none
def vMod : D → D → Option Rs
  | .int i, .int j => if 0 < j then some (.v (.int (i % j))) else none
  | _, _ => none
def vPow : D → D → Option Rs
  | .int i, .int j => if (decide (0 ≤ j) && decide ((Builtin.Int.intBits i : Int) * j ≤ 2 ^ 27)) = true then some (.v (.int (i ^ j.toNat))) else none
  | _, _ => none
def vCmp (g : Int → Int → Bool) (gs : List Nat → List Nat → Bool) : D → D → Option Rs
  | .int i, .int j => some (.v (.bl (g i j)))
  | .str a, .str b => some (.v (.bl (gs a.cps.toList b.cps.toList)))
  | _, _ => none
def vLt := vCmp (fun i j => decide (i < j)) (fun a b => decide (a < b))
def vLe := vCmp (fun i j => decide (i ≤ j)) (fun a b => !decide (b < a))
def vGt := vCmp (fun i j => decide (j < i)) (fun a b => decide (b < a))
def vGe := vCmp (fun i j => decide (j ≤ i)) (fun a b => !decide (a < b))
def eqS : D → D → Option Bool
  | .int i, .int j => some (decide (i = j))
  | .str a, .str b => some (decide (a = b))
  | .bl a, .bl b => some (decide (a = b))
  | .non, .non => some true
  | .non, .int _ => some false
  | .int _, .non => some false
  | .non, .bl _ => some false
  | .bl _, .non => some false
  | .non, .str _ => some false
  | .str _, .non => some false
  | .int _, .str _ => some false
  | .str _, .int _ => some false
  | .bl _, .str _ => some false
  | .str _, .bl _ => some false
  | _, _ => none
def eqD (d e : D) : Option Bool := match toP d, toP e with
  | some p, some q => if (SeqAt.shaped p && SeqAt.shaped q) = true then some (PyData.eqv p q) else none
  | _, _ => none
def eqL : D → D → Option Bool
  | .list xs, .list ys => if xs.length = ys.length then eqD (.list xs) (.list ys) else some false
  | d, e => eqD d e
def eqA (d e : D) : Option Bool := match eqS d e with
  | some b => some b
  | none => eqL d e
def vEq (d e : D) : Option Rs := (eqA d e).map fun b => .v (.bl b)
def vNe (d e : D) : Option Rs := (eqA d e).map fun b => .v (.bl (!b))
def vIs (d e : D) : Option Rs := match e with
  | .non => (match d with
    | .non => some (.v (.bl true))
    | _ => some (.v (.bl false)))
  | _ => none
def vIsNot (d e : D) : Option Rs := match e with
  | .non => (match d with
    | .non => some (.v (.bl false))
    | _ => some (.v (.bl true)))
  | _ => none
def flatD : D → Bool
  | .non => true
  | .bl _ => true
  | .int _ => true
  | .str _ => true
  | _ => false
def eqF : D → D → Bool
  | .non, .non => true
  | .bl a, .bl b => a == b
  | .bl a, .int b => (if a then 1 else 0) == b
  | .int a, .bl b => a == (if b then 1 else 0)
  | .int a, .int b => a == b
  | .str a, .str b => a == b
  | _, _ => false
def inF (d : D) (ds : List D) : Bool := ds.any fun e => eqF e d
def inL (d : D) (ds : List D) : Option Bool := if (flatD d && ds.all flatD) = true then some (inF d ds) else (match toP d, toPs ds with
  | some p, some ps => if (SeqAt.shaped p && SeqAt.shaped (.list ps)) = true then some (ps.any fun z => PyData.eqv z p) else none
  | _, _ => none)
def inA (d e : D) : Option Bool := match e with
  | .str z => (match d with
    | .str x => (match x.cps.toList with
      | [k] => some (decide (k ∈ z.cps.toList))
      | _ => none)
    | _ => none)
  | .list ds => inL d ds
  | .scr ds => inL d ds
  | .tup ds => if (flatD d && ds.all flatD) = true then some (inF d ds) else none
  | .dict kvs => (toKey d).map fun k => (valD kvs k).isSome
  | _ => none
def vIn (d e : D) : Option Rs := (inA d e).map fun b => .v (.bl b)
def vNotIn (d e : D) : Option Rs := (inA d e).map fun b => .v (.bl (!b))
def vIx : D → D → Option Rs
  | .list ds, .int i => (atI ds i).map .v
  | .scr ds, .int i => (atI ds i).map .v
  | .tup ds, .int i => (atI ds i).map .v
  | .str z, .int i => if fits z.length = true then (atI z.cps.toList i).map fun k => .v (.str ⟨#[k]⟩) else none
  | _, _ => none
def vIp (f : Int → Int → Int) : D → D → Option Rs
  | .int i, .int j => some (.v (.int (f i j)))
  | _, _ => none
def vIpM : D → D → Option Rs
  | .int i, .int j => if mulOk i j = true then some (.v (.int (i * j))) else none
  | _, _ => none
def vNeg : D → Option Rs
  | .int i => some (.v (.int (-i)))
  | _ => none
section
variable {c : Cz}
theorem os_Add : OpS c uAdd vAdd := by
  intro w x y d e r Q ok px py hf rq
  unfold vAdd at hf
  split at hf
  · cases hf; rw [px.int, py.int]; exact rq _ (.int _)
  · split at hf
    · rename_i h; cases hf; rw [px.str, py.str]; exact ⟨fits_le h, rq _ (.str _)⟩
    · cases hf
  · split at hf
    · rename_i h; cases hf
      obtain ⟨a, vs, rfl, h1, t1⟩ := px.list ok
      obtain ⟨b, us, rfl, h2, t2⟩ := py.list ok
      exact ⟨vs, us, h1, h2, by rw [trall_len t1, trall_len t2]; exact fits_le h, fun p hp => rq p _ hp (.list (t1.append t2))⟩
    · cases hf
  · cases hf
theorem os_Sub : OpS c uSub vSub := by
  intro w x y d e r Q ok px py hf rq
  unfold vSub at hf
  split at hf
  · cases hf; rw [px.int, py.int]; exact rq _ (.int _)
  · cases hf
theorem mulOk_c {i j : Int} (h : mulOk i j = true) : CMul i j := by
  unfold mulOk at h
  simp only [Bool.or_eq_true, Bool.and_eq_true, decide_eq_true_eq] at h
  exact h
theorem rep_tr {ρ : List Addr} {F : Hp} {vs : List V} {ds : List D} (t : TrAll c ρ F vs ds) : ∀ n : Nat, TrAll c ρ F (List.replicate n vs).flatten (List.replicate n ds).flatten
  | 0 => .nil
  | n + 1 => by simp only [List.replicate_succ, List.flatten_cons]; exact t.append (rep_tr t n)
theorem os_Mul : OpS c uMul vMul := by
  intro w x y d e r Q ok px py hf rq
  unfold vMul at hf
  split at hf
  · split at hf
    · rename_i h; cases hf; rw [px.int, py.int]; exact ⟨mulOk_c h, rq _ (.int _)⟩
    · cases hf
  · split at hf
    · rename_i h; cases hf
      obtain ⟨a, vs, rfl, h1, t1⟩ := px.list ok
      rw [py.int]
      simp only [Bool.and_eq_true, decide_eq_true_eq] at h
      exact ⟨vs, h1, h.1.1, h.1.2, by rw [trall_len t1]; exact fits_le h.2, fun p hp => rq p _ hp (.list (rep_tr t1 _))⟩
    · cases hf
  · cases hf
theorem os_Div : OpS c uDiv vDiv := by
  intro w x y d e r Q ok px py hf rq
  unfold vDiv at hf
  split at hf
  · split at hf
    · rename_i h; cases hf; rw [px.int, py.int]
      simp only [Bool.and_eq_true, decide_eq_true_eq] at h
      exact ⟨h, rq _ (.int _)⟩
    · cases hf
  · cases hf
theorem os_Mod : OpS c uMod vMod := by
  intro w x y d e r Q ok px py hf rq
  unfold vMod at hf
  split at hf
  · split at hf
    · rename_i h; cases hf; rw [px.int, py.int]; exact ⟨h, rq _ (.int _)⟩
    · cases hf
  · cases hf
theorem os_Pow : OpS c uPow vPow := by
  intro w x y d e r Q ok px py hf rq
  unfold vPow at hf
  split at hf
  · split at hf
    · rename_i h; cases hf; rw [px.int, py.int]
      simp only [Bool.and_eq_true, decide_eq_true_eq] at h
      exact ⟨h, rq _ (.int _)⟩
    · cases hf
  · cases hf
theorem os_Cmp {g : Int → Int → Bool} {gs : List Nat → List Nat → Bool} : OpS c (uCmp g gs) (vCmp g gs) := by
  intro w x y d e r Q ok px py hf rq
  unfold vCmp at hf
  split at hf
  · cases hf; rw [px.int, py.int]; exact rq _ (.bl _)
  · cases hf; rw [px.str, py.str]; exact rq _ (.bl _)
  · cases hf
theorem os_Lt : OpS c uLt vLt := os_Cmp
theorem os_Le : OpS c uLe vLe := os_Cmp
theorem os_Gt : OpS c uGt vGt := os_Cmp
theorem os_Ge : OpS c uGe vGe := os_Cmp
theorem eqS_ok {w : Wd} {x y : V} {d e : D} {b : Bool} (px : Pk c w x d) (py : Pk c w y e) (h : eqS d e = some b) : scal x y = true ∧ decide (x = y) = b := by
  unfold eqS at h
  split at h <;> cases h
  · rw [px.int, py.int]; exact ⟨rfl, by simp⟩
  · rw [px.str, py.str]; exact ⟨rfl, by simp⟩
  · rw [px.bl, py.bl]; exact ⟨rfl, by simp⟩
  · rw [px.non, py.non]; exact ⟨rfl, rfl⟩
  · rw [px.non, py.int]; exact ⟨rfl, rfl⟩
  · rw [px.int, py.non]; exact ⟨rfl, rfl⟩
  · rw [px.non, py.bl]; exact ⟨rfl, rfl⟩
  · rw [px.bl, py.non]; exact ⟨rfl, rfl⟩
  · rw [px.non, py.str]; exact ⟨rfl, rfl⟩
  · rw [px.str, py.non]; exact ⟨rfl, rfl⟩
  · rw [px.int, py.str]; exact ⟨rfl, rfl⟩
  · rw [px.str, py.int]; exact ⟨rfl, rfl⟩
  · rw [px.bl, py.str]; exact ⟨rfl, rfl⟩
  · rw [px.str, py.bl]; exact ⟨rfl, rfl⟩
theorem eqS_scal {w : Wd} {x y : V} {d e : D} (px : Pk c w x d) (py : Pk c w y e) (h : eqS d e = none) : scal x y = false := by
  cases px with
  | cell _ _ => cases y <;> rfl
  | sc hx =>
    cases py with
    | cell _ _ => cases x <;> rfl
    | sc hy => cases hx <;> cases hy <;> first | rfl | (cases h; done)
theorem eqL_ok {w : Wd} {x y : V} {d e : D} {b neg : Bool} {Q : VK} (ok : Same w.F w.H) (px : Pk c w x d) (py : Pk c w y e) (h : eqL d e = some b) (q : Q (.bl (if neg = true then !b else b)) w.H) : uEqB c.K neg x y w.H Q := by
  have dat : ∀ {d e : D}, Pk c w x d → Pk c w y e → eqD d e = some b → uEqB c.K neg x y w.H Q := by
    intro d e px py h
    unfold eqD at h
    split at h
    · rename_i p r e1 e2
      split at h
      · rename_i hs
        cases h
        simp only [Bool.and_eq_true] at hs
        exact .inl ⟨p, r, px.dp ok e1, py.dp ok e2, hs.1, hs.2, q⟩
      · cases h
    · cases h
  unfold eqL at h
  split at h
  · rename_i xs ys
    split at h
    · exact dat px py h
    · rename_i hn
      cases h
      obtain ⟨a, vs, rfl, h1, t1⟩ := px.list ok
      obtain ⟨b, us, rfl, h2, t2⟩ := py.list ok
      refine .inr ⟨a, b, vs, us, rfl, rfl, .inl (.inl h1), .inl (.inl h2), by rw [trall_len t1, trall_len t2]; exact hn, ?_⟩
      cases neg <;> exact q
  · exact dat px py h
theorem os_Eq : OpS c (uEq c.K) vEq := by
  intro w x y d e r Q ok px py hf rq
  obtain ⟨b, hb, rfl⟩ := Option.map_eq_some_iff.mp hf
  unfold eqA at hb
  unfold uEq
  split at hb
  · rename_i b' h
    cases hb
    obtain ⟨h1, h2⟩ := eqS_ok px py h
    rw [if_pos h1, h2]
    exact rq _ (.bl _)
  · rename_i h
    rw [eqS_scal px py h, if_neg (by decide)]
    exact eqL_ok ok px py hb (rq _ (.bl _))
theorem os_Ne : OpS c (uNe c.K) vNe := by
  intro w x y d e r Q ok px py hf rq
  obtain ⟨b, hb, rfl⟩ := Option.map_eq_some_iff.mp hf
  unfold eqA at hb
  unfold uNe
  split at hb
  · rename_i b' h
    cases hb
    obtain ⟨h1, h2⟩ := eqS_ok px py h
    rw [if_pos h1, h2]
    exact rq _ (.bl _)
  · rename_i h
    rw [eqS_scal px py h, if_neg (by decide)]
    exact eqL_ok ok px py hb (rq _ (.bl _))
theorem pk_non {w : Wd} {x : V} {d : D} (px : Pk c w x d) : decide (x = .non) = (match d with | .non => true | _ => false) := by
  cases px with
  | cell _ h => cases h <;> rfl
  | sc h => cases h <;> rfl
theorem os_Is : OpS c uIs vIs := by
  intro w x y d e r Q ok px py hf rq
  unfold vIs at hf
  split at hf
  · have h := pk_non px
    split at hf <;> cases hf
    · rw [py.non]; exact ⟨rfl, by rw [h]; exact rq _ (.bl _)⟩
    · rename_i hn
      rw [py.non]
      refine ⟨rfl, ?_⟩
      rw [h]
      cases d <;> first | exact absurd rfl hn | exact rq _ (.bl _)
  · cases hf
theorem os_IsNot : OpS c uIsNot vIsNot := by
  intro w x y d e r Q ok px py hf rq
  unfold vIsNot at hf
  split at hf
  · have h := pk_non px
    split at hf <;> cases hf
    · rw [py.non]; exact ⟨rfl, by rw [h]; exact rq _ (.bl _)⟩
    · rename_i hn
      rw [py.non]
      refine ⟨rfl, ?_⟩
      rw [h]
      cases d <;> first | exact absurd rfl hn | exact rq _ (.bl _)
  · cases hf
theorem pk_flat {w : Wd} {x : V} {d : D} (px : Pk c w x d) (h : flatD d = true) : flatV x = true := by
  cases px with
  | cell _ h' => cases h' <;> cases h
  | sc h' => cases h' <;> first | rfl | (cases h; done)
theorem tr_flat {ρ : List Addr} {F : Hp} : ∀ {vs : List V} {ds : List D}, TrAll c ρ F vs ds → ds.all flatD = true → vs.all flatV = true
  | _, _, .nil, _ => rfl
  | _, _, .cons h t, e => by
    simp only [List.all_cons, Bool.and_eq_true] at e ⊢
    refine ⟨?_, tr_flat t e.2⟩
    have e := e.1
    cases h <;> first | rfl | (cases e; done)
theorem tr_eqF {w : Wd} {x y : V} {d e : D} {ρ : List Addr} {F : Hp} (t : Tr c ρ F y e) (px : Pk c w x d) (h : flatD d = true) : eqV y x = eqF e d := by
  cases px with
  | cell _ h' => cases h' <;> cases h
  | sc h' => cases h' <;> first | (cases h; done) | (cases t <;> rfl)
theorem tr_inF {w : Wd} {x : V} {d : D} {ρ : List Addr} {F : Hp} (px : Pk c w x d) (h : flatD d = true) : ∀ {vs : List V} {ds : List D}, TrAll c ρ F vs ds → inV x vs = inF d ds
  | _, _, .nil => rfl
  | _, _, .cons t r => by
    have := tr_inF px h r
    unfold inV inF at this ⊢
    simp only [List.any_cons]
    rw [this, tr_eqF t px h]
theorem trk_val {ρ : List Addr} {F : Hp} {k : Key} : ∀ {vs : List (Key × V)} {ds : List (Key × D)}, TrK c ρ F vs ds → (∀ d, valD ds k = some d → ∃ v, valV vs k = some v ∧ Tr c ρ F v d) ∧ (valD ds k = none → valV vs k = none)
  | _, _, .nil => ⟨fun d h => (by cases h), fun _ => rfl⟩
  | _, _, .cons (k := k') (v := v) (d := d) h r => by
    obtain ⟨h1, h2⟩ := trk_val (k := k) r
    unfold valD valV at h1 h2 ⊢
    simp only [List.find?_cons]
    by_cases e : k' = k
    · simp only [e, decide_true]
      exact ⟨fun d' z => (by cases z; exact ⟨v, rfl, h⟩), fun z => (by cases z)⟩
    · simp only [e, decide_false]
      exact ⟨h1, h2⟩
theorem trk_val_some {ρ : List Addr} {F : Hp} {k : Key} {vs : List (Key × V)} {ds : List (Key × D)} (t : TrK c ρ F vs ds) : (valV vs k).isSome = (valD ds k).isSome := by
  obtain ⟨h1, h2⟩ := trk_val (k := k) t
  cases e : valD ds k with
  | none => rw [h2 e]; rfl
  | some d => obtain ⟨v, h, _⟩ := h1 d e; rw [h]; rfl
theorem inA_ok {w : Wd} {x y : V} {d e : D} {b neg : Bool} {Q : VK} (ok : Same w.F w.H) (px : Pk c w x d) (py : Pk c w y e) (h : inA d e = some b) (q : Q (.bl (if neg = true then !b else b)) w.H) : uIn c.K neg x y w.H Q := by
  have lst : ∀ {a : Addr} {vs : List V} {ds : List D}, SqL c.K w.H a vs → TrAll c w.ρ w.F vs ds → inL d ds = some b → uIn c.K neg x (.ref a) w.H Q := by
    intro a vs ds hs ta h
    unfold inL at h
    split at h
    · rename_i hf
      cases h
      simp only [Bool.and_eq_true] at hf
      exact .inl ⟨vs, .inl hs, pk_flat px hf.1, tr_flat ta hf.2, by rw [tr_inF px hf.1 ta]; exact q⟩
    · split at h
      · rename_i p ps e1 e2
        split at h
        · rename_i hs2
          cases h
          simp only [Bool.and_eq_true] at hs2
          exact .inr (.inl ⟨p, ps, px.dp ok e1, .lst hs ((tr_dp ok).2 ta ps e2), hs2.1, hs2.2, q⟩)
        · cases h
      · cases h
  unfold inA at h
  split at h
  · rename_i z
    split at h
    · rename_i z2
      split at h
      · rename_i k hk
        cases h
        rw [py.str, px.str]
        refine ⟨k, ?_, q⟩
        congr 1
        cases z2 with
        | mk a =>
          have : a.toList = [k] := hk
          congr 1
          exact Array.toList_inj.mp this
      · cases h
    · cases h
  · obtain ⟨a, vs, rfl, h1, t1⟩ := py.list ok; exact lst (.inl (.inl h1)) t1 h
  · obtain ⟨a, vs, rfl, h1, t1⟩ := py.scr ok; exact lst h1 t1 h
  · obtain ⟨a, vs, rfl, h1, t1⟩ := py.tup ok
    split at h
    · rename_i hf
      cases h
      simp only [Bool.and_eq_true] at hf
      exact .inl ⟨vs, .inr h1, pk_flat px hf.1, tr_flat t1 hf.2, by rw [tr_inF px hf.1 t1]; exact q⟩
    · cases h
  · obtain ⟨a, vs, rfl, h1, t1⟩ := py.dict ok
    obtain ⟨k, hk, rfl⟩ := Option.map_eq_some_iff.mp h
    refine .inr (.inr ⟨valV vs k, .inl ⟨vs, k, h1, px.key hk, rfl⟩, ?_⟩)
    rw [trk_val_some t1]; exact q
  · cases h
theorem os_In : OpS c (uIn c.K false) vIn := by
  intro w x y d e r Q ok px py hf rq
  obtain ⟨b, hb, rfl⟩ := Option.map_eq_some_iff.mp hf
  exact inA_ok ok px py hb (rq _ (.bl _))
theorem os_NotIn : OpS c (uIn c.K true) vNotIn := by
  intro w x y d e r Q ok px py hf rq
  obtain ⟨b, hb, rfl⟩ := Option.map_eq_some_iff.mp hf
  exact inA_ok ok px py hb (rq _ (.bl _))
theorem atI_tr {ρ : List Addr} {F : Hp} {vs : List V} {ds : List D} {i : Int} {d : D} (t : TrAll c ρ F vs ds) (h : atI ds i = some d) : ∃ v, atI vs i = some v ∧ Tr c ρ F v d := by
  unfold atI at h ⊢
  rw [trall_len t]
  obtain ⟨j, h1, h2⟩ := Option.bind_eq_some_iff.mp h
  have hj : j < vs.length := by rw [trall_len t]; exact (List.getElem?_eq_some_iff.mp h2).1
  refine ⟨vs[j], ?_, trall_get t (List.getElem?_eq_getElem hj) h2⟩
  rw [h1]
  exact List.getElem?_eq_getElem hj
theorem os_Ix : OpS c (uIx c.K) vIx := by
  intro w x y d e r Q ok px py hf rq
  unfold vIx at hf
  split at hf
  · obtain ⟨d', hd, rfl⟩ := Option.map_eq_some_iff.mp hf
    obtain ⟨a, vs, rfl, h1, t1⟩ := px.list ok
    obtain ⟨v, hv, tv⟩ := atI_tr t1 hd
    rw [py.int]
    exact ⟨vs, v, .inl (.inl (.inl h1)), hv, rq _ tv⟩
  · obtain ⟨d', hd, rfl⟩ := Option.map_eq_some_iff.mp hf
    obtain ⟨a, vs, rfl, h1, t1⟩ := px.scr ok
    obtain ⟨v, hv, tv⟩ := atI_tr t1 hd
    rw [py.int]
    exact ⟨vs, v, .inl h1, hv, rq _ tv⟩
  · obtain ⟨d', hd, rfl⟩ := Option.map_eq_some_iff.mp hf
    obtain ⟨a, vs, rfl, h1, t1⟩ := px.tup ok
    obtain ⟨v, hv, tv⟩ := atI_tr t1 hd
    rw [py.int]
    exact ⟨vs, v, .inr h1, hv, rq _ tv⟩
  · split at hf
    · rename_i h
      obtain ⟨k, hk, rfl⟩ := Option.map_eq_some_iff.mp hf
      rw [px.str, py.int]
      exact ⟨k, fits_le h, hk, rq _ (.str _)⟩
    · cases hf
  · cases hf
theorem us_Neg : UnS c uNeg vNeg := by
  intro w x d r Q ok px hf rq
  unfold vNeg at hf
  split at hf
  · cases hf; rw [px.int]; exact rq _ (.int _)
  · cases hf
theorem ips_I {f : Int → Int → Int} : OpS c (ipI f) (vIp f) := by
  intro w x y d e r Q ok px py hf rq
  unfold vIp at hf
  split at hf
  · cases hf; rw [px.int, py.int]; exact ⟨_, _, rfl, rfl, rq _ (.int _)⟩
  · cases hf
theorem ips_M : OpS c ipM vIpM := by
  intro w x y d e r Q ok px py hf rq
  unfold vIpM at hf
  split at hf
  · split at hf
    · rename_i h; cases hf; rw [px.int, py.int]; exact ⟨_, _, rfl, rfl, mulOk_c h, rq _ (.int _)⟩
    · cases hf
  · cases hf
end
end Z
/-! built-in functions on trees, slices, d[k] -/
namespace Z
open PySem PySem.Spec PyProof.Rows L2 U ClX
def seqD : D → Option (List D)
  | .list ds => some ds
  | .scr ds => some ds
  | .tup ds => some ds
  | _ => none
def asI : D → Option Int
  | .int i => some i
  | _ => none
def asS : D → Option Str
  | .str z => some z
  | _ => none
def asBl : D → Option Bool
  | .bl b => some b
  | _ => none
def bLen : List D → Option Rs
  | [.str z] => if fits z.length = true then some (.v (.int z.length)) else none
  | [d] => (seqD d).map fun ds => .v (.int ds.length)
  | _ => none
def bAbs : List D → Option Rs
  | [.int i] => some (.v (.int (if i < 0 then -i else i)))
  | _ => none
def maxI : List Int → Option Int
  | [] => none
  | i :: is => some (is.foldl (fun a b => if b > a then b else a) i)
def bMax : List D → Option Rs
  | [.int i, .int j] => some (.v (.int (if j > i then j else i)))
  | [.list ds] => (ds.mapM asI).bind fun ns => (maxI ns).map fun m => .v (.int m)
  | _ => none
def bMin : List D → Option Rs
  | [.int i, .int j] => some (.v (.int (if j < i then j else i)))
  | _ => none
def bAll : List D → Option Rs
  | [.list ds] => (ds.mapM asBl).map fun bs => .v (.bl (bs.all id))
  | _ => none
def bList : List D → Option Rs
  | [d] => (seqD d).map fun ds => .fr (.list ds)
  | _ => none
def bTuple : List D → Option Rs
  | [.list ds] => some (.fr (.tup ds))
  | [.scr ds] => some (.fr (.tup ds))
  | _ => none
def sortI (ns : List Int) : List Int := ns.mergeSort fun a b => decide (a ≤ b)
def bSort : List D → Option Rs
  | [.list ds] => (ds.mapM asI).map fun ns => .fr (.list ((sortI ns).map D.int))
  | _ => none
def bInt : List D → Option Rs
  | [.int i] => some (.v (.int i))
  | [.bl k] => some (.v (.int (if k = true then 1 else 0)))
  | _ => none
def reprOk (p : PyData) : Bool := p.showable && !p.hasDict && decide (p.depth ≤ 60) && decide (p.shown.length ≤ 16777216)
def bRepr : List D → Option Rs
  | [.int i] => if i.natAbs.log2 < 1920 then some (.v (.str (toString i))) else none
  | [.non] => some (.v (.str "None"))
  | [.list ds] => (toP (.list ds)).bind fun p => if reprOk p = true then some (.v (.str p.shown)) else none
  | [.tup ds] => (toP (.tup ds)).bind fun p => if reprOk p = true then some (.v (.str p.shown)) else none
  | _ => none
section
variable {c : Cz} {w : Wd}
theorem pkall1 {vs : List V} {d : D} (h : PkAll c w vs [d]) : ∃ v, vs = [v] ∧ Pk c w v d := by
  cases h with
  | cons a b => cases b; exact ⟨_, rfl, a⟩
theorem pkall2 {vs : List V} {d e : D} (h : PkAll c w vs [d, e]) : ∃ v u, vs = [v, u] ∧ Pk c w v d ∧ Pk c w u e := by
  cases h with
  | cons a b => obtain ⟨u, rfl, q⟩ := pkall1 b; exact ⟨_, u, rfl, a, q⟩
theorem Pk.seq {v : V} {d : D} {ds : List D} (ok : Same w.F w.H) (h : Pk c w v d) (e : seqD d = some ds) : ∃ a vs, v = .ref a ∧ (SqL c.K w.H a vs ∨ SqT c.K w.H a vs) ∧ TrAll c w.ρ w.F vs ds := by
  cases d with
  | list xs => cases e; obtain ⟨a, vs, rfl, h1, t⟩ := h.list ok; exact ⟨a, vs, rfl, .inl (.inl (.inl h1)), t⟩
  | scr xs => cases e; obtain ⟨a, vs, rfl, h1, t⟩ := h.scr ok; exact ⟨a, vs, rfl, .inl h1, t⟩
  | tup xs => cases e; obtain ⟨a, vs, rfl, h1, t⟩ := h.tup ok; exact ⟨a, vs, rfl, .inr h1, t⟩
  | _ => cases e
theorem cs_Len : CallS c (cLen c.K) bLen := by
  intro w xs ds r Q ok pa hf rq
  unfold bLen at hf
  split at hf
  · split at hf
    · rename_i h; cases hf
      obtain ⟨v, rfl, p⟩ := pkall1 pa
      rw [p.str]
      exact ⟨fits_le h, rq _ (.int _)⟩
    · cases hf
  · obtain ⟨es, he, rfl⟩ := Option.map_eq_some_iff.mp hf
    obtain ⟨v, rfl, p⟩ := pkall1 pa
    obtain ⟨a, vs, rfl, h1, t⟩ := p.seq ok he
    exact ⟨vs, h1, by rw [trall_len t]; exact rq _ (.int _)⟩
  · cases hf
theorem cs_Abs : CallS c cAbs bAbs := by
  intro w xs ds r Q ok pa hf rq
  unfold bAbs at hf
  split at hf
  · cases hf
    obtain ⟨v, rfl, p⟩ := pkall1 pa
    rw [p.int]
    exact rq _ (.int _)
  · cases hf
theorem mapM_ints {ρ : List Addr} {F : Hp} : ∀ {vs : List V} {ds : List D} {ns : List Int}, TrAll c ρ F vs ds → ds.mapM asI = some ns → vs = ns.map V.int
  | _, _, ns, .nil, e => by simp at e; subst e; rfl
  | _, _, ns, .cons (d := d) h t, e => by
    rw [List.mapM_cons] at e
    cases d with
    | int i =>
      simp only [asI, Option.pure_def, Option.bind_eq_bind, Option.bind_some, Option.bind_eq_some_iff] at e
      obtain ⟨ms, e1, e2⟩ := e
      cases e2
      cases h
      rw [mapM_ints t e1]; rfl
    | _ => simp [asI] at e
theorem mapM_bools {ρ : List Addr} {F : Hp} : ∀ {vs : List V} {ds : List D} {ns : List Bool}, TrAll c ρ F vs ds → ds.mapM asBl = some ns → vs = ns.map V.bl
  | _, _, ns, .nil, e => by simp at e; subst e; rfl
  | _, _, ns, .cons (d := d) h t, e => by
    rw [List.mapM_cons] at e
    cases d with
    | bl i =>
      simp only [asBl, Option.pure_def, Option.bind_eq_bind, Option.bind_some, Option.bind_eq_some_iff] at e
      obtain ⟨ms, e1, e2⟩ := e
      cases e2
      cases h
      rw [mapM_bools t e1]; rfl
    | _ => simp [asBl] at e
theorem mapM_strs {ρ : List Addr} {F : Hp} : ∀ {vs : List V} {ds : List D} {ns : List Str}, TrAll c ρ F vs ds → ds.mapM asS = some ns → vs = ns.map V.str
  | _, _, ns, .nil, e => by simp at e; subst e; rfl
  | _, _, ns, .cons (d := d) h t, e => by
    rw [List.mapM_cons] at e
    cases d with
    | str i =>
      simp only [asS, Option.pure_def, Option.bind_eq_bind, Option.bind_some, Option.bind_eq_some_iff] at e
      obtain ⟨ms, e1, e2⟩ := e
      cases e2
      cases h
      rw [mapM_strs t e1]; rfl
    | _ => simp [asS] at e
theorem foldl_max : ∀ (is : List Int) (i : Int), (∀ y ∈ i :: is, y ≤ is.foldl (fun a b => if b > a then b else a) i) ∧ is.foldl (fun a b => if b > a then b else a) i ∈ i :: is
  | [], i => by simp
  | j :: is, i => by
    obtain ⟨h1, h2⟩ := foldl_max is (if j > i then j else i)
    simp only [List.foldl_cons]
    have m1 : i ≤ (if j > i then j else i) := by split <;> omega
    have m2 : j ≤ (if j > i then j else i) := by split <;> omega
    refine ⟨fun y hy => ?_, ?_⟩
    · have h3 := h1 (if j > i then j else i) List.mem_cons_self
      rcases List.mem_cons.mp hy with e | hy
      · rw [e]; exact Int.le_trans m1 h3
      · rcases List.mem_cons.mp hy with e | hy
        · rw [e]; exact Int.le_trans m2 h3
        · exact h1 y (List.mem_cons_of_mem _ hy)
    · rcases List.mem_cons.mp h2 with h | h
      · rw [h]; split <;> simp
      · exact List.mem_cons_of_mem _ (List.mem_cons_of_mem _ h)
theorem cs_Max : CallS c (cMax c.K) bMax := by
  intro w xs ds r Q ok pa hf rq
  unfold bMax at hf
  split at hf
  · cases hf
    obtain ⟨v, u, rfl, p, q⟩ := pkall2 pa
    rw [p.int, q.int]
    exact rq _ (.int _)
  · obtain ⟨ns, h1, h2⟩ := Option.bind_eq_some_iff.mp hf
    obtain ⟨m, h3, rfl⟩ := Option.map_eq_some_iff.mp h2
    obtain ⟨v, rfl, p⟩ := pkall1 pa
    obtain ⟨a, vs, rfl, h4, t⟩ := p.list ok
    have e := mapM_ints t h1
    subst e
    cases ns with
    | nil => cases h3
    | cons i is =>
      cases h3
      refine ⟨i :: is, .inl (.inl h4), by simp, fun m h5 h6 => ?_⟩
      obtain ⟨h7, h8⟩ := foldl_max is i
      have : m = is.foldl (fun a b => if b > a then b else a) i := Int.le_antisymm (h7 m h5) (h6 _ h8)
      rw [this]
      exact rq _ (.int _)
  · cases hf
theorem cs_Min : CallS c (cMin c.K) bMin := by
  intro w xs ds r Q ok pa hf rq
  unfold bMin at hf
  split at hf
  · cases hf
    obtain ⟨v, u, rfl, p, q⟩ := pkall2 pa
    rw [p.int, q.int]
    exact rq _ (.int _)
  · cases hf
theorem cs_All : CallS c (cAll c.K) bAll := by
  intro w xs ds r Q ok pa hf rq
  unfold bAll at hf
  split at hf
  · obtain ⟨bs, h1, rfl⟩ := Option.map_eq_some_iff.mp hf
    obtain ⟨v, rfl, p⟩ := pkall1 pa
    obtain ⟨a, vs, rfl, h4, t⟩ := p.list ok
    have e := mapM_bools t h1
    subst e
    exact ⟨bs, .inl (.inl h4), rq _ (.bl _)⟩
  · cases hf
theorem cs_List : CallS c (cList c.K) bList := by
  intro w xs ds r Q ok pa hf rq
  unfold bList at hf
  split at hf
  · obtain ⟨es, he, rfl⟩ := Option.map_eq_some_iff.mp hf
    obtain ⟨v, rfl, p⟩ := pkall1 pa
    obtain ⟨a, vs, rfl, h1, t⟩ := p.seq ok he
    exact ⟨vs, h1, fun l hl => rq l _ hl (.list t)⟩
  · cases hf
theorem cs_Tuple : CallS c (cTuple c.K) bTuple := by
  intro w xs ds r Q ok pa hf rq
  unfold bTuple at hf
  split at hf
  · cases hf
    obtain ⟨v, rfl, p⟩ := pkall1 pa
    obtain ⟨a, vs, rfl, h1, t⟩ := p.list ok
    exact ⟨vs, .inl ⟨.inl (.inl h1), fun l hl => rq l _ hl (.tup t)⟩⟩
  · cases hf
    obtain ⟨v, rfl, p⟩ := pkall1 pa
    obtain ⟨a, vs, rfl, h1, t⟩ := p.scr ok
    exact ⟨vs, .inl ⟨h1, fun l hl => rq l _ hl (.tup t)⟩⟩
  · cases hf
theorem sortI_perm (ns : List Int) : (sortI ns).Perm ns := List.mergeSort_perm _ _
theorem sortI_sorted (ns : List Int) : (sortI ns).Pairwise (· ≤ ·) := by
  have := List.pairwise_mergeSort (le := fun a b : Int => decide (a ≤ b)) (fun a b c h1 h2 => by simp at *; omega) (fun a b => by simp; omega) ns
  exact this.imp fun h => by simpa using h
theorem sortI_eq {ns ys : List Int} (p : ys.Perm ns) (s : ys.Pairwise (· ≤ ·)) : ys = sortI ns := (p.trans (sortI_perm ns).symm).eq_of_pairwise (fun _ _ _ _ h1 h2 => Int.le_antisymm h1 h2) s (sortI_sorted ns)
theorem tr_ints {ρ : List Addr} {F : Hp} : ∀ ns : List Int, TrAll c ρ F (ns.map V.int) (ns.map D.int)
  | [] => .nil
  | i :: is => .cons (.int i) (tr_ints is)
theorem tr_strs {ρ : List Addr} {F : Hp} : ∀ ns : List Str, TrAll c ρ F (ns.map V.str) (ns.map D.str)
  | [] => .nil
  | i :: is => .cons (.str i) (tr_strs is)
theorem cs_Sort : CallS c (cSort c.K) bSort := by
  intro w xs ds r Q ok pa hf rq
  unfold bSort at hf
  split at hf
  · obtain ⟨ns, h1, rfl⟩ := Option.map_eq_some_iff.mp hf
    obtain ⟨v, rfl, p⟩ := pkall1 pa
    obtain ⟨a, vs, rfl, h4, t⟩ := p.list ok
    have e := mapM_ints t h1
    subst e
    exact ⟨ns, .inl (.inl h4), fun ns' l p s hl => by rw [sortI_eq p s]; exact rq l _ hl (.list (tr_ints _))⟩
  · cases hf
theorem cs_Int : CallS c cInt bInt := by
  intro w xs ds r Q ok pa hf rq
  unfold bInt at hf
  split at hf
  · cases hf
    obtain ⟨v, rfl, p⟩ := pkall1 pa
    rw [p.int]
    exact rq _ (.int _)
  · cases hf
    obtain ⟨v, rfl, p⟩ := pkall1 pa
    rw [p.bl]
    exact rq _ (.int _)
  · cases hf
theorem reprOk_c {p : PyData} (h : reprOk p = true) : p.showable = true ∧ p.hasDict = false ∧ p.depth ≤ 60 ∧ p.shown.length ≤ sizeLine := by
  unfold reprOk at h
  simp only [Bool.and_eq_true, Bool.not_eq_true', decide_eq_true_eq] at h
  exact ⟨h.1.1.1, h.1.1.2, h.1.2, h.2⟩
theorem cs_Repr : CallS c (cRepr c.K) bRepr := by
  intro w xs ds r Q ok pa hf rq
  unfold bRepr at hf
  split at hf
  · split at hf
    · rename_i h; cases hf
      obtain ⟨v, rfl, p⟩ := pkall1 pa
      rw [p.int]
      exact ⟨h, rq _ (.str _)⟩
    · cases hf
  · cases hf
    obtain ⟨v, rfl, p⟩ := pkall1 pa
    rw [p.non]
    exact rq _ (.str _)
  · obtain ⟨q, h1, h2⟩ := Option.bind_eq_some_iff.mp hf
    split at h2
    · rename_i h; cases h2
      obtain ⟨v, rfl, p⟩ := pkall1 pa
      obtain ⟨a, vs, rfl, h4, t⟩ := p.list ok
      obtain ⟨k1, k2, k3, k4⟩ := reprOk_c h
      exact ⟨q, p.dp ok h1, k1, k2, k3, k4, rq _ (.str _)⟩
    · cases h2
  · obtain ⟨q, h1, h2⟩ := Option.bind_eq_some_iff.mp hf
    split at h2
    · rename_i h; cases h2
      obtain ⟨v, rfl, p⟩ := pkall1 pa
      obtain ⟨a, vs, rfl, h4, t⟩ := p.tup ok
      obtain ⟨k1, k2, k3, k4⟩ := reprOk_c h
      exact ⟨q, p.dp ok h1, k1, k2, k3, k4, rq _ (.str _)⟩
    · cases h2
  · cases hf
end
/-! ### isinstance -/
def bty : D → Option String
  | .non => some "NoneType"
  | .bl _ => some "bool"
  | .int _ => some "int"
  | .str _ => some "str"
  | .list _ => some "list"
  | .scr _ => some "list"
  | .tup _ => some "tuple"
  | .dict _ => some "dict"
  | _ => none
/-- sub: own class against own class; so: own class against a built-in one; bo: a built-in one against an own one -/
structure Kin where
  sub : Nat → Nat → Option Bool
  so : Nat → String → Option Bool
  bo : String → Nat → Option Bool
  xs : Nat → Nat → Option Bool := fun _ _ => none
  xo : Nat → String → Option Bool := fun _ _ => none
def isiA (kn : Kin) : D → D → Option Bool
  | .obj k _, .cl j => kn.sub k j
  | .obj k _, .ty n => kn.so k n
  | .exc k _, .cl j => kn.xs k j
  | .exc k _, .ty n => kn.xo k n
  | d, .cl j => (bty d).bind fun t => kn.bo t j
  | d, .ty n => (bty d).bind fun t => kitB t n
  | _, _ => none
def isiT (kn : Kin) (d : D) : List D → Option Bool
  | [] => some false
  | e :: es => (isiA kn d e).bind fun b => if b = true then some true else isiT kn d es
def bIsi (kn : Kin) : List D → Option Rs
  | [d, e] => (isiA kn d e).map fun b => .v (.bl b)
  | _ => none
def isCl : D → Bool
  | .cl _ => true
  | .ty _ => true
  | _ => false
/-- isinstance(x, (c, ..)) -/
def bIsiT (kn : Kin) : List D → Option Rs
  | [d, .tup es] => if es ≠ [] ∧ es.all isCl = true then (isiT kn d es).map fun b => .v (.bl b) else none
  | _ => none
structure KinOk (c : Cz) (kn : Kin) : Prop where
  sub : ∀ k j b, kn.sub k j = some b → Cls c.K (c.cad k) ∧ InsTy c.K (c.cad k) ∧ PySem.W.kitOne c.K (.ref (c.cad k)) (.ref (c.cad j)) = some b
  so : ∀ k n b, kn.so k n = some b → Cls c.K (c.cad k) ∧ InsTy c.K (c.cad k) ∧ PySem.W.kitOne c.K (.ref (c.cad k)) (.type n) = some b
  bo : ∀ t j b, kn.bo t j = some b → PySem.W.kitOne c.K (.type t) (.ref (c.cad j)) = some b
  xs : ∀ k j b, kn.xs k j = some b → ExcC c.K (c.cad k) ∧ PySem.W.kitOne c.K (.ref (c.cad k)) (.ref (c.cad j)) = some b
  xo : ∀ k n b, kn.xo k n = some b → ExcC c.K (c.cad k) ∧ PySem.W.kitOne c.K (.ref (c.cad k)) (.type n) = some b
section
variable {c : Cz} {w : Wd}
theorem tyx_list {H : Hp} {a : Addr} {vs : List V} (h : SqL c.K H a vs) : TyX c.K H (.ref a) (.type "list") := by
  rcases h with (h | ⟨o, h⟩) | ⟨o, its, n, h, hc, _⟩
  · exact .base (.lst h)
  · exact .base (.frz h)
  · exact .kList h hc
theorem tyx_tup {H : Hp} {a : Addr} {vs : List V} (h : SqT c.K H a vs) : TyX c.K H (.ref a) (.type "tuple") := by
  rcases h with (h | ⟨o, h⟩) | ⟨o, its, n, h, hc, _⟩
  · exact .base (.tup h)
  · exact .fTuple h
  · exact .kTuple h hc
theorem Pk.tyx {v : V} {d : D} {t : String} (ok : Same w.F w.H) (h : Pk c w v d) (e : bty d = some t) : TyX c.K w.H v (.type t) := by
  cases d with
  | non => cases e; rw [h.non]; exact .base .non
  | bl b => cases e; rw [h.bl]; exact .base (.bl _)
  | int b => cases e; rw [h.int]; exact .base (.int _)
  | str b => cases e; rw [h.str]; exact .base (.str _)
  | list b => cases e; obtain ⟨a, vs, rfl, h1, _⟩ := h.list ok; exact .base (.lst h1)
  | scr b => cases e; obtain ⟨a, vs, rfl, h1, _⟩ := h.scr ok; exact tyx_list h1
  | tup b => cases e; obtain ⟨a, vs, rfl, h1, _⟩ := h.tup ok; exact tyx_tup h1
  | dict b =>
    cases e
    obtain ⟨a, vs, rfl, h1, _⟩ := h.dict ok
    rcases h1 with h1 | ⟨o, h1⟩
    · exact .base (.dK h1)
    · exact .fDict h1
  | _ => cases e
theorem tyz_exc {v : V} {k : Nat} {fs : List (Str × D)} (ok : Same w.F w.H) (h : Pk c w v (.exc k fs)) (C : ExcC c.K (c.cad k)) : TyZ c.K w.H v (.ref (c.cad k)) := by
  cases h with
  | sc h =>
    cases h with
    | exc0 h => exact .exc0 (ok _ _ h) C
    | exc1 h hd r => exact .exc1 (ok _ _ h) (ok _ _ hd) C
  | cell e h => cases h
/-- the type of a value -/
def tyV (c : Cz) : D → Option Value
  | .obj k _ => some (.ref (c.cad k))
  | .exc k _ => some (.ref (c.cad k))
  | d => (bty d).map .type
theorem tyV_b {d : D} {t : String} (h : bty d = some t) : tyV c d = some (.type t) := by
  cases d <;> first | (cases h; done) | (cases h; rfl)
/-- one class: what kitOne says of it -/
theorem isiA_ok {kn : Kin} (K : KinOk c kn) {v u : V} {d e : D} {b : Bool} (ok : Same w.F w.H) (p : Pk c w v d) (q : Pk c w u e) (h : isiA kn d e = some b) : ∃ t u', ClsV u u' ∧ TyZ c.K w.H v t ∧ PySem.W.kitOne c.K t u' = some b ∧ tyV c d = some t := by
  unfold isiA at h
  split at h
  · obtain ⟨h1, h2, h3⟩ := K.sub _ _ _ h
    obtain ⟨a, dx, vs, rfl, hH, _⟩ := p.obj ok
    rw [q.cl]
    exact ⟨_, _, .own _, .x (.base (.ins hH h1 h2.ha h2.hn h2.ht h2.hm)), h3, rfl⟩
  · obtain ⟨h1, h2, h3⟩ := K.so _ _ _ h
    obtain ⟨a, dx, vs, rfl, hH, _⟩ := p.obj ok
    rw [q.ty]
    exact ⟨_, _, .ty _, .x (.base (.ins hH h1 h2.ha h2.hn h2.ht h2.hm)), h3, rfl⟩
  · obtain ⟨h1, h2⟩ := K.xs _ _ _ h
    rw [q.cl]
    exact ⟨_, _, .own _, tyz_exc ok p h1, h2, rfl⟩
  · obtain ⟨h1, h2⟩ := K.xo _ _ _ h
    rw [q.ty]
    exact ⟨_, _, .ty _, tyz_exc ok p h1, h2, rfl⟩
  · obtain ⟨t, ht, hb⟩ := Option.bind_eq_some_iff.mp h
    rw [q.cl]
    exact ⟨_, _, .own _, .x (p.tyx ok ht), K.bo _ _ _ hb, tyV_b ht⟩
  · obtain ⟨t, ht, hb⟩ := Option.bind_eq_some_iff.mp h
    rw [q.ty]
    exact ⟨_, _, .ty _, .x (p.tyx ok ht), kit_ty hb, tyV_b ht⟩
  · cases h
theorem cs_Isi {kn : Kin} (K : KinOk c kn) : CallS c (cIsi c.K) (bIsi kn) := by
  intro w xs ds r Q ok pa hf rq
  unfold bIsi at hf
  split at hf
  · obtain ⟨b, hb, rfl⟩ := Option.map_eq_some_iff.mp hf
    obtain ⟨v, u, rfl, p, q⟩ := pkall2 pa
    obtain ⟨t, u', h1, h2, h3, _⟩ := isiA_ok K ok p q hb
    exact ⟨b, .inl ⟨t, u', h1, h2, h3⟩, rq _ (.bl _)⟩
  · cases hf
theorem kitAny_cut {K : PySem.W.Frag} {t u : Value} {us : List Value} (h : PySem.W.kitOne K t u = some true) : PySem.W.kitAny K t (u :: us) = some true := kitAny_cons h (fun z => nomatch z) fun _ => rfl
theorem kitAny_next {K : PySem.W.Frag} {t u : Value} {us : List Value} {b : Bool} (h : PySem.W.kitOne K t u = some false) (r : PySem.W.kitAny K t us = some b) : PySem.W.kitAny K t (u :: us) = some b := kitAny_cons h (fun _ => r) fun z => nomatch z
/-- the classes of a display, as values -/
theorem clsv_all : ∀ {vs : List V} {es : List D}, TrAll c w.ρ w.F vs es → (∀ e ∈ es, (∃ j, e = .cl j) ∨ ∃ n, e = .ty n) → ∃ us, Paired ClsV vs us
  | _, _, .nil, _ => ⟨[], .nil⟩
  | _, _, .cons h r, hc => by
    obtain ⟨us, p⟩ := clsv_all r fun e he => hc e (List.mem_cons_of_mem _ he)
    rcases hc _ (List.mem_cons_self ..) with ⟨j, rfl⟩ | ⟨n, rfl⟩
    · cases h; exact ⟨_, .cons (.own _) p⟩
    · cases h; exact ⟨_, .cons (.ty _) p⟩
theorem isCl_ok {e : D} (h : isCl e = true) : (∃ j, e = .cl j) ∨ ∃ n, e = .ty n := by
  cases e with
  | cl j => exact .inl ⟨j, rfl⟩
  | ty n => exact .inr ⟨n, rfl⟩
  | _ => cases h
theorem clsv_eq {v : V} {u u' : Value} (h : ClsV v u) (k : ClsV v u') : u = u' := by cases h <;> cases k <;> rfl
theorem isiT_ok {kn : Kin} (K : KinOk c kn) {v : V} {d : D} {t : Value} (ok : Same w.F w.H) (p : Pk c w v d) (ty : ∀ e b, isiA kn d e = some b → ∀ u, Tr c w.ρ w.F u e → ∃ u', ClsV u u' ∧ PySem.W.kitOne c.K t u' = some b) : ∀ {vs : List V} {es : List D} {us : List Value} {b : Bool}, TrAll c w.ρ w.F vs es → Paired ClsV vs us → isiT kn d es = some b → PySem.W.kitAny c.K t us = some b
  | _, _, _, b, .nil, .nil, h => by cases h; rfl
  | _, _, _, b, .cons h r, .cons k ks, e => by
    unfold isiT at e
    obtain ⟨b1, e1, e⟩ := Option.bind_eq_some_iff.mp e
    obtain ⟨u', k1, k2⟩ := ty _ _ e1 _ h
    have : u' = _ := clsv_eq k1 k
    subst this
    cases b1 with
    | true => rw [if_pos rfl] at e; cases e; exact kitAny_cut k2
    | false => rw [if_neg (by decide)] at e; exact kitAny_next k2 (isiT_ok K ok p ty r ks e)
theorem cs_IsiT {kn : Kin} (K : KinOk c kn) : CallS c (cIsi c.K) (bIsiT kn) := by
  intro w xs ds r Q ok pa hf rq
  unfold bIsiT at hf
  split at hf
  · rename_i d es
    split at hf
    · rename_i hc
      obtain ⟨b, hb, rfl⟩ := Option.map_eq_some_iff.mp hf
      obtain ⟨v, u, rfl, p, q⟩ := pkall2 pa
      obtain ⟨a, vs, rfl, hT, tr⟩ := q.tup ok
      refine ⟨b, .inr ?_, rq _ (.bl _)⟩
      obtain ⟨us, pu⟩ := clsv_all tr fun e he => isCl_ok (List.all_eq_true.mp hc.2 e he)
      cases tr with
      | nil => exact absurd rfl hc.1
      | @cons v0 d0 vs0 ds0 h r =>
        have hb' := hb
        unfold isiT at hb'
        obtain ⟨b1, e1, _⟩ := Option.bind_eq_some_iff.mp hb'
        obtain ⟨t, u', _, ty, _, et⟩ := isiA_ok K ok p (.sc h) e1
        refine ⟨t, a, _, us, rfl, hT, pu, ty, isiT_ok K ok p (fun e b h1 u h2 => ?_) (.cons h r) pu hb⟩
        obtain ⟨t2, u2, k1, _, k3, et2⟩ := isiA_ok K ok p (.sc h2) h1
        rw [et] at et2
        cases et2
        exact ⟨u2, k1, k3⟩
    · cases hf
  · cases hf
end
/-! ### slices -/
def TNoP : M (Option Int) := ret none
def TPart (a : M Rs) : M (Option Int) := bnd a fun r => bnd (pk r) fun d => bnd (opt (asI d)) fun i => ret (some i)
def cutL {α : Type} (xs : List α) (lo hi : Option Int) : List α := (xs.drop (HT.sIx xs.length 0 lo)).take (HT.sIx xs.length xs.length hi - HT.sIx xs.length 0 lo)
def slL (d : D) (lo hi : Option Int) : Option Rs := match d with
  | .list ds => some (.fr (.list (cutL ds lo hi)))
  | .scr ds => some (.fr (.list (cutL ds lo hi)))
  | _ => none
def slS (d : D) (lo hi : Option Int) : Option Rs := match d with
  | .str z => if fits z.length = true then some (.v (.str (cutS z lo hi))) else none
  | _ => none
def TSl (f : D → Option Int → Option Int → Option Rs) (a : M Rs) (lo hi : M (Option Int)) : M Rs := bnd a fun r => bnd lo fun l => bnd hi fun h => bnd (pk r) fun d => opt (f d l h)
def revL : D → Option Rs
  | .list ds => some (.fr (.list ds.reverse))
  | .scr ds => some (.fr (.list ds.reverse))
  | _ => none
def TRevL (a : M Rs) : M Rs := TUn revL a
def getD (d k : D) : Option D := match d with
  | .dict kvs => (toKey k).bind fun k => valD kvs k
  | _ => none
def TDGet (a b : M Rs) : M Rs := bnd a fun x => bnd b fun y => bnd (pk x) fun d => bnd (pk y) fun k => bnd (opt (getD d k)) fun r => ret (.v r)
def TDNew : M Rs := ret (.fr (.dict []))
section
variable (c : Cz)
def PostO (w : Wd) (σ : L2.St) (s' : S) (Q : Option Int → Hp → Prop) (E : XS) : Rz (Option Int) → Prop
  | .ok b => ∀ w', Le w w' → R c w' σ s' → Q b w'.H
  | .ex x => ∀ w' d, Le w w' → R c w' σ s' → Xa c w' d x → E σ (.ref (c.cad x.c)) d w'.H
def SimO (E : XS) (t : TO) (T : M (Option Int)) : Prop := ∀ w σ s out s' Q, R c w σ s → T s = some (out, s') → PostO c w σ s' Q E out → t σ w.H Q
def SlS (op : V → Option Int → Option Int → Hp → VK → Prop) (f : D → Option Int → Option Int → Option Rs) : Prop := ∀ w x d lo hi r Q, Same w.F w.H → Pk c w x d → f d lo hi = some r → RQ c w r Q → op x lo hi w.H Q
end
section
variable {c : Cz} {E : XS}
theorem sim_NoP : SimO c E tNoPart TNoP := by
  intro w σ s out s' Q R1 e post
  cases e; exact post w Le.refl R1
theorem sim_Part {t : TE} {T : M Rs} (ht : Sim c E t T) : SimO c E (tPart t) (TPart T) := by
  intro w σ s out s' Q R1 e post
  rcases bnd_some e with ⟨r, s1, e1, e⟩ | ⟨x, e1, rfl⟩
  · refine ht w σ s _ s1 _ R1 e1 fun w1 v l1 R2 rv => ?_
    obtain ⟨d, p, e⟩ := bnd_pk e
    obtain ⟨i, hi, e⟩ := bnd_opt e
    cases e
    cases d with
    | int j => cases hi; exact ⟨_, (peek_pk R2 rv p).int, post w1 l1 R2⟩
    | _ => cases hi
  · exact ht w σ s _ _ _ R1 e1 post
theorem sim_Sl {op : V → Option Int → Option Int → Hp → VK → Prop} {f : D → Option Int → Option Int → Option Rs} {t : TE} {T : M Rs} {tl th : TO} {Tl Th : M (Option Int)} (ho : SlS c op f) (ht : Sim c E t T) (hl : SimO c E tl Tl) (hh : SimO c E th Th) : Sim c E (tSl op t tl th) (TSl f T Tl Th) := by
  intro w σ s out s' Q R1 e post
  rcases bnd_some e with ⟨r, s1, e1, e⟩ | ⟨x, e1, rfl⟩
  · refine ht w σ s _ s1 _ R1 e1 fun w1 v l1 R2 rv => ?_
    rcases bnd_some e with ⟨lo, s2, e2, e⟩ | ⟨x, e2, rfl⟩
    · refine hl w1 σ s1 _ s2 _ R2 e2 fun w2 l2 R3 => ?_
      rcases bnd_some e with ⟨hi, s3, e3, e⟩ | ⟨x, e3, rfl⟩
      · refine hh w2 σ s2 _ s3 _ R3 e3 fun w3 l3 R4 => ?_
        obtain ⟨d, p, e⟩ := bnd_pk e
        obtain ⟨r', e4, rfl, rfl⟩ := opt_some e
        exact ho w3 v d lo hi r' Q R4.ok (peek_pk R4 ((rv.mono l2).mono l3) p) e4 (rq_post R4 ((l1.trans l2).trans l3) post)
      · exact hh w2 σ s2 _ _ _ R3 e3 fun w3 d l3 R4 xa => post w3 d ((l1.trans l2).trans l3) R4 xa
    · exact hl w1 σ s1 _ _ _ R2 e2 fun w2 d l2 R3 xa => post w2 d (l1.trans l2) R3 xa
  · exact ht w σ s _ _ _ R1 e1 post
theorem trall_drop {ρ : List Addr} {F : Hp} : ∀ {vs : List V} {ds : List D} (n : Nat), TrAll c ρ F vs ds → TrAll c ρ F (vs.drop n) (ds.drop n)
  | _, _, 0, t => t
  | _, _, _ + 1, .nil => .nil
  | _, _, n + 1, .cons _ t => trall_drop n t
theorem trall_take {ρ : List Addr} {F : Hp} : ∀ {vs : List V} {ds : List D} (n : Nat), TrAll c ρ F vs ds → TrAll c ρ F (vs.take n) (ds.take n)
  | _, _, 0, t => .nil
  | _, _, _ + 1, .nil => .nil
  | _, _, n + 1, .cons h t => .cons h (trall_take n t)
theorem trall_rev {ρ : List Addr} {F : Hp} : ∀ {vs : List V} {ds : List D}, TrAll c ρ F vs ds → TrAll c ρ F vs.reverse ds.reverse
  | _, _, .nil => .nil
  | _, _, .cons h t => by simp only [List.reverse_cons]; exact (trall_rev t).append (.cons h .nil)
theorem cut_tr {ρ : List Addr} {F : Hp} {vs : List V} {ds : List D} {lo hi : Option Int} (t : TrAll c ρ F vs ds) : TrAll c ρ F (cutV vs lo hi) (cutL ds lo hi) := by
  unfold cutV cutL
  rw [trall_len t]
  exact trall_take _ (trall_drop _ t)
theorem ss_L : SlS c (rSlL c.K) slL := by
  intro w x d lo hi r Q ok px hf rq
  unfold slL at hf
  split at hf
  · cases hf
    obtain ⟨a, vs, rfl, h1, t⟩ := px.list ok
    exact ⟨a, vs, rfl, .inl (.inl h1), fun p hp => rq p _ hp (.list (cut_tr t))⟩
  · cases hf
    obtain ⟨a, vs, rfl, h1, t⟩ := px.scr ok
    exact ⟨a, vs, rfl, h1, fun p hp => rq p _ hp (.list (cut_tr t))⟩
  · cases hf
theorem ss_S : SlS c rSlS slS := by
  intro w x d lo hi r Q ok px hf rq
  unfold slS at hf
  split at hf
  · split at hf
    · rename_i h; cases hf
      rw [px.str]
      exact ⟨_, rfl, fits_le h, rq _ (.str _)⟩
    · cases hf
  · cases hf
theorem sim_RevL {t : TE} {T : M Rs} (ht : Sim c E t T) : Sim c E (tRevL c.K t) (TRevL T) := by
  refine sim_Un (op := fun x H1 Q => ∃ a xs, x = .ref a ∧ SqL c.K H1 a xs ∧ ∀ p, H1 p = none → Q (.ref p) (upd H1 p (.lst xs.reverse))) ?_ ht
  intro w x d r Q ok px hf rq
  unfold revL at hf
  split at hf
  · cases hf
    obtain ⟨a, vs, rfl, h1, t⟩ := px.list ok
    exact ⟨a, vs, rfl, .inl (.inl h1), fun p hp => rq p _ hp (.list (trall_rev t))⟩
  · cases hf
    obtain ⟨a, vs, rfl, h1, t⟩ := px.scr ok
    exact ⟨a, vs, rfl, h1, fun p hp => rq p _ hp (.list (trall_rev t))⟩
  · cases hf
theorem sim_DNew : Sim c E tDNewK TDNew := by
  intro w σ s out s' Q R1 e post
  cases e
  exact fun p hp => rq_post (E := E) R1 Le.refl post p _ hp (.dict .nil)
theorem sim_DGet {ta tb : TE} {Ta Tb : M Rs} (ha : Sim c E ta Ta) (hb : Sim c E tb Tb) : Sim c E (tDGet ta tb) (TDGet Ta Tb) := by
  intro w σ s out s' Q R1 e post
  rcases bnd_some e with ⟨x, s1, e1, e⟩ | ⟨x, e1, rfl⟩
  · refine ha w σ s _ s1 _ R1 e1 fun w1 v1 l1 R2 rv1 => ?_
    rcases bnd_some e with ⟨y, s2, e2, e⟩ | ⟨x', e2, rfl⟩
    · refine hb w1 σ s1 _ s2 _ R2 e2 fun w2 v2 l2 R3 rv2 => ?_
      obtain ⟨d, p1, e⟩ := bnd_pk e
      obtain ⟨d2, p2, e⟩ := bnd_pk e
      obtain ⟨r, e3, e⟩ := bnd_opt e
      cases e
      unfold getD at e3
      split at e3
      · rename_i kvs
        obtain ⟨k, hk, hv⟩ := Option.bind_eq_some_iff.mp e3
        obtain ⟨a, vs, rfl, h1, t⟩ := (peek_pk R3 (rv1.mono l2) p1).dict R3.ok
        obtain ⟨u, hu, tu⟩ := (trk_val t).1 r hv
        exact ⟨a, u, rfl, .inl ⟨vs, k, h1, (peek_pk R3 rv2 p2).key hk, hu.symm⟩, post w2 u (l1.trans l2) R3 tu⟩
      · cases e3
    · exact hb w1 σ s1 _ s' _ R2 e2 fun w2 d l2 R3 xa => post w2 d (l1.trans l2) R3 xa
  · exact ha w σ s _ s' _ R1 e1 fun w1 d l1 R2 xa => post w1 d l1 R2 xa
/-! ### methods of lists -/
def mAppend (ds : List D) (d : D) : Option (D × D) := match ds, d with
  | [y], .list xs => if xs.length < 16777216 then some (.non, .list (xs ++ [y])) else none
  | _, _ => none
def mPop (ds : List D) (d : D) : Option (D × D) := match ds, d with
  | [], .list xs => (xs[xs.length - 1]?).map fun y => (y, .list xs.dropLast)
  | _, _ => none
def mPopAt (ds : List D) (d : D) : Option (D × D) := match ds, d with
  | [.int i], .list xs => if (decide (-(2 ^ 63) ≤ i) && decide (i < 2 ^ 63)) = true then (seqIndex? i xs.length).bind fun k => (xs[k]?).map fun y => (y, .list (xs.eraseIdx k)) else none
  | _, _ => none
def mExtend (ds : List D) (d : D) : Option (D × D) := match ds, d with
  | [.list ys], .list xs => if fits (xs.length + ys.length) = true then some (.non, .list (xs ++ ys)) else none
  | _, _ => none
def mReverse (ds : List D) (d : D) : Option (D × D) := match ds, d with
  | [], .list xs => some (.non, .list xs.reverse)
  | _, _ => none
theorem bm_append : BmS c rAppend mAppend := by
  intro w p o d ds vs res d' Q ok hp ce ta hf q
  unfold mAppend at hf
  split at hf
  · split at hf
    · rename_i h; cases hf
      obtain ⟨v, rfl, tv⟩ := trall1 ta
      cases ce with
      | list t => exact ⟨p, _, v, rfl, rfl, hp, by rw [trall_len t]; exact h, q _ _ (.list (trall_snoc t tv)) .non⟩
    · cases hf
  · cases hf
theorem trall_dropLast {ρ : List Addr} {F : Hp} {vs : List V} {ds : List D} (t : TrAll c ρ F vs ds) : TrAll c ρ F vs.dropLast ds.dropLast := by
  rw [List.dropLast_eq_take, List.dropLast_eq_take, trall_len t]
  exact trall_take _ t
theorem trall_erase {ρ : List Addr} {F : Hp} : ∀ {vs : List V} {ds : List D} (k : Nat), TrAll c ρ F vs ds → TrAll c ρ F (vs.eraseIdx k) (ds.eraseIdx k)
  | _, _, _, .nil => .nil
  | _, _, 0, .cons _ t => t
  | _, _, k + 1, .cons h t => .cons h (trall_erase k t)
theorem trall_at {ρ : List Addr} {F : Hp} {vs : List V} {ds : List D} {k : Nat} {d : D} (t : TrAll c ρ F vs ds) (h : ds[k]? = some d) : ∃ v, vs[k]? = some v ∧ Tr c ρ F v d := by
  have hk : k < vs.length := by rw [trall_len t]; exact (List.getElem?_eq_some_iff.mp h).1
  exact ⟨vs[k], List.getElem?_eq_getElem hk, trall_get t (List.getElem?_eq_getElem hk) h⟩
theorem bm_pop : BmS c rPop mPop := by
  intro w p o d ds vs res d' Q ok hp ce ta hf q
  unfold mPop at hf
  split at hf
  · obtain ⟨y, hy, e⟩ := Option.map_eq_some_iff.mp hf
    cases e
    cases ta
    cases ce with
    | list t =>
      obtain ⟨v, hv, tv⟩ := trall_at t hy
      exact ⟨p, _, v, rfl, rfl, hp, by rw [trall_len t]; exact hv, q _ _ (.list (trall_dropLast t)) tv⟩
  · cases hf
theorem bm_popAt : BmS c rPopAt mPopAt := by
  intro w p o d ds vs res d' Q ok hp ce ta hf q
  unfold mPopAt at hf
  split at hf
  · split at hf
    · rename_i hs
      simp only [Bool.and_eq_true, decide_eq_true_eq] at hs
      obtain ⟨k, hk, e⟩ := Option.bind_eq_some_iff.mp hf
      obtain ⟨y, hy, e⟩ := Option.map_eq_some_iff.mp e
      cases e
      obtain ⟨v, rfl, tv⟩ := trall1 ta
      cases tv
      cases ce with
      | list t =>
        obtain ⟨v, hv, tv⟩ := trall_at t hy
        exact ⟨p, _, _, k, v, rfl, rfl, hp, hs.1, hs.2, by rw [trall_len t]; exact hk, hv, q _ _ (.list (trall_erase k t)) tv⟩
    · cases hf
  · cases hf
theorem bm_reverse : BmS c rReverse mReverse := by
  intro w p o d ds vs res d' Q ok hp ce ta hf q
  unfold mReverse at hf
  split at hf
  · cases hf
    cases ta
    cases ce with
    | list t => exact ⟨p, _, rfl, rfl, hp, q _ _ (.list (trall_rev t)) .non⟩
  · cases hf
theorem bp_extend : BpS c rExtend mExtend := by
  intro w p o d ds vs res d' Q ok hp ce ta hf q
  unfold mExtend at hf
  split at hf
  · split at hf
    · rename_i h; cases hf
      obtain ⟨v, rfl, pv⟩ := pkall1 ta
      obtain ⟨b, us, rfl, h1, t2⟩ := pv.list ok
      cases ce with
      | list t => exact ⟨p, b, _, us, rfl, rfl, hp, h1, by rw [trall_len t, trall_len t2]; exact fits_le h, q _ _ (.list (t.append t2)) .non⟩
    · cases hf
  · cases hf
/-- xs.index(y) -/
def ixF (d : D) : List D → Nat → Option Nat
  | [], _ => none
  | e :: es, n => if eqF e d = true then some n else ixF d es (n + 1)
def indexD (d : D) (es : List D) : Option Rs := match d, es with
  | .list ds, [e] => if (flatD e && ds.all flatD) = true then (ixF e ds 0).map fun n : Nat => .v (.int (n : Int)) else none
  | .scr ds, [e] => if (flatD e && ds.all flatD) = true then (ixF e ds 0).map fun n : Nat => .v (.int (n : Int)) else none
  | _, _ => none
def TIndex (o : M Rs) (t : M (List Rs)) : M Rs := bnd o fun r => bnd (pk r) fun d0 => if (itemsL d0).isSome = true then bnd t fun rs => bnd (pk r) fun d => bnd (pks rs) fun es => opt (indexD d es) else fun _ => none
theorem ixF_ok {ρ : List Addr} {F : Hp} {w : Wd} {x : V} {d : D} (px : Pk c w x d) (hf : flatD d = true) : ∀ {vs : List V} {ds : List D} {n m : Nat}, TrAll c ρ F vs ds → ixF d ds n = some m → ∃ j z, m = n + j ∧ vs[j]? = some z ∧ eqV z x = true ∧ ∀ (k : Nat) (z' : V), k < j → vs[k]? = some z' → eqV z' x = false
  | _, _, n, m, .nil, h => by cases h
  | _, _, n, m, .cons (v := v) (d := e) t r, h => by
    unfold ixF at h
    split at h
    · rename_i he
      cases h
      exact ⟨0, v, rfl, rfl, (tr_eqF t px hf).trans he, fun k z' hk => absurd hk (Nat.not_lt_zero _)⟩
    · rename_i he
      obtain ⟨j, z, rfl, h1, h2, h3⟩ := ixF_ok px hf r h
      refine ⟨j + 1, z, by omega, by simpa using h1, h2, fun k z' hk hz => ?_⟩
      cases k with
      | zero => simp at hz; subst hz; rw [tr_eqF t px hf]; simpa using he
      | succ k => exact h3 k z' (by omega) (by simpa using hz)
theorem sim_Index {to : TE} {To : M Rs} {t : TA} {T : M (List Rs)} (ho : Sim c E to To) (ht : SimP c E t T) : Sim c E (tBM c.K "list" (rIndex c.K) to t) (TIndex To T) := by
  intro w σ s out s' Q R1 e post
  rcases bnd_some e with ⟨r, s1, e1, e⟩ | ⟨x, e1, rfl⟩
  · refine ho w σ s _ s1 _ R1 e1 fun w1 v l1 R2 rv => ?_
    obtain ⟨d0, p0, e⟩ := bnd_pk e
    by_cases hs : (itemsL d0).isSome = true
    · rw [if_pos hs] at e
      have isq : ∀ {w : Wd} {d : D} {xs : List D}, Same w.F w.H → Pk c w v d → itemsL d = some xs → ∃ a vs, v = .ref a ∧ SqL c.K w.H a vs ∧ TrAll c w.ρ w.F vs xs := by
        intro w d xs ok p h
        cases d with
        | list ys => cases h; obtain ⟨a, vs, e, h1, t⟩ := p.list ok; exact ⟨a, vs, e, .inl (.inl h1), t⟩
        | scr ys => cases h; obtain ⟨a, vs, e, h1, t⟩ := p.scr ok; exact ⟨a, vs, e, h1, t⟩
        | _ => cases h
      obtain ⟨xs, hx⟩ := Option.isSome_iff_exists.mp hs
      obtain ⟨a, vs, rfl, h1, _⟩ := isq R2.ok (peek_pk R2 rv p0) hx
      refine ⟨.inl ⟨rfl, vs, h1⟩, ?_⟩
      rcases bnd_some e with ⟨rs, s2, e2, e⟩ | ⟨x, e2, rfl⟩
      · refine ht w1 σ s1 _ s2 _ R2 e2 fun w2 us l2 R3 ta => ?_
        obtain ⟨d, p, e⟩ := bnd_pk e
        obtain ⟨es, ed, e⟩ := bnd_pks e
        obtain ⟨r', e3, rfl, rfl⟩ := opt_some e
        have pa := ta.pk R3 ed
        have pd := peek_pk R3 (rv.mono l2) p
        have fin : ∀ {ys : List D} {e : D}, itemsL d = some ys → es = [e] → (flatD e && ys.all flatD) = true → (ixF e ys 0).map (fun n : Nat => Rs.v (.int (n : Int))) = some r' → rIndex c.K (.ref a) us w2.H Q := by
          intro ys e hi he hf hx
          subst he
          obtain ⟨n, hn, rfl⟩ := Option.map_eq_some_iff.mp hx
          simp only [Bool.and_eq_true] at hf
          obtain ⟨u, rfl, pu⟩ := pkall1 pa
          obtain ⟨a', ws, ea, h2, t2⟩ := isq R3.ok pd hi
          cases ea
          obtain ⟨j, z, rfl, h3, h4, h5⟩ := ixF_ok pu hf.1 t2 hn
          exact ⟨_, ws, u, j, z, rfl, rfl, h2, pk_flat pu hf.1, tr_flat t2 hf.2, h3, h4, h5, by rw [show 0 + j = j by omega] at post; exact post w2 _ (l1.trans l2) R3 (.int _)⟩
        unfold indexD at e3
        split at e3
        · split at e3
          · rename_i hf; exact fin rfl rfl hf e3
          · cases e3
        · split at e3
          · rename_i hf; exact fin rfl rfl hf e3
          · cases e3
        · cases e3
      · exact ht w1 σ s1 _ _ _ R2 e2 fun w2 d l2 R3 xa => post w2 d (l1.trans l2) R3 xa
    · rw [if_neg hs] at e; cases e
  · exact ho w σ s _ _ _ R1 e1 post
end
end Z
/-! more statements; things kept in the store; the law's own call -/
namespace Z
open PySem PySem.Spec PyProof.Rows L2 U ClX
def TAsgG (T : M Rs) (G : GD) : TSd := sb T fun r => sb (stab r) fun d s => nxt (G d s)
/-- a new thing is kept in the store -/
def TKeep (T : M Rs) : M Rs := bnd T fun r s => match r with
  | .fr d => some (.ok (.v (.loc s.μ.length)), { s with μ := s.μ ++ [d] })
  | _ => none
section
variable {c : Cz} {E : XS} {w w0 : Wd} {σ : L2.St} {s s' : S}
theorem sim_AsgG {t : TE} {T : M Rs} {ix : List Nat} {g : TG} {G : GD} (ht : Sim c E t T) (hg : SimG c ix g G) : SimS c E (tAsg t g) (TAsgG T G) := by
  intro w σ s fl s' D R1 e post
  rcases sb_some e with ⟨r, s1, e1, e⟩ | ⟨x, e1, rfl⟩
  · refine ht w σ s _ s1 _ R1 e1 fun w1 v l1 R2 rv => ?_
    rcases sb_some e with ⟨d, s2, e2, e⟩ | ⟨x, e2, rfl⟩
    · obtain ⟨w2, l2, eh, R3, tr⟩ := stab_ok R2 l1 rv e2
      obtain ⟨e3, rfl⟩ := nxt_some e
      rw [← eh]
      exact hg w2 σ s2 v d s' _ R3 tr e3 fun σ' R4 _ => post w2 σ' l2 R4
    · exact (stab_not_ex e2).elim
  · exact ht w σ s _ _ _ R1 e1 fun w1 d l1 R2 xa => post w1 σ d l1 R2 xa
def Wd.store (w : Wd) (p : Addr) : Wd := ⟨w.F, fun b => w.O b ∨ b = p, w.H, w.ρ ++ [p]⟩
theorem R.store {p : Addr} {o : HO} {d : D} (R1 : R c w σ s) (hp : w.H p = some o) (ce : CellO c w.ρ w.F o d) (hf : w.F p = none) (no : ¬ w.O p) : R c (w.store p) σ { s with μ := s.μ ++ [d] } := by
  have pr : w.ρ <+: w.ρ ++ [p] := List.prefix_append _ _
  refine ⟨R1.ok, fun b z => ?_, by show (w.ρ ++ [p]).length = (s.μ ++ [d]).length; simp [R1.len], ?_, R1.sz, fun n q u e1 e2 => ?_, fun j a e => ?_, R1.ne⟩
  · rcases z with z | rfl
    · exact R1.ow b z
    · exact ⟨hf, by show w.H b ≠ none; rw [hp]; simp⟩
  · show (w.ρ ++ [p]).Nodup
    rw [List.nodup_append]
    refine ⟨R1.nd, by simp, fun a ha b hb e => ?_⟩
    simp at hb
    subst hb
    exact no (R1.rho' (e ▸ ha))
  · have e1 : (w.ρ ++ [p])[n]? = some q := e1
    have e2 : (s.μ ++ [d])[n]? = some u := e2
    by_cases hn : n < w.ρ.length
    · rw [List.getElem?_append_left hn] at e1
      rw [List.getElem?_append_left (by rw [← R1.len]; exact hn)] at e2
      obtain ⟨h1, y, h2, h3⟩ := R1.st n q u e1 e2
      exact ⟨.inl h1, y, h2, h3.mono pr (Same.refl _)⟩
    · have hl : n < (w.ρ ++ [p]).length := (List.getElem?_eq_some_iff.mp e1).1
      have : n = w.ρ.length := by simp at hl; omega
      subst this
      rw [List.getElem?_append_right (Nat.le_refl _), Nat.sub_self] at e1
      rw [List.getElem?_append_right (by rw [R1.len]; exact Nat.le_refl _), R1.len, Nat.sub_self] at e2
      cases e1; cases e2
      exact ⟨.inr rfl, o, hp, ce.mono pr (Same.refl _)⟩
  · obtain ⟨v, h1, h2⟩ := R1.vr j a e
    refine ⟨v, h1, ?_⟩
    cases a with
    | s u => exact Tr.mono h2 pr (Same.refl _)
    | o u =>
      obtain ⟨q, y, e, h3, h4, h5, h6⟩ := h2
      refine ⟨q, y, e, .inl h3, fun z => ?_, h5, h6.mono pr (Same.refl _)⟩
      have z : q ∈ w.ρ ++ [p] := z
      rcases List.mem_append.mp z with z | z
      · exact h4 z
      · simp at z; subst z; exact no h3
theorem sim_Keep {t : TE} {T : M Rs} (ht : Sim c E t T) : Sim c E t (TKeep T) := by
  intro w σ s out s' Q R1 e post
  rcases bnd_some e with ⟨r, s1, e1, e⟩ | ⟨x, e1, rfl⟩
  · split at e
    · rename_i d
      cases e
      refine ht w σ s _ s1 _ R1 e1 fun w1 v l1 R2 rv => ?_
      obtain ⟨p, o, rfl, n, q, ce, f, no⟩ := rv
      refine post (w1.store p) (.ref p) ⟨l1.fz, l1.nf, l1.fr, fun b z => z.elim (l1.no b) fun z => .inr (z ▸ n), l1.dm, l1.pr.trans (List.prefix_append _ _)⟩ (R2.store q ce f no) (.loc ?_)
      show (w1.ρ ++ [p])[s1.μ.length]? = some p
      rw [← R2.len, List.getElem?_append_right (Nat.le_refl _), Nat.sub_self]; rfl
    · cases e
  · exact ht w σ s _ _ _ R1 e1 post
/-- the law's own call -/
theorem law_sp {F : FT} {K : PySem.W.Frag} {cad : Nat → Addr} {H : Hp} {a : Addr} {ns : List Int} {Q : VK} {E : XK} (hs : SqL K H a (ns.map V.int)) (h : ∃ μ, F [.scr (ns.map D.int)] [] = some (.ok (.v (.bl true)), μ)) (q : ∀ H', Q (.bl true) H') : spF ⟨K, cad⟩ F [.ref a] H Q E := by
  obtain ⟨μ, h⟩ := h
  refine ⟨⟨H, fun _ => False, H, []⟩, [.scr (ns.map D.int)], [], _, μ, rfl, fun b z => z.elim, ⟨Same.refl _, fun b z => z.elim, rfl, List.nodup_nil, rfl, fun n p d e => by simp at e, fun i a e => by simp at e, fun i j p d e h => by simp at h⟩, .cons (.scr hs (tr_ints ns)) .nil, h, fun w' v l R' rv => ?_⟩
  cases rv
  exact q _
end
/-! ### keywords -/
theorem _root_.U.Dm.mthK1 {P : Program} {w : World} {K : PySem.W.Frag} {mg : Str → Option Value} {base : Heap} {m qual k : Str} {C : Addr} {st : Stmt} {N : List Str} {lv : Nat} {t : XK → TS} {sp : Sp} (d : Dm K C m qual st ["self", k]) (S : FnScope N ["self", k] (defScope st)) (D : Der P w K mg base N qual st lv t) (p : Pur N ["self", k] t sp)
    (h : ∀ (kV doc pm : Value) (an : Option Addr) (cdv ct a u : Value), bindArgs (PySem.W.fnOf m qual (defArgs st) (defBody st) (defScope st) .none kV doc pm an cdv ct) ⟨[a], [(k, u)]⟩ = pure ([(("self" : Str), a), (k, u)] : List (Str × Value))) : MthK P w K mg base (lv + 1) C m [k] id sp := by
  obtain ⟨f, fd, F, hm, b⟩ := d.ex
  refine ⟨f, fd, ["self", k], id, d.cls, hm, fnok_of F S D p, ?_⟩
  obtain ⟨oc, od, kV, doc, pm, an, cdv, ct, osl, rfl, lk, hcd⟩ := F.ex
  refine ⟨fun s us ws _ hu hw => ?_, fun r => r⟩
  match us, ws, hu, hw with
  | [a], [u], _, _ => exact .of_eq (h kV doc pm an cdv ct a u)
theorem kit_mkB {K : PySem.W.Frag} {D : Addr} {t : String} {b : Bool} (hc : PySem.W.isClsIn K D = true) (ht : PySem.W.typeIn K (.ref D) = some (.type "type")) (hs : PySem.W.subIn K (.type t) (.ref D) = some b) : PySem.W.kitOne K (.type t) (.ref D) = some b := by
  unfold PySem.W.kitOne
  have hc' : (PySem.W.clsIn K D).isSome = true := hc
  split
  · rename_i e; simp at e
  · show (if ((PySem.W.clsIn K D).isSome && PySem.W.typeIn K (.ref D) == some (.type "type")) = true then PySem.W.subIn K (.type t) (.ref D) else none) = some b
    rw [hc', ht]
    exact hs
/-! ### orders of keywords -/
def pm0 {α : Type} (l : List α) : List α := l
def pm01 {α : Type} (l : List α) : List α := l
def pm012 {α : Type} (l : List α) : List α := l
def pm10 {α : Type} : List α → List α | [a, b] => [b, a] | l => l
def pm210 {α : Type} : List α → List α | [a, b, d] => [d, b, a] | l => l
def pm120 {α : Type} : List α → List α | [a, b, d] => [b, d, a] | l => l
def pm201 {α : Type} : List α → List α | [a, b, d] => [d, a, b] | l => l
def pm102 {α : Type} : List α → List α | [a, b, d] => [b, a, d] | l => l
def pm021 {α : Type} : List α → List α | [a, b, d] => [a, d, b] | l => l
end Z
/-! super().m(..), methods that are one return with it -/
namespace Z
open PySem PySem.Spec PyProof.Rows L2 U ClX
open NdefX (NScope envF ncx startF CellsAt inv_startN NF)
/-- the class of the def is D; super().m(..) finds f2 -/
structure SupAt (K : PySem.W.Frag) (C D : Addr) (m : Str) (f2 : Addr) : Prop where
  sub : PySem.W.mroIn K C (.ref D) = some true
  at_ : PySem.W.ks_superIn K C D m = some (some (.ref f2))
  ty : PySem.W.typeIn K (.ref f2) = some (.type "function")
  fn : PySem.W.fnIn K f2 = true
def tSupA (P : Program) (w : World) (K : PySem.W.Frag) (mg : Str → Option Value) (base : Heap) (D : Addr) (m : Str) (j : Nat) (E : XS) (t : TA) : TE := fun σ H Q => ∃ (a C dx : Addr) (fs : List (Str × V)) (f2 : Addr) (fd2 : FuncData) (ps : List Str) (k : Nat) (sp : Sp),
  σ[0]? = some (some (.ref a)) ∧ H a = some (.ins C dx fs) ∧ SupAt K C D m f2 ∧ FnG P w K mg base k f2 fd2 ps sp ∧ k ≤ j ∧ Binds K fd2 ps [] ∧ t σ H fun vs H1 => sp (.ref a :: vs) H1 Q (E σ)
section
variable {X : Cx} {bd : List Stmt} {j : Nat} {E : XS}
/-- what the def's own place tells -/
structure SupX (X : Cx) (D : Addr) (ar : Arg) : Prop where
  ex : ∃ (f cda cc : Addr) (fd : FuncData) (vs : Array Value) (file : Str) (tf : Tok) (oc ccl cl : Value) (od cdd cld : Option Addr) (osl ccs csl : Array (Option Value)) (cdD : ClassData),
    X.env.func = some f ∧ X.env.code = .ref cda ∧ X.env.cells.lookup ("__class__" : Str) = some cc ∧ X.K.lookup f = some ⟨oc, od, .func fd, osl⟩ ∧ (fd.params.posonlyargs ++ fd.params.args).head? = some ar ∧
    X.K.lookup cda = some ⟨ccl, cdd, .fields vs, ccs⟩ ∧ vs[2]? = some (.str file tf) ∧ ((X.prog.main.file : Str) == file) = true ∧ X.K.lookup cc = some ⟨cl, cld, .cell (some (.ref D)), csl⟩ ∧ PySem.W.clsIn X.K D = some cdD
  hN : X.N[0]? = some ar.arg
  hka : X.env.scope.names.lookup ar.arg = some .local
  hsup : X.mg "super" = none
  hks : X.env.scope.names.lookup ("super" : Str) = some .globalImplicit
  hkc : X.env.scope.names.lookup ("__class__" : Str) = some .free
  htop : (X.prog.main.scope.names.lookup ("super" : Str)).isSome = false
  ho : PySem.W.nsIn X.K cStatics "thirdparty.any" = some none
theorem pet_superA {p0 p1 apos pos : Pos} {m : Str} {pl : Sem Bool} {D : Addr} {ar : Arg} {e : Expr} {es : List Expr} {t : TA} (sx : SupX X D ar) (hat : (m == ("__class__" : Str)) = false) (at_ : At X j E) (ha : PA X (e :: es) t)
    (hst : starEach (e :: es) X.env = (false, eval e X.env) :: starEach es X.env := by rfl) (hpl : (backTo pos (starEach es X.env)).any (·.1) = false := by rfl)
    (he : eval (.Call (.Attribute (.Call (.Name "super" p0) [] [] p1) m apos) (e :: es) [] pos) X.env = (do
      let ov ← attributeBase (.Call (.Name "super" p0) [] [] p1) m X.env (eval (.Call (.Name "super" p0) [] [] p1) X.env)
      standAt apos.atName
      let (f, first) ← holding [ov] (getMethod ov m pl)
      callWith pos f first (backTo pos (starEach (e :: es) X.env)) []) := by rfl) :
    PEt X bd (.Call (.Attribute (.Call (.Name "super" p0) [] [] p1) m apos) (e :: es) [] pos) (tSupA X.prog X.w X.K X.mg X.base D m j E t) := by
  obtain ⟨f, cda, cc, fd, vs, file, tf, oc, ccl, cl, od, cdd, cld, osl, ccs, csl, cdD, hfu, hco, hcl, hf, hp, hcode, hvs, hfile, hcell, hD⟩ := sx.ex
  refine ⟨fun pins s σ H Q I h => ?_⟩
  obtain ⟨a, C, dx, fs, f2, fd2, ps, k, sp, e0, ea, su, F, hk, hb, q⟩ := h
  have kin := I.kIn
  obtain ⟨mA, O, r, _, _, _⟩ := ins_get I.hok ea
  obtain ⟨oD, hD1, hD2⟩ : ∃ oD, s.heap.get? D = some oD ∧ oD.data = .cls cdD := by
    unfold PySem.W.clsIn at hD
    split at hD
    · rename_i c d cd' sl ho
      cases hD
      exact ⟨_, kin _ _ ho, rfl⟩
    · cases hD
  obtain ⟨oda, IA, _⟩ := O.look
  refine ks_wpAt_MethodCall (pl := pl) ?_ he
  refine ks_wpAt_super_base sx.hks sx.hkc hat hfu (kin _ _ hf) rfl hp hco (kin _ _ hcode) rfl hvs hfile sx.htop ?_
  obtain ⟨mb, h1, h2⟩ := I.mod.blt
  refine PySem.W.ks_loadName_global I.ok.kind sx.hks (Calls.loadGlobal_builtin (by rw [I.ok.glob]; exact I.mod.glob.keeps I.bk) sx.hsup (by rw [I.ok.blt]; exact h1.keeps I.bk) ((h2 _ (by decide)).trans (by decide +kernel : bootBuiltins "super" = some (.type "super"))) ⟨rfl, ?_⟩)
  refine wpAny_loadName_free I.ok.kind sx.hkc hcl ⟨_, kin _ _ hcell, rfl⟩ ?_
  obtain ⟨ml, hn, hl⟩ := I.loc
  obtain ⟨u, ru, l⟩ := hl 0 _ _ sx.hN e0 (.inl sx.hka)
  obtain rfl : u = Value.ref a := ru
  have ml1 : ml ar.arg = some (.ref a) := by
    rcases l with ⟨_, hm'⟩ | ⟨hk, _⟩
    · exact hm'
    · have hka' : X.env.kindOf ar.arg = some .local := sx.hka
      rw [hka'] at hk; rcases hk with hk | hk <;> cases hk
  refine wpAny_loadName_local I.ok.kind sx.hka hn ml1 ?_
  refine ks_wpAny_isType_cls hD1 hD2 ⟨rfl, ?_⟩
  refine ks_wpAny_call_super (h := s.heap) (g := s.gens) (d := s.drawn) (t := s.toks) (os := s.os) hD1 hD2 IA.at_ IA.cls (fun c e => ?_) (PySem.W.looks_mroIn kin su.sub) (fun h' e kp => ?_)
  · have := IA.no
    unfold PySem.W.notCls at this
    rw [e] at this
    exact Bool.noConfusion this
  have I1 : Inv X pins σ H { s with heap := h', toks := s.toks } := I.kept kp
  have kin1 : X.K.In h' := I1.kIn
  have hm := su.at_
  have ht := su.ty
  cases hc : PySem.W.clsIn X.K C with
  | none => unfold PySem.W.ks_superIn at hm; rw [hc] at hm; cases hm
  | some cd =>
    unfold PySem.W.ks_superIn at hm
    rw [hc] at hm
    obtain ⟨of, hof, hofc⟩ : ∃ of, h'.get? f2 = some of ∧ of.cls = .type "function" := by
      have ht' : (X.K.lookup f2).map (·.cls) = some (.type "function") := ht
      cases z : X.K.lookup f2 with
      | none => rw [z] at ht'; cases ht'
      | some of => rw [z] at ht'; exact ⟨of, kin1 _ _ z, Option.some.inj ht'⟩
    have xC : a ≠ C := PySem.W.ks_ne kin IA hc
    refine ks_wpAny_getMethod_super e (PySem.W.looks_opaque kin1 sx.ho) (l₀ := cd.mro) ?_ rfl kin1 hm hof hofc xC hat ?_
    · exact fun A Q E s k q => wpAny_bind ((PySem.W.looks_clsIn kin1 hc) A _ E s k (wpAny_pure q))
    have I2 := met_new (g := f2) (C := a) I1
    refine callwith_cm I2 (base_none I1 (Nat.le_refl _)) su.fn (thn (ha.run pos _ _ σ H _ I2 q) fun us s3 ⟨ws, H2, I3, rv, q2⟩ => ⟨⟨pin_at I3, I3.kIn⟩, ?_⟩) hst hpl
    have r2 : Vals (V.ref a :: ws) (Value.ref a :: us) := .cons rfl rv
    have bi := hb s3 (.ref a :: us) I3.kIn (by rw [List.append_nil, ← r2.length]; exact F.len _ _ _ _ q2)
    rw [List.append_nil] at bi
    have z : wpAny (model X.prog X.w) X.A (PySem.call (.ref h'.objs.size) us) (EP X ((h'.objs.size, PySem.W.methodObj (.ref f2) (.ref a)) :: pins) σ Q) X.xe s3 := by
      refine wpAny_call (PySem.W.method_call (pin_at I3) (codeAny_mono (F.run X.A X.stack s3 H2 ⟨.ref a :: us, []⟩ (.ref a :: us) (.ref a :: ws) Q (E σ) (at_.hr.mono hk) at_.qt I3.env0 bi r2 q2) fun r t z => ?_))
      have y := back_of I3 (at_.hx σ) z
      clear z
      match r, y with
      | .error _, y => exact y
      | .ok (.ret _), y => exact y
    exact thn z fun _ _ y => unpinE y
theorem pet_and {a b : Expr} {rest : List Expr} {ta tb : TE} {pos : Pos} (ha : PEt X bd a ta) (hb : PE X (.BoolOp .And (b :: rest) pos) tb) : PEt X bd (.BoolOp .And (a :: b :: rest) pos) (tAndV ta tb) := by
  refine ⟨fun pins s σ H Q I h => ?_⟩
  show PySem.wpAt _ X.A _ (do
    let v ← eval a X.env
    standAt pos
    let c ← holding [v] (truthy v)
    match BoolOp.And, c with
    | .And, false | .Or, true => pure v
    | _, _ => boolOp pos .And (eval b X.env :: evalEach rest X.env)) _ _ s
  refine PySem.wpAt_bind (ks_wpAt_mono (ha.run pins s σ H _ I h) (fun v s1 ⟨x, H1, I1, r1, q1⟩ => wpAt_of_wpAny (wpAny_bind (wpAny_standAt (wpAny_bind (wpAny_holding ?_))))) fun _ _ x => x)
  obtain ⟨k, rfl, q1⟩ := q1
  cases r1
  refine wpAny_truthy_bool ?_
  cases k with
  | true => exact hb.run pins s1 σ H1 Q I1 q1
  | false => exact wpAny_pure ⟨.bl false, H1, I1, rfl, q1⟩
end
section
variable {P : Program} {w : World} {K : PySem.W.Frag} {mg : Str → Option Value} {base : Heap}
/-- a method that returns one expression, with super() in it -/
theorem fnG_sup {k : Nat} {f c cc D : Addr} {nm ql : Str} {pr : Arguments} {e : Expr} {rp : Pos} {sc : Scope} {dV kV doc pm ct oc cl : Value} {an od cld : Option Addr} {osl csl : Array (Option Value)} {N ps : List Str} {sp : Sp}
    (at_ : K.lookup f = some ⟨oc, od, .func (PySem.W.fnX nm ql pr [.Return (some e) rp] sc [("__class__", cc)] dV kV doc pm an (.ref c) ct), osl⟩) (cd : PySem.W.codeIn K (.ref c) ql = true) (S : NScope N ps ["__class__"] sc)
    (cell : K.lookup cc = some ⟨cl, cld, .cell (some (.ref D)), csl⟩) (ln : ∀ vs H Q E, sp vs H Q E → vs.length = ps.length)
    (body : ∀ (B : Around) (outs : List Env) (t : Shared) (H : Hp) (vs : List V) (Q : VK) (E : XK), Room k (B.deeper (envF ⟨nm, ql, pr, [.Return (some e) rp], sc, [("__class__", cc)], c⟩ f t.heap.objs.size)) → Quiet (B.deeper (envF ⟨nm, ql, pr, [.Return (some e) rp], sc, [("__class__", cc)], c⟩ f t.heap.objs.size)) → sp vs H Q E →
      ∃ te, PEt (ncx (L2.CX P w) P w K mg base N ⟨nm, ql, pr, [.Return (some e) rp], sc, [("__class__", cc)], c⟩ f B outs t H E) [.Return (some e) rp] e te ∧ te (startF N vs [some (.ref D)]) H Q) :
    FnG P w K mg base (k + 1) f (PySem.W.fnX nm ql pr [.Return (some e) rp] sc [("__class__", cc)] dV kV doc pm an (.ref c) ct) ps sp where
  len := ln
  run := fun B outs t H gv us vs Q E rm qt e0 bi rv want => by
    have kin : K.In t.heap := e0.mod.kin.keeps fun b o z => (e0.bs b o z).1
    have unl : t.heap.NoLimit := e0.mod.nolimit.keeps fun b o z => (e0.bs b o z).1
    refine codeAny_call_function rm.depth (kin _ _ at_) rfl S.co S.gen rfl (PySem.W.codeRec_of kin cd) (bi _ _ _ _ (wpAny_newFunctionEnv S.nocell (fun ⟨n, _⟩ hy => S.par n (List.of_mem_zip hy).1) (fun h₁ hns hsb => ⟨unl.fresh _ hsb, ?_⟩) S.kind))
    show codeAny _ _ (.func [.Return (some e) rp] (envF ⟨nm, ql, pr, [.Return (some e) rp], sc, [("__class__", cc)], c⟩ f t.heap.objs.size)) _ _
    refine ks_codeAny_funcAt ?_
    have kp : ∀ b o, t.heap.get? b = some o → h₁.get? b = some o := fun b o e => hsb.extBut b o (Nat.ne_of_lt (Heap.lt_size e)) (Heap.get?_push_of_some _ e)
    obtain ⟨te, ht, hq⟩ := body B outs t H vs Q E (rm.deeper _) qt want
    have one : ∀ (y : Str) (d : Addr), ([(("__class__" : Str), cc)] : List (Str × Addr)).lookup y = some d → y = "__class__" ∧ d = cc := fun y d h => by
      have := PySem.mem_of_lookup h
      simp at this
      exact this
    have C : CellsAt [(("__class__" : Str), cc)] ["__class__"] [some (.ref D)] t.heap H := by
      refine ⟨rfl, fun y d h => ?_, fun x y d h1 h2 => (one x d h1).1.trans (one y d h2).1.symm, fun i y h => ?_⟩
      · obtain ⟨_, rfl⟩ := one y d h
        have z := e0.mod.kin _ _ cell
        exact ⟨(e0.bs _ _ z).2, _, _, (e0.bs _ _ z).1, rfl⟩
      · cases i with
        | zero =>
          simp at h; subst h
          have z := e0.mod.kin _ _ cell
          exact ⟨cc, by simp [List.lookup], fun v hv => by simp at hv; subst hv; exact ⟨.ref D, rfl, _, (e0.bs _ _ z).1, rfl⟩⟩
        | succ i => simp at h
    have I := inv_startN (CX := L2.CX P w) (f := f) (E := E) (F := ⟨nm, ql, pr, [.Return (some e) rp], sc, [("__class__", cc)], c⟩) (tk := t.toks + (ps.zip us).length) S rm.hd e0 (ln _ _ _ _ want) rv C hns kp
    refine ks_wpAt_execs_cons (ks_wpAt_Return_some (ks_wpAt_mono (ht.run [] _ _ H Q I hq) (fun u s' z => ?_) fun _ _ z => z))
    obtain ⟨v, G, J, ru, q⟩ := z
    exact ⟨v, G, J.os, J.bare, J.base, J.hok, ru, q⟩
end
end Z
namespace Z
open PySem PySem.Spec PyProof.Rows L2 U ClX
open NdefX (NScope envF ncx startF CellsAt inv_startN NF)
/-- super().m(..) in a method of the class kid -/
def TSup (kid : Nat) (F : FT) (T : M (List D)) : M Rs := bnd (TVar 0) fun r => bnd (stab r) fun d => bnd (pk (.v d)) fun d0 => match d0 with
  | .obj k _ => if k = kid then bnd T fun ds => call F (d :: ds) else fun _ => none
  | _ => fun _ => none
section
variable {c : Cz} {E : XS} {P : Program} {wl : World} {mg : Str → Option Value} {base : Heap}
theorem sim_Sup {kid : Nat} {m : Str} {f2 : Addr} {fd2 : FuncData} {ps : List Str} {lv j : Nat} {F : FT} {t : TA} {T : M (List D)} (su : SupAt c.K (c.cad kid) (c.cad kid) m f2) (hF : FnG P wl c.K mg base lv f2 fd2 ps (spF c F)) (hlv : lv ≤ j) (hb : Binds c.K fd2 ps []) (ht : SimA c E t T) : Sim c E (tSupA P wl c.K mg base (c.cad kid) m j E t) (TSup kid F T) := by
  intro w σ s out s' Q R1 e post
  rcases bnd_some e with ⟨r, s1, e1, e⟩ | ⟨x, e1, rfl⟩
  · suffices h : ∃ v, σ[0]? = some (some v) ∧ (∃ (a C dx : Addr) (fs : List (Str × V)) (f2 : Addr) (fd2 : FuncData) (ps : List Str) (k : Nat) (sp : Sp), v = .ref a ∧ w.H a = some (.ins C dx fs) ∧ SupAt c.K C (c.cad kid) m f2 ∧ FnG P wl c.K mg base k f2 fd2 ps sp ∧ k ≤ j ∧ Binds c.K fd2 ps [] ∧ t σ w.H fun vs H1 => sp (.ref a :: vs) H1 Q (E σ)) by
      obtain ⟨v, hv, a, C, dx, fs, f2, fd2, ps, k, sp, rfl, h⟩ := h
      exact ⟨a, C, dx, fs, f2, fd2, ps, k, sp, hv, h⟩
    refine sim_Var (E := E) w σ s _ s1 (fun v H => ∃ (a C dx : Addr) (fs : List (Str × V)) (f2 : Addr) (fd2 : FuncData) (ps : List Str) (k : Nat) (sp : Sp), v = .ref a ∧ H a = some (.ins C dx fs) ∧ SupAt c.K C (c.cad kid) m f2 ∧ FnG P wl c.K mg base k f2 fd2 ps sp ∧ k ≤ j ∧ Binds c.K fd2 ps [] ∧ t σ H fun vs H1 => sp (.ref a :: vs) H1 Q (E σ)) R1 e1 fun w1 v l1 R2 rv => ?_
    rcases bnd_some e with ⟨d, s2, e2, e⟩ | ⟨x, e2, rfl⟩
    · obtain ⟨w2, l2, eh, R3, tr⟩ := stab_ok R2 l1 rv e2
      obtain ⟨d0, p0, e⟩ := bnd_pk e
      have pk := peekv_pk R3 tr p0
      cases d0 with
      | obj k fs =>
        by_cases hk : k = kid
        · subst hk
          have e : (if k = k then bnd T fun ds => call F (d :: ds) else fun _ => none) s2 = some (out, s') := e
          rw [if_pos rfl] at e
          obtain ⟨a, dx, vs0, rfl, hH, tf⟩ := pk.obj R3.ok
          rw [← eh]
          refine ⟨a, c.cad k, dx, vs0, f2, fd2, ps, lv, _, rfl, hH, su, hF, hlv, hb, ?_⟩
          rcases bnd_some e with ⟨ds, s3, e3, e⟩ | ⟨x, e3, rfl⟩
          · exact ht w2 σ s2 _ s3 _ R3 e3 fun w3 vs l3 R4 ta => call_ok R4 (l2.trans l3) (.cons (tr.mono l3.pr l3.fz) ta) e post
          · exact ht w2 σ s2 _ _ _ R3 e3 fun w3 d l3 R4 xa => post w3 d (l2.trans l3) R4 xa
        · have e : (if k = kid then bnd T fun ds => call F (d :: ds) else fun _ => none) s2 = some (out, s') := e
          rw [if_neg hk] at e; cases e
      | _ => cases e
    · exact (stab_not_ex e2).elim
  · unfold TVar at e1
    split at e1 <;> cases e1
theorem sup_len {N ps : List Str} {T : TSd} : ∀ vs H Q E, spF c (runF ps.length N.length T) vs H Q E → vs.length = ps.length := by
  intro vs H Q E hsp
  obtain ⟨w, ds, μ, out, μ', rfl, hO, R1, ta, e, post⟩ := hsp
  unfold runF at e
  by_cases hl : ds.length = ps.length
  · exact (trall_len ta).trans hl
  · rw [if_neg hl] at e; cases e
/-- from the promise to the expression's reading -/
theorem sup_pur {E : XK} {N ps : List Str} {Dc : Addr} {t : TE} {T : M Rs} {vs : List V} {H : Hp} {Q : VK} (hN : N.length = ps.length + 1) (h : Sim c (fun _ => E) t T) (hsp : spF c (runF ps.length N.length (TRet T)) vs H Q E) : t (startF N vs [some (.ref Dc)]) H Q := by
  obtain ⟨w, ds, μ, out, μ', rfl, hO, R1, ta, e, post⟩ := hsp
  unfold runF at e
  by_cases hl : ds.length = ps.length
  · rw [if_pos hl] at e
    have hvl := trall_len ta
    have R2 : R c w (startF N vs [some (.ref Dc)]) ⟨env0 N.length ds, μ⟩ := by
      have R0 := env0_R (N := N) R1 ta
      refine ⟨R0.ok, R0.ow, R0.len, R0.nd, ?_, R0.st, fun i a e => ?_, fun i j p d e a1 a2 => ?_⟩
      · simp [env0, startF, hvl]; omega
      · obtain ⟨v, h1, h2⟩ := R0.vr i a e
        refine ⟨v, ?_, h2⟩
        unfold L2.start at h1
        unfold startF
        by_cases hi : i < vs.length
        · rw [List.getElem?_append_left (by simpa using hi)] at h1 ⊢
          exact h1
        · rw [List.getElem?_append_right (by simpa using hi), List.getElem?_replicate] at h1
          split at h1 <;> cases h1
      · have no : ∀ {i : Nat} {d : D}, (env0 N.length ds)[i]? = some (some (A.o d)) → False := by
          intro i d e
          unfold env0 at e
          by_cases hi : i < ds.length
          · rw [List.getElem?_append_left (by simpa using hi), List.getElem?_map, List.getElem?_eq_getElem hi] at e
            cases e
          · rw [List.getElem?_append_right (by simpa using hi), List.getElem?_replicate] at e
            split at e <;> cases e
        exact (no a1).elim
    unfold TRet sb at e
    cases eT : T ⟨env0 N.length ds, μ⟩ with
    | none => rw [eT] at e; cases e
    | some q =>
      obtain ⟨o, s'⟩ := q
      rw [eT] at e
      refine h w _ _ o s' Q R2 eT ?_
      cases o with
      | ex x => cases e; exact fun w' d l R' xa => post w' d l R'.bare xa
      | ok r =>
        cases r with
        | v d => cases e; exact fun w' v l R' rv => post w' v l R'.bare rv
        | fr d => cases e; exact fun w' v l R' rv => post w' v l R'.bare rv
        | al i =>
          refine fun w' v l R' rv => ?_
          unfold outF at e
          simp only at e
          split at e
          · rename_i d hd
            cases e
            obtain ⟨x, hx, p, o, rfl, hO', hρ, hH, ce⟩ := R'.vr i _ hd
            have rv : (startF N vs [some (.ref Dc)])[i]? = some (some v) := rv
            rw [rv] at hx
            cases hx
            refine post w'.callee (.ref p) ⟨l.fz, l.nf, l.fr, fun b z => l.no b (R'.rho' z), l.dm, l.pr⟩ R'.callee ⟨p, o, rfl, ?_, hH, ce, (R'.ow p hO').1, hρ⟩
            rcases l.no p hO' with z | z
            · have := hO p z
              obtain ⟨tl, ht⟩ := l.pr
              exact absurd (by rw [← ht]; exact List.mem_append_left _ this) hρ
            · exact z
          · rename_i d hd
            cases e
            obtain ⟨x, hx, tr⟩ := R'.vr i _ hd
            have rv : (startF N vs [some (.ref Dc)])[i]? = some (some v) := rv
            rw [rv] at hx
            cases hx
            exact post w' v l R'.bare tr
          · cases e
  · rw [if_neg hl] at e; cases e
end
def retE : List Stmt → Expr
  | [.Return (some e) _] => e
  | _ => .Constant .none 0 ⟨0, 0, 0, 0⟩
def retP : List Stmt → Pos
  | [.Return _ p] => p
  | _ => ⟨0, 0, 0, 0⟩
/-- a method with super() of the class at C: its def st, the def st2 that super() finds -/
structure SupM (P : Program) (K : PySem.W.Frag) (mg : Str → Option Value) (C : Addr) (m qual qual2 : Str) (st st2 : Stmt) (ps ps2 : List Str) : Prop where
  cls : Cls K C
  ex : ∃ (f cda cc f2 : Addr) (fd2 : FuncData) (vs : Array Value) (file : Str) (tf : Tok) (oc kV doc pm ct ccl cl : Value) (an od cdd cld : Option Addr) (osl ccs csl : Array (Option Value)) (cdD : ClassData),
    K.lookup f = some ⟨oc, od, .func (PySem.W.fnX m qual (defArgs st) (defBody st) (defScope st) [("__class__", cc)] .none kV doc pm an (.ref cda) ct), osl⟩ ∧ PySem.W.codeIn K (.ref cda) qual = true ∧ K.lookup cc = some ⟨cl, cld, .cell (some (.ref C)), csl⟩ ∧
    K.lookup cda = some ⟨ccl, cdd, .fields vs, ccs⟩ ∧ vs[2]? = some (.str file tf) ∧ ((P.main.file : Str) == file) = true ∧ PySem.W.clsIn K C = some cdD ∧ Meth K C m f ∧ SupAt K C C m f2 ∧ Fun K m qual2 st2 f2 fd2 ∧ Binds K fd2 ps2 []
  hsup : mg "super" = none
  htop : (P.main.scope.names.lookup ("super" : Str)).isSome = false
  ho : PySem.W.nsIn K cStatics "thirdparty.any" = some none
end Z
/-! {k: v}, len(set(..)), insert -/
namespace Z
open PySem PySem.Spec PyProof.Rows L2 U ClX
/-- {k: v} -/
def tDct1 (tk tv : TE) : TE := fun σ H Q => ∀ p, H p = none → tk σ (upd H p (.dK [])) fun y H1 => tv σ H1 fun z H2 => ∃ k, y = kV k ∧ H2 p = some (.dK []) ∧ Q (.ref p) (upd H2 p (.dK [(k, z)]))
section
variable {X : Cx}
theorem pe_dct1 {k v : Expr} {pos : Pos} {tk tv : TE} (hk : PE X k tk) (hv : PE X v tv) : PE X (.Dict [some k] [v] pos) (tDct1 tk tv) := by
  refine ⟨fun pins s σ H Q I h => ?_⟩
  refine wpAny_Dict_walk (knd := mixKind X.prog X.w) rfl rfl (by simp) (by simp) ?_
  have hf : H s.heap.objs.size = none := I.hok.fresh (Nat.le_refl _)
  have I0 : Inv X pins σ (upd H s.heap.objs.size (.dK [])) { s with heap := s.heap.push { cls := .type "dict", data := .dict #[] } } := I.laid (a := s.heap.objs.size) (o := .dK []) (t' := s.toks) (fun _ _ q => Heap.get?_push_of_some _ q) (Nat.le_refl _) (dk_empty s.heap I.big)
  refine pairTrees_cons_walk (thn (hk.run pins _ σ _ _ I0 (h _ hf)) fun u s1 ⟨y, H1, I1, ry, q1⟩ => thn (hv.run pins s1 σ H1 _ I1 q1) fun w s2 ⟨z, H2, I2, rz, key, ey, e2, q2⟩ => pairTrees_nil_walk ?_)
  subst ey
  obtain ⟨sz, hd, vs, rel, dd⟩ := dk_of I2.hok e2
  cases rel
  refine ⟨[(key, w)], ⟨kV_is ry, rfl, trivial⟩, dd, fun h' dd' hs => ?_⟩
  have he : ∃ q, h'.get? s.heap.objs.size = some q := let ⟨q, _, _, hq, _⟩ := dd'; ⟨q, hq⟩
  have rel2 : KV [(key, z)] [(key, w)] := .cons ⟨rfl, rz⟩ .nil
  exact ⟨.ref s.heap.objs.size, _, d_write I2 (by rw [e2]; exact True.intro) hs he (dk_new (by show 1 ≤ sizeLine; decide) hd rel2 dd'), rfl, q2⟩
end
def TDct1 (a b : M Rs) : M Rs := bnd a fun x => bnd (stab x) fun dk => bnd b fun y => bnd (stab y) fun dv => bnd (opt (toKey dk)) fun k => ret (.fr (.dict [(k, dv)]))
section
variable {c : Cz} {E : XS} {w w0 : Wd} {σ : L2.St} {s s' : S}
theorem sim_Dct1 {ta tb : TE} {Ta Tb : M Rs} (ha : Sim c E ta Ta) (hb : Sim c E tb Tb) : Sim c E (tDct1 ta tb) (TDct1 Ta Tb) := by
  intro w σ s out s' Q R1 e post
  intro p hp
  have R0 := R1.new (o := .dK []) hp
  have rv0 := Rv.new (d := .dict []) R1 hp (.dict .nil)
  have l0 : Le w (w.new p (.dK [])) := Le.new hp
  rcases bnd_some e with ⟨x, s1, e1, e⟩ | ⟨x, e1, rfl⟩
  · refine ha (w.new p (.dK [])) σ s _ s1 _ R0 e1 fun w1 v1 l1 R2 rv1 => ?_
    rcases bnd_some e with ⟨dk, s2, e2, e⟩ | ⟨x', e2, rfl⟩
    · obtain ⟨w2, l2, eh2, R3, tk⟩ := stab_ok R2 l1 rv1 e2
      rw [← eh2]
      rcases bnd_some e with ⟨y, s3, e3, e⟩ | ⟨x', e3, rfl⟩
      · refine hb w2 σ s2 _ s3 _ R3 e3 fun w3 v3 l3 R4 rv3 => ?_
        rcases bnd_some e with ⟨dv, s4, e4, e⟩ | ⟨x', e4, rfl⟩
        · obtain ⟨w4, l4, eh4, R5, tv⟩ := stab_ok R4 l3 rv3 e4
          rw [← eh4]
          obtain ⟨k, ek, e⟩ := bnd_opt e
          cases e
          have L := l2.trans l4
          obtain ⟨p', o, ep, n, q, ce, f, no⟩ := rv0.mono L
          cases ep
          cases ce with
          | dict t =>
            cases t
            refine ⟨k, toKey_some (tk.mono l4.pr l4.fz) ek, q, ?_⟩
            exact post (w4.new p (.dK [(k, v3)])) (.ref p) ((l0.trans L).poke hp) (R5.poke f no) ⟨p, _, rfl, hp, upd_same, .dict (.cons tv .nil), f, no⟩
        · exact (stab_not_ex e4).elim
      · exact hb w2 σ s2 _ _ _ R3 e3 fun w3 d l3 R4 xa => post w3 d ((l0.trans l2).trans l3) R4 xa
    · exact (stab_not_ex e2).elim
  · exact ha (w.new p (.dK [])) σ s _ _ _ R0 e1 fun w1 d l1 R2 xa => post w1 d (l0.trans l1) R2 xa
/-- len(set(texts)) -/
def lenSet (d : D) : Option Rs := match d with
  | .list ds => (ds.mapM asS).bind fun zs => if zs.length ≤ 1000 then some (.v (.int (dd zs).length)) else none
  | _ => none
def TLenSet (a : M Rs) : M Rs := TUn lenSet a
theorem sim_LenSet {t : TE} {T : M Rs} (ht : Sim c E t T) : Sim c E (tLenSetT c.K t) (TLenSet T) := by
  refine sim_Un (op := fun x H1 Q => ∃ l, ∃ xs : List Str, x = .ref l ∧ SqL c.K H1 l (xs.map V.str) ∧ xs.length ≤ 1000 ∧ Q (.int (dd xs).length) H1) ?_ ht
  intro w x d r Q ok px hf rq
  unfold lenSet at hf
  split at hf
  · obtain ⟨zs, h1, h2⟩ := Option.bind_eq_some_iff.mp hf
    split at h2
    · rename_i h; cases h2
      obtain ⟨a, vs, rfl, h4, t⟩ := px.list ok
      have e := mapM_strs t h1
      subst e
      exact ⟨a, zs, rfl, .inl (.inl h4), h, rq _ (.int _)⟩
    · cases h2
  · cases hf
/-- xs.insert(i, y) -/
def rInsert : V → List V → Hp → VK → Prop := fun x vs H Q => ∃ (l : Addr) (xs : List V) (i : Int) (y : V), x = .ref l ∧ vs = [.int i, y] ∧ H l = some (.lst xs) ∧ xs.length < sizeLine ∧ 0 ≤ i ∧ i < 2 ^ 63 ∧ Q .non (upd H l (.lst (xs.take i.toNat ++ [y] ++ xs.drop i.toNat)))
theorem mt_insertU {X : Cx} : MtR X "list.insert" rInsert := mt_insert
def mInsert (ds : List D) (d : D) : Option (D × D) := match ds, d with
  | [.int i, y], .list xs => if (decide (xs.length < 16777216) && decide (0 ≤ i) && decide (i < 2 ^ 63)) = true then some (.non, .list (xs.take i.toNat ++ [y] ++ xs.drop i.toNat)) else none
  | _, _ => none
theorem bm_insert : BmS c rInsert mInsert := by
  intro w p o d ds vs res d' Q ok hp ce ta hf q
  unfold mInsert at hf
  split at hf
  · split at hf
    · rename_i h
      simp only [Bool.and_eq_true, decide_eq_true_eq] at h
      cases hf
      obtain ⟨v, u, rfl, tv, tu⟩ := trall2 ta
      cases tv
      cases ce with
      | list t => exact ⟨p, _, _, u, rfl, rfl, hp, by rw [trall_len t]; exact h.1.1, h.1.2, h.2, q _ _ (.list (((trall_take _ t).append (.cons tu .nil)).append (trall_drop _ t))) .non⟩
    · cases hf
  · cases hf
end
/-- isinstance of an own class's instance against a built-in class -/
theorem kit_mkS {K : PySem.W.Frag} {C : Addr} {t : String} {b : Bool} (hm : PySem.W.kitMeta t = true) (hs : PySem.W.subIn K (.ref C) (.type t) = some b) : PySem.W.kitOne K (.ref C) (.type t) = some b := by
  unfold PySem.W.kitOne PySem.W.kitCls
  split
  · rename_i e; simp at e
  · simp only
    rw [if_pos hm]; exact hs
/-- dict(pairs) -/
def pairD : D → Option (Key × D)
  | .tup [k, v] => (toKey k).map fun k => (k, v)
  | _ => none
def pairsD : List D → Option (List (Key × D))
  | [] => some []
  | d :: ds => (pairD d).bind fun p => (pairsD ds).map fun r => p :: r
def mergeD (acc more : List (Key × D)) : List (Key × D) := more.foldl (fun acc kv => putD acc kv.1 kv.2) acc
def bDict : List D → Option Rs
  | [.list ds] => (pairsD ds).map fun kvs => .fr (.dict (mergeD [] kvs))
  | _ => none
section
variable {c : Cz} {E : XS} {w w0 : Wd} {σ : L2.St} {s s' : S}
theorem pairsD_ok {vs : List V} {ds : List D} (t : TrAll c w.ρ w.F vs ds) (ok : Same w.F w.H) : ∀ {kvs : List (Key × D)}, pairsD ds = some kvs → ∃ (ps : List Addr) (ws : List (Key × V)), vs = ps.map V.ref ∧ Paired (fun p kv => SqT c.K w.H p [kV kv.1, kv.2]) ps ws ∧ TrK c w.ρ w.F ws kvs := by
  induction ds generalizing vs with
  | nil => intro kvs e; cases t; cases e; exact ⟨[], [], rfl, .nil, .nil⟩
  | cons d ds ih =>
    intro kvs e
    cases t with
    | cons h r =>
      obtain ⟨p, e1, e⟩ := Option.bind_eq_some_iff.mp e
      obtain ⟨r', e2, rfl⟩ := Option.map_eq_some_iff.mp e
      obtain ⟨ps, ws, rfl, h3, h4⟩ := ih r e2
      unfold pairD at e1
      split at e1
      · obtain ⟨k, e3, rfl⟩ := Option.map_eq_some_iff.mp e1
        cases h with
        | tup hq hr =>
          rename_i a vs2
          obtain ⟨x, y, rfl, tx, ty⟩ := trall2 hr
          have := toKey_some tx e3
          subst this
          exact ⟨a :: ps, (k, y) :: ws, rfl, .cons (ok.tup hq) h3, .cons ty h4⟩
      · cases e1
theorem trk_merge {ρ : List Addr} {F : Hp} {ws : List (Key × V)} : ∀ {kvs : List (Key × D)} {as : List (Key × V)} {bs : List (Key × D)}, TrK c ρ F ws kvs → TrK c ρ F as bs → TrK c ρ F (mergeK as ws) (mergeD bs kvs) := by
  induction ws with
  | nil => intro kvs as bs t h; cases t; exact h
  | cons p ws ih =>
    intro kvs as bs t h
    cases t with
    | cons t r =>
      rename_i k v d ds
      have q := ih r (trk_put (k := k) h t)
      exact q
theorem cs_Dict : CallS c (cDict c.K) bDict := by
  intro w xs ds r Q ok pa hf rq
  unfold bDict at hf
  split at hf
  · obtain ⟨kvs, e1, rfl⟩ := Option.map_eq_some_iff.mp hf
    obtain ⟨v, rfl, p⟩ := pkall1 pa
    obtain ⟨a, vs, rfl, h1, t⟩ := p.list ok
    obtain ⟨ps, ws, rfl, h3, h4⟩ := pairsD_ok t ok e1
    exact ⟨ps, ws, .inl (.inl h1), h3, fun l hl => rq l _ hl (.dict (trk_merge h4 .nil))⟩
  · cases hf
/-- x, y = (a, b): by way of the tuple -/
theorem par_runT {t : TA} {T : M (List Rs)} {is : List Nat} (ht : SimP c E t T) {fl : Fl} {D : Ends} (R1 : R c w σ s) (e : TPar is T s = some (fl, s')) (post : PostS c w D E s' fl) {Q : List V → Hp → Prop} (hq : ∀ vs H1, vs.length = is.length → (∀ p o, H1 p = none → D.nx (setVs is vs σ) (upd H1 p o)) → Q vs H1) : t σ w.H Q := by
  rcases sb_some e with ⟨rs, s1, e1, e⟩ | ⟨x, e1, rfl⟩
  · refine ht w σ s _ s1 _ R1 e1 fun w1 vs l1 R2 rv => ?_
    rcases sb_some e with ⟨rs', s2, e2, e⟩ | ⟨x, e2, rfl⟩
    · obtain ⟨w2, l2, eh, R3, rv2, vf, _⟩ := res_ok R2 rv e2
      obtain ⟨e3, rfl⟩ := nxt_some e
      obtain ⟨w3, l3, eh3, R4⟩ := asgs_ok R3 (l1.trans l2) rv2 vf e3
      refine hq vs w1.H ?_ fun p o hp => by
        rw [← eh, ← eh3] at hp ⊢
        exact post (w3.new p o) _ (l3.trans (Le.new hp)) (R4.new hp)
      have g : ∀ {vs : List V} {rs : List Rs} {is : List Nat} {s s' : S}, RvAll c w w2 σ vs rs → asgs is rs s = some s' → vs.length = is.length := by
        intro vs rs is s s' ra
        induction ra generalizing is s with
        | nil =>
          intro e
          cases is with
          | nil => rfl
          | cons _ _ => cases e
        | cons h t ne ih =>
          intro e
          cases is with
          | nil => cases e
          | cons i is =>
            unfold asgs at e
            cases e1 : asg i _ s with
            | none => rw [e1] at e; cases e
            | some s1 => rw [e1] at e; exact congrArg (· + 1) (ih e)
      exact g rv2 e3
    · exact (res_not_ex e2).elim
  · exact ht w σ s _ _ _ R1 e1 fun w1 d l1 R2 xa => post w1 σ d l1 R2 xa
theorem sim_ParT {t : TA} {T : M (List Rs)} {i j : Nat} (ht : SimP c E t T) : SimS c E (tAsg (tTup t) (gTup c.K 2 (gCons (gName i) (gCons (gName j) gNil)))) (TPar [i, j] T) := by
  intro w σ s fl s' D R1 e post
  refine par_runT ht R1 e post fun vs H hl q => ?_
  obtain ⟨a, b, rfl⟩ := len2 hl
  exact ⟨by show 2 ≤ sizeLine; decide, fun p hp => ⟨p, _, rfl, .inl (.inl upd_same), rfl, a, [b], rfl, b, [], rfl, rfl, q p _ hp⟩⟩
theorem sim_ParT3 {t : TA} {T : M (List Rs)} {i j k : Nat} (ht : SimP c E t T) : SimS c E (tAsg (tTup t) (gTup c.K 3 (gCons (gName i) (gCons (gName j) (gCons (gName k) gNil))))) (TPar [i, j, k] T) := by
  intro w σ s fl s' D R1 e post
  refine par_runT ht R1 e post fun vs H hl q => ?_
  obtain ⟨a, b, d, rfl⟩ := len3 hl
  exact ⟨by show 3 ≤ sizeLine; decide, fun p hp => ⟨p, _, rfl, .inl (.inl upd_same), rfl, a, [b, d], rfl, b, [d], rfl, d, [], rfl, rfl, q p _ hp⟩⟩
end
/-! ### orders of keywords -/
theorem pm210_rel {zs : List V} {ws : List Value} (r : Vals zs ws) : Vals (pm210 zs) (pm210 ws) := by
  cases r with
  | nil => exact .nil
  | cons a r => cases r with
    | nil => exact .cons a .nil
    | cons b r => cases r with
      | nil => exact .cons a (.cons b .nil)
      | cons d r => cases r with
        | nil => exact .cons d (.cons b (.cons a .nil))
        | cons e r => exact .cons a (.cons b (.cons d (.cons e r)))
theorem pm210_tr {c : Cz} {ρ : List Addr} {F : Hp} {zs : List V} {ws : List D} (r : TrAll c ρ F zs ws) : TrAll c ρ F (pm210 zs) (pm210 ws) := by
  cases r with
  | nil => exact .nil
  | cons a r => cases r with
    | nil => exact .cons a .nil
    | cons b r => cases r with
      | nil => exact .cons a (.cons b .nil)
      | cons d r => cases r with
        | nil => exact .cons d (.cons b (.cons a .nil))
        | cons e r => exact .cons a (.cons b (.cons d (.cons e r)))
theorem pm120_rel {zs : List V} {ws : List Value} (r : Vals zs ws) : Vals (pm120 zs) (pm120 ws) := by
  cases r with
  | nil => exact .nil
  | cons a r => cases r with
    | nil => exact .cons a .nil
    | cons b r => cases r with
      | nil => exact .cons a (.cons b .nil)
      | cons d r => cases r with
        | nil => exact .cons b (.cons d (.cons a .nil))
        | cons e r => exact .cons a (.cons b (.cons d (.cons e r)))
theorem pm120_tr {c : Cz} {ρ : List Addr} {F : Hp} {zs : List V} {ws : List D} (r : TrAll c ρ F zs ws) : TrAll c ρ F (pm120 zs) (pm120 ws) := by
  cases r with
  | nil => exact .nil
  | cons a r => cases r with
    | nil => exact .cons a .nil
    | cons b r => cases r with
      | nil => exact .cons a (.cons b .nil)
      | cons d r => cases r with
        | nil => exact .cons b (.cons d (.cons a .nil))
        | cons e r => exact .cons a (.cons b (.cons d (.cons e r)))
theorem pm201_rel {zs : List V} {ws : List Value} (r : Vals zs ws) : Vals (pm201 zs) (pm201 ws) := by
  cases r with
  | nil => exact .nil
  | cons a r => cases r with
    | nil => exact .cons a .nil
    | cons b r => cases r with
      | nil => exact .cons a (.cons b .nil)
      | cons d r => cases r with
        | nil => exact .cons d (.cons a (.cons b .nil))
        | cons e r => exact .cons a (.cons b (.cons d (.cons e r)))
theorem pm201_tr {c : Cz} {ρ : List Addr} {F : Hp} {zs : List V} {ws : List D} (r : TrAll c ρ F zs ws) : TrAll c ρ F (pm201 zs) (pm201 ws) := by
  cases r with
  | nil => exact .nil
  | cons a r => cases r with
    | nil => exact .cons a .nil
    | cons b r => cases r with
      | nil => exact .cons a (.cons b .nil)
      | cons d r => cases r with
        | nil => exact .cons d (.cons a (.cons b .nil))
        | cons e r => exact .cons a (.cons b (.cons d (.cons e r)))
theorem pm102_rel {zs : List V} {ws : List Value} (r : Vals zs ws) : Vals (pm102 zs) (pm102 ws) := by
  cases r with
  | nil => exact .nil
  | cons a r => cases r with
    | nil => exact .cons a .nil
    | cons b r => cases r with
      | nil => exact .cons a (.cons b .nil)
      | cons d r => cases r with
        | nil => exact .cons b (.cons a (.cons d .nil))
        | cons e r => exact .cons a (.cons b (.cons d (.cons e r)))
theorem pm102_tr {c : Cz} {ρ : List Addr} {F : Hp} {zs : List V} {ws : List D} (r : TrAll c ρ F zs ws) : TrAll c ρ F (pm102 zs) (pm102 ws) := by
  cases r with
  | nil => exact .nil
  | cons a r => cases r with
    | nil => exact .cons a .nil
    | cons b r => cases r with
      | nil => exact .cons a (.cons b .nil)
      | cons d r => cases r with
        | nil => exact .cons b (.cons a (.cons d .nil))
        | cons e r => exact .cons a (.cons b (.cons d (.cons e r)))
theorem pm021_rel {zs : List V} {ws : List Value} (r : Vals zs ws) : Vals (pm021 zs) (pm021 ws) := by
  cases r with
  | nil => exact .nil
  | cons a r => cases r with
    | nil => exact .cons a .nil
    | cons b r => cases r with
      | nil => exact .cons a (.cons b .nil)
      | cons d r => cases r with
        | nil => exact .cons a (.cons d (.cons b .nil))
        | cons e r => exact .cons a (.cons b (.cons d (.cons e r)))
theorem pm021_tr {c : Cz} {ρ : List Addr} {F : Hp} {zs : List V} {ws : List D} (r : TrAll c ρ F zs ws) : TrAll c ρ F (pm021 zs) (pm021 ws) := by
  cases r with
  | nil => exact .nil
  | cons a r => cases r with
    | nil => exact .cons a .nil
    | cons b r => cases r with
      | nil => exact .cons a (.cons b .nil)
      | cons d r => cases r with
        | nil => exact .cons a (.cons d (.cons b .nil))
        | cons e r => exact .cons a (.cons b (.cons d (.cons e r)))
theorem pm10_rel {zs : List V} {ws : List Value} (r : Vals zs ws) : Vals (pm10 zs) (pm10 ws) := by
  cases r with
  | nil => exact .nil
  | cons a r => cases r with
    | nil => exact .cons a .nil
    | cons b r => cases r with
      | nil => exact .cons b (.cons a .nil)
      | cons d r => exact .cons a (.cons b (.cons d r))
theorem pm10_tr {c : Cz} {ρ : List Addr} {F : Hp} {zs : List V} {ws : List D} (r : TrAll c ρ F zs ws) : TrAll c ρ F (pm10 zs) (pm10 ws) := by
  cases r with
  | nil => exact .nil
  | cons a r => cases r with
    | nil => exact .cons a .nil
    | cons b r => cases r with
      | nil => exact .cons b (.cons a .nil)
      | cons d r => exact .cons a (.cons b (.cons d r))
end Z
/-! raise X('m'), raise X(v) with X's own __init__, try with one clause -/
namespace U
open PySem PySem.Spec PyProof.Rows L2 ClX
/-! ### raise -/
def tRaise (C : Addr) (E : XS) : TS := fun _ σ H => E σ (.ref C) none H
/-- what an own exception class without __init__ must be -/
structure ExcN (K : PySem.W.Frag) (mg : Str → Option Value) (x : Str) (C : Addr) : Prop where
  ex : PySem.W.excIn K C [.type "ValueError", .type "Exception", .type "BaseException", .type "object"] "ValueError.__new__" = true
  gC : mg x = some (.ref C)
  kC : PySem.W.keepIn K (.ref C) = true
  sC : PySem.W.subIn K (.ref C) (.type "BaseException") = some true
  tC : PySem.W.typeIn K (.ref C) = some (.type "type")
section
variable {X : Cx} {j : Nat} {E : XS}
theorem ps_raiseN {x m : Str} {C : Addr} {i : Nat} {p p2 pos pos2 : Pos} (hc : X.calm = true) (tk : Takes X (fun cls d σ H => E σ cls d H)) (N : ExcN X.K X.mg x C) (hg : Gl X x) (hdb : (x == ("__debug__" : Str)) = false := by decide) :
    PS X (.Raise (some (.Call (.Name x p) [.Constant (.str m) i p2] [] pos)) none pos2) (tRaise C E) :=
  ps_raise (W := fun cls d σ H => E σ cls d H) hc tk (pmk_own F.excBase_ValueError N.ex N.gC N.kC (raises_own N.sC N.tC) hg hdb)
/-- the promise of the __init__ of such a class: it keeps its argument as f -/
def spX (C : Addr) (f : Str) : Sp := fun vs H Q _ => ∃ (a : Addr) (y : V), vs = [.ref a, y] ∧ H a = some (exo a C none) ∧ ∀ d, H d = none → d ≠ a → Q .non (upd (upd H d (exd d [(f, y)])) a (exo a C (some d)))
/-- raise X(v): v is kept as the attribute f -/
def tRaiseF (C : Addr) (f : Str) (E : XS) (t : TE) : TS := fun _ σ H => tMkO C (spX C f) [] (tCons t tNil) σ H fun cls d H' => E σ cls d H'
/-- B.__init__(self, 'm') -/
theorem pe_binit {x : Str} {B : Addr} {mc : Value} {e : Expr} {es : List Expr} {ta : TA} {p1 p2 pos : Pos} {pl : Sem Bool} (hg : Gl X x) (hm : X.mg x = some (.ref B)) (r : CRead X.K B mc) (vV : PySem.W.findCls X.K (.ref B) mc "__init__" = some (.val (.builtin "ValueError.__init__"))) (ha : PA X (e :: es) ta)
    (hc : eval (.Call (.Attribute (.Name x p1) "__init__" p2) (e :: es) [] pos) X.env = (do
      let ov ← eval (.Name x p1) X.env
      standAt p2.atName
      let (f, first) ← holding [ov] (getMethod ov "__init__" pl)
      callWith pos f first (backTo pos (starEach (e :: es) X.env)) (backToKw pos (keywordEach [] X.env))) := by rfl)
    (hdb : (x == ("__debug__" : Str)) = false := by decide) (he : starEach (e :: es) X.env = (false, eval e X.env) :: starEach es X.env := by rfl) (hpl : (backTo pos (starEach es X.env)).any (·.1) = false := by rfl) :
    PE X (.Call (.Attribute (.Name x p1) "__init__" p2) (e :: es) [] pos) (tVeI X.K ta) := by
  refine ⟨fun pins s σ H Q I h => ?_⟩
  refine PySem.W.methodCall_KW (ld_glob I hg hm (PySem.W.method_cls I.kIn r.ga (PySem.W.cls_value I.kIn r.rd vV rfl ?_)) hdb) hc
  show wpAny _ _ (callWith pos (Value.builtin "ValueError.__init__") [] (backTo pos (starEach (e :: es) X.env)) []) _ _ _
  refine PyProof.Rows.callWith_method1 (thn (ha.run pos pins _ σ H _ (I.tok _) h) fun us s1 ⟨vs, H1, I1, r1, a, C, ws, ev, hl, T, ea, q⟩ => ?_) he hpl
  subst ev
  cases r1 with
  | @cons _ u0 _ ur ra rw' =>
    cases (show u0 = Value.ref a from ra)
    exact oinit_ok T I1 ea (by rw [← Paired.length rw', sizeLine_eq]; omega) fun s' J => ⟨.non, H1, J, rfl, q⟩
/-- the reading of such an __init__'s body -/
theorem init_pur {z1 z2 : Str} {C : Addr} {K : PySem.W.Frag} {f m : Str} {vs : List V} {H : Hp} {Q : VK} {E : XK} (T : OexC K C) (n : PySem.W.findIn K (.ref C) f = some none) (h : spX C f vs H Q E) :
    tSeq (tDrop (tVeI K (tCons (tVar 0) (tCons (tC (.str m)) tNil)))) (tOst K f (tVar 0) (tVar 1)) { nx := fun _ H' => Q .non H', rt := Q } (start [z1, z2] vs) H := by
  obtain ⟨a, y, rfl, ea, q⟩ := h
  exact ⟨.ref a, rfl, a, C, [.str m], rfl, (by show 1 ≤ 1000; decide), T, ea, y, rfl, .ref a, rfl, a, C, rfl, T, n, .inl ⟨ea, fun d hd hne => q d hd hne⟩⟩
/-- raise X(v), X's __init__ keeping v as f -/
structure ExcF (P : Program) (K : PySem.W.Frag) (mg : Str → Option Value) (x : Str) (C : Addr) (f : Str) : Prop where
  T : OexC K C
  gC : mg x = some (.ref C)
  ex : ∃ (fI : Addr) (fd : FuncData) (ps : List Str), PySem.W.findIn K (.ref C) "__init__" = some (some (.ref fI)) ∧ PySem.W.typeIn K (.ref fI) = some (.type "function") ∧ (∀ w base, FnOk P w K mg base (L2.CX P w) 2 fI fd ps (spX C f)) ∧ Binds K fd ps []
theorem upd_del {H : Hp} {a d : Addr} {o1 o2 o3 o4 : HO} (na : H a = none) (hne : d ≠ a) : upd (del (upd (upd (upd H a o1) d o2) a o4) a) d o3 = upd H d o3 := by
  funext b
  by_cases e : b = d
  · subst e; rw [upd_same, upd_same]
  · rw [upd_ne e, upd_ne e]
    by_cases e2 : b = a
    · subst e2; rw [del_same, na]
    · rw [del_ne e2, upd_ne e2, upd_ne e, upd_ne e2]
theorem ps_raiseF {x f : Str} {C : Addr} {e : Expr} {te : TE} {p pos pos2 : Pos} (hc : X.calm = true) (tk : Takes X (fun cls d σ H => E σ cls d H)) (hr : Room j X.A) (N : ExcF X.prog X.K X.mg x C f) (hg : Gl X x) (he : PE X e te) (hj : 3 ≤ j := by decide)
    (hdb : (x == ("__debug__" : Str)) = false := by decide) (hst : starEach [e] X.env = (false, eval e X.env) :: starEach [] X.env := by rfl) (hpl : (backTo pos (starEach [] X.env)).any (·.1) = false := by rfl) :
    PS X (.Raise (some (.Call (.Name x p) [e] [] pos)) none pos2) (tRaiseF C f E te) := by
  obtain ⟨fI, fd, ps, iC, tI, F1, hb⟩ := N.ex
  exact ps_raise (W := fun cls d σ H => E σ cls d H) hc tk (pmk_oex (dvs := []) (ds := []) N.T iC tI (F1 _ _) (hr.mono hj) hb .nil passL hg N.gC (pa_cons he pa_nil (hs := hst)) hdb hst hpl)
end
/-! ### try: the caught exception is tracked -/
section
variable {X : Cx} {pins : List (Addr × Obj)} {σ : L2.St} {H : Hp} {s : Shared}
theorem track {a : Addr} {cls : Value} {d : Option Addr} {oe : Obj} {vs : Array Value} (I : Inv X pins σ H s) (ea : s.heap.get? a = some oe) (z : Zc cls d oe) (q : oe.data = .fields vs) (na : H a = none) (n0 : X.s_0.heap.get? a = none)
    (np : ∀ p ∈ X.pn ++ pins, p.1 ≠ a) (nL : X.env.locals ≠ a) (nC : ∀ y c, X.env.cells.lookup y = some c → c ≠ a) : Inv X pins σ (upd H a (exV cls d a)) s := by
  refine ⟨I.ok, I.os, I.bare, ⟨I.base.keep, I.base.slot, fun b o e n hx => ?_, I.base.there, fun b xs e => ?_, fun b o u e => ?_, fun b ps e => ?_⟩, I.loc, I.cell, ?_, fun y c e => ?_, fun p hp => ?_, fun b u e => ?_, I.len⟩
  · have hb : b ≠ a := fun y => by rw [y, n0] at e; cases e
    rw [upd_ne hb]; exact I.base.free b o e n hx
  · have y := I.base.tups b xs e
    rw [upd_ne (ne_of_none y na)]; exact y
  · have y := I.base.frzs b o u e
    rw [upd_ne (ne_of_none y na)]; exact y
  · obtain ⟨m, y⟩ := I.base.tbls b ps e
    exact ⟨m, by rw [upd_ne (ne_of_none y na)]; exact y⟩
  · rw [upd_ne nL]; exact I.free
  · rw [upd_ne (nC y c e)]; exact I.freeC y c e
  · obtain ⟨e, n, r⟩ := I.pin p hp
    exact ⟨e, by rw [upd_ne (np p hp)]; exact n, r⟩
  · by_cases hb : b = a
    · subst hb
      rw [upd_same] at e
      cases e
      exact exV_ok ea z q
    · rw [upd_ne hb] at e
      exact (I.hok b u e).stay (fun _ _ _ y => y) (fun c y => by rw [upd_ne (ne_of_none y na)]; exact y) fun c xs y => by rw [upd_ne (ne_of_none y na)]; exact y
theorem inSuite {a : Addr} (I : Inv X pins σ H s) : Inv (X.suite a (X.pn ++ pins)) [] σ H s :=
  ⟨I.ok.suite _ _, I.os, I.bare, I.base, I.loc, I.cell, I.free, I.freeC, fun p hp => I.pin p (by rw [List.append_nil] at hp; exact hp), I.hok, I.len⟩
theorem outSuite {a : Addr} {pn' : List (Addr × Obj)} (I : Inv (X.suite a (X.pn ++ pins)) pn' σ H s) (ok : X.Ok) : Inv X pins σ H s :=
  ⟨ok, I.os, I.bare, I.base, I.loc, I.cell, I.free, I.freeC, fun p hp => I.pin p (List.mem_append_left _ hp), I.hok, I.len⟩
end
/-- the ends of a clause's suite: the clause's name goes -/
def endT (i : Nat) (D : Ends) : Ends := { nx := fun σ' H' => D.nx (σ'.set i none) H', rt := D.rt, bk := fun σ' H' => D.bk (σ'.set i none) H', ct := fun σ' H' => D.ct (σ'.set i none) H' }
/-- what 'except x as n' wishes of the body's exceptions -/
def wTry (K : PySem.W.Frag) (c : Value) (i : Nat) (ts : TS) (E : XS) (D : Ends) : WX := fun cls d σ H =>
  ∃ b, PySem.W.exmOne K cls c = some b ∧ (b = true → ∀ a, H a = none → ts (endT i D) (σ.set i (some (.ref a))) (upd H a (exV cls d a))) ∧ (b = false → E σ cls d H)
def tTry (K : PySem.W.Frag) (c : Value) (i : Nat) (tb : XS → TS) (ts : TS) (E : XS) : TS := fun D σ H => tb (WE (wTry K c i ts E D)) D σ H
section
variable {X : Cx} {x n : Str} {c : Value} {i : Nat} {body suite : List Stmt} {b₀ : Stmt} {np pos pos' : Pos} {tb : XS → TS} {ts : TS} {E : XS}
theorem ps_tryT (hst : X.stack = X.env :: X.outer) (hfm : X.env.frame = some X.env.locals) (hex : X.ex = []) (hN : X.N.Nodup) (hi : X.N[i]? = some n) (hln : X.env.kindOf n = some .local) (hc : Names X x c) (tk : Takes X (fun cls d σ H => E σ cls d H))
    (hb : ∀ (W : WX) (pn : List (Addr × Obj)) (xe : Value → Shared → Prop), Takes (X.tr pn xe) W → PassesOwn (model X.prog X.w) X.A X.env xe → PSs (X.tr pn xe) body (tb (WE W)))
    (hsu : ∀ (a : Addr) (pn : List (Addr × Obj)), PSs (X.suite a pn) (b₀ :: suite) ts) :
    PS X (.Try body [.ExceptHandler (some (.Name x np)) (some n) (b₀ :: suite) pos'] [] [] pos) (tTry X.K c i tb ts E) := by
  refine ⟨fun pins s σ H D I want => wpAny_Try_except ?_⟩
  have okX := I.ok
  have frm : X.A.frames = some (X.env :: X.outer) := by rw [okX.frames, hst]
  refine wpAny_mono ((hb (wTry X.K c i ts E D) (X.pn ++ pins) (fun e s₁ => wpAny (model X.prog X.w) X.A (noteFrame e X.env) (fun _ s₂ => wpAny (model X.prog X.w) X.A (setFlight e none) (fun _ s₃ => wpAny (model X.prog X.w) X.A (handleBy e X.env [.ExceptHandler (some (.Name x np)) (some n) (b₀ :: suite) pos']) (SP X pins D) X.xe s₃) X.xe s₂) X.xe s₁) (fun u s' air => ?_) PassesOwn.looking).run [] s σ H D (I.toTry _) want) (fun f s1 sp => ?_) (fun _ _ he => he)
  · obtain ⟨a, B, sI, pins', τ, G, cls, d, rfl, J', nb, up, sky, na, os, ag, b, hb1, yes, no⟩ := air
    have J : Inv X pins τ G sI := J'.ofTry okX
    have sky' : Sky B (X.env :: X.outer) a (Zc cls d) X.env.locals s'.heap := by rw [← hst]; exact sky
    show wpAny (model X.prog X.w) X.A (noteFrame (.ref a) X.env) _ _ _; refine Sky.land Zc.steady frm hfm sky' fun h3 fl3 up3 => ?_
    have J3 : Inv X pins τ G { s' with heap := h3 } := J.landed nb fl3.1 (up.trans up3) os ag
    obtain ⟨o3, v3, e3, z3, q3⟩ := fl3.there
    have notF : a ∉ frs (X.env :: X.outer) := fun hm => by
      obtain ⟨_, o', e', hnf⟩ := fl3.2.2.1.mem hm
      rw [e3] at e'; cases e'
      exact hnf _ q3
    have nL : a ≠ X.env.locals := fun y => notF (List.mem_filterMap.mpr ⟨X.env, List.mem_cons_self, by rw [hfm, y]⟩)
    have nF : a ∉ X.fs := fun hm => by
      obtain ⟨e, he, y⟩ := List.mem_filterMap.mp hm
      exact notF (List.mem_filterMap.mpr ⟨e, List.mem_cons_of_mem _ he, y⟩)
    -- the state without it has nothing at a
    have nI : sI.heap.get? a = none := by
      cases y : sI.heap.get? a with
      | none => rfl
      | some o =>
        have y1 := nb a o y (by rw [hst]; exact notF)
        rw [fl3.2.1] at y1; cases y1
    have S3 := J3.suite e3 q3 na nL nF
    refine wpAny_handleBy_cons (codeAny_handlers_test ?_) (by intro y; cases y)
    have LT : PySem.W.Looks (model X.prog X.w) h3 (typeOf (.ref a)) cls := fun A Q E s k y => wpAny_typeOf_ref (k _ _ e3) (by rw [z3.1]; exact y)
    have test : ∀ {Q : Value → Shared → Prop} {E : Value → Shared → Prop}, Q c { s' with heap := h3 } → wpAny (model X.prog X.w) (X.A.mark (some (.ref a))) (eval (.Name x np) X.env) Q E { s' with heap := h3 } := by
      intro Q E y
      obtain ⟨hg, hdbg, hm | ⟨hm, hv, hnn⟩⟩ := hc
      · exact ld_glob (X := X.suite a ((a, o3) :: (X.pn ++ pins))) S3 hg hm y hdbg
      · exact ld_blt (X := X.suite a ((a, o3) :: (X.pn ++ pins))) S3 hg hm hv y hnn hdbg
    refine test ((PySem.W.exm_one (M := model X.prog X.w) J3.kIn LT hb1).here ?_)
    cases b with
    | true =>
      refine codeAny_handlers_suite_as (HandSPX.lands_againZ fl3 fun h4 fl4 up4 => ?_)
      have J4 : Inv X pins τ G { s' with heap := h4 } := J.landed nb fl4.1 ((up.trans up3).trans up4) os ag
      obtain ⟨o4, v4, e4, z4, q4⟩ := fl4.there
      have T4 := track J4 e4 z4 q4 na (by
          cases y : X.s_0.heap.get? a with
          | none => rfl
          | some o =>
            obtain ⟨o', y'⟩ := J.base.there a o y (by rw [hex]; exact fun z => nomatch z)
            rw [nI] at y'; cases y')
        (fun p hp y => by have y' := (J.pin p hp).1; rw [y, nI] at y'; cases y') (Ne.symm nL)
        (fun y k e z => by obtain ⟨v, o, y1, _⟩ := J.cell y k e; rw [z, nI] at y1; cases y1)
      refine store_ok (X := X.suite a (X.pn ++ pins)) (v := .ref a) (inSuite T4) hN hi (.inl hln) rfl (fun s5 S5 => ?_) (.inr hln)
      refine wpAny_mono ((hsu a (X.pn ++ pins)).run [] s5 _ _ _ S5 (yes rfl a na)) (fun f s6 sp => ?_) (fun _ _ y => False.elim y)
      have fin : ∀ {σ6 : L2.St} {H6 : Hp} {Q : Shared → Prop}, Inv (X.suite a (X.pn ++ pins)) [] σ6 H6 s6 → (∀ s7, Inv X pins (σ6.set i none) H6 s7 → Q s7) → wpAny (model X.prog X.w) X.A (do bindName X.env n .none; unbindBehindTheSuite X.env n pos') (fun _ s7 => Q s7) X.xe s6 := fun S6 hq => gone_ok (outSuite S6 okX) hN hi hln hq
      match f, sp with
      | .next, ⟨_, _, S6, y⟩ => exact fin S6 fun s7 J7 => ⟨_, _, J7, y⟩
      | .brk, ⟨_, _, S6, y⟩ => exact fin S6 fun s7 J7 => ⟨_, _, J7, y⟩
      | .cont, ⟨_, _, S6, y⟩ => exact fin S6 fun s7 J7 => ⟨_, _, J7, y⟩
      | .ret u, ⟨_, _, _, S6, r6, y⟩ => exact fin S6 fun s7 J7 => ⟨_, _, _, J7, r6, y⟩
    | false =>
      show wpAny _ X.A (handleBy (.ref a) X.env []) _ _ _; refine wpAny_handleBy_nil ?_
      obtain ⟨k1, k2, k3, oe, vs, T, oT, tl, he, hz, hd, h1, hr⟩ := id fl3
      unfold PySem.passOn; refine wpAny_bind (wpAny_field he hd h1 ?_)
      rw [if_neg (show ¬ ((Value.ref T == Value.none) = true) by simp)]
      have fin : wpAny (model X.prog X.w) X.A (setFlight (.ref a) X.env.frame) (fun _ s4 => wpAny (model X.prog X.w) X.A (throw (.ref a) : Sem Flow) (SP X pins D) X.xe s4) X.xe { s' with heap := h3 } := by
        rw [hfm]
        exact HandSPX.setFlight_upZ fl3 fun h4 hh4 up4 => wpAny_throw (tk _ _ ⟨a, B, sI, pins, τ, G, cls, d, rfl, J, nb, (up.trans up3).trans up4, .inr (.inr (by rw [hst]; exact hh4)), na, os, ag, no rfl⟩)
      first | exact wpAny_bind (wpAny_pure (wpAny_bind fin)) | exact wpAny_bind fin
  · match f, sp with
    | .next, ⟨_, _, J', y⟩ => exact wpAny_execs_nil ⟨_, _, J'.ofTry okX, y⟩
    | .brk, ⟨_, _, J', y⟩ => exact ⟨_, _, J'.ofTry okX, y⟩
    | .cont, ⟨_, _, J', y⟩ => exact ⟨_, _, J'.ofTry okX, y⟩
    | .ret u, ⟨_, _, _, J', r, y⟩ => exact ⟨_, _, _, J'.ofTry okX, r, y⟩
/-- 'except x:' without a name -/
def wTry0 (K : PySem.W.Frag) (c : Value) (ts : TS) (E : XS) (D : Ends) : WX := fun cls d σ H =>
  ∃ b, PySem.W.exmOne K cls c = some b ∧ (b = true → ts D σ H) ∧ (b = false → E σ cls d H)
def tTry0 (K : PySem.W.Frag) (c : Value) (tb : XS → TS) (ts : TS) (E : XS) : TS := fun D σ H => tb (WE (wTry0 K c ts E D)) D σ H
end
end U
/-! raise, try -/
namespace Z
open PySem PySem.Spec PyProof.Rows L2 U ClX
/-- a new thing that stays, laid -/
def Wd.lay (w : Wd) (p : Addr) (o : HO) : Wd := (w.new p o).keep p o
section
variable {c : Cz} {E : XS} {w w0 : Wd} {σ : L2.St} {s s' : S}
theorem lay_F {p : Addr} (R1 : R c w σ s) (hp : w.H p = none) : w.F p = none := by
  cases e : w.F p with
  | none => rfl
  | some u => exact absurd (R1.ok _ _ e) (by rw [hp]; simp)
theorem lay_R {p : Addr} {o : HO} (R1 : R c w σ s) (hp : w.H p = none) : R c (w.lay p o) σ s := (R1.new hp).keep (show w.F p = none from lay_F R1 hp) upd_same fun z => (R1.ow p z).2 hp
theorem lay_Le {p : Addr} {o : HO} (R1 : R c w σ s) (hp : w.H p = none) : Le w (w.lay p o) := by
  have l := Le.new (o := o) hp
  refine ⟨Same.new (lay_F R1 hp), fun b z => ?_, l.fr, l.no, l.dm, List.prefix_refl _⟩
  by_cases e : b = p
  · exact .inr (.inr (e ▸ hp))
  · have : upd w.F p o b ≠ none := z
    rw [upd_ne e] at this
    exact .inl this
/-! ### raise -/
def TRaise (k : Nat) : TSd := fun s => some (.ex ⟨k, []⟩, s)
theorem sim_Raise {k : Nat} : SimS c E (tRaise (c.cad k) E) (TRaise k) := by
  intro w σ s fl s' D R1 e post
  cases e
  exact post w σ none Le.refl R1 (.inl ⟨rfl, rfl⟩)
theorem simN_Raise {k : Nat} : SimN c E (tRaise (c.cad k) E) (TRaise k) := by
  intro w σ s fl s' D R1 e post
  cases e
  exact post w none Le.refl R1 (.inl ⟨rfl, rfl⟩)
def TRaiseF (k : Nat) (f : Str) (T : M Rs) : TSd := sb T fun r => sb (stab r) fun d s => some (.ex ⟨k, [(f, d)]⟩, s)
theorem sim_RaiseF {k : Nat} {f : Str} {t : TE} {T : M Rs} (ht : Sim c E t T) : SimS c E (tRaiseF (c.cad k) f E t) (TRaiseF k f T) := by
  intro w σ s fl s' D R1 e post
  rcases sb_some e with ⟨r, s1, e1, e⟩ | ⟨x, e1, rfl⟩
  · refine ht w σ s _ s1 _ R1 e1 fun w1 v l1 R2 rv => ?_
    rcases sb_some e with ⟨d, s2, e2, e⟩ | ⟨x, e2, rfl⟩
    · obtain ⟨w2, l2, eh, R3, tr⟩ := stab_ok R2 l1 rv e2
      cases e
      refine ⟨by show 1 ≤ 1000; decide, fun a ha => ⟨a, v, rfl, upd_same, fun dd hd hne => ?_⟩⟩
      rw [upd_ne hne] at hd
      refine ⟨rfl, dd, [(f, v)], upd_same, by rw [upd_ne hne, upd_same], hd, ?_⟩
      rw [upd_del ha hne, ← eh]
      have hd' : w2.H dd = none := by rw [eh]; exact hd
      exact post (w2.lay dd (.xd [(f, v)])) σ (some dd) (l2.trans (lay_Le R3 hd')) (lay_R R3 hd') (.inr ⟨dd, [(f, v)], rfl, upd_same, .cons (tr.mono (List.prefix_refl _) (Same.new (lay_F R3 hd'))) .nil⟩)
    · exact (stab_not_ex e2).elim
  · exact ht w σ s _ _ _ R1 e1 fun w1 d l1 R2 xa => post w1 σ d l1 R2 xa
/-! ### try -/
theorem R.unset {i : Nat} (R1 : R c w σ s) : R c w (σ.set i none) { s with env := s.env.set i none } := by
  have g : ∀ {j : Nat} {a : A}, (s.env.set i none)[j]? = some (some a) → i ≠ j ∧ s.env[j]? = some (some a) := by
    intro j a e
    by_cases ij : i = j
    · subst ij
      by_cases hi : i < s.env.length
      · rw [List.getElem?_set_self hi] at e; cases e
      · rw [List.getElem?_eq_none (by rw [List.length_set]; omega)] at e; cases e
    · rw [List.getElem?_set_ne ij] at e; exact ⟨ij, e⟩
  refine ⟨R1.ok, R1.ow, R1.len, R1.nd, by rw [List.length_set, List.length_set]; exact R1.sz, R1.st, fun j a e => ?_, fun j k p d e a1 a2 b1 b2 => ?_⟩
  · obtain ⟨ij, e⟩ := g e
    obtain ⟨v, h1, h2⟩ := R1.vr j a e
    exact ⟨v, by rw [List.getElem?_set_ne ij]; exact h1, h2⟩
  · obtain ⟨i1, a1⟩ := g a1
    obtain ⟨i2, a2⟩ := g a2
    rw [List.getElem?_set_ne i1] at b1
    rw [List.getElem?_set_ne i2] at b2
    exact R1.ne j k p d e a1 a2 b1 b2
def TTry (T : TSd) (h : Nat → Option Bool) (i : Nat) (U : TSd) : TSd := fun s => match T s with
  | some (.ex x, s1) => (match h x.c with
    | some true => if i < s1.env.length then (match U { s1 with env := s1.env.set i (some (.s (.exc x.c x.fs))) } with
      | some (.ex _, _) => none
      | some (.rt r, s2) => some (.rt r, s2)
      | some (f, s2) => some (f, { s2 with env := s2.env.set i none })
      | none => none) else none
    | some false => some (.ex x, s1)
    | none => none)
  | r => r
theorem sim_Try {cv : Value} {h : Nat → Option Bool} {i : Nat} {tb : XS → TS} {T : TSd} {ts : TS} {U : TSd} (hm : ∀ k b, h k = some b → PySem.W.exmOne c.K (.ref (c.cad k)) cv = some b) (hb : ∀ E, SimS c E (tb E) T) (hsu : SimS c E0s ts U) : SimS c E (tTry c.K cv i tb ts E) (TTry T h i U) := by
  intro w σ s fl s' D R1 e post
  show tb _ D σ w.H
  unfold TTry at e
  split at e
  · rename_i x s1 e1
    refine hb _ w σ s _ s1 D R1 e1 fun w1 σ1 d l1 R2 xa => ?_
    show wTry c.K cv i ts E D (.ref (c.cad x.c)) d σ1 w1.H
    split at e
    · rename_i hk
      refine ⟨true, hm _ _ hk, fun _ a na => ?_, fun z => nomatch z⟩
      by_cases hi : i < s1.env.length
      · rw [if_pos hi] at e
        have R3 := lay_R (o := exV (.ref (c.cad x.c)) d a) R2 na
        have l3 := lay_Le (o := exV (.ref (c.cad x.c)) d a) R2 na
        have sm : Same w1.F (w1.lay a (exV (.ref (c.cad x.c)) d a)).F := Same.new (lay_F R2 na)
        have tr : Tr c (w1.lay a (exV (.ref (c.cad x.c)) d a)).ρ (w1.lay a (exV (.ref (c.cad x.c)) d a)).F (.ref a) (.exc x.c x.fs) := by
          rcases xa with ⟨e0, rfl⟩ | ⟨dd, ws, rfl, hF, tf⟩
          · rw [e0]; exact .exc0 upd_same
          · exact .exc1 upd_same (sm _ _ hF) (tf.mono (List.prefix_refl _) sm)
        have R4 := setS_ok (s' := { s1 with env := s1.env.set i (some (.s (.exc x.c x.fs))) }) R3 tr (by unfold setV; rw [if_pos hi])
        cases eU : U { s1 with env := s1.env.set i (some (.s (.exc x.c x.fs))) } with
        | none => rw [eU] at e; cases e
        | some q =>
          obtain ⟨f, s2⟩ := q
          rw [eU] at e
          refine hsu _ _ _ f s2 (endT i D) R4 eU ?_
          cases f with
          | nx => cases e; exact fun w' σ' l' R' => post w' _ ((l1.trans l3).trans l') R'.unset
          | bk => cases e; exact fun w' σ' l' R' => post w' _ ((l1.trans l3).trans l') R'.unset
          | ct => cases e; exact fun w' σ' l' R' => post w' _ ((l1.trans l3).trans l') R'.unset
          | rt r => cases e; exact fun w' σ' v l' R' rv => post w' σ' v ((l1.trans l3).trans l') R' (rv.base (l1.trans l3))
          | ex y => cases e
      · rw [if_neg hi] at e; cases e
    · rename_i hk
      cases e
      exact ⟨false, hm _ _ hk, (fun z => nomatch z), fun _ => post w1 σ1 d l1 R2 xa⟩
    · cases e
  · rename_i ne
    refine hb _ w σ s fl s' D R1 e ?_
    cases fl with
    | nx => exact post
    | rt r => exact post
    | bk => exact post
    | ct => exact post
    | ex x => exact absurd e (ne x s')
end
end Z
/-! f-strings, str(), the sum of a text and super().m() -/
namespace Z
open PySem PySem.Spec PyProof.Rows L2 U ClX
/-- what {x} shows -/
def fmtD : D → Option Str
  | .str z => if fits z.length = true then some z else none
  | .int i => if i.natAbs.log2 < 1920 then some (toString i) else none
  | _ => none
def TFmt (a : M Rs) : M Rs := bnd a fun x => bnd (pk x) fun d => bnd (opt (fmtD d)) fun z => ret (.v (.str z))
def TJs : List (M Rs) → Str → M Rs
  | [], acc => ret (.v (.str acc))
  | t :: ts, acc => bnd t fun x => bnd (pk x) fun d => match d with
    | .str y => if fits (acc ++ y).length = true then TJs ts (acc ++ y) else fun _ => none
    | _ => fun _ => none
/-- the parts of an f-string behind a text -/
def tJn (ts : List TE) (acc : Str) : TE := fun σ H Q => tJs ts acc σ H fun out H1 => Q (.str out) H1
def bStr : List D → Option Rs
  | [.int i] => if i.natAbs.log2 < 1920 then some (.v (.str (toString i))) else none
  | [.str z] => some (.v (.str z))
  | _ => none
section
variable {c : Cz} {E : XS} {w : Wd}
inductive SimJ (c : Cz) (E : XS) : List TE → List (M Rs) → Prop
  | nil : SimJ c E [] []
  | cons {t : TE} {T : M Rs} {ts : List TE} {Ts : List (M Rs)} (h : Sim c E t T) (r : SimJ c E ts Ts) : SimJ c E (t :: ts) (T :: Ts)
/-- str() of an int or a text -/
def cStr : List V → Hp → VK → Prop := fun xs H Q => match xs with
  | [.int i] => i.natAbs.log2 < 1920 ∧ Q (.str (toString i)) H
  | [.str a] => Q (.str a) H
  | _ => False
theorem call_cStr {X : Cx} : CallR X (.type "str") cStr := by
  intro pins s σ H xs us Q I r h
  match xs, h with
  | [.int i], h => exact call_str_int pins s σ H _ us Q I r ⟨i, rfl, h⟩
  | [.str a], h => exact SkE.call_str_str pins s σ H _ us Q I r ⟨a, rfl, h⟩
theorem cs_Str : CallS c cStr bStr := by
  intro w xs ds r Q ok pa hf rq
  unfold bStr at hf
  split at hf
  · split at hf
    · rename_i h; cases hf
      obtain ⟨v, rfl, p⟩ := pkall1 pa
      rw [p.int]
      exact ⟨h, rq _ (.str _)⟩
    · cases hf
  · cases hf
    obtain ⟨v, rfl, p⟩ := pkall1 pa
    rw [p.str]
    exact rq _ (.str _)
  · cases hf
/-- min([..]), sum([..]) of ints -/
def minI : List Int → Option Int
  | [] => none
  | i :: is => some (is.foldl (fun a b => if b < a then b else a) i)
theorem foldl_min : ∀ (is : List Int) (i : Int), (∀ y ∈ i :: is, is.foldl (fun a b => if b < a then b else a) i ≤ y) ∧ is.foldl (fun a b => if b < a then b else a) i ∈ i :: is
  | [], i => by simp
  | j :: is, i => by
    rw [List.foldl_cons]
    by_cases c : j < i
    · rw [if_pos c]
      obtain ⟨h1, h2⟩ := foldl_min is j
      have hm := h1 j (List.mem_cons_self ..)
      refine ⟨fun y hy => ?_, List.mem_cons_of_mem _ h2⟩
      rcases List.mem_cons.mp hy with rfl | hy
      · omega
      · exact h1 y hy
    · rw [if_neg c]
      obtain ⟨h1, h2⟩ := foldl_min is i
      have hm := h1 i (List.mem_cons_self ..)
      refine ⟨fun y hy => ?_, ?_⟩
      · rcases List.mem_cons.mp hy with rfl | hy
        · exact hm
        · rcases List.mem_cons.mp hy with rfl | hy
          · omega
          · exact h1 y (List.mem_cons_of_mem _ hy)
      · rcases List.mem_cons.mp h2 with h | h
        · rw [h]; exact List.mem_cons_self ..
        · exact List.mem_cons_of_mem _ (List.mem_cons_of_mem _ h)
def bMinL : List D → Option Rs
  | [.list ds] => (ds.mapM asI).bind fun ns => (minI ns).map fun m => .v (.int m)
  | _ => none
def bSum : List D → Option Rs
  | [.list ds] => (ds.mapM asI).map fun ns => .v (.int ns.sum)
  | _ => none
theorem cs_MinL : CallS c (rMin c.K) bMinL := by
  intro w xs ds r Q ok pa hf rq
  unfold bMinL at hf
  split at hf
  · obtain ⟨ns, h1, h2⟩ := Option.bind_eq_some_iff.mp hf
    obtain ⟨m, h3, rfl⟩ := Option.map_eq_some_iff.mp h2
    obtain ⟨v, rfl, p⟩ := pkall1 pa
    obtain ⟨a, vs, rfl, h4, t⟩ := p.list ok
    have e := mapM_ints t h1
    subst e
    cases ns with
    | nil => cases h3
    | cons i is =>
      cases h3
      refine ⟨a, i :: is, rfl, .inl (.inl h4), by simp, fun m h5 h6 => ?_⟩
      obtain ⟨h7, h8⟩ := foldl_min is i
      have : m = is.foldl (fun a b => if b < a then b else a) i := Int.le_antisymm (h6 _ h8) (h7 m h5)
      rw [this]
      exact rq _ (.int _)
  · cases hf
theorem cs_Sum : CallS c (rSum c.K) bSum := by
  intro w xs ds r Q ok pa hf rq
  unfold bSum at hf
  split at hf
  · obtain ⟨ns, h1, rfl⟩ := Option.map_eq_some_iff.mp hf
    obtain ⟨v, rfl, p⟩ := pkall1 pa
    obtain ⟨a, vs, rfl, h4, t⟩ := p.list ok
    have e := mapM_ints t h1
    subst e
    exact ⟨a, ns, rfl, .inl (.inl h4), rq _ (.int _)⟩
  · cases hf
theorem sim_Fmt {ta : TE} {Ta : M Rs} (ha : Sim c E ta Ta) : Sim c E (tFmt ta) (TFmt Ta) := by
  intro w σ s out s' Q R1 e post
  rcases bnd_some e with ⟨x, s1, e1, e⟩ | ⟨x, e1, rfl⟩
  · refine ha w σ s _ s1 _ R1 e1 fun w1 v1 l1 R2 rv1 => ?_
    obtain ⟨d, p1, e⟩ := bnd_pk e
    obtain ⟨z, e3, e⟩ := bnd_opt e
    cases e
    have pk := peek_pk R2 rv1 p1
    unfold fmtD at e3
    split at e3
    · split at e3
      · rename_i hf
        cases e3
        exact .inl ⟨_, pk.str, fits_le hf, post w1 _ l1 R2 (.str _)⟩
      · cases e3
    · split at e3
      · rename_i hf
        cases e3
        exact .inr ⟨_, pk.int, hf, post w1 _ l1 R2 (.str _)⟩
      · cases e3
    · cases e3
  · exact ha w σ s _ s' _ R1 e1 fun w1 d l1 R2 xa => post w1 d l1 R2 xa
theorem sim_Js {ts : List TE} {Ts : List (M Rs)} (h : SimJ c E ts Ts) : ∀ acc : Str, Sim c E (tJn ts acc) (TJs Ts acc) := by
  induction h with
  | nil =>
    intro acc w σ s out s' Q R1 e post
    cases e
    exact post w _ Le.refl R1 (.str _)
  | @cons t T ts Ts ht r ih =>
    intro acc w σ s out s' Q R1 e post
    rcases bnd_some e with ⟨x, s1, e1, e⟩ | ⟨x, e1, rfl⟩
    · refine ht w σ s _ s1 _ R1 e1 fun w1 v1 l1 R2 rv1 => ?_
      obtain ⟨d, p1, e⟩ := bnd_pk e
      have pk := peek_pk R2 rv1 p1
      cases d with
      | str y =>
        have e : (if fits (acc ++ y).length = true then TJs Ts (acc ++ y) else fun _ => none) s1 = some (out, s') := e
        split at e
        · rename_i hf
          refine ⟨y, pk.str, fits_le hf, ih (acc ++ y) w1 σ s1 out s' Q R2 e ?_⟩
          cases out with
          | ok r => exact fun w2 v l2 R3 rv => post w2 v (l1.trans l2) R3 (rv.base l1)
          | ex x => exact fun w2 d l2 R3 xa => post w2 d (l1.trans l2) R3 xa
        · cases e
      | _ => cases e
    · exact ht w σ s _ s' _ R1 e1 fun w1 d l1 R2 xa => post w1 d l1 R2 xa
end
section
variable {X : Cx} {bd : List Stmt} {j : Nat} {E : XS}
/-- super().m() without arguments -/
theorem pet_super0 {p0 p1 apos pos : Pos} {m : Str} {pl : Sem Bool} {D : Addr} {ar : Arg} (sx : SupX X D ar) (hat : (m == ("__class__" : Str)) = false) (at_ : At X j E)
    (he : eval (.Call (.Attribute (.Call (.Name "super" p0) [] [] p1) m apos) [] [] pos) X.env = (do
      let ov ← attributeBase (.Call (.Name "super" p0) [] [] p1) m X.env (eval (.Call (.Name "super" p0) [] [] p1) X.env)
      standAt apos.atName
      let (f, first) ← holding [ov] (getMethod ov m pl)
      callWith pos f first (backTo pos (starEach [] X.env)) []) := by rfl) :
    PEt X bd (.Call (.Attribute (.Call (.Name "super" p0) [] [] p1) m apos) [] [] pos) (tSupA X.prog X.w X.K X.mg X.base D m j E tNil) := by
  obtain ⟨f, cda, cc, fd, vs, file, tf, oc, ccl, cl, od, cdd, cld, osl, ccs, csl, cdD, hfu, hco, hcl, hf, hp, hcode, hvs, hfile, hcell, hD⟩ := sx.ex
  refine ⟨fun pins s σ H Q I h => ?_⟩
  obtain ⟨a, C, dx, fs, f2, fd2, ps, k, sp, e0, ea, su, F, hk, hb, q⟩ := h
  have kin := I.kIn
  obtain ⟨mA, O, r, _, _, _⟩ := ins_get I.hok ea
  obtain ⟨oD, hD1, hD2⟩ : ∃ oD, s.heap.get? D = some oD ∧ oD.data = .cls cdD := by
    unfold PySem.W.clsIn at hD
    split at hD
    · rename_i c d cd' sl ho
      cases hD
      exact ⟨_, kin _ _ ho, rfl⟩
    · cases hD
  obtain ⟨oda, IA, _⟩ := O.look
  refine ks_wpAt_MethodCall (pl := pl) ?_ he
  refine ks_wpAt_super_base sx.hks sx.hkc hat hfu (kin _ _ hf) rfl hp hco (kin _ _ hcode) rfl hvs hfile sx.htop ?_
  obtain ⟨mb, h1, h2⟩ := I.mod.blt
  refine PySem.W.ks_loadName_global I.ok.kind sx.hks (Calls.loadGlobal_builtin (by rw [I.ok.glob]; exact I.mod.glob.keeps I.bk) sx.hsup (by rw [I.ok.blt]; exact h1.keeps I.bk) ((h2 _ (by decide)).trans (by decide +kernel : bootBuiltins "super" = some (.type "super"))) ⟨rfl, ?_⟩)
  refine wpAny_loadName_free I.ok.kind sx.hkc hcl ⟨_, kin _ _ hcell, rfl⟩ ?_
  obtain ⟨ml, hn, hl⟩ := I.loc
  obtain ⟨u, ru, l⟩ := hl 0 _ _ sx.hN e0 (.inl sx.hka)
  obtain rfl : u = Value.ref a := ru
  have ml1 : ml ar.arg = some (.ref a) := by
    rcases l with ⟨_, hm'⟩ | ⟨hk, _⟩
    · exact hm'
    · have hka' : X.env.kindOf ar.arg = some .local := sx.hka
      rw [hka'] at hk; rcases hk with hk | hk <;> cases hk
  refine wpAny_loadName_local I.ok.kind sx.hka hn ml1 ?_
  refine ks_wpAny_isType_cls hD1 hD2 ⟨rfl, ?_⟩
  refine ks_wpAny_call_super (h := s.heap) (g := s.gens) (d := s.drawn) (t := s.toks) (os := s.os) hD1 hD2 IA.at_ IA.cls (fun c e => ?_) (PySem.W.looks_mroIn kin su.sub) (fun h' e kp => ?_)
  · have := IA.no
    unfold PySem.W.notCls at this
    rw [e] at this
    exact Bool.noConfusion this
  have I1 : Inv X pins σ H { s with heap := h', toks := s.toks } := I.kept kp
  have kin1 : X.K.In h' := I1.kIn
  have hm := su.at_
  have ht := su.ty
  cases hc : PySem.W.clsIn X.K C with
  | none => unfold PySem.W.ks_superIn at hm; rw [hc] at hm; cases hm
  | some cd =>
    unfold PySem.W.ks_superIn at hm
    rw [hc] at hm
    obtain ⟨of, hof, hofc⟩ : ∃ of, h'.get? f2 = some of ∧ of.cls = .type "function" := by
      have ht' : (X.K.lookup f2).map (·.cls) = some (.type "function") := ht
      cases z : X.K.lookup f2 with
      | none => rw [z] at ht'; cases ht'
      | some of => rw [z] at ht'; exact ⟨of, kin1 _ _ z, Option.some.inj ht'⟩
    have xC : a ≠ C := PySem.W.ks_ne kin IA hc
    refine ks_wpAny_getMethod_super e (PySem.W.looks_opaque kin1 sx.ho) (l₀ := cd.mro) ?_ rfl kin1 hm hof hofc xC hat ?_
    · exact fun A Q E s k q => wpAny_bind ((PySem.W.looks_clsIn kin1 hc) A _ E s k (wpAny_pure q))
    have I2 : Inv X pins σ H { s with heap := h'.push (PySem.W.methodObj (.ref f2) (.ref a)), toks := s.toks + 1 } := I.kept fun b o z => Heap.get?_push_of_some _ (kp b o z)
    have hb2 : (h'.push (PySem.W.methodObj (.ref f2) (.ref a))).get? h'.objs.size = some (PySem.W.methodObj (.ref f2) (.ref a)) := Heap.get?_push_at rfl rfl
    refine PySem.W.callWith_M0 (K := X.K) (g := f2) (self := .ref a) ⟨hb2, I2.kIn⟩ su.fn ?_
    refine wpAny_call (ks_codeAny_call_bound hb2 ?_)
    have q : sp [.ref a] H Q (E σ) := q
    have bi := hb { s with heap := h'.push (PySem.W.methodObj (.ref f2) (.ref a)), toks := s.toks + 1 } [.ref a] I2.kIn (by have := F.len _ _ _ _ q; simpa using this)
    rw [List.append_nil] at bi
    refine codeAny_mono (F.run X.A X.stack _ H ⟨[.ref a], []⟩ [.ref a] [.ref a] Q (E σ) (at_.hr.mono hk) at_.qt I2.env0 bi (.cons rfl .nil) q) fun r t z => ?_
    have y := back_of I2 (at_.hx σ) z
    clear z
    match r, y with
    | .error _, y => exact y
    | .ok (.ret _), y => exact y
end
end Z
/-! == and != of lists of own instances that are equal pair by pair -/
namespace ZQ
open PySem PySem.SeqAt
open AutoSeq1 (wpAny_loadPart')
open MeetsSeq MeetsSeq2 MeetsSeq3 SeqRoads2
section
variable {P : Program} {wd : World} {B : Around} {R : Result → Shared → Prop}
/-- what each turn over two lists of M entries finds -/
def Turn (P : Program) (wd : World) (B : Around) (E : Value → Shared → Prop) (p q : Addr) (M : Nat) (J : Nat → Shared → Prop) : Prop :=
  ∀ j t, J j t → ∃ (us vs : Array Value) (m m2 : Nat), t.heap.get? p = some { cls := .type "list", data := .seq us m } ∧ t.heap.get? q = some { cls := .type "list", data := .seq vs m2 } ∧ us.size = M ∧ vs.size = M ∧
    ∀ (k1 : j < us.size) (k2 : j < vs.size), wpAny (model P wd) B.in1 (eqBool us[j] vs[j]) (fun r t' => r = true ∧ J (j + 1) t') E t
theorem loop_ne (p q : Addr) (M : Nat) (J : Nat → Shared → Prop) (tn : Turn P wd B (fun e t => R (.error e) t) p q M J) (last : ∀ t, J M t → R (.ok (.ret (.bool false))) t) (k : Nat) :
    ∀ j : Nat, M - j = k → j ≤ M → ∀ t, J j t → wpAny (model P wd) B.in1 (Builtin.«list.__eq__.loop» ⟨[.ref p, .ref q, rawInt j, rawInt 3], []⟩) (GQ.FinOf P wd B R) (fun e t => R (.error e) t) t := by
  induction k with
  | zero =>
    intro j hk hj t h
    obtain ⟨us, vs, m, m2, e1, e2, z1, z2, _⟩ := tn _ _ h
    obtain rfl : j = M := by omega
    have rr := last t h
    obtain ⟨a1, a2, a3, a4, a5⟩ := t
    wp_walk using wpAny_loadPart' e1, wpAny_loadPart' e2
    have n1 : us[((j : Nat) : Int).toNat]? = none := by simp; omega
    have n2 : vs[((j : Nat) : Int).toNat]? = none := by simp; omega
    rw [n1, n2]
    wp_walk using wpAny_loadPart' e1, wpAny_loadPart' e2
    show R (.ok (.ret (.bool (us.size != vs.size)))) _
    rw [z1, z2]
    simpa using rr
  | succ k ih =>
    intro j hk hj t h
    obtain ⟨us, vs, m, m2, e1, e2, z1, z2, one⟩ := tn _ _ h
    have j1 : j < us.size := by omega
    have j2 : j < vs.size := by omega
    have h1 := one j1 j2
    obtain ⟨a1, a2, a3, a4, a5⟩ := t
    wp_walk using wpAny_loadPart' e1, wpAny_loadPart' e2
    have n1 : us[((j : Nat) : Int).toNat]? = some us[j] := by simp [j1]
    have n2 : vs[((j : Nat) : Int).toNat]? = some vs[j] := by simp [j2]
    have nx : ((j : Int) + 1) = ((j + 1 : Nat) : Int) := by omega
    rw [n1, n2]
    refine wpAny_bind (wpAny_mono h1 (fun r t2 h2 => ?_) fun _ _ x => x)
    obtain ⟨rfl, h2⟩ := h2
    have rc0 := ih (j + 1) (by omega) (by omega) t2 h2
    obtain ⟨b1, b2, b3, b4, b5⟩ := t2
    wp_walk
    rw [nx]
    exact ⟨plainId_quiet plain_eq_loop _, codeAny_builtin entry_eq_loop (by rw [Around.under_plainId plain_eq_loop _]; exact rc0)⟩
theorem lists_ne (p q : Addr) (M : Nat) (J : Nat → Shared → Prop) (tn : Turn P wd B (fun e t => R (.error e) t) p q M J) (last : ∀ t, J M t → R (.ok (.ret (.bool false))) t) {t : Shared} (h : J 0 t) :
    wpAny (model P wd) B.in1 (Builtin.«list.__ne__» ⟨[.ref p, .ref q], []⟩) (GQ.FinOf P wd B R) (fun e t => R (.error e) t) t := by
  obtain ⟨us, vs, m, m2, e1, e2, z1, z2, _⟩ := tn _ _ h
  have rc0 := loop_ne (B := B) (R := R) p q M J tn last _ 0 rfl (Nat.zero_le _) t h
  obtain ⟨a1, a2, a3, a4, a5⟩ := t
  have same := AutoSeq1.sub_list_list
  have sz : ¬ (us.size != vs.size) = true := by simp [z1, z2]
  wp_walk using wpAny_loadPart' e1, wpAny_loadPart' e2
  exact ⟨plainId_quiet plain_eq_loop _, codeAny_builtin entry_eq_loop (by rw [Around.under_plainId plain_eq_loop _]; exact rc0)⟩
end
section
variable {P : Program} {wd : World} {B : Around} {E : Value → Shared → Prop} {t : Shared}
theorem rc_lists_ne {p q : Addr} {M : Nat} {Q : Value → Shared → Prop} (un : B.units < cLine) (J : Nat → Shared → Prop) (tn : Turn P wd B E p q M J) (last : ∀ t, J M t → Q (.bool false) t) (h : J 0 t) : wpAny (model P wd) B (richCompare .NotEq (.ref p) (.ref q)) Q E t := by
  obtain ⟨us, vs, m, m2, e1, e2, _, _, _⟩ := tn _ _ h
  refine wpAny_richCompare_same_room (op := .NotEq) ⟨_, e1, rfl⟩ ⟨_, e2, rfl⟩ F.slot_list_ne (GQ.call_here F.slot_list_ne ⟨_, e1, rfl⟩ F.entry_list_ne (F.args_list_ne_2 _ _) ?_) un
  exact lists_ne (R := wants (fun v t => v ≠ .notImplemented ∧ Q v t) E) p q M J tn (fun t z => ⟨(fun x => nomatch x), last t z⟩) h
end
end ZQ
namespace Z
open PySem PySem.Spec PyProof.Rows L2 U ClX
/-- somewhere below a running body, nothing being shown -/
structure Blw (X : Cx) (n : Nat) (B : Around) : Prop where
  room : Room n B
  fr : B.frames = X.A.frames
  qt : Quiet B
theorem Blw.in1 {X : Cx} {n : Nat} {B : Around} (h : Blw X (n + 1) B) : Blw X n B.in1 := ⟨h.room.in1, h.fr, h.qt⟩
/-- two entries: the same object, or instances of one class whose own == says True -/
def elEq (P : Program) (w : World) (K : PySem.W.Frag) (mg : Str → Option Value) (base : Heap) (j : Nat) (x y : V) (H : Hp) (Q : Hp → Prop) : Prop := ∃ (p q C dx dy : Addr) (fs gs : List (Str × V)) (k : Nat) (sp : Sp),
  x = .ref p ∧ y = .ref q ∧ H p = some (.ins C dx fs) ∧ H q = some (.ins C dy gs) ∧ Mth P w K mg base k C "__eq__" sp ∧ k ≤ j ∧ (p = q → Q H) ∧ (p ≠ q → sp [x, y] H (fun v G => v = .bl true ∧ Q G) fun _ _ _ => False)
/-- M entries of the lists at a and b, k turns are left -/
def lEq (P : Program) (w : World) (K : PySem.W.Frag) (mg : Str → Option Value) (base : Heap) (j : Nat) (a b : Addr) (M : Nat) : Nat → Hp → (Hp → Prop) → Prop
  | 0, H, Q => ∃ xs ys, H a = some (.lst xs) ∧ H b = some (.lst ys) ∧ xs.length = M ∧ ys.length = M ∧ Q H
  | k + 1, H, Q => ∃ xs ys x y, H a = some (.lst xs) ∧ H b = some (.lst ys) ∧ xs.length = M ∧ ys.length = M ∧ xs[M - (k + 1)]? = some x ∧ ys[M - (k + 1)]? = some y ∧ elEq P w K mg base j x y H fun G => lEq P w K mg base j a b M k G Q
/-- == (neg: !=) of two lists whose entries are equal by their own == -/
def rOwn (P : Program) (w : World) (K : PySem.W.Frag) (mg : Str → Option Value) (base : Heap) (j : Nat) (neg : Bool) : R2 := fun x y H Q => ∃ a b M, x = .ref a ∧ y = .ref b ∧ lEq P w K mg base j a b M M H fun G => Q (.bl (!neg)) G
section
variable {X : Cx} {j : Nat}
theorem rc_el {B : Around} {pins : List (Addr × Obj)} {s : Shared} {σ : L2.St} {H : Hp} {x y : V} {u v : Value} {Q : Hp → Prop} (sb : Blw X j B) (I : Inv X pins σ H s) (rx : RelV x u) (ry : RelV y v) (d : elEq X.prog X.w X.K X.mg X.base j x y H Q) :
    wpAny (model X.prog X.w) B (eqBool u v) (fun r t => r = true ∧ ∃ G, Inv X pins σ G t ∧ Q G) X.xe s := by
  obtain ⟨p, q, C, dx, dy, fs, gs, k, sp, rfl, rfl, hp, hq, em, kj, q1, q2⟩ := d
  cases rx
  cases ry
  by_cases e : p = q
  · subst e
    exact SeqAt.EqAt.same (A := B) (s := s) (.ref p) X.prog X.w X.xe _ ⟨rfl, H, I, q1 rfl⟩
  · have want := q2 e
    clear q1 q2
    obtain ⟨f, fd, ps, _, hm, F, hb⟩ := em.ex
    obtain ⟨_, O1, _⟩ := ins_get I.hok hp
    obtain ⟨_, O2, _⟩ := ins_get I.hok hq
    obtain ⟨_, O1, _⟩ := O1.look
    obtain ⟨_, O2, _⟩ := O2.look
    obtain ⟨_, hF⟩ := I.fr
    refine GQ.eqBool_refG e (PySem.W.cmp_K (op := .Eq) (tb := .ref C) sb.room.units0 hF I.ok.mod.kin O1 O2.type (by simp [PySem.W.notFirst]) hm.at_ hm.fn ?_)
    have g0 := I.env0
    have env : Env0 X.prog X.w X.K X.mg X.base B X.stack s H := ⟨by rw [sb.fr]; exact g0.frames, g0.mod, g0.bs, g0.bsz, g0.funs, g0.frf, g0.hok, g0.bare⟩
    have ln := F.len _ _ _ _ want
    have vals : Vals [V.ref p, V.ref q] [Value.ref p, Value.ref q] := .cons rfl (.cons rfl .nil)
    have bi := hb s [.ref p, .ref q] I.kIn (by simpa using ln)
    rw [List.append_nil] at bi
    refine wpAny_call (codeAny_mono (F.run B X.stack s H ⟨[.ref p, .ref q], []⟩ [.ref p, .ref q] [.ref p, .ref q] _ _ (sb.room.mono kj) sb.qt env bi vals want) fun r t z => ?_)
    match r, z with
    | .error _, z => obtain ⟨_, _, _, _, _, _, _, _, _, _, _, _, h⟩ := z; exact h.elim
    | .ok (.ret _), z =>
      obtain ⟨v, G, I2, rv, rfl, q3⟩ := I.after z
      cases rv
      exact ⟨true, rfl, rfl, G, I2, q3⟩
theorem turn_own {B : Around} {pins : List (Addr × Obj)} {σ : L2.St} {a b : Addr} {M : Nat} {Q : Hp → Prop} (sb : Blw X (j + 1) B) :
    ZQ.Turn X.prog X.w B X.xe a b M (fun i t => ∃ G k, Inv X pins σ G t ∧ i + k = M ∧ lEq X.prog X.w X.K X.mg X.base j a b M k G Q) := by
  rintro i t ⟨G, k, I, hk, h⟩
  have look : ∀ xs ys : List V, G a = some (.lst xs) → G b = some (.lst ys) → xs.length = M → ys.length = M → ∃ (us vs : List Value) (m m2 : Nat), t.heap.get? a = some { cls := .type "list", data := .seq us.toArray m } ∧ t.heap.get? b = some { cls := .type "list", data := .seq vs.toArray m2 } ∧ us.length = M ∧ vs.length = M ∧ Vals xs us ∧ Vals ys vs := by
    intro xs ys ha hb lx ly
    obtain ⟨_, us, m, r1, e1⟩ := I.hok a _ ha
    obtain ⟨_, vs, m2, r2, e2⟩ := I.hok b _ hb
    exact ⟨us, vs, m, m2, e1, e2, r1.length.symm.trans lx, r2.length.symm.trans ly, r1, r2⟩
  cases k with
  | zero =>
    obtain ⟨xs, ys, ha, hb, lx, ly, _⟩ := h
    obtain ⟨us, vs, m, m2, e1, e2, z1, z2, _, _⟩ := look xs ys ha hb lx ly
    exact ⟨us.toArray, vs.toArray, m, m2, e1, e2, by simpa using z1, by simpa using z2, fun k1 _ => absurd k1 (by rw [List.size_toArray]; omega)⟩
  | succ k =>
    obtain ⟨xs, ys, x, y, ha, hb, lx, ly, hx, hy, h⟩ := h
    obtain ⟨us, vs, m, m2, e1, e2, z1, z2, r1, r2⟩ := look xs ys ha hb lx ly
    refine ⟨us.toArray, vs.toArray, m, m2, e1, e2, by simpa using z1, by simpa using z2, fun k1 k2 => ?_⟩
    have ie : M - (k + 1) = i := by omega
    rw [ie] at hx hy
    obtain ⟨u, hu, ru⟩ := r1.get hx
    obtain ⟨v, hv, rv⟩ := r2.get hy
    have eu : us.toArray[i] = u := by
      have : i < us.length := by simpa using k1
      rw [List.getElem?_eq_getElem this] at hu
      simpa using hu
    have ev : vs.toArray[i] = v := by
      have : i < vs.length := by simpa using k2
      rw [List.getElem?_eq_getElem this] at hv
      simpa using hv
    rw [eu, ev]
    exact wpAny_mono (rc_el sb.in1 I ru rv h) (fun r t2 ⟨hr, G2, I2, h2⟩ => ⟨hr, G2, k, I2, by omega, h2⟩) fun _ _ z => z
theorem last_own {pins : List (Addr × Obj)} {σ : L2.St} {a b : Addr} {M : Nat} {Q : Hp → Prop} {t : Shared} (h : ∃ G k, Inv X pins σ G t ∧ M + k = M ∧ lEq X.prog X.w X.K X.mg X.base j a b M k G Q) : ∃ G, Inv X pins σ G t ∧ Q G := by
  obtain ⟨G, k, I, hk, h⟩ := h
  obtain rfl : k = 0 := by omega
  obtain ⟨_, _, _, _, _, _, q⟩ := h
  exact ⟨G, I, q⟩
theorem op_ownE {E : XS} (at_ : At X (j + 1) E) : OpR X (compareOp .Eq) (rOwn X.prog X.w X.K X.mg X.base j false) := by
  intro pins s σ H x y v u Q I rx ry hq
  obtain ⟨a, b, M, rfl, rfl, h⟩ := hq
  cases rx
  cases ry
  have sb : Blw X (j + 1) X.A := ⟨at_.hr, rfl, at_.qt⟩
  show wpAny (model X.prog X.w) X.A (richCompare .Eq (.ref a) (.ref b)) (EP X pins σ Q) X.xe s
  refine GQ.rc_listG (N := M) sb.room.units0 _ (turn_own (σ := σ) (pins := pins) (Q := fun G => Q (.bl (!false)) G) sb) (fun t z => ?_) ⟨H, M, I, Nat.zero_add _, h⟩
  obtain ⟨G, I2, q⟩ := last_own z
  exact ⟨.bl true, G, I2, rfl, q⟩
theorem op_ownN {E : XS} (at_ : At X (j + 1) E) : OpR X (compareOp .NotEq) (rOwn X.prog X.w X.K X.mg X.base j true) := by
  intro pins s σ H x y v u Q I rx ry hq
  obtain ⟨a, b, M, rfl, rfl, h⟩ := hq
  cases rx
  cases ry
  have sb : Blw X (j + 1) X.A := ⟨at_.hr, rfl, at_.qt⟩
  show wpAny (model X.prog X.w) X.A (richCompare .NotEq (.ref a) (.ref b)) (EP X pins σ Q) X.xe s
  refine ZQ.rc_lists_ne (M := M) sb.room.units0 _ (turn_own (σ := σ) (pins := pins) (Q := fun G => Q (.bl (!true)) G) sb) (fun t z => ?_) ⟨H, M, I, Nat.zero_add _, h⟩
  obtain ⟨G, I2, q⟩ := last_own z
  exact ⟨.bl false, G, I2, rfl, q⟩
end
end Z
/-! == and != of lists of own instances, on trees: the own == of each pair says True and leaves the store as it is -/
namespace Z
open PySem PySem.Spec PyProof.Rows L2 U ClX
noncomputable section
def eqPair (tab : Nat → Option FT) (d e : D) (s : S) : Prop := ∃ k fs gs F, peek s (.v d) = some (.obj k fs) ∧ peek s (.v e) = some (.obj k gs) ∧ tab k = some F ∧ F [d, e] s.μ = some (.ok (.v (.bl true)), s.μ)
/-- all pairs of two lists of trees -/
def eqAll (tab : Nat → Option FT) (ds es : List D) (s : S) : Prop := ds.length = es.length ∧ ∀ (i : Nat) (d e : D), ds[i]? = some d → es[i]? = some e → eqPair tab d e s
def TEqO (neg : Bool) (tab : Nat → Option FT) (a b : M Rs) : M Rs := bnd a fun x => bnd b fun y => bnd (pk x) fun d => bnd (pk y) fun e => fun s => match d, e with
  | .list ds, .list es => @ite _ (eqAll tab ds es s) (Classical.propDecidable _) (some (.ok (.v (.bl (!neg))), s)) none
  | _, _ => none
section
variable {c : Cz} {E : XS} {P : Program} {wl : World} {mg : Str → Option Value} {base : Heap} {j : Nat}
theorem pair_ok {tab : Nat → Option FT} {w : Wd} {σ : L2.St} {s : S} {x y : V} {d e : D} {Q : Hp → Prop} (ht : ∀ k F, tab k = some F → ∃ lv, lv ≤ j ∧ Mth P wl c.K mg base lv (c.cad k) "__eq__" (spF c F)) (R1 : R c w σ s) (t1 : Tr c w.ρ w.F x d) (t2 : Tr c w.ρ w.F y e)
    (h : eqPair tab d e s) (q : ∀ w', Le w w' → R c w' σ s → Q w'.H) : elEq P wl c.K mg base j x y w.H Q := by
  obtain ⟨k, fs, gs, F, p1, p2, e1, e2⟩ := h
  obtain ⟨p, dx, vs, rfl, hp, _⟩ := (peekv_pk R1 t1 p1).obj R1.ok
  obtain ⟨p', dy, us, rfl, hq, _⟩ := (peekv_pk R1 t2 p2).obj R1.ok
  obtain ⟨lv, hl, m⟩ := ht k F e1
  refine ⟨p, p', c.cad k, dx, dy, vs, us, lv, _, rfl, rfl, hp, hq, m, hl, fun _ => q w Le.refl R1, fun _ => ?_⟩
  have cl : call F [d, e] s = some (.ok (.v (.bl true)), s) := by
    unfold call
    rw [e2]
  exact call_ok (E := fun _ _ _ _ => False) (w0 := w) R1 Le.refl (.cons t1 (.cons t2 .nil)) cl fun w' v l R2 rv => by
    have rv : Tr c w'.ρ w'.F v (.bl true) := rv
    cases rv
    exact ⟨rfl, q w' l R2⟩
theorem turns_ok {tab : Nat → Option FT} {σ : L2.St} {s : S} {x y : Rs} {a b : Addr} {ds es : List D} {Q : Hp → Prop} (ht : ∀ k F, tab k = some F → ∃ lv, lv ≤ j ∧ Mth P wl c.K mg base lv (c.cad k) "__eq__" (spF c F)) (hx : peek s x = some (.list ds)) (hy : peek s y = some (.list es)) (h : eqAll tab ds es s) {w0 : Wd} :
    ∀ (k : Nat) (w : Wd), k ≤ ds.length → R c w σ s → Rv c w0 w σ (.ref a) x → Rv c w0 w σ (.ref b) y → (∀ w', Le w w' → R c w' σ s → Q w'.H) → lEq P wl c.K mg base j a b ds.length k w.H Q
  | 0, w, hk, R1, r1, r2, q => by
    obtain ⟨_, xs, e1, h1, t1⟩ := (peek_pk R1 r1 hx).list R1.ok
    obtain ⟨_, ys, e2, h2, t2⟩ := (peek_pk R1 r2 hy).list R1.ok
    cases e1; cases e2
    exact ⟨xs, ys, h1, h2, trall_len t1, (trall_len t2).trans h.1.symm, q w Le.refl R1⟩
  | k + 1, w, hk, R1, r1, r2, q => by
    obtain ⟨_, xs, e1, h1, t1⟩ := (peek_pk R1 r1 hx).list R1.ok
    obtain ⟨_, ys, e2, h2, t2⟩ := (peek_pk R1 r2 hy).list R1.ok
    cases e1; cases e2
    have l1 := trall_len t1
    have l2 := (trall_len t2).trans h.1.symm
    have i1 : ds.length - (k + 1) < ds.length := by omega
    have g1 : xs[ds.length - (k + 1)]? = some (xs[ds.length - (k + 1)]'(by omega)) := List.getElem?_eq_getElem _
    have g2 : ys[ds.length - (k + 1)]? = some (ys[ds.length - (k + 1)]'(by omega)) := List.getElem?_eq_getElem _
    have d1 : ds[ds.length - (k + 1)]? = some (ds[ds.length - (k + 1)]'i1) := List.getElem?_eq_getElem _
    have d2 : es[ds.length - (k + 1)]? = some (es[ds.length - (k + 1)]'(by rw [← h.1]; exact i1)) := List.getElem?_eq_getElem _
    refine ⟨xs, ys, _, _, h1, h2, l1, l2, g1, g2, pair_ok ht R1 (trall_get t1 g1 d1) (trall_get t2 g2 d2) (h.2 _ _ _ d1 d2) fun w' l R2 => ?_⟩
    exact turns_ok ht hx hy h k w' (by omega) R2 (r1.mono l) (r2.mono l) fun w'' l2 R3 => q w'' (l.trans l2) R3
theorem sim_EqO {neg : Bool} {tab : Nat → Option FT} {ta tb : TE} {Ta Tb : M Rs} (ht : ∀ k F, tab k = some F → ∃ lv, lv ≤ j ∧ Mth P wl c.K mg base lv (c.cad k) "__eq__" (spF c F)) (ha : Sim c E ta Ta) (hb : Sim c E tb Tb) : Sim c E (tOp (rOwn P wl c.K mg base j neg) ta tb) (TEqO neg tab Ta Tb) := by
  intro w σ s out s' Q R1 e post
  rcases bnd_some e with ⟨x, s1, e1, e⟩ | ⟨x, e1, rfl⟩
  · refine ha w σ s _ s1 _ R1 e1 fun w1 v1 l1 R2 rv1 => ?_
    rcases bnd_some e with ⟨y, s2, e2, e⟩ | ⟨x', e2, rfl⟩
    · refine hb w1 σ s1 _ s2 _ R2 e2 fun w2 v2 l2 R3 rv2 => ?_
      obtain ⟨d, p1, e⟩ := bnd_pk e
      obtain ⟨d2, p2, e⟩ := bnd_pk e
      cases d with
      | list ds =>
        cases d2 with
        | list es =>
          have e : @ite _ (eqAll tab ds es s2) (Classical.propDecidable _) (some (.ok (Rs.v (.bl (!neg))), s2)) none = some (out, s') := e
          by_cases h : eqAll tab ds es s2
          · rw [if_pos h] at e
            cases e
            have r1 := rv1.mono l2
            obtain ⟨a, xs, rfl, _, _⟩ := (peek_pk R3 r1 p1).list R3.ok
            obtain ⟨b, ys, rfl, _, _⟩ := (peek_pk R3 rv2 p2).list R3.ok
            exact ⟨a, b, ds.length, rfl, rfl, turns_ok (w0 := w) ht p1 p2 h ds.length w2 (Nat.le_refl _) R3 r1 (rv2.base l1) fun w' l R4 => post w' _ ((l1.trans l2).trans l) R4 (.bl _)⟩
          · rw [if_neg h] at e; cases e
        | _ => cases e
      | _ => cases e
    · exact hb w1 σ s1 _ s' _ R2 e2 fun w2 d l2 R3 xa => post w2 d (l1.trans l2) R3 xa
  · exact ha w σ s _ s' _ R1 e1 fun w1 d l1 R2 xa => post w1 d l1 R2 xa
end
end
end Z
/-! loops and comprehensions over a list that may stand in the store: at each turn it is the list that it was -/
namespace Z
open PySem PySem.Spec PyProof.Rows L2 U ClX
noncomputable section
def forC (G : GD) (T : TSd) (chk : S → Prop) : List D → TSd
  | [], s => @ite _ (chk s) (Classical.propDecidable _) (some (.nx, s)) none
  | d :: ds, s => @ite _ (chk s) (Classical.propDecidable _) (match G d s with
    | none => none
    | some s1 => match T s1 with
      | some (.nx, s2) => forC G T chk ds s2
      | some (.ct, s2) => forC G T chk ds s2
      | some (.bk, s2) => some (.nx, s2)
      | some (.rt r, s2) => some (.rt r, s2)
      | some (.ex x, s2) => some (.ex x, s2)
      | none => none) none
def TForC (I : M (List D × (S → Prop))) (G : GD) (T : TSd) : TSd := sb I fun p => forC G T p.2 p.1
def lcC (G : GD) (B : M Bool) (T : M Rs) (vs : List Nat) (chk : S → Prop) : List D → List D → M (List D)
  | [], acc, s => @ite _ (chk s) (Classical.propDecidable _) (some (.ok acc, s)) none
  | d :: ds, acc, s => @ite _ (chk s) (Classical.propDecidable _) (match G d s with
    | none => none
    | some s1 => match B s1 with
      | some (.ok true, s2) => (match bnd T stab s2 with
        | some (.ok e, s3) => lcC G B T vs chk ds (acc ++ [e]) { s3 with env := wipeE vs s3.env }
        | _ => none)
      | some (.ok false, s2) => lcC G B T vs chk ds acc { s2 with env := wipeE vs s2.env }
      | _ => none) none
def TLcC (I : M (List D × (S → Prop))) (G : GD) (B : M Bool) (T : M Rs) (vs : List Nat) : M Rs := bnd I fun p s => if fits p.1.length = true then (match lcC G B T vs p.2 p.1 [] { s with env := wipeE vs s.env } with
  | some (.ok es, s2) => some (.ok (.fr (.list es)), { s2 with env := restE vs s.env s2.env })
  | _ => none) else none
def dcC (G : GD) (B : M Bool) (T U : M Rs) (vs : List Nat) (chk : S → Prop) : List D → List (Key × D) → M (List (Key × D))
  | [], acc, s => @ite _ (chk s) (Classical.propDecidable _) (some (.ok acc, s)) none
  | d :: ds, acc, s => @ite _ (chk s) (Classical.propDecidable _) (match G d s with
    | none => none
    | some s1 => match B s1 with
      | some (.ok true, s2) => (match bnd T stab s2 with
        | some (.ok k, s3) => (match toKey k with
          | some k => (match bnd U stab s3 with
            | some (.ok e, s4) => dcC G B T U vs chk ds (putD acc k e) { s4 with env := wipeE vs s4.env }
            | _ => none)
          | none => none)
        | _ => none)
      | some (.ok false, s2) => dcC G B T U vs chk ds acc { s2 with env := wipeE vs s2.env }
      | _ => none) none
def TDcC (I : M (List D × (S → Prop))) (G : GD) (B : M Bool) (T U : M Rs) (vs : List Nat) : M Rs := bnd I fun p s => if fits p.1.length = true then (match dcC G B T U vs p.2 p.1 [] { s with env := wipeE vs s.env } with
  | some (.ok es, s2) => some (.ok (.fr (.dict es)), { s2 with env := restE vs s.env s2.env })
  | _ => none) else none
/-- d is the list ds now -/
def chkD (d : D) (ds : List D) : S → Prop := fun s => (peek s (.v d)).bind itemsL = some ds
def listC (d : D) : M (List D × (S → Prop)) := fun s => match (peek s (.v d)).bind itemsL with
  | some ds => some (.ok (ds, chkD d ds), s)
  | none => none
def ILstC (T : M Rs) : M (List D × (S → Prop)) := bnd T fun r => bnd (stab r) fun d => listC d
def enC : List D → M (List D × (S → Prop))
  | [d] => bnd (listC d) fun p => ret (enumD p.1, p.2)
  | _ => fun _ => none
def IEnumC (T : M (List D)) : M (List D × (S → Prop)) := bnd T enC
theorem ifC_some {β : Type} {p : Prop} {a : Option β} {b : β} (h : @ite _ p (Classical.propDecidable _) a none = some b) : p := by
  by_cases hp : p
  · exact hp
  · rw [if_neg hp] at h; cases h
section
variable (c : Cz)
structure GoesC (w : Wd) (J : It) (ds : List D) (chk : S → Prop) : Prop where
  go : ∀ w2 σ s i, Le w w2 → R c w2 σ s → chk s → i < ds.length → J.go i w2.H
  stop : ∀ w2 σ s, Le w w2 → R c w2 σ s → chk s → J.stop ds.length w2.H
  yld : ∀ w2 σ s i d x H', Le w w2 → R c w2 σ s → chk s → ds[i]? = some d → J.yld i w2.H x H' → ∃ w3, w3.H = H' ∧ Le w2 w3 ∧ (∀ σ s, R c w2 σ s → R c w3 σ s) ∧ Tr c w3.ρ w3.F x d
def PostIC (w : Wd) (σ : L2.St) (s' : S) (Q : It → Hp → Prop) (E : XS) : Rz (List D × (S → Prop)) → Prop
  | .ok p => ∀ w' J, Le w w' → R c w' σ s' → GoesC c w' J p.1 p.2 → Q J w'.H
  | .ex x => ∀ w' d, Le w w' → R c w' σ s' → Xa c w' d x → E σ (.ref (c.cad x.c)) d w'.H
def SimIC (E : XS) (t : TI) (T : M (List D × (S → Prop))) : Prop := ∀ w σ s out s' Q, R c w σ s → T s = some (out, s') → PostIC c w σ s' Q E out → t σ w.H Q
end
section
variable {c : Cz} {E : XS} {w w0 w1 w2 : Wd} {σ : L2.St} {s s' s2 : S}
theorem list_now {v : V} {d : D} {ds : List D} (R1 : R c w σ s) (t : Tr c w.ρ w.F v d) (h : chkD d ds s) : ∃ a vs, v = .ref a ∧ SqL c.K w.H a vs ∧ TrAll c w.ρ w.F vs ds := by
  unfold chkD at h
  obtain ⟨x, e1, e2⟩ := Option.bind_eq_some_iff.mp h
  have pk := peekv_pk R1 t e1
  cases x with
  | list xs => cases e2; obtain ⟨a, vs, rfl, h1, h2⟩ := pk.list R1.ok; exact ⟨a, vs, rfl, .inl (.inl h1), h2⟩
  | scr xs => cases e2; exact pk.scr R1.ok
  | _ => cases e2
theorem goesC_list {a : Addr} {d : D} {ds : List D} (t : Tr c w.ρ w.F (.ref a) d) : GoesC c w (Itl c.K a) ds (chkD d ds) where
  go := fun w2 σ s i l R2 ck hi => by
    obtain ⟨_, vs, e, h1, h2⟩ := list_now R2 (t.mono l.pr l.fz) ck
    cases e
    have hl := trall_len h2
    exact ⟨vs, vs[i], h1, by simp [show i < vs.length by omega]⟩
  stop := fun w2 σ s l R2 ck => by
    obtain ⟨_, vs, e, h1, h2⟩ := list_now R2 (t.mono l.pr l.fz) ck
    cases e
    exact ⟨vs, h1, by rw [trall_len h2]; exact Nat.le_refl _⟩
  yld := fun w2 σ s i d x H' l R2 ck hd y => by
    obtain ⟨rfl, y⟩ := y
    obtain ⟨_, vs, e, h1, h2⟩ := list_now R2 (t.mono l.pr l.fz) ck
    cases e
    exact ⟨w2, rfl, Le.refl, fun _ _ h => h, trall_get h2 (y vs h1) hd⟩
theorem goesC_enum {a : Addr} {d : D} {ds : List D} (t : Tr c w.ρ w.F (.ref a) d) : GoesC c w (Ite c.K a) (enumD ds) (chkD d ds) where
  go := fun w2 σ s i l R2 ck hi => by
    obtain ⟨_, vs, e, h1, h2⟩ := list_now R2 (t.mono l.pr l.fz) ck
    cases e
    have hl := trall_len h2
    have hi : i < ds.length := by simpa [enumD] using hi
    exact ⟨vs, vs[i], h1, by simp [show i < vs.length by omega]⟩
  stop := fun w2 σ s l R2 ck => by
    obtain ⟨_, vs, e, h1, h2⟩ := list_now R2 (t.mono l.pr l.fz) ck
    cases e
    exact ⟨vs, h1, by rw [trall_len h2]; simp [enumD]⟩
  yld := fun w2 σ s i d x H' l R2 ck hd y => by
    obtain ⟨T, v, rfl, hn, rfl, y⟩ := y
    obtain ⟨_, vs, e, h1, h2⟩ := list_now R2 (t.mono l.pr l.fz) ck
    cases e
    have hv := y vs h1
    unfold enumD at hd
    rw [List.getElem?_mapIdx] at hd
    cases e : ds[i]? with
    | none => rw [e] at hd; cases hd
    | some u =>
      rw [e] at hd
      cases hd
      obtain ⟨w3, h3, l3, r3, sm, ht, hρ⟩ := new_keep (c := c) (o := .tup [.int (i : Nat), v]) R2.ok hn
      exact ⟨w3, h3, l3, r3, .tup (.inl (.inl ht)) (.cons (.int _) (.cons ((trall_get h2 hv e).mono l3.pr l3.fz) .nil))⟩
theorem sim_IEnumC {t : TA} {T : M (List D)} (ht : SimA c E t T) : SimIC c E (iEnum c.K t) (IEnumC T) := by
  intro w σ s out s' Q R1 e post
  rcases bnd_some e with ⟨r, s1, e1, e⟩ | ⟨x, e1, rfl⟩
  · refine ht w σ s _ s1 _ R1 e1 fun w1 vs l1 R2 ta => ?_
    unfold enC at e
    split at e
    · rename_i d
      obtain ⟨v, rfl, tv⟩ := trall1 ta
      rcases bnd_some e with ⟨p, s2, e2, e⟩ | ⟨x, e2, rfl⟩
      · unfold listC at e2
        cases hp : (peek s1 (.v d)).bind itemsL with
        | none => simp only [hp] at e2; cases e2
        | some ds =>
          simp only [hp] at e2
          cases e2
          cases e
          obtain ⟨a, us, rfl, hs, tu⟩ := list_now R2 tv hp
          exact ⟨a, us, rfl, hs, post w1 _ l1 R2 (goesC_enum tv)⟩
      · unfold listC at e2
        cases hp : (peek s1 (.v d)).bind itemsL with
        | none => simp only [hp] at e2; cases e2
        | some ds => simp only [hp] at e2; cases e2
    · cases e
  · exact ht w σ s _ _ _ R1 e1 fun w1 d l1 R2 xa => post w1 d l1 R2 xa
theorem sim_ILstC {t : TE} {T : M Rs} (ht : Sim c E t T) : SimIC c E (iList c.K t) (ILstC T) := by
  intro w σ s out s' Q R1 e post
  rcases bnd_some e with ⟨r, s1, e1, e⟩ | ⟨x, e1, rfl⟩
  · refine ht w σ s _ s1 _ R1 e1 fun w1 v l1 R2 rv => ?_
    rcases bnd_some e with ⟨d, s2, e2, e⟩ | ⟨x, e2, rfl⟩
    · obtain ⟨w2, l2, eh, R3, tr⟩ := stab_ok R2 l1 rv e2
      unfold listC at e
      cases hp : (peek s2 (.v d)).bind itemsL with
      | none => simp only [hp] at e; cases e
      | some ds =>
        simp only [hp] at e
        cases e
        obtain ⟨a, vs, rfl, hs, ta⟩ := list_now R3 tr hp
        rw [← eh]
        exact ⟨a, rfl, ⟨vs, hs⟩, post w2 _ l2 R3 (goesC_list tr)⟩
    · exact (stab_not_ex e2).elim
  · exact ht w σ s _ _ _ R1 e1 fun w1 d l1 R2 xa => post w1 d l1 R2 xa
theorem sim_ForC {i : TI} {I : M (List D × (S → Prop))} {ix : List Nat} {g : TG} {G : GD} {t : TS} {T : TSd} (hi : SimIC c E i I) (hg : SimG c ix g G) (ht : SimS c E t T) : SimS c E (tFor i g t) (TForC I G T) := by
  intro w σ s fl s' D R1 e post
  rcases sb_some e with ⟨⟨ds, chk⟩, s1, e1, e⟩ | ⟨x, e1, rfl⟩
  · refine hi w σ s _ s1 _ R1 e1 fun w1 J l1 R2 gs => ?_
    refine ⟨fun k m σ2 H2 => m = ds.length - k ∧ k ≤ ds.length ∧ ∃ w2 s2, Le w1 w2 ∧ R c w2 σ2 s2 ∧ w2.H = H2 ∧ forC G T chk (ds.drop k) s2 = some (fl, s'), ⟨ds.length, by simp, Nat.zero_le _, w1, s1, Le.refl, R2, rfl, by simpa using e⟩, ?_⟩
    rintro k m σ2 H2 ⟨rfl, hk, w2, s2, l2, R3, rfl, e2⟩
    have ck : chk s2 := by
      cases hd : ds.drop k with
      | nil => rw [hd] at e2; exact ifC_some e2
      | cons x xs => rw [hd] at e2; exact ifC_some e2
    by_cases hlt : k < ds.length
    · refine .inr ⟨gs.go w2 _ _ k l2 R3 ck hlt, fun σ' H' => k + 1 ≤ ds.length ∧ ∃ w3 s3, Le w1 w3 ∧ R c w3 σ' s3 ∧ w3.H = H' ∧ forC G T chk (ds.drop (k + 1)) s3 = some (fl, s'), fun σ' H' ⟨h1, h2⟩ => ⟨ds.length - (k + 1), by omega, rfl, h1, h2⟩, fun x H' y => ?_⟩
      obtain ⟨w3, rfl, l3, r3, tx⟩ := gs.yld w2 _ _ k ds[k] x H' l2 R3 ck (List.getElem?_eq_getElem hlt) y
      have R4 := r3 _ _ R3
      rw [List.drop_eq_getElem_cons hlt] at e2
      unfold forC at e2
      rw [if_pos ck] at e2
      split at e2
      · cases e2
      · rename_i s3 e3
        refine hg w3 σ2 s2 x _ s3 _ R4 tx e3 fun σ3 R5 _ => ?_
        have l13 := l2.trans l3
        have lw3 := l1.trans l13
        split at e2
        · rename_i s4 e4
          exact ht w3 σ3 s3 _ s4 _ R5 e4 fun w4 σ4 l4 R6 => ⟨hlt, w4, s4, l13.trans l4, R6, rfl, e2⟩
        · rename_i s4 e4
          exact ht w3 σ3 s3 _ s4 _ R5 e4 fun w4 σ4 l4 R6 => ⟨hlt, w4, s4, l13.trans l4, R6, rfl, e2⟩
        · rename_i s4 e4
          cases e2
          exact ht w3 σ3 s3 _ _ _ R5 e4 fun w4 σ4 l4 R6 => post w4 σ4 (lw3.trans l4) R6
        · rename_i r s4 e4
          cases e2
          exact ht w3 σ3 s3 _ _ _ R5 e4 fun w4 σ4 v l4 R6 rv => post w4 σ4 v (lw3.trans l4) R6 (rv.base lw3)
        · rename_i r s4 e4
          cases e2
          exact ht w3 σ3 s3 _ _ _ R5 e4 fun w4 σ4 d l4 R6 xa => post w4 σ4 d (lw3.trans l4) R6 xa
        · cases e2
    · obtain rfl : k = ds.length := by omega
      rw [List.drop_length] at e2
      unfold forC at e2
      rw [if_pos ck] at e2
      cases e2
      exact .inl ⟨gs.stop w2 _ _ l2 R3 ck, post w2 σ2 (l1.trans l2) R3⟩
  · exact hi w σ s _ _ _ R1 e1 fun w1 d l1 R2 xa => post w1 σ d l1 R2 xa
theorem sim_LcC {i : TI} {I : M (List D × (S → Prop))} {ix vs : List Nat} {g : TG} {G : GD} {b : TT} {B : M Bool} {t : TE} {T : M Rs} (hix : ix.all (vs.contains ·) = true) (hi : SimIC c E i I) (hg : SimG c ix g G) (hb : SimT c E0s b B) (ht : Sim c E0s t T) : Sim c E (tLc i g b t vs) (TLcC I G B T vs) := by
  have hix : ∀ i ∈ ix, i ∈ vs := fun i hi => by simpa using List.all_eq_true.mp hix i hi
  intro w σ s out s' Q R1 e post
  rcases bnd_some e with ⟨⟨ds, chk⟩, s1, e1, e⟩ | ⟨x, e1, rfl⟩
  · refine hi w σ s _ s1 _ R1 e1 fun w1 J l1 R2 gs => ?_
    by_cases hf : fits ds.length = true
    · rw [if_pos hf] at e
      split at e
      · rename_i es s2 e2
        cases e
        intro Dd hD
        refine ⟨fun k m H => m = ds.length - k ∧ k ≤ ds.length ∧ ∃ w3 s3 acc, Le w1 w3 ∧ R c w3 (wipe σ vs) s3 ∧ w3.H = H ∧ Rv c w1 w3 σ (.ref Dd) (.fr (.list acc)) ∧ acc.length ≤ k ∧ lcC G B T vs chk (ds.drop k) acc s3 = some (.ok es, s2), ?_, ?_⟩
        · exact ⟨ds.length, by simp, Nat.zero_le _, w1.new Dd (.lst []), _, [], Le.new hD, R2.wipe.new hD, rfl, Rv.new R2 hD (.list .nil), Nat.le_refl _, by simpa using e2⟩
        rintro k m H ⟨rfl, hk, w3, s3, acc, l3, R3, rfl, rv, hacc, e3⟩
        have ck : chk s3 := by
          cases hd : ds.drop k with
          | nil => rw [hd] at e3; exact ifC_some e3
          | cons x xs => rw [hd] at e3; exact ifC_some e3
        by_cases hlt : k < ds.length
        · refine .inr ⟨gs.go w3 _ _ k l3 R3 ck hlt, fun H' => k + 1 ≤ ds.length ∧ ∃ w3 s3 acc, Le w1 w3 ∧ R c w3 (wipe σ vs) s3 ∧ w3.H = H' ∧ Rv c w1 w3 σ (.ref Dd) (.fr (.list acc)) ∧ acc.length ≤ k + 1 ∧ lcC G B T vs chk (ds.drop (k + 1)) acc s3 = some (.ok es, s2), fun H' ⟨h1, h2⟩ => ⟨ds.length - (k + 1), by omega, rfl, h1, h2⟩, fun x H' y => ?_⟩
          obtain ⟨w4, rfl, l4, r4, tx⟩ := gs.yld w3 _ _ k ds[k] x H' l3 R3 ck (List.getElem?_eq_getElem hlt) y
          have R4 := r4 _ _ R3
          have rv4 := rv.mono l4
          have l14 := l3.trans l4
          rw [List.drop_eq_getElem_cons hlt] at e3
          unfold lcC at e3
          rw [if_pos ck] at e3
          split at e3
          · cases e3
          · rename_i s5 e5
            refine hg w4 _ s3 x _ s5 _ R4 tx e5 fun σ5 R5 hw => ?_
            have hw' := (hw vs hix).trans wipe_wipe
            refine ⟨hw', ?_⟩
            split at e3
            · rename_i s6 e6
              refine hb w4 σ5 s5 _ s6 _ R5 e6 fun w6 l6 R6 => ?_
              rw [if_pos rfl]
              split at e3
              · rename_i u s7 e7
                rcases bnd_some e7 with ⟨r, s8, e8, e9⟩ | ⟨x', e8, h⟩
                · refine ht w6 σ5 s6 _ s8 _ R6 e8 fun w8 v l8 R8 rv8 => ?_
                  obtain ⟨w9, l9, eh, R9, tr⟩ := stab_ok R8 l8 rv8 e9
                  obtain ⟨p, o, ep, n1, q, ce, f, no⟩ := (rv4.mono l6).mono l9
                  cases ep
                  cases ce with
                  | list ta =>
                    rename_i ws
                    have hl := trall_len ta
                    refine ⟨ws, by rw [← eh]; exact q, ?_, hlt, w9.new Dd (.lst (ws ++ [v])), _, acc ++ [u], (((l14.trans l6).trans l9).poke hD), ?_, by rw [← eh]; rfl, ?_, by simp; omega, e3⟩
                    · have := fits_le hf; omega
                    · have := (R9.poke (o := .lst (ws ++ [v])) f no).wipe (vs := vs)
                      rw [hw'] at this
                      exact this
                    · exact ⟨Dd, _, rfl, hD, upd_same, .list (trall_snoc ta tr), f, no⟩
                · cases h
              · cases e3
            · rename_i s6 e6
              refine hb w4 σ5 s5 _ s6 _ R5 e6 fun w6 l6 R6 => ?_
              rw [if_neg (by decide)]
              refine ⟨hlt, w6, _, acc, l14.trans l6, ?_, rfl, rv4.mono l6, by omega, e3⟩
              have := R6.wipe (vs := vs)
              rw [hw'] at this
              exact this
            · cases e3
        · obtain rfl : k = ds.length := by omega
          rw [List.drop_length] at e3
          unfold lcC at e3
          rw [if_pos ck] at e3
          cases e3
          exact .inl ⟨gs.stop w3 _ _ l3 R3 ck, post w3 _ (l1.trans l3) (R2.rest l3 R3) (rv.base l1)⟩
      · cases e
    · rw [if_neg hf] at e; cases e
  · exact hi w σ s _ _ _ R1 e1 fun w1 d l1 R2 xa => post w1 d l1 R2 xa
theorem sim_DcC {i : TI} {I : M (List D × (S → Prop))} {ix vs : List Nat} {g : TG} {G : GD} {b : TT} {B : M Bool} {t u : TE} {T U : M Rs} (hix : ix.all (vs.contains ·) = true) (hi : SimIC c E i I) (hg : SimG c ix g G) (hb : SimT c E0s b B) (ht : Sim c E0s t T) (hu : Sim c E0s u U) : Sim c E (tDc i g b t u vs) (TDcC I G B T U vs) := by
  have hix : ∀ i ∈ ix, i ∈ vs := fun i hi => by simpa using List.all_eq_true.mp hix i hi
  intro w σ s out s' Q R1 e post
  rcases bnd_some e with ⟨⟨ds, chk⟩, s1, e1, e⟩ | ⟨x, e1, rfl⟩
  · refine hi w σ s _ s1 _ R1 e1 fun w1 J l1 R2 gs => ?_
    by_cases hf : fits ds.length = true
    · rw [if_pos hf] at e
      split at e
      · rename_i es s2 e2
        cases e
        intro Dd hD
        refine ⟨fun k m H => m = ds.length - k ∧ k ≤ ds.length ∧ ∃ w3 s3 acc, Le w1 w3 ∧ R c w3 (wipe σ vs) s3 ∧ w3.H = H ∧ Rv c w1 w3 σ (.ref Dd) (.fr (.dict acc)) ∧ acc.length ≤ k ∧ dcC G B T U vs chk (ds.drop k) acc s3 = some (.ok es, s2), ?_, ?_⟩
        · exact ⟨ds.length, by simp, Nat.zero_le _, w1.new Dd (.dK []), _, [], Le.new hD, R2.wipe.new hD, rfl, Rv.new R2 hD (.dict .nil), Nat.le_refl _, by simpa using e2⟩
        rintro k m H ⟨rfl, hk, w3, s3, acc, l3, R3, rfl, rv, hacc, e3⟩
        have ck : chk s3 := by
          cases hd : ds.drop k with
          | nil => rw [hd] at e3; exact ifC_some e3
          | cons x xs => rw [hd] at e3; exact ifC_some e3
        by_cases hlt : k < ds.length
        · refine .inr ⟨gs.go w3 _ _ k l3 R3 ck hlt, fun H' => k + 1 ≤ ds.length ∧ ∃ w3 s3 acc, Le w1 w3 ∧ R c w3 (wipe σ vs) s3 ∧ w3.H = H' ∧ Rv c w1 w3 σ (.ref Dd) (.fr (.dict acc)) ∧ acc.length ≤ k + 1 ∧ dcC G B T U vs chk (ds.drop (k + 1)) acc s3 = some (.ok es, s2), fun H' ⟨h1, h2⟩ => ⟨ds.length - (k + 1), by omega, rfl, h1, h2⟩, fun x H' y => ?_⟩
          obtain ⟨w4, rfl, l4, r4, tx⟩ := gs.yld w3 _ _ k ds[k] x H' l3 R3 ck (List.getElem?_eq_getElem hlt) y
          have R4 := r4 _ _ R3
          have rv4 := rv.mono l4
          have l14 := l3.trans l4
          rw [List.drop_eq_getElem_cons hlt] at e3
          unfold dcC at e3
          rw [if_pos ck] at e3
          split at e3
          · cases e3
          · rename_i s5 e5
            refine hg w4 _ s3 x _ s5 _ R4 tx e5 fun σ5 R5 hw => ?_
            have hw' := (hw vs hix).trans wipe_wipe
            refine ⟨hw', ?_⟩
            split at e3
            · rename_i s6 e6
              refine hb w4 σ5 s5 _ s6 _ R5 e6 fun w6 l6 R6 => ?_
              rw [if_pos rfl]
              split at e3
              · rename_i y1 s7 e7
                split at e3
                · rename_i key ek
                  split at e3
                  · rename_i y2 s10 e10
                    rcases bnd_some e7 with ⟨r, s8, e8, e9⟩ | ⟨x', e8, h⟩
                    · refine ht w6 σ5 s6 _ s8 _ R6 e8 fun w8 v l8 R8 rv8 => ?_
                      obtain ⟨w9, l9, eh, R9, tr⟩ := stab_ok R8 l8 rv8 e9
                      rw [← eh]
                      rcases bnd_some e10 with ⟨r, s11, e11, e12⟩ | ⟨x', e8, h⟩
                      · refine hu w9 σ5 s7 _ s11 _ R9 e11 fun w11 v2 l11 R11 rv11 => ?_
                        obtain ⟨w12, l12, eh2, R12, tr2⟩ := stab_ok R11 l11 rv11 e12
                        obtain ⟨p, o, ep, n1, q, ce, f, no⟩ := ((rv4.mono l6).mono l9).mono l12
                        cases ep
                        cases ce with
                        | dict ta =>
                          rename_i ws
                          have hl := trk_len ta
                          refine ⟨ws, key, toKey_some tr ek, by rw [← eh2]; exact q, ?_, hlt, w12.new Dd (.dK (putK ws key v2)), _, putD acc key y2, ((((l14.trans l6).trans l9).trans l12).poke hD), ?_, by rw [← eh2]; rfl, ?_, ?_, e3⟩
                          · have := fits_le hf; omega
                          · have := (R12.poke (o := .dK (putK ws key v2)) f no).wipe (vs := vs)
                            rw [hw'] at this
                            exact this
                          · exact ⟨Dd, _, rfl, hD, upd_same, .dict (trk_put ta tr2), f, no⟩
                          · have := putD_len (ds := acc) (k := key) (d := y2); omega
                      · cases h
                    · cases h
                  · cases e3
                · cases e3
              · cases e3
            · rename_i s6 e6
              refine hb w4 σ5 s5 _ s6 _ R5 e6 fun w6 l6 R6 => ?_
              rw [if_neg (by decide)]
              refine ⟨hlt, w6, _, acc, l14.trans l6, ?_, rfl, rv4.mono l6, by omega, e3⟩
              have := R6.wipe (vs := vs)
              rw [hw'] at this
              exact this
            · cases e3
        · obtain rfl : k = ds.length := by omega
          rw [List.drop_length] at e3
          unfold dcC at e3
          rw [if_pos ck] at e3
          cases e3
          exact .inl ⟨gs.stop w3 _ _ l3 R3 ck, post w3 _ (l1.trans l3) (R2.rest l3 R3) (rv.base l1)⟩
      · cases e
    · rw [if_neg hf] at e; cases e
  · exact hi w σ s _ _ _ R1 e1 fun w1 d l1 R2 xa => post w1 d l1 R2 xa
end
/-! repr of a list whose entries may stand in the store -/
def toP1 (s : S) : D → Option PyData
  | .loc n => (s.μ[n]?).bind toP
  | d => toP d
def toPs1 (s : S) : List D → Option (List PyData)
  | [] => some []
  | d :: ds => (toP1 s d).bind fun p => (toPs1 s ds).bind fun ps => some (p :: ps)
def reprS (s : S) : D → Option Str
  | .list ds => (toPs1 s ds).bind fun ps => if reprOk (.list ps) = true then some (PyData.list ps).shown else none
  | _ => none
def reprM (d : D) : M Rs := fun s => opt ((reprS s d).map fun z => Rs.v (.str z)) s
def TReprM (a : M Rs) : M Rs := bnd a fun x => bnd (pk x) reprM
section
variable {c : Cz} {E : XS} {w : Wd} {σ : L2.St} {s : S}
theorem dp_one {v : V} {d : D} {p : PyData} (R1 : R c w σ s) (t : Tr c w.ρ w.F v d) (e : toP1 s d = some p) : Dp c.K w.H v p := by
  have other : toP d = some p → Dp c.K w.H v p := fun h => (Pk.sc (c := c) t).dp R1.ok h
  cases d with
  | loc n =>
    obtain ⟨x, e1, e2⟩ := Option.bind_eq_some_iff.mp (show (s.μ[n]?).bind toP = some p from e)
    exact (peekv_pk (d0 := x) R1 t e1).dp R1.ok e2
  | _ => exact other e
theorem dp_all (R1 : R c w σ s) : ∀ {vs : List V} {ds : List D} {ps : List PyData}, TrAll c w.ρ w.F vs ds → toPs1 s ds = some ps → DpAll c.K w.H vs ps
  | _, _, _, .nil, h => by cases h; exact .nil
  | _, _, _, .cons t r, h => by
    unfold toPs1 at h
    obtain ⟨p, e1, h⟩ := Option.bind_eq_some_iff.mp h
    obtain ⟨ps, e2, h⟩ := Option.bind_eq_some_iff.mp h
    cases h
    exact .cons (dp_one R1 t e1) (dp_all R1 r e2)
theorem sim_ReprM {ta : TE} {Ta : M Rs} (ha : Sim c E ta Ta) : Sim c E (tCB (cRepr c.K) (tCons ta tNil)) (TReprM Ta) := by
  intro w σ s out s' Q R1 e post
  rcases bnd_some e with ⟨x, s1, e1, e⟩ | ⟨x, e1, rfl⟩
  · refine ha w σ s _ s1 _ R1 e1 fun w1 v l1 R2 rv => ?_
    obtain ⟨d, p1, e⟩ := bnd_pk e
    obtain ⟨r, e2, rfl, rfl⟩ := opt_some e
    obtain ⟨z, e3, rfl⟩ := Option.map_eq_some_iff.mp e2
    have pk := peek_pk R2 rv p1
    cases d with
    | list ds =>
      obtain ⟨ps, e4, e5⟩ := Option.bind_eq_some_iff.mp (show (toPs1 s' ds).bind _ = some z from e3)
      split at e5
      · rename_i ok
        cases e5
        obtain ⟨a, vs, rfl, h1, ta⟩ := pk.list R2.ok
        obtain ⟨k1, k2, k3, k4⟩ := reprOk_c ok
        exact ⟨.list ps, .lst (.inl (.inl h1)) (dp_all R2 ta e4), k1, k2, k3, k4, post w1 _ l1 R2 (.str _)⟩
      · cases e5
    | _ => cases e3
  · exact ha w σ s _ s' _ R1 e1 fun w1 d l1 R2 xa => post w1 d l1 R2 xa
end
end
end Z
/-! sorted of data: any items that are alike -/
namespace Z
open PySem PySem.Spec PyProof.Rows L2 U ClX
section
variable {X : Cx} {j : Nat}
def cSortT (K : PySem.W.Frag) : List V → Hp → VK → Prop := fun xs H Q => match xs with
  | [.ref p] => ∃ (ys : List V) (bs : List PyData), SqL K H p ys ∧ DpAll K H ys bs ∧ PySem.W.AllAlike bs ∧ PySem.W.Sortable bs ∧ (∀ b ∈ bs, b.depth ≤ 60) ∧ ∀ l, H l = none → Q (.ref l) (upd H l (.lst (((ys.zip bs).mergeSort (PySem.W.dataLe false Prod.snd)).map Prod.fst)))
  | _ => False
theorem dpall_len {K : PySem.W.Frag} {H : Hp} : ∀ {ys : List V} {bs : List PyData}, DpAll K H ys bs → ys.length = bs.length
  | [], _, h => by cases h; rfl
  | _ :: _, _, h => by cases h with | cons _ h => rw [List.length_cons, List.length_cons, dpall_len h]
theorem each_rel : ∀ {ys : List V} {bs : List PyData} {its : List Value}, ys.length = bs.length → Vals ys its → PySem.W.EachIs (fun (v : Value) (b : V × PyData) => RelV b.1 v) its (ys.zip bs)
  | [], _, _, _, r => by cases r; exact .nil
  | _ :: _, [], _, h, _ => by cases h
  | _ :: _, _ :: _, _, h, r => by
    cases r with
    | cons r1 r2 => exact .cons r1 (each_rel (by simpa using h) r2)
theorem each_data {pins : List (Addr × Obj)} {σ : L2.St} {H : Hp} {s : Shared} (I : Inv X pins σ H s) : ∀ {ys : List V} {bs : List PyData} {its : List Value}, DpAll X.K H ys bs → Vals ys its → PySem.W.EachIs (fun (v : Value) (b : V × PyData) => ∃ as, Reads s.heap v b.2 as) its (ys.zip bs)
  | [], _, _, h, r => by cases h; cases r; exact .nil
  | _ :: _, _, _, h, r => by
    cases h with
    | cons h1 h2 =>
      cases r with
      | cons r1 r2 => exact .cons (Dp.reads I _ _ _ h1 r1) (each_data I h2 r2)
theorem vals_each : ∀ {zs : List (V × PyData)} {out : List Value}, PySem.W.EachIs (fun (v : Value) (b : V × PyData) => RelV b.1 v) out zs → Vals (zs.map Prod.fst) out
  | [], _, h => by cases h; exact .nil
  | _ :: _, _, h => by
    cases h with
    | cons h1 h2 => exact .cons h1 (vals_each h2)
theorem zip_snd {α β : Type} : ∀ {xs : List α} {ys : List β}, xs.length = ys.length → (xs.zip ys).map Prod.snd = ys
  | [], [], _ => rfl
  | [], _ :: _, h => by cases h
  | _ :: _, [], h => by cases h
  | _ :: xs, _ :: ys, h => by
    show _ :: (xs.zip ys).map Prod.snd = _
    rw [zip_snd (by simpa using h)]
theorem zip_fst {α β : Type} : ∀ {xs : List α} {ys : List β}, xs.length = ys.length → (xs.zip ys).map Prod.fst = xs
  | [], [], _ => rfl
  | [], _ :: _, h => by cases h
  | _ :: _, [], h => by cases h
  | _ :: xs, _ :: ys, h => by
    show _ :: (xs.zip ys).map Prod.fst = _
    rw [zip_fst (by simpa using h)]
theorem call_cSortT (hr : Room j X.A) : CallR X (.builtin "sorted") (cSortT X.K) := by
  intro pins s σ H xs us Q I r h
  match xs, h with
  | [.ref p], h =>
    obtain ⟨ys, bs, hs, hd, ha, ho, hdep, q⟩ := h
    obtain ⟨its, rv, hl, hz⟩ := I.list hs
    have len := dpall_len hd
    have el := zip_snd len
    rw [Vals.ref1 r]
    refine PySem.W.sorted_data (β := V × PyData) (bs := ys.zip bs) (enc := Prod.snd) (R := fun v b => RelV b.1 v) hl.isList (each_rel len rv) (each_data I hd rv) (by rw [el]; exact ha) (by rw [el]; exact ho) (by rw [List.length_zip]; omega) (fun b hb => ?_) fun out h1 h2 => ?_
    · have := hdep b.2 (by rw [← el]; exact List.mem_map_of_mem hb)
      have := hr.un
      omega
    · obtain ⟨ep, he'⟩ := PyProof.Rows.sortedAll_at s.heap its (List.toArray out)
      have hlen : (((ys.zip bs).mergeSort (PySem.W.dataLe false Prod.snd)).map Prod.fst).length ≤ sizeLine := by rw [List.length_map, List.length_mergeSort, List.length_zip]; omega
      exact ⟨.ref _, upd H (s.heap.objs.size + 1) (.lst _), I.laid (t' := s.toks) (fun _ _ => PyProof.Rows.sortedAll_old) (Nat.le_succ _) ⟨hlen, out, ep, vals_each h2, he'⟩, rfl, q _ (I.hok.fresh (Nat.le_succ _))⟩
end
noncomputable section
def sortT (ds : List D) (bs : List PyData) : List D := ((ds.zip bs).mergeSort (PySem.W.dataLe false Prod.snd)).map Prod.fst
def bSortT : List D → Option Rs
  | [.list ds] => match toPs ds with
    | some bs => @ite _ (PySem.W.AllAlike bs ∧ PySem.W.Sortable bs ∧ ∀ b ∈ bs, b.depth ≤ 60) (Classical.propDecidable _) (some (.fr (.list (sortT ds bs)))) none
    | none => none
  | _ => none
section
variable {c : Cz} {ρ : List Addr} {F : Hp}
theorem trall_of : ∀ {S : List (V × D × PyData)}, (∀ t ∈ S, Tr c ρ F t.1 t.2.1) → TrAll c ρ F (S.map fun t => t.1) (S.map fun t => t.2.1)
  | [], _ => .nil
  | t :: S, h => .cons (h t (List.mem_cons_self ..)) (trall_of fun x hx => h x (List.mem_cons_of_mem _ hx))
theorem trall_zip : ∀ {ys : List V} {ds : List D} {bs : List PyData}, TrAll c ρ F ys ds → ∀ t ∈ ys.zip (ds.zip bs), Tr c ρ F t.1 t.2.1
  | [], _, _, _, t, ht => by cases ht
  | y :: ys, [], _, h, _, _ => by cases h
  | y :: ys, d :: ds, [], h, t, ht => by cases ht
  | y :: ys, d :: ds, b :: bs, h, t, ht => by
    cases h with
    | cons h1 h2 =>
      rcases List.mem_cons.mp ht with rfl | ht
      · exact h1
      · exact trall_zip h2 t ht
theorem zip_a : ∀ {ys : List V} {ds : List D} {bs : List PyData}, ys.length = ds.length → (ys.zip (ds.zip bs)).map (fun t => (t.1, t.2.2)) = ys.zip bs
  | [], _, _, _ => rfl
  | _ :: _, [], _, h => by cases h
  | _ :: _, _ :: _, [], _ => rfl
  | y :: ys, d :: ds, b :: bs, h => by
    show _ :: (ys.zip (ds.zip bs)).map _ = _
    rw [zip_a (by simpa using h)]; rfl
theorem zip_b : ∀ {ys : List V} {ds : List D} {bs : List PyData}, ys.length = ds.length → (ys.zip (ds.zip bs)).map (fun t => t.2) = ds.zip bs
  | [], [], _, _ => rfl
  | [], _ :: _, _, h => by cases h
  | _ :: _, [], _, h => by cases h
  | _ :: _, _ :: _, [], _ => rfl
  | y :: ys, d :: ds, b :: bs, h => by
    show _ :: (ys.zip (ds.zip bs)).map _ = _
    rw [zip_b (by simpa using h)]; rfl
theorem trall_sort {ys : List V} {ds : List D} {bs : List PyData} (h : TrAll c ρ F ys ds) : TrAll c ρ F (((ys.zip bs).mergeSort (PySem.W.dataLe false Prod.snd)).map Prod.fst) (sortT ds bs) := by
  have len := trall_len h
  have a := PySem.W.sort_maps (r := PySem.W.dataLe false fun t : V × D × PyData => t.2.2) (s := PySem.W.dataLe false (Prod.snd : V × PyData → PyData)) (fun t => (t.1, t.2.2)) (l := ys.zip (ds.zip bs)) fun _ _ _ _ => rfl
  have b := PySem.W.sort_maps (r := PySem.W.dataLe false fun t : V × D × PyData => t.2.2) (s := PySem.W.dataLe false (Prod.snd : D × PyData → PyData)) (fun t => t.2) (l := ys.zip (ds.zip bs)) fun _ _ _ _ => rfl
  rw [zip_a len] at a
  rw [zip_b len] at b
  unfold sortT
  rw [← a, ← b, List.map_map, List.map_map]
  exact trall_of fun t ht => trall_zip h t (List.mem_mergeSort.mp ht)
theorem cs_SortT : CallS c (cSortT c.K) bSortT := by
  intro w xs ds r Q ok pa hf rq
  unfold bSortT at hf
  split at hf
  · rename_i ds
    split at hf
    · rename_i bs eb
      by_cases h : PySem.W.AllAlike bs ∧ PySem.W.Sortable bs ∧ ∀ b ∈ bs, b.depth ≤ 60
      · rw [if_pos h] at hf
        cases hf
        obtain ⟨v, rfl, p⟩ := pkall1 pa
        obtain ⟨a, vs, rfl, h4, t⟩ := p.list ok
        exact ⟨vs, bs, .inl (.inl h4), (tr_dp ok).2 t _ eb, h.1, h.2.1, h.2.2, fun l hl => rq l _ hl (.list (trall_sort t))⟩
      · rw [if_neg h] at hf; cases hf
    · cases hf
  · cases hf
end
/-! what it gives -/
theorem toPs_mapD {α : Type} {f : α → D} {g : α → PyData} (h : ∀ x, toP (f x) = some (g x)) : ∀ {xs : List α}, toPs (xs.map f) = some (xs.map g)
  | [] => by rw [List.map_nil, toPs]; rfl
  | x :: xs => by
    rw [List.map_cons, toPs, h x, toPs_mapD h]; rfl
theorem zip_map2 {α : Type} {f : α → D} {g : α → PyData} : ∀ {xs : List α}, (xs.map f).zip (xs.map g) = xs.map fun x => (f x, g x)
  | [] => rfl
  | x :: xs => by
    show _ :: ((xs.map f).zip (xs.map g)) = _
    rw [zip_map2]; rfl
theorem sortT_map {α : Type} {f : α → D} {g : α → PyData} {xs : List α} : sortT (xs.map f) (xs.map g) = (xs.mergeSort (PySem.W.dataLe false g)).map f := by
  unfold sortT
  rw [zip_map2, ← PySem.W.sort_maps (r := PySem.W.dataLe false g) (s := PySem.W.dataLe false (Prod.snd : D × PyData → PyData)) (fun x => (f x, g x)) (l := xs) fun _ _ _ _ => rfl, List.map_map]; rfl
theorem sort_ok {α : Type} {f : α → D} {g : α → PyData} {xs : List α} (h : ∀ x, toP (f x) = some (g x)) (al : ∀ x ∈ xs, ∀ y ∈ xs, PySem.W.alike (g x) (g y) = true) (so : PySem.W.Sortable (xs.map g)) (dp : ∀ x ∈ xs, (g x).depth ≤ 60) :
    bSortT [.list (xs.map f)] = some (.fr (.list ((xs.mergeSort (PySem.W.dataLe false g)).map f))) := by
  unfold bSortT
  simp only
  rw [toPs_mapD h]
  simp only
  rw [if_pos, sortT_map]
  refine ⟨fun d hd e he => ?_, so, fun b hb => ?_⟩
  · obtain ⟨x, hx, rfl⟩ := List.mem_map.mp hd
    obtain ⟨y, hy, rfl⟩ := List.mem_map.mp he
    exact al x hx y hy
  · obtain ⟨x, hx, rfl⟩ := List.mem_map.mp hb
    exact dp x hx
theorem sort_anti {α : Type} {g : α → PyData} {a b : α} (h1 : PySem.W.dataLe false g a b = true) (h2 : PySem.W.dataLe false g b a = true) : PySem.W.keyToks (g a) = PySem.W.keyToks (g b) := by
  have h1 : (!(PyProof.Rows.listOrd PyProof.Rows.itemOrd).blt (PySem.W.keyToks (g b)) (PySem.W.keyToks (g a))) = true := h1
  have h2 : (!(PyProof.Rows.listOrd PyProof.Rows.itemOrd).blt (PySem.W.keyToks (g a)) (PySem.W.keyToks (g b))) = true := h2
  rw [Bool.not_eq_true'] at h1 h2
  exact (PyProof.Rows.listOrd PyProof.Rows.itemOrd).total _ _ h2 h1
theorem sort_up {α : Type} {g : α → PyData} (l : List α) : (l.mergeSort (PySem.W.dataLe false g)).Pairwise fun a b => PySem.W.dataLe false g a b = true := PySem.W.sort_pairwise (PySem.W.sortLe_total _ _ _) l
/-- an ordered list of the same items is the sorted one -/
theorem sort_is {α : Type} {g : α → PyData} {l m : List α} (inj : ∀ a ∈ l, ∀ b ∈ l, PySem.W.keyToks (g a) = PySem.W.keyToks (g b) → a = b) (p : m.Perm l) (s : m.Pairwise fun a b => PySem.W.dataLe false g a b = true) : l.mergeSort (PySem.W.dataLe false g) = m :=
  ((List.mergeSort_perm l _).trans p.symm).eq_of_pairwise (fun a b ha hb h1 h2 => inj a (List.mem_mergeSort.mp ha) b (p.mem_iff.mp hb) (sort_anti h1 h2)) (sort_up l) s
theorem sort_same {α : Type} {g : α → PyData} {l m : List α} (inj : ∀ a ∈ l, ∀ b ∈ l, PySem.W.keyToks (g a) = PySem.W.keyToks (g b) → a = b) (p : m.Perm l) : l.mergeSort (PySem.W.dataLe false g) = m.mergeSort (PySem.W.dataLe false g) :=
  sort_is inj ((List.mergeSort_perm m _).trans p) (sort_up m)
end
end Z
/-! properties that are computed by a getter of one's own; x is True -/
namespace Z
open PySem PySem.Spec PyProof.Rows L2 U ClX
theorem quiet_in1 {B : Around} (q : Quiet B) : Quiet B.in1 := by
  first | exact q | (simpa [Around.in1, Around.under, Code.guards, Code.isGuard, pushGuards] using q)
structure Get (P : Program) (w : World) (K : PySem.W.Frag) (mg : Str → Option Value) (base : Heap) (k : Nat) (C : Addr) (m : Str) (sp : Sp) : Prop where
  ex : ∃ (p g : Addr) (fd : FuncData), Cls K C ∧ PropOf K C m p g ∧ FnG P w K mg base k g fd ["self"] sp ∧ Binds K fd ["self"] []
def tGet (P : Program) (w : World) (K : PySem.W.Frag) (mg : Str → Option Value) (base : Heap) (m : Str) (j : Nat) (ta : TE) : TE := fun σ H Q => ta σ H fun x H1 => ∃ a C dx fs k sp, x = .ref a ∧ H1 a = some (.ins C dx fs) ∧ Get P w K mg base k C m sp ∧ k + 1 ≤ j ∧ sp [.ref a] H1 Q E0
section
variable {X : Cx} {j : Nat} {e : Expr} {ta : TE} {m : Str} {pos : Pos}
theorem getprop_okG {pins : List (Addr × Obj)} {σ : L2.St} {H : Hp} {s : Shared} {Q : VK} {b : Bool} {E' : Value → Shared → Prop} {a C p g dx : Addr} {fs : List (Str × V)} {f : Str} {fd : FuncData} {k : Nat} {sp : Sp} (I : Inv X pins σ H s) (ea : H a = some (.ins C dx fs)) (c : Cls X.K C) (hp : PropOf X.K C f p g)
    (F : FnG X.prog X.w X.K X.mg X.base k g fd ["self"] sp) (hr : Room (k + 1) X.A) (qt : Quiet X.A) (hb : Binds X.K fd ["self"] []) (h : sp [.ref a] H Q E0) :
    wpAny (model X.prog X.w) X.A (getAttr (.ref a) f b) (EP X pins σ Q) E' s := by
  obtain ⟨mA, O, _, _, _, _⟩ := ins_get I.hok ea
  obtain ⟨od, J, _⟩ := O.look
  obtain ⟨rest, hrec⟩ := hp.rec_
  have I1 := I.tok (s.toks + 1)
  have hc : (PySem.W.clsIn X.K C).isSome = true := by
    obtain ⟨cd, hc, _⟩ := PySem.W.any_some c.hd
    rw [hc]
    rfl
  refine PySem.W.get_bind I.kIn J (PySem.W.plainGet_of (c.get f)).1 (PySem.W.findObj_data hc hp.at_ hp.get hp.tak) (PySem.W.plainGet_of (c.get f)).2 (wpAny_call (PySem.W.prop_get (s := { s with toks := s.toks + 1 }) I.kIn hrec ?_))
  refine codeAny_mono (F.run X.A.in1 X.stack { s with toks := s.toks + 1 } H ⟨[.ref a], []⟩ [.ref a] [.ref a] Q E0 hr.in1 (quiet_in1 qt) I1.env0.in1 (hb _ [.ref a] I1.kIn rfl) (.cons rfl .nil) h) fun r s' hq => ?_
  cases r with
  | error er => exact False.elim ((passL : Passes (L2.CX X.prog X.w) X.nox E0) pins σ H { s with toks := s.toks + 1 } er s' (I1.wish _) hq)
  | ok fl =>
    cases fl with
    | ret u =>
      obtain ⟨v, H', I3, rv, q3⟩ := I1.after hq
      show wpAny _ _ (handedOut u) _ _ _
      rw [PySem.W.handedOut_of (handed_of rv)]
      exact wpAny_pure ⟨v, H', I3, rv, q3⟩
    | next => exact False.elim hq
    | brk => exact False.elim hq
    | cont => exact False.elim hq
theorem pe_get (hr : Room j X.A) (qt : Quiet X.A) (he : PE X e ta) (hab : attributeBase e m X.env (eval e X.env) = eval e X.env := by rfl) : PE X (.Attribute e m pos) (tGet X.prog X.w X.K X.mg X.base m j ta) := by
  refine ⟨fun pins s σ H Q I h => attr_of hab (thn (he.run pins s σ H _ I h) fun u s1 ⟨x, H1, I1, rx, a, C, dx, fs, k, sp, ex, ea, G, hk, q⟩ => ?_)⟩
  subst ex
  obtain rfl : u = Value.ref a := rx
  obtain ⟨p, g, fd, c, hp, F, b⟩ := G.ex
  exact getprop_okG I1 ea c hp F (hr.mono hk) qt b q
end
/-- without exceptions -/
def noex {β : Type} (m : M β) : M β := fun s => match m s with
  | some (.ok r, s1) => some (.ok r, s1)
  | _ => none
def getM (tab : Nat → Option FT) (d d0 : D) : M Rs := match d0 with
  | .obj c _ => (match tab c with
    | some F => noex (call F [d])
    | none => fun _ => none)
  | _ => fun _ => none
def TGet (tab : Nat → Option FT) (o : M Rs) : M Rs := bnd o fun r => bnd (stab r) fun d => bnd (pk (.v d)) fun d0 => getM tab d d0
section
variable {c : Cz} {E : XS} {P : Program} {wl : World} {mg : Str → Option Value} {base : Heap} {m : Str} {j : Nat} {to : TE} {To : M Rs}
theorem sim_Get {tab : Nat → Option FT} (h : ∀ k F, tab k = some F → ∃ lv, lv + 1 ≤ j ∧ Get P wl c.K mg base lv (c.cad k) m (spF c F)) (ho : Sim c E to To) : Sim c E (tGet P wl c.K mg base m j to) (TGet tab To) := by
  intro w σ s out s' Q R1 e post
  rcases bnd_some e with ⟨r, s1, e1, e⟩ | ⟨x, e1, rfl⟩
  · refine ho w σ s _ s1 _ R1 e1 fun w1 v l1 R2 rv => ?_
    rcases bnd_some e with ⟨d, s2, e2, e⟩ | ⟨x, e2, rfl⟩
    · obtain ⟨w2, l2, eh, R3, tr⟩ := stab_ok R2 l1 rv e2
      obtain ⟨d0, p0, e⟩ := bnd_pk e
      cases d0 with
      | obj k fs =>
        have e : (match tab k with | some F => noex (call F [d]) | none => fun _ => none : M Rs) s2 = some (out, s') := e
        cases ht : tab k with
        | none => rw [ht] at e; cases e
        | some F =>
          rw [ht] at e
          have e : noex (call F [d]) s2 = some (out, s') := e
          unfold noex at e
          split at e
          · rename_i r' s3 e3
            cases e
            obtain ⟨a, dx, vs0, rfl, hH, tf⟩ := (peekv_pk R3 tr p0).obj R3.ok
            obtain ⟨lv, hlv, G⟩ := h k F ht
            rw [← eh]
            exact ⟨a, c.cad k, dx, vs0, lv, _, rfl, hH, G, hlv, call_ok (E := fun _ => E0) R3 l2 (.cons tr .nil) e3 post⟩
          · cases e
      | _ => cases e
    · exact (stab_not_ex e2).elim
  · exact ho w σ s _ _ _ R1 e1 post
end
theorem pm0_rel {zs : List V} {ws : List Value} (r : Vals zs ws) : Vals (pm0 zs) (pm0 ws) := r
theorem pm0_tr {c : Cz} {ρ : List Addr} {F : Hp} {vs : List V} {ds : List D} (t : TrAll c ρ F vs ds) : TrAll c ρ F (pm0 vs) (pm0 ds) := t
/-! ### x is True -/
def uIsB : R2 := fun x y H Q => ∃ a b, x = .bl a ∧ y = .bl b ∧ Q (.bl (decide (a = b))) H
def vIsB : D → D → Option Rs
  | .bl a, .bl b => some (.v (.bl (decide (a = b))))
  | _, _ => none
theorem op_uIsB {X : Cx} : OpR X (compareOp .Is) uIsB := by
  intro pins s σ H x y v u Q I rx ry h
  obtain ⟨a, b, rfl, rfl, q⟩ := h
  cases rx
  cases ry
  exact wpAny_pure (fin_bl I q (by cases a <;> cases b <;> rfl))
theorem os_IsB {c : Cz} : OpS c uIsB vIsB := by
  intro w x y d e r Q ok px py hf rq
  unfold vIsB at hf
  split at hf
  · cases hf
    exact ⟨_, _, px.bl, py.bl, rq _ (.bl _)⟩
  · cases hf
end Z
/-! what is wanted of functions on trees -/
namespace Z
open PySem PySem.Spec PyProof.Rows L2 U ClX
abbrev XQ := Xn → S → Prop
def Wp0 {β : Type} (o : Option (Rz β × S)) (Q : β → S → Prop) (X : XQ) : Prop := match o with
  | some (.ok b, s) => Q b s
  | some (.ex x, s) => X x s
  | none => False
def Ws0 (o : Option (Fl × S)) (Q : Fl → S → Prop) : Prop := match o with
  | some (f, s) => Q f s
  | none => False
abbrev XF := Xn → List D → Prop
def Wf0 (o : Option (Rz Rs × List D)) (Q : Rs → List D → Prop) (X : XF) : Prop := match o with
  | some (.ok (.v d), μ) => Q (.v d) μ
  | some (.ok (.fr d), μ) => Q (.fr d) μ
  | some (.ex x, μ) => X x μ
  | _ => False
section
variable {β γ : Type} {s : S} {Q : β → S → Prop} {X : XQ}
theorem wp_bnd0 {m : M β} {k : β → M γ} {Q : γ → S → Prop} : Wp0 (bnd m k s) Q X = Wp0 (m s) (fun b s1 => Wp0 (k b s1) Q X) X := by
  unfold bnd Wp0
  cases m s with
  | none => rfl
  | some p => obtain ⟨r, s1⟩ := p; cases r <;> rfl
theorem wp_ret0 {b : β} : Wp0 (ret b s) Q X = Q b s := Eq.trans rfl rfl
theorem wp_some0 {b : β} : Wp0 (some (.ok b, s)) Q X = Q b s := Eq.trans rfl rfl
theorem wp_none0 : Wp0 (none : Option (Rz β × S)) Q X = False := Eq.trans rfl rfl
theorem wp_opt0 {o : Option β} : Wp0 (opt o s) Q X = ∃ b, o = some b ∧ Q b s := by
  unfold opt Wp0
  cases o with
  | none => simp
  | some b => simp
theorem wp_pk0 {r : Rs} {Q : D → S → Prop} : Wp0 (pk r s) Q X = ∃ d, peek s r = some d ∧ Q d s := wp_opt0
theorem wp_pks_nil0 {Q : List D → S → Prop} : Wp0 (pks [] s) Q X = Q [] s := Eq.trans rfl rfl
theorem wp_pks_cons0 {r : Rs} {rs : List Rs} {Q : List D → S → Prop} : Wp0 (pks (r :: rs) s) Q X = ∃ d, peek s r = some d ∧ Wp0 (pks rs s) (fun ds s1 => Q (d :: ds) s1) X := by
  show Wp0 (bnd (pk r) _ s) Q X = _
  rw [wp_bnd0, wp_pk0]
  congr 1
  funext d
  congr 1
  rw [wp_bnd0]; rfl
theorem wp_ite0 {c : Prop} [Decidable c] {a b : M β} : Wp0 ((if c then a else b) s) Q X = if c then Wp0 (a s) Q X else Wp0 (b s) Q X := by split <;> rfl
theorem ws_ite0 {c : Prop} [Decidable c] {a b : TSd} {Q : Fl → S → Prop} : Ws0 ((if c then a else b) s) Q = if c then Ws0 (a s) Q else Ws0 (b s) Q := by split <;> rfl
theorem ws_sb0 {m : M β} {k : β → TSd} {Q : Fl → S → Prop} : Ws0 (sb m k s) Q = Wp0 (m s) (fun b s1 => Ws0 (k b s1) Q) (fun x s1 => Q (.ex x) s1) := by
  unfold sb Wp0 Ws0
  cases m s with
  | none => rfl
  | some p => obtain ⟨r, s1⟩ := p; cases r <;> rfl
theorem ws_some0 {f : Fl} {Q : Fl → S → Prop} : Ws0 (some (f, s)) Q = Q f s := Eq.trans rfl rfl
def sqQ0 (U : TSd) (Q : Fl → S → Prop) : Fl → S → Prop
  | .nx, s1 => Ws0 (U s1) Q
  | f, s1 => Q f s1
theorem sqQ_nx0 {U : TSd} {Q : Fl → S → Prop} : sqQ0 U Q .nx s = Ws0 (U s) Q := Eq.trans rfl rfl
theorem sqQ_rt0 {U : TSd} {Q : Fl → S → Prop} {r : Rs} : sqQ0 U Q (.rt r) s = Q (.rt r) s := Eq.trans rfl rfl
theorem sqQ_bk0 {U : TSd} {Q : Fl → S → Prop} : sqQ0 U Q .bk s = Q .bk s := Eq.trans rfl rfl
theorem sqQ_ct0 {U : TSd} {Q : Fl → S → Prop} : sqQ0 U Q .ct s = Q .ct s := Eq.trans rfl rfl
theorem sqQ_ex0 {U : TSd} {Q : Fl → S → Prop} {x : Xn} : sqQ0 U Q (.ex x) s = Q (.ex x) s := Eq.trans rfl rfl
theorem ws_seq0 {T U : TSd} {Q : Fl → S → Prop} : Ws0 (TSeq T U s) Q = Ws0 (T s) (sqQ0 U Q) := by
  unfold TSeq Ws0
  cases T s with
  | none => rfl
  | some p => obtain ⟨f, s1⟩ := p; cases f <;> rfl
theorem ws_nxt0 {o : Option S} {Q : Fl → S → Prop} : Ws0 (nxt o) Q = ∃ s', o = some s' ∧ Q .nx s' := by
  cases o with
  | none => simp [nxt, Ws0]
  | some s => simp [nxt, Ws0]
theorem wp_call0 {F : FT} {ds : List D} {Q : Rs → S → Prop} : Wp0 (call F ds s) Q X = Wf0 (F ds s.μ) (fun r μ => Q r ⟨s.env, μ⟩) (fun x μ => X x ⟨s.env, μ⟩) := by
  unfold call Wp0 Wf0
  cases F ds s.μ with
  | none => rfl
  | some p =>
    obtain ⟨r, μ⟩ := p
    cases r with
    | ex x => rfl
    | ok r => cases r <;> rfl
/-- what a body's end is for the caller -/
def outQ (Q : Rs → List D → Prop) (X : XF) : Fl → S → Prop
  | .rt (.v d), s => Q (.v d) s.μ
  | .rt (.fr d), s => Q (.fr d) s.μ
  | .rt (.al i), s => (match s.env[i]? with
    | some (some (.o d)) => Q (.fr d) s.μ
    | some (some (.s d)) => Q (.v d) s.μ
    | _ => False)
  | .nx, s => Q (.v .non) s.μ
  | .ex x, s => X x s.μ
  | _, _ => False
theorem wf_run0 {m n : Nat} {T : TSd} {ds : List D} {μ : List D} {Q : Rs → List D → Prop} {X : XF} (h : ds.length = m) (w : Ws0 (T ⟨env0 n ds, μ⟩) (outQ Q X)) : Wf0 (runF m n T ds μ) Q X := by
  unfold runF
  rw [if_pos h]
  unfold Ws0 at w
  cases e : T ⟨env0 n ds, μ⟩ with
  | none => rw [e] at w; exact w.elim
  | some p =>
    obtain ⟨f, s⟩ := p
    rw [e] at w
    cases f with
    | nx => exact w
    | bk => exact w.elim
    | ct => exact w.elim
    | ex x => exact w
    | rt r =>
      cases r with
      | v d => exact w
      | fr d => exact w
      | al i =>
        have w : (match s.env[i]? with | some (some (.o d)) => Q (.fr d) s.μ | some (some (.s d)) => Q (.v d) s.μ | _ => False) := w
        show Wf0 (match s.env[i]? with | some (some (.o d)) => some (.ok (.fr d), s.μ) | some (some (.s d)) => some (.ok (.v d), s.μ) | _ => none) Q X
        split at w
        · exact w
        · exact w
        · exact w.elim
def outIQ (Q : Rs → List D → Prop) (X : XF) : Fl → S → Prop
  | .nx, s => (match s.env[(0 : Nat)]? with
    | some (some (.o d)) => Q (.fr d) s.μ
    | some (some (.s d)) => Q (.v d) s.μ
    | _ => False)
  | .ex x, s => X x s.μ
  | _, _ => False
theorem wf_runI0 {m n k : Nat} {T : TSd} {ds : List D} {μ : List D} {Q : Rs → List D → Prop} {X : XF} (h : ds.length + 1 = m) (w : Ws0 (T ⟨envI n k ds, μ⟩) (outIQ Q X)) : Wf0 (runI m n k T ds μ) Q X := by
  unfold runI
  rw [if_pos h]
  unfold Ws0 at w
  cases e : T ⟨envI n k ds, μ⟩ with
  | none => rw [e] at w; exact w.elim
  | some p =>
    obtain ⟨f, s⟩ := p
    rw [e] at w
    cases f with
    | nx =>
      have w : (match s.env[(0 : Nat)]? with | some (some (.o d)) => Q (.fr d) s.μ | some (some (.s d)) => Q (.v d) s.μ | _ => False) := w
      show Wf0 (match s.env[(0 : Nat)]? with | some (some (.o d)) => some (.ok (.fr d), s.μ) | some (some (.s d)) => some (.ok (.v d), s.μ) | _ => none) Q X
      split at w
      · exact w
      · exact w
      · exact w.elim
    | bk => exact w.elim
    | ct => exact w.elim
    | ex x => exact w
    | rt r => exact w.elim
theorem wf_v0 {d : D} {μ : List D} {Q : Rs → List D → Prop} {X : XF} : Wf0 (some (.ok (.v d), μ)) Q X = Q (.v d) μ := Eq.trans rfl rfl
theorem wf_fr0 {d : D} {μ : List D} {Q : Rs → List D → Prop} {X : XF} : Wf0 (some (.ok (.fr d), μ)) Q X = Q (.fr d) μ := Eq.trans rfl rfl
theorem wf_mono0 {o : Option (Rz Rs × List D)} {Q Q' : Rs → List D → Prop} {X : XF} (h : Wf0 o Q X) (q : ∀ r μ, Q r μ → Q' r μ) : Wf0 o Q' X := by
  unfold Wf0 at h ⊢
  split at h
  · exact q _ _ h
  · exact q _ _ h
  · exact h
  · exact h.elim
theorem wp_mono0 {o : Option (Rz β × S)} {Q Q' : β → S → Prop} {X : XQ} (h : Wp0 o Q X) (q : ∀ r μ, Q r μ → Q' r μ) : Wp0 o Q' X := by
  unfold Wp0 at h ⊢
  split at h
  · exact q _ _ h
  · exact h
  · exact h.elim
theorem wf_eq0 {o : Option (Rz Rs × List D)} {d : D} (h : Wf0 o (fun r μ => r = .v d) fun _ _ => False) : ∃ μ, o = some (.ok (.v d), μ) := by
  unfold Wf0 at h
  split at h
  · cases h; exact ⟨_, rfl⟩
  · cases h
  · exact h.elim
  · exact h.elim
/-! ### peek, stab, variables -/
variable {d : D} {ds : List D} {i : Nat} {z : Str} {k : Int} {b : Bool}
theorem peek_int : peek s (.v (.int k)) = some (.int k) := rfl
theorem peek_str : peek s (.v (.str z)) = some (.str z) := rfl
theorem peek_bl : peek s (.v (.bl b)) = some (.bl b) := rfl
theorem peek_non : peek s (.v .non) = some .non := rfl
theorem peek_ty {n : String} : peek s (.v (.ty n)) = some (.ty n) := rfl
theorem peek_cl {n : Nat} : peek s (.v (.cl n)) = some (.cl n) := rfl
theorem peek_list : peek s (.v (.list ds)) = some (.list ds) := rfl
theorem peek_scr : peek s (.v (.scr ds)) = some (.scr ds) := rfl
theorem peek_tup : peek s (.v (.tup ds)) = some (.tup ds) := rfl
theorem peek_dict {kvs : List (Key × D)} : peek s (.v (.dict kvs)) = some (.dict kvs) := rfl
theorem peek_obj {n : Nat} {fs : List (Str × D)} : peek s (.v (.obj n fs)) = some (.obj n fs) := rfl
theorem peek_loc {n : Nat} : peek s (.v (.loc n)) = s.μ[n]? := rfl
theorem peek_fr : peek s (.fr d) = some d := rfl
def varP (o : Option (Option A)) : Option D := match o with
  | some (some (.o d)) => some d
  | some (some (.s d)) => some d
  | _ => none
theorem peek_al : peek s (.al i) = varP s.env[i]? := rfl
theorem varP_o : varP (some (some (.o d))) = some d := rfl
theorem varP_s : varP (some (some (.s d))) = some d := rfl
theorem wp_stab_v0 {Q : D → S → Prop} : Wp0 (stab (.v d) s) Q X = Q d s := Eq.trans rfl rfl
theorem wp_stab_fr0 {Q : D → S → Prop} : Wp0 (stab (.fr d) s) Q X = Q d s := Eq.trans rfl rfl
def stabQ (o : Option (Option A)) (i : Nat) (s : S) (Q : D → S → Prop) : Prop := match o with
  | some (some (.o d)) => Q d ⟨s.env.set i (some (.s d)), s.μ⟩
  | some (some (.s d)) => Q d s
  | _ => False
theorem wp_stab_al0 {Q : D → S → Prop} : Wp0 (stab (.al i) s) Q X = stabQ s.env[i]? i s Q := by
  unfold stab stabQ Wp0
  simp only
  generalize s.env[i]? = o
  rcases o with _ | _ | _ | _ <;> rfl
theorem stabQ_o0 {s : S} {Q : D → S → Prop} : stabQ (some (some (.o d))) i s Q = Q d ⟨s.env.set i (some (.s d)), s.μ⟩ := Eq.trans rfl rfl
theorem stabQ_s0 {s : S} {Q : D → S → Prop} : stabQ (some (some (.s d))) i s Q = Q d s := Eq.trans rfl rfl
def varQ (o : Option (Option A)) (i : Nat) (s : S) (Q : Rs → S → Prop) : Prop := match o with
  | some (some (.s d)) => Q (.v d) s
  | some (some (.o _)) => Q (.al i) s
  | _ => False
theorem wp_Var0 {Q : Rs → S → Prop} : Wp0 (TVar i s) Q X = varQ s.env[i]? i s Q := by
  unfold TVar varQ Wp0
  generalize s.env[i]? = o
  rcases o with _ | _ | _ | _ <;> rfl
theorem varQ_s0 {s : S} {Q : Rs → S → Prop} : varQ (some (some (.s d))) i s Q = Q (.v d) s := Eq.trans rfl rfl
theorem varQ_o0 {s : S} {Q : Rs → S → Prop} : varQ (some (some (.o d))) i s Q = Q (.al i) s := Eq.trans rfl rfl
theorem wp_asB_bl0 {Q : Bool → S → Prop} : Wp0 (asB (.bl b) s) Q X = Q b s := Eq.trans rfl rfl
theorem res1_v : res1 (.v d) = ret (.v d) := rfl
theorem res1_fr : res1 (.fr d) = ret (.fr d) := rfl
theorem res1_al : res1 (.al i) = bnd (stab (.al i)) fun d => ret (.v d) := rfl
theorem res_nil : res [] = ret [] := rfl
theorem res_cons {r : Rs} {rs : List Rs} : res (r :: rs) = bnd (res1 r) fun r => bnd (res rs) fun rs => ret (r :: rs) := rfl
theorem asg_v : asg i (.v d) s = setV i (.s d) s := rfl
theorem asg_fr : asg i (.fr d) s = setV i (.o d) s := rfl
theorem setV_eq {a : A} {s' : S} : (setV i a s = some s') = (s' = ⟨s.env.set i (some a), s.μ⟩ ∧ i < s.env.length) := by
  unfold setV
  apply propext
  constructor
  · intro h
    split at h
    · rename_i z; cases h; exact ⟨rfl, z⟩
    · cases h
  · rintro ⟨rfl, h⟩
    rw [if_pos h]
theorem asgs_nil : asgs [] [] s = some s := rfl
theorem asgs_cons {is : List Nat} {r : Rs} {rs : List Rs} : asgs (i :: is) (r :: rs) s = (asg i r s).bind fun s => asgs is rs s := rfl
end
def mutQ {β : Type} (o : Option (Option A)) (i : Nat) (s : S) (f : D → Option (β × D)) (Q : β → S → Prop) : Prop := match o with
  | some (some (.o d)) => ∃ b d', f d = some (b, d') ∧ Q b ⟨s.env.set i (some (.o d')), s.μ⟩
  | _ => False
theorem mutQ_o0 {β : Type} {i : Nat} {s : S} {d : D} {f : D → Option (β × D)} {Q : β → S → Prop} : mutQ (some (some (.o d))) i s f Q = ∃ b d', f d = some (b, d') ∧ Q b ⟨s.env.set i (some (.o d')), s.μ⟩ := Eq.trans rfl rfl
theorem wp_mut_al0 {β : Type} {i : Nat} {s : S} {f : D → Option (β × D)} {Q : β → S → Prop} {X : XQ} : Wp0 (mutD (.al i) f s) Q X = mutQ s.env[i]? i s f Q := by
  unfold mutD mutQ
  simp only
  cases s.env[i]? with
  | none => rfl
  | some a =>
    cases a with
    | none => rfl
    | some a =>
      cases a with
      | s d => rfl
      | o d =>
        simp only
        cases f d with
        | none => simp [Wp0]
        | some p => obtain ⟨b, d'⟩ := p; exact propext ⟨fun h => ⟨b, d', rfl, h⟩, fun ⟨_, _, e, h⟩ => by cases e; exact h⟩
theorem wp_mut_loc0 {β : Type} {n : Nat} {s : S} {f : D → Option (β × D)} {Q : β → S → Prop} {X : XQ} : Wp0 (mutD (.v (.loc n)) f s) Q X = ∃ d, s.μ[n]? = some d ∧ ∃ b d', f d = some (b, d') ∧ Q b ⟨s.env, s.μ.set n d'⟩ := by
  unfold mutD
  simp only
  cases s.μ[n]? with
  | none => simp [Wp0]
  | some d =>
    simp only [Option.some.injEq, exists_eq_left']
    cases f d with
    | none => simp [Wp0]
    | some p => obtain ⟨b, d'⟩ := p; exact propext ⟨fun h => ⟨b, d', rfl, h⟩, fun ⟨_, _, e, h⟩ => by cases e; exact h⟩
/-! ### try -/
def endQ (i : Nat) (Q : Fl → S → Prop) : Fl → S → Prop
  | .ex _, _ => False
  | .rt r, s => Q (.rt r) s
  | .nx, s => Q .nx ⟨s.env.set i none, s.μ⟩
  | .bk, s => Q .bk ⟨s.env.set i none, s.μ⟩
  | .ct, s => Q .ct ⟨s.env.set i none, s.μ⟩
theorem endQ_rt0 {i : Nat} {Q : Fl → S → Prop} {r : Rs} {s : S} : endQ i Q (.rt r) s = Q (.rt r) s := Eq.trans rfl rfl
theorem endQ_nx0 {i : Nat} {Q : Fl → S → Prop} {s : S} : endQ i Q .nx s = Q .nx ⟨s.env.set i none, s.μ⟩ := Eq.trans rfl rfl
def tryX0 (b : Option Bool) (i : Nat) (U : TSd) (Q : Fl → S → Prop) (x : Xn) (s1 : S) : Prop := match b with
  | some true => i < s1.env.length ∧ Ws0 (U ⟨s1.env.set i (some (.s (.exc x.c x.fs))), s1.μ⟩) (endQ i Q)
  | some false => Q (.ex x) s1
  | none => False
theorem tryX_t0 {i : Nat} {U : TSd} {Q : Fl → S → Prop} {x : Xn} {s1 : S} : tryX0 (some true) i U Q x s1 = (i < s1.env.length ∧ Ws0 (U ⟨s1.env.set i (some (.s (.exc x.c x.fs))), s1.μ⟩) (endQ i Q)) := Eq.trans rfl rfl
theorem tryX_f0 {i : Nat} {U : TSd} {Q : Fl → S → Prop} {x : Xn} {s1 : S} : tryX0 (some false) i U Q x s1 = Q (.ex x) s1 := Eq.trans rfl rfl
def tryQ0 (h : Nat → Option Bool) (i : Nat) (U : TSd) (Q : Fl → S → Prop) : Fl → S → Prop
  | .ex x, s1 => tryX0 (h x.c) i U Q x s1
  | .nx, s1 => Q .nx s1
  | .rt r, s1 => Q (.rt r) s1
  | .bk, s1 => Q .bk s1
  | .ct, s1 => Q .ct s1
theorem tryQ_ex0 {h : Nat → Option Bool} {i : Nat} {U : TSd} {Q : Fl → S → Prop} {x : Xn} {s : S} : tryQ0 h i U Q (.ex x) s = tryX0 (h x.c) i U Q x s := Eq.trans rfl rfl
theorem tryQ_nx0 {h : Nat → Option Bool} {i : Nat} {U : TSd} {Q : Fl → S → Prop} {s : S} : tryQ0 h i U Q .nx s = Q .nx s := Eq.trans rfl rfl
theorem tryQ_rt0 {h : Nat → Option Bool} {i : Nat} {U : TSd} {Q : Fl → S → Prop} {r : Rs} {s : S} : tryQ0 h i U Q (.rt r) s = Q (.rt r) s := Eq.trans rfl rfl
theorem tryQ_bk0 {h : Nat → Option Bool} {i : Nat} {U : TSd} {Q : Fl → S → Prop} {s : S} : tryQ0 h i U Q .bk s = Q .bk s := Eq.trans rfl rfl
theorem tryQ_ct0 {h : Nat → Option Bool} {i : Nat} {U : TSd} {Q : Fl → S → Prop} {s : S} : tryQ0 h i U Q .ct s = Q .ct s := Eq.trans rfl rfl
theorem ws_try0 {h : Nat → Option Bool} {i : Nat} {T U : TSd} {Q : Fl → S → Prop} {s : S} : Ws0 (TTry T h i U s) Q = Ws0 (T s) (tryQ0 h i U Q) := by
  unfold TTry
  cases e : T s with
  | none => rfl
  | some p =>
    obtain ⟨f, s1⟩ := p
    cases f with
    | nx => rfl
    | rt r => rfl
    | bk => rfl
    | ct => rfl
    | ex x =>
      show Ws0 (match h x.c with | some true => _ | some false => _ | none => _) Q = tryX0 (h x.c) i U Q x s1
      cases h x.c with
      | none => rfl
      | some b =>
        cases b with
        | false => rfl
        | true =>
          show Ws0 (if _ then _ else none) Q = (_ ∧ _)
          by_cases hi : i < s1.env.length
          · rw [if_pos hi]
            cases eU : U { s1 with env := s1.env.set i (some (.s (.exc x.c x.fs))) } with
            | none => simp [Ws0, hi]
            | some q => obtain ⟨f, s2⟩ := q; cases f <;> simp [Ws0, hi, endQ]
          · rw [if_neg hi]; simp [Ws0, hi]
/-! ### loops -/
def forQ (I : S → Prop) (Q : Fl → S → Prop) : Fl → S → Prop
  | .nx, s => I s
  | .ct, s => I s
  | .bk, s => Q .nx s
  | f, s => Q f s
theorem forQ_nx0 {I : S → Prop} {Q : Fl → S → Prop} {s : S} : forQ I Q .nx s = I s := Eq.trans rfl rfl
theorem forQ_ct0 {I : S → Prop} {Q : Fl → S → Prop} {s : S} : forQ I Q .ct s = I s := Eq.trans rfl rfl
theorem forQ_bk0 {I : S → Prop} {Q : Fl → S → Prop} {s : S} : forQ I Q .bk s = Q .nx s := Eq.trans rfl rfl
theorem forQ_rt0 {I : S → Prop} {Q : Fl → S → Prop} {s : S} {r : Rs} : forQ I Q (.rt r) s = Q (.rt r) s := Eq.trans rfl rfl
theorem forQ_ex0 {I : S → Prop} {Q : Fl → S → Prop} {s : S} {x : Xn} : forQ I Q (.ex x) s = Q (.ex x) s := Eq.trans rfl rfl
theorem for_inv0 {G : GD} {T : TSd} {Q : Fl → S → Prop} : ∀ {ds : List D} {s : S} (I : Nat → S → Prop), I 0 s → (∀ k d s, ds[k]? = some d → I k s → ∃ s1, G d s = some s1 ∧ Ws0 (T s1) (forQ (I (k + 1)) Q)) → (∀ s, I ds.length s → Q .nx s) → Ws0 (forD G T ds s) Q
  | [], s, I, h0, _, fin => fin s h0
  | d :: ds, s, I, h0, step, fin => by
    obtain ⟨s1, e1, h1⟩ := step 0 d s rfl h0
    unfold forD
    rw [e1]
    simp only
    have next : ∀ s2, I 1 s2 → Ws0 (forD G T ds s2) Q := fun s2 h => for_inv0 (fun k => I (k + 1)) h (fun k d s hd hi => step (k + 1) d s (by simpa using hd) hi) fin
    cases e : T s1 with
    | none => rw [e] at h1; exact h1.elim
    | some p =>
      obtain ⟨f, s2⟩ := p
      rw [e] at h1
      cases f with
      | nx => exact next s2 h1
      | ct => exact next s2 h1
      | bk => exact h1
      | rt r => exact h1
      | ex x => exact h1
theorem ws_for0 {I : M (List D)} {G : GD} {T : TSd} {s : S} {Q : Fl → S → Prop} : Ws0 (TFor I G T s) Q = Wp0 (I s) (fun ds s1 => Ws0 (forD G T ds s1) Q) (fun x s1 => Q (.ex x) s1) := ws_sb0
theorem wh_inv0 {B : M Bool} {T : TSd} {Q : Fl → S → Prop} : ∀ {n : Nat} {s : S} (I : Nat → S → Prop), I n s → (∀ k s, I k s → 0 < k ∧ Wp0 (B s) (fun b s1 => if b = true then Ws0 (T s1) (forQ (I (k - 1)) Q) else Q .nx s1) (fun x s1 => Q (.ex x) s1)) → Ws0 (whD B T n s) Q
  | 0, s, I, h0, step => absurd (step 0 s h0).1 (by simp)
  | n + 1, s, I, h0, step => by
    have h := (step (n + 1) s h0).2
    unfold whD
    unfold Wp0 at h
    cases e : B s with
    | none => rw [e] at h; exact h.elim
    | some p =>
      obtain ⟨r, s1⟩ := p
      rw [e] at h
      cases r with
      | ex x => exact h
      | ok b =>
        cases b with
        | false => exact h
        | true =>
          simp only at h ⊢
          rw [if_pos trivial] at h
          cases e2 : T s1 with
          | none => rw [e2] at h; exact h.elim
          | some p =>
            obtain ⟨f, s2⟩ := p
            rw [e2] at h
            cases f with
            | nx => exact wh_inv0 I h step
            | ct => exact wh_inv0 I h step
            | bk => exact h
            | rt r => exact h
            | ex x => exact h
/-- a comprehension: k turns are done, acc was kept -/
theorem lc_inv0 {G : GD} {B : M Bool} {T : M Rs} {vs : List Nat} {Q : List D → S → Prop} {X : XQ} : ∀ {ds acc : List D} {s : S} (I : Nat → List D → S → Prop), I 0 acc s → (∀ k d acc s, ds[k]? = some d → I k acc s → ∃ s1, G d s = some s1 ∧ Wp0 (B s1) (fun b s2 => if b = true then Wp0 (T s2) (fun r s3 => Wp0 (stab r s3) (fun e s4 => I (k + 1) (acc ++ [e]) ⟨wipeE vs s4.env, s4.μ⟩) fun _ _ => False) (fun _ _ => False) else I (k + 1) acc ⟨wipeE vs s2.env, s2.μ⟩) fun _ _ => False) → (∀ acc s, I ds.length acc s → Q acc s) → Wp0 (lcD G B T vs ds acc s) Q X
  | [], acc, s, I, h0, _, fin => fin acc s h0
  | d :: ds, acc, s, I, h0, step, fin => by
    obtain ⟨s1, e1, h1⟩ := step 0 d acc s rfl h0
    unfold lcD
    rw [e1]
    simp only
    have next : ∀ acc s2, I 1 acc s2 → Wp0 (lcD G B T vs ds acc s2) Q X := fun acc s2 h => lc_inv0 (fun k => I (k + 1)) h (fun k d acc s hd hi => step (k + 1) d acc s (by simpa using hd) hi) fin
    cases e : B s1 with
    | none => rw [e] at h1; exact h1.elim
    | some p =>
      obtain ⟨r, s2⟩ := p
      rw [e] at h1
      cases r with
      | ex x => exact h1.elim
      | ok b =>
        have h1 : (if b = true then Wp0 (T s2) (fun r s3 => Wp0 (stab r s3) (fun e s4 => I 1 (acc ++ [e]) ⟨wipeE vs s4.env, s4.μ⟩) fun _ _ => False) (fun _ _ => False) else I 1 acc ⟨wipeE vs s2.env, s2.μ⟩) := h1
        cases b with
        | false => exact next _ _ h1
        | true =>
          rw [if_pos rfl, ← wp_bnd0] at h1
          simp only
          cases e2 : bnd T stab s2 with
          | none => rw [e2] at h1; exact h1.elim
          | some p =>
            obtain ⟨r, s3⟩ := p
            rw [e2] at h1
            cases r with
            | ex x => exact h1.elim
            | ok u => exact next _ _ h1
theorem wp_Lc0 {I : M (List D)} {G : GD} {B : M Bool} {T : M Rs} {vs : List Nat} {s : S} {Q : Rs → S → Prop} {X : XQ} (h : Wp0 (I s) (fun ds s1 => ds.length ≤ 16777216 ∧ Wp0 (lcD G B T vs ds [] ⟨wipeE vs s1.env, s1.μ⟩) (fun es s2 => Q (.fr (.list es)) ⟨restE vs s1.env s2.env, s2.μ⟩) fun _ _ => False) X) : Wp0 (TLc I G B T vs s) Q X := by
  unfold TLc
  rw [wp_bnd0]
  refine wp_mono0 h fun ds s1 ⟨hf, h⟩ => ?_
  have hf : fits ds.length = true := decide_eq_true hf
  show Wp0 (if fits ds.length = true then _ else _) Q X
  rw [if_pos hf]
  cases e : lcD G B T vs ds [] ⟨wipeE vs s1.env, s1.μ⟩ with
  | none => rw [e] at h; exact h.elim
  | some p =>
    obtain ⟨r, s2⟩ := p
    rw [e] at h
    cases r with
    | ex x => exact h.elim
    | ok es => exact h
/-- each turn leaves the state, and keeps f of the item or nothing -/
theorem lc_map0 {G : GD} {B : M Bool} {T : M Rs} {vs : List Nat} {Q : List D → S → Prop} {X : XQ} {ds : List D} {s : S} (f : D → Option D)
    (step : ∀ d ∈ ds, ∃ s1, G d s = some s1 ∧ Wp0 (B s1) (fun b s2 => if b = true then Wp0 (T s2) (fun r s3 => Wp0 (stab r s3) (fun e s4 => f d = some e ∧ (⟨wipeE vs s4.env, s4.μ⟩ : S) = s) fun _ _ => False) (fun _ _ => False) else f d = none ∧ (⟨wipeE vs s2.env, s2.μ⟩ : S) = s) fun _ _ => False)
    (fin : Q (ds.filterMap f) s) : Wp0 (lcD G B T vs ds [] s) Q X := by
  refine lc_inv0 (fun k acc s' => acc = (ds.take k).filterMap f ∧ s' = s) ⟨rfl, rfl⟩ ?_ ?_
  · rintro k d acc s' hd ⟨rfl, rfl⟩
    obtain ⟨s1, e1, h1⟩ := step d (List.mem_of_getElem? hd)
    have hk : k < ds.length := (List.getElem?_eq_some_iff.mp hd).1
    have tk : (ds.take (k + 1)).filterMap f = (ds.take k).filterMap f ++ (match f d with | some e => [e] | none => []) := by
      rw [List.take_succ_eq_append_getElem hk, List.filterMap_append]
      congr 1
      obtain ⟨_, e⟩ := List.getElem?_eq_some_iff.mp hd
      rw [e]
      simp only [List.filterMap_cons, List.filterMap_nil]
      cases f d <;> rfl
    refine ⟨s1, e1, wp_mono0 h1 fun b s2 h2 => ?_⟩
    cases b with
    | false =>
      simp only [Bool.false_eq_true, if_false] at h2 ⊢
      exact ⟨by rw [tk, h2.1]; simp, h2.2⟩
    | true =>
      simp only [if_true] at h2 ⊢
      exact wp_mono0 h2 fun r s3 h3 => wp_mono0 h3 fun e s4 h4 => ⟨by rw [tk, h4.1], h4.2⟩
  · rintro acc s' ⟨rfl, rfl⟩
    rw [List.take_length]; exact fin
theorem lc_each0 {G : GD} {B : M Bool} {T : M Rs} {vs : List Nat} {Q : List D → S → Prop} {X : XQ} {α : Type} {xs : List α} {s : S} (g : α → D) (f : α → Option D)
    (step : ∀ d ∈ xs, ∃ s1, G (g d) s = some s1 ∧ Wp0 (B s1) (fun b s2 => if b = true then Wp0 (T s2) (fun r s3 => Wp0 (stab r s3) (fun e s4 => f d = some e ∧ (⟨wipeE vs s4.env, s4.μ⟩ : S) = s) fun _ _ => False) (fun _ _ => False) else f d = none ∧ (⟨wipeE vs s2.env, s2.μ⟩ : S) = s) fun _ _ => False)
    (fin : Q (xs.filterMap f) s) : Wp0 (lcD G B T vs (xs.map g) [] s) Q X := by
  refine lc_inv0 (fun k acc s' => acc = (xs.take k).filterMap f ∧ s' = s) ⟨rfl, rfl⟩ ?_ ?_
  · rintro k d acc s' hd ⟨rfl, rfl⟩
    rw [List.getElem?_map] at hd
    obtain ⟨d, hd', rfl⟩ := Option.map_eq_some_iff.mp hd
    clear hd
    have hd := hd'
    obtain ⟨s1, e1, h1⟩ := step d (List.mem_of_getElem? hd)
    have hk : k < xs.length := (List.getElem?_eq_some_iff.mp hd).1
    have tk : (xs.take (k + 1)).filterMap f = (xs.take k).filterMap f ++ (match f d with | some e => [e] | none => []) := by
      rw [List.take_succ_eq_append_getElem hk, List.filterMap_append]
      congr 1
      obtain ⟨_, e⟩ := List.getElem?_eq_some_iff.mp hd
      rw [e]
      simp only [List.filterMap_cons, List.filterMap_nil]
      cases f d <;> rfl
    refine ⟨s1, e1, wp_mono0 h1 fun b s2 h2 => ?_⟩
    cases b with
    | false =>
      simp only [Bool.false_eq_true, if_false] at h2 ⊢
      exact ⟨by rw [tk, h2.1]; simp, h2.2⟩
    | true =>
      simp only [if_true] at h2 ⊢
      exact wp_mono0 h2 fun r s3 h3 => wp_mono0 h3 fun e s4 h4 => ⟨by rw [tk, h4.1], h4.2⟩
  · rintro acc s' ⟨rfl, rfl⟩
    rw [List.length_map, List.take_length]; exact fin
/-- [f(x) for x in xs] -/
theorem lc_all0 {G : GD} {B : M Bool} {T : M Rs} {vs : List Nat} {Q : List D → S → Prop} {X : XQ} {α : Type} {xs : List α} {s : S} (g : α → D) (f : α → D)
    (step : ∀ d ∈ xs, ∃ s1, G (g d) s = some s1 ∧ Wp0 (B s1) (fun b s2 => if b = true then Wp0 (T s2) (fun r s3 => Wp0 (stab r s3) (fun e s4 => e = f d ∧ (⟨wipeE vs s4.env, s4.μ⟩ : S) = s) fun _ _ => False) (fun _ _ => False) else False) fun _ _ => False)
    (fin : Q (xs.map f) s) : Wp0 (lcD G B T vs (xs.map g) [] s) Q X := by
  refine lc_each0 g (fun x => some (f x)) (fun d hd => ?_) (by rw [show xs.filterMap (fun x => some (f x)) = xs.map f from congrFun (List.filterMap_eq_map (f := f)) xs]; exact fin)
  obtain ⟨s1, e1, h1⟩ := step d hd
  refine ⟨s1, e1, wp_mono0 h1 fun b s2 h2 => ?_⟩
  cases b with
  | false => simp only [Bool.false_eq_true, if_false] at h2
  | true =>
    simp only [if_true] at h2 ⊢
    exact wp_mono0 h2 fun r s3 h3 => wp_mono0 h3 fun e s4 h4 => ⟨by rw [h4.1], h4.2⟩
/-- [x for x in xs if p(x)] -/
theorem lc_filter0 {G : GD} {B : M Bool} {T : M Rs} {vs : List Nat} {Q : List D → S → Prop} {X : XQ} {α : Type} {xs : List α} {s : S} (g : α → D) (p : α → Bool)
    (step : ∀ d ∈ xs, ∃ s1, G (g d) s = some s1 ∧ Wp0 (B s1) (fun b s2 => b = p d ∧ if b = true then Wp0 (T s2) (fun r s3 => Wp0 (stab r s3) (fun e s4 => e = g d ∧ (⟨wipeE vs s4.env, s4.μ⟩ : S) = s) fun _ _ => False) (fun _ _ => False) else (⟨wipeE vs s2.env, s2.μ⟩ : S) = s) fun _ _ => False)
    (fin : Q ((xs.filter p).map g) s) : Wp0 (lcD G B T vs (xs.map g) [] s) Q X := by
  have fe : xs.filterMap (fun x => if p x = true then some (g x) else none) = (xs.filter p).map g := by
    clear step fin
    induction xs with
    | nil => rfl
    | cons x xs ih => cases h : p x <;> simp [h, ih]
  refine lc_each0 g (fun x => if p x = true then some (g x) else none) (fun d hd => ?_) (by rw [fe]; exact fin)
  obtain ⟨s1, e1, h1⟩ := step d hd
  refine ⟨s1, e1, wp_mono0 h1 fun b s2 h2 => ?_⟩
  obtain ⟨hb, h2⟩ := h2
  cases b with
  | false =>
    simp only [Bool.false_eq_true, if_false] at h2 ⊢
    exact ⟨by rw [← hb]; rfl, h2⟩
  | true =>
    simp only [if_true] at h2 ⊢
    exact wp_mono0 h2 fun r s3 h3 => wp_mono0 h3 fun e s4 h4 => ⟨by rw [← hb, if_pos rfl, h4.1], h4.2⟩
section
variable {i j : Int} {a b : Str} {xs ys ds : List D} {d e : D} {x y : Bool} {μ : List D} {s : S} {Q : Rs → List D → Prop} {X : XF}
theorem outQ_v0 : outQ Q X (.rt (.v d)) s = Q (.v d) s.μ := Eq.trans rfl rfl
theorem outQ_fr0 : outQ Q X (.rt (.fr d)) s = Q (.fr d) s.μ := Eq.trans rfl rfl
theorem outQ_nx0 : outQ Q X .nx s = Q (.v .non) s.μ := Eq.trans rfl rfl
theorem outQ_ex0 {x : Xn} : outQ Q X (.ex x) s = X x s.μ := Eq.trans rfl rfl
def outA (o : Option (Option A)) (μ : List D) (Q : Rs → List D → Prop) : Prop := match o with
  | some (some (.o d)) => Q (.fr d) μ
  | some (some (.s d)) => Q (.v d) μ
  | _ => False
theorem outQ_al0 {n : Nat} : outQ Q X (.rt (.al n)) s = outA s.env[n]? s.μ Q := Eq.trans rfl rfl
theorem outA_o : outA (some (some (.o d))) μ Q = Q (.fr d) μ := rfl
theorem outA_s : outA (some (some (.s d))) μ Q = Q (.v d) μ := rfl
theorem outIQ_nx0 : outIQ Q X .nx s = outA s.env[(0 : Nat)]? s.μ Q := Eq.trans rfl rfl
theorem outIQ_ex0 {x : Xn} : outIQ Q X (.ex x) s = X x s.μ := Eq.trans rfl rfl
theorem vAdd_int : vAdd (.int i) (.int j) = some (.v (.int (i + j))) := rfl
theorem vAdd_str : vAdd (.str a) (.str b) = if fits (a.length + b.length) = true then some (.v (.str (a ++ b))) else none := rfl
theorem vAdd_list : vAdd (.list xs) (.list ys) = if fits (xs.length + ys.length) = true then some (.fr (.list (xs ++ ys))) else none := rfl
theorem vSub_int : vSub (.int i) (.int j) = some (.v (.int (i - j))) := rfl
theorem vMul_int : vMul (.int i) (.int j) = if mulOk i j = true then some (.v (.int (i * j))) else none := rfl
theorem vDiv_int : vDiv (.int i) (.int j) = if (decide (0 < j) && decide (j.natAbs.log2 < 9000)) = true then some (.v (.int (i / j))) else none := rfl
theorem vMod_int : vMod (.int i) (.int j) = if 0 < j then some (.v (.int (i % j))) else none := rfl
theorem vPow_int : vPow (.int i) (.int j) = if (decide (0 ≤ j) && decide ((Builtin.Int.intBits i : Int) * j ≤ 2 ^ 27)) = true then some (.v (.int (i ^ j.toNat))) else none := rfl
theorem vLt_int : vLt (.int i) (.int j) = some (.v (.bl (decide (i < j)))) := rfl
theorem vLe_int : vLe (.int i) (.int j) = some (.v (.bl (decide (i ≤ j)))) := rfl
theorem vGt_int : vGt (.int i) (.int j) = some (.v (.bl (decide (j < i)))) := rfl
theorem vGe_int : vGe (.int i) (.int j) = some (.v (.bl (decide (j ≤ i)))) := rfl
theorem vEq_int : vEq (.int i) (.int j) = some (.v (.bl (decide (i = j)))) := rfl
theorem vEq_str : vEq (.str a) (.str b) = some (.v (.bl (decide (a = b)))) := rfl
theorem vEq_bl : vEq (.bl x) (.bl y) = some (.v (.bl (decide (x = y)))) := rfl
theorem vNe_int : vNe (.int i) (.int j) = some (.v (.bl (!decide (i = j)))) := rfl
theorem vNe_str : vNe (.str a) (.str b) = some (.v (.bl (!decide (a = b)))) := rfl
theorem vNe_bl : vNe (.bl x) (.bl y) = some (.v (.bl (!decide (x = y)))) := rfl
theorem vIs_non : vIs .non .non = some (.v (.bl true)) := rfl
theorem vIs_int : vIs (.int i) .non = some (.v (.bl false)) := rfl
theorem vIs_str : vIs (.str a) .non = some (.v (.bl false)) := rfl
theorem vIs_list : vIs (.list xs) .non = some (.v (.bl false)) := rfl
theorem vIs_tup : vIs (.tup xs) .non = some (.v (.bl false)) := rfl
theorem vIsNot_non : vIsNot .non .non = some (.v (.bl false)) := rfl
theorem vIsNot_int : vIsNot (.int i) .non = some (.v (.bl true)) := rfl
theorem vIsNot_str : vIsNot (.str a) .non = some (.v (.bl true)) := rfl
theorem vIsNot_list : vIsNot (.list xs) .non = some (.v (.bl true)) := rfl
theorem vIsNot_tup : vIsNot (.tup xs) .non = some (.v (.bl true)) := rfl
theorem vIx_list : vIx (.list xs) (.int i) = (atI xs i).map .v := rfl
theorem vIx_scr : vIx (.scr xs) (.int i) = (atI xs i).map .v := rfl
theorem vIx_tup : vIx (.tup xs) (.int i) = (atI xs i).map .v := rfl
theorem vNeg_int : vNeg (.int i) = some (.v (.int (-i))) := rfl
theorem vIp_int {f : Int → Int → Int} : vIp f (.int i) (.int j) = some (.v (.int (f i j))) := rfl
theorem bLen_str : bLen [.str a] = if fits a.length = true then some (.v (.int a.length)) else none := rfl
theorem bLen_list : bLen [.list xs] = some (.v (.int xs.length)) := rfl
theorem bLen_scr : bLen [.scr xs] = some (.v (.int xs.length)) := rfl
theorem bLen_tup : bLen [.tup xs] = some (.v (.int xs.length)) := rfl
theorem bAbs_int : bAbs [.int i] = some (.v (.int (if i < 0 then -i else i))) := rfl
theorem bMax_int : bMax [.int i, .int j] = some (.v (.int (if j > i then j else i))) := rfl
theorem bMin_int : bMin [.int i, .int j] = some (.v (.int (if j < i then j else i))) := rfl
theorem bList_list : bList [.list xs] = some (.fr (.list xs)) := rfl
theorem bList_scr : bList [.scr xs] = some (.fr (.list xs)) := rfl
theorem bList_tup : bList [.tup xs] = some (.fr (.list xs)) := rfl
theorem bInt_int : bInt [.int i] = some (.v (.int i)) := rfl
theorem bInt_bl : bInt [.bl x] = some (.v (.int (if x = true then 1 else 0))) := rfl
theorem slL_list {lo hi : Option Int} : slL (.list xs) lo hi = some (.fr (.list (cutL xs lo hi))) := rfl
theorem slS_str {lo hi : Option Int} : slS (.str a) lo hi = if fits a.length = true then some (.v (.str (cutS a lo hi))) else none := rfl
theorem isL_list : isL (.list xs) = true := rfl
theorem asI_int : asI (.int i) = some i := rfl
theorem itemsL_list : itemsL (.list xs) = some xs := rfl
theorem itemsL_scr : itemsL (.scr xs) = some xs := rfl
theorem mAppend_eq : mAppend [d] (.list xs) = if xs.length < 16777216 then some (.non, .list (xs ++ [d])) else none := rfl
theorem mExtend_eq : mExtend [.list ys] (.list xs) = if fits (xs.length + ys.length) = true then some (.non, .list (xs ++ ys)) else none := rfl
theorem ite_some_eq {α : Type} {c : Prop} [Decidable c] {a b : α} : ((if c then some a else none) = some b) = (c ∧ a = b) := by
  by_cases h : c <;> simp [h]
theorem mulOk_l {i j : Int} (h1 : -(2 ^ 64) < i) (h2 : i < 2 ^ 64) : mulOk i j = true := by unfold mulOk; rw [decide_eq_true h1, decide_eq_true h2]; rfl
theorem mulOk_r {i j : Int} (h1 : -(2 ^ 64) < j) (h2 : j < 2 ^ 64) : mulOk i j = true := by unfold mulOk; rw [decide_eq_true h1, decide_eq_true h2]; simp
theorem atI_nat {α : Type} {xs : List α} {k : Nat} (h : k < xs.length) : atI xs (k : Int) = some xs[k] := by
  unfold atI ixN
  rw [if_pos (by omega), if_pos (by omega)]
  simp [h]
theorem rng_get {lo : Int} {n k : Nat} {d : D} (h : (rngD lo n)[k]? = some d) : d = .int (lo + k) ∧ k < n := by
  unfold rngD at h
  rw [List.getElem?_map] at h
  by_cases hk : k < n
  · rw [List.getElem?_range hk] at h
    cases h
    exact ⟨rfl, hk⟩
  · rw [List.getElem?_eq_none (by simpa using hk)] at h; cases h
theorem atI0 : atI (d :: ds) 0 = some d := by simp [atI, ixN]
end
-- wu begin
theorem wu_TC0 {d : D} {z : S} {Qz : Rs → S → Prop} {Xz : XQ} : Wp0 (TC d z) Qz Xz = Wp0 ((ret (.v d) : M Rs) z) Qz Xz := Eq.trans rfl rfl
theorem wu_TOp0 {f : D → D → Option Rs} {a b : M Rs} {z : S} {Qz : Rs → S → Prop} {Xz : XQ} : Wp0 (TOp f a b z) Qz Xz = Wp0 ((bnd a fun x => bnd b fun y => bnd (pk x) fun d => bnd (pk y) fun e => opt (f d e) : M Rs) z) Qz Xz := Eq.trans rfl rfl
theorem wu_TUn0 {f : D → Option Rs} {a : M Rs} {z : S} {Qz : Rs → S → Prop} {Xz : XQ} : Wp0 (TUn f a z) Qz Xz = Wp0 ((bnd a fun x => bnd (pk x) fun d => opt (f d) : M Rs) z) Qz Xz := Eq.trans rfl rfl
theorem wu_TB0 {a : M Rs} {z : S} {Qz : Bool → S → Prop} {Xz : XQ} : Wp0 (TB a z) Qz Xz = Wp0 ((bnd a fun x => bnd (pk x) asB : M Bool) z) Qz Xz := Eq.trans rfl rfl
theorem wu_TNotV0 {a : M Rs} {z : S} {Qz : Rs → S → Prop} {Xz : XQ} : Wp0 (TNotV a z) Qz Xz = Wp0 ((bnd (TB a) fun b => ret (.v (.bl (!b))) : M Rs) z) Qz Xz := Eq.trans rfl rfl
theorem wu_TAndV0 {a b : M Rs} {z : S} {Qz : Rs → S → Prop} {Xz : XQ} : Wp0 (TAndV a b z) Qz Xz = Wp0 ((bnd (TB a) fun x => if x = true then b else ret (.v (.bl false)) : M Rs) z) Qz Xz := Eq.trans rfl rfl
theorem wu_TOrV0 {a b : M Rs} {z : S} {Qz : Rs → S → Prop} {Xz : XQ} : Wp0 (TOrV a b z) Qz Xz = Wp0 ((bnd (TB a) fun x => if x = true then ret (.v (.bl true)) else b : M Rs) z) Qz Xz := Eq.trans rfl rfl
theorem wu_TIf0 {β : Type} {t : M Bool} {a b : M β} {z : S} {Qz : β → S → Prop} {Xz : XQ} : Wp0 (TIf t a b z) Qz Xz = Wp0 ((bnd t fun x => if x = true then a else b : M β) z) Qz Xz := Eq.trans rfl rfl
theorem wu_TNot0 {t : M Bool} {z : S} {Qz : Bool → S → Prop} {Xz : XQ} : Wp0 (TNot t z) Qz Xz = Wp0 ((bnd t fun x => ret (!x) : M Bool) z) Qz Xz := Eq.trans rfl rfl
theorem wu_TAnd0 {t u : M Bool} {z : S} {Qz : Bool → S → Prop} {Xz : XQ} : Wp0 (TAnd t u z) Qz Xz = Wp0 ((bnd t fun x => if x = true then u else ret false : M Bool) z) Qz Xz := Eq.trans rfl rfl
theorem wu_TOr0 {t u : M Bool} {z : S} {Qz : Bool → S → Prop} {Xz : XQ} : Wp0 (TOr t u z) Qz Xz = Wp0 ((bnd t fun x => if x = true then ret true else u : M Bool) z) Qz Xz := Eq.trans rfl rfl
theorem wu_TYes0 {z : S} {Qz : Bool → S → Prop} {Xz : XQ} : Wp0 (TYes z) Qz Xz = Wp0 ((ret true : M Bool) z) Qz Xz := Eq.trans rfl rfl
theorem wu_TChain0 {f g : D → D → Option Rs} {a b k : M Rs} {z : S} {Qz : Rs → S → Prop} {Xz : XQ} : Wp0 (TChain f g a b k z) Qz Xz = Wp0 ((bnd a fun x => bnd b fun y => bnd (pk x) fun d => bnd (pk y) fun e => bnd (opt (f d e)) fun r => match r with
  | .v (.bl z) => if z = true then bnd k fun q => bnd (pk y) fun e2 => bnd (pk q) fun u => opt (g e2 u) else ret (.v (.bl false))
  | _ => fun _ => none : M Rs) z) Qz Xz := Eq.trans rfl rfl
theorem wu_TNil0 {z : S} {Qz : (List D) → S → Prop} {Xz : XQ} : Wp0 (TNil z) Qz Xz = Wp0 ((ret [] : M (List D)) z) Qz Xz := Eq.trans rfl rfl
theorem wu_TCons0 {a : M Rs} {t : M (List D)} {z : S} {Qz : (List D) → S → Prop} {Xz : XQ} : Wp0 (TCons a t z) Qz Xz = Wp0 ((bnd a fun x => bnd (stab x) fun d => bnd t fun ds => ret (d :: ds) : M (List D)) z) Qz Xz := Eq.trans rfl rfl
theorem wu_TStar0 {a : M Rs} {t : M (List D)} {z : S} {Qz : (List D) → S → Prop} {Xz : XQ} : Wp0 (TStar a t z) Qz Xz = Wp0 ((bnd a fun x => bnd (pk x) fun d => match d with
  | .list xs => bnd t fun ds => ret (xs ++ ds)
  | .tup xs => bnd t fun ds => ret (xs ++ ds)
  | .scr xs => bnd t fun ds => ret (xs ++ ds)
  | _ => fun _ => none : M (List D)) z) Qz Xz := Eq.trans rfl rfl
theorem wu_PNil0 {z : S} {Qz : (List Rs) → S → Prop} {Xz : XQ} : Wp0 (PNil z) Qz Xz = Wp0 ((ret [] : M (List Rs)) z) Qz Xz := Eq.trans rfl rfl
theorem wu_PCons0 {a : M Rs} {t : M (List Rs)} {z : S} {Qz : (List Rs) → S → Prop} {Xz : XQ} : Wp0 (PCons a t z) Qz Xz = Wp0 ((bnd a fun x => bnd t fun xs => ret (x :: xs) : M (List Rs)) z) Qz Xz := Eq.trans rfl rfl
theorem wu_TLst0 {t : M (List D)} {z : S} {Qz : Rs → S → Prop} {Xz : XQ} : Wp0 (TLst t z) Qz Xz = Wp0 ((bnd t fun ds => if fits ds.length = true then ret (.fr (.list ds)) else fun _ => none : M Rs) z) Qz Xz := Eq.trans rfl rfl
theorem wu_TTup0 {t : M (List D)} {z : S} {Qz : Rs → S → Prop} {Xz : XQ} : Wp0 (TTup t z) Qz Xz = Wp0 ((bnd t fun ds => if fits ds.length = true then ret (.fr (.tup ds)) else fun _ => none : M Rs) z) Qz Xz := Eq.trans rfl rfl
theorem wu_TCB0 {f : List D → Option Rs} {t : M (List Rs)} {z : S} {Qz : Rs → S → Prop} {Xz : XQ} : Wp0 (TCB f t z) Qz Xz = Wp0 ((bnd t fun rs => bnd (pks rs) fun ds => opt (f ds) : M Rs) z) Qz Xz := Eq.trans rfl rfl
theorem wu_TNext0 {z : S} {Qz : Fl → S → Prop} : Ws0 (TNext z) Qz = Ws0 ((fun s => some (.nx, s) : TSd) z) Qz := Eq.trans rfl rfl
theorem wu_TBreak0 {z : S} {Qz : Fl → S → Prop} : Ws0 (TBreak z) Qz = Ws0 ((fun s => some (.bk, s) : TSd) z) Qz := Eq.trans rfl rfl
theorem wu_TCont0 {z : S} {Qz : Fl → S → Prop} : Ws0 (TCont z) Qz = Ws0 ((fun s => some (.ct, s) : TSd) z) Qz := Eq.trans rfl rfl
theorem wu_TRet0 {T : M Rs} {z : S} {Qz : Fl → S → Prop} : Ws0 (TRet T z) Qz = Ws0 ((sb T fun r s => some (.rt r, s) : TSd) z) Qz := Eq.trans rfl rfl
theorem wu_TRetN0 {z : S} {Qz : Fl → S → Prop} : Ws0 (TRetN z) Qz = Ws0 ((fun s => some (.rt (.v .non), s) : TSd) z) Qz := Eq.trans rfl rfl
theorem wu_TDrop0 {T : M Rs} {z : S} {Qz : Fl → S → Prop} : Ws0 (TDrop T z) Qz = Ws0 ((sb T fun _ s => some (.nx, s) : TSd) z) Qz := Eq.trans rfl rfl
theorem wu_TIfS0 {t : M Bool} {T U : TSd} {z : S} {Qz : Fl → S → Prop} : Ws0 (TIfS t T U z) Qz = Ws0 ((sb t fun b => if b = true then T else U : TSd) z) Qz := Eq.trans rfl rfl
theorem wu_TAsg0 {T : M Rs} {i : Nat} {z : S} {Qz : Fl → S → Prop} : Ws0 (TAsg T i z) Qz = Ws0 ((sb T fun r => sb (res1 r) fun r s => nxt (asg i r s) : TSd) z) Qz := Eq.trans rfl rfl
theorem wu_TPar0 {is : List Nat} {T : M (List Rs)} {z : S} {Qz : Fl → S → Prop} : Ws0 (TPar is T z) Qz = Ws0 ((sb T fun rs => sb (res rs) fun rs s => nxt (asgs is rs s) : TSd) z) Qz := Eq.trans rfl rfl
theorem wu_ILst0 {T : M Rs} {z : S} {Qz : (List D) → S → Prop} {Xz : XQ} : Wp0 (ILst T z) Qz Xz = Wp0 ((bnd T fun r => bnd (stab r) fun d => opt (itemsL d) : M (List D)) z) Qz Xz := Eq.trans rfl rfl
theorem wu_ITup0 {T : M Rs} {z : S} {Qz : (List D) → S → Prop} {Xz : XQ} : Wp0 (ITup T z) Qz Xz = Wp0 ((bnd T fun r => bnd (stab r) fun d => opt (match d with | .tup ds => some ds | _ => none) : M (List D)) z) Qz Xz := Eq.trans rfl rfl
theorem wu_IStr0 {T : M Rs} {z : S} {Qz : (List D) → S → Prop} {Xz : XQ} : Wp0 (IStr T z) Qz Xz = Wp0 ((bnd T fun r => bnd (pk r) fun d => opt (match d with | .str z => some (z.cps.toList.map fun k => D.str ⟨#[k]⟩) | _ => none) : M (List D)) z) Qz Xz := Eq.trans rfl rfl
theorem wu_IRng10 {T : M (List D)} {z : S} {Qz : (List D) → S → Prop} {Xz : XQ} : Wp0 (IRng1 T z) Qz Xz = Wp0 ((bnd T fun ds => opt (match ds with | [.int j] => if smallI j = true then some (rngD 0 j.toNat) else none | _ => none) : M (List D)) z) Qz Xz := Eq.trans rfl rfl
theorem wu_IRng20 {T : M (List D)} {z : S} {Qz : (List D) → S → Prop} {Xz : XQ} : Wp0 (IRng2 T z) Qz Xz = Wp0 ((bnd T fun ds => opt (match ds with | [.int i, .int j] => if (smallI i && smallI j) = true then some (rngD i (j - i).toNat) else none | _ => none) : M (List D)) z) Qz Xz := Eq.trans rfl rfl
theorem wu_IEnum0 {T : M (List D)} {z : S} {Qz : (List D) → S → Prop} {Xz : XQ} : Wp0 (IEnum T z) Qz Xz = Wp0 ((bnd T fun ds => opt (match ds with | [d] => (itemsL d).map enumD | _ => none) : M (List D)) z) Qz Xz := Eq.trans rfl rfl
theorem wu_IZip0 {T : M (List D)} {z : S} {Qz : (List D) → S → Prop} {Xz : XQ} : Wp0 (IZip T z) Qz Xz = Wp0 ((bnd T fun ds => opt (match ds with | [a, b] => (match itemsL a, itemsL b with | some xs, some ys => some ((xs.zip ys).map fun p => D.tup [p.1, p.2]) | _, _ => none) | _ => none) : M (List D)) z) Qz Xz := Eq.trans rfl rfl
theorem wu_TBM0 {f : List D → D → Option (D × D)} {o : M Rs} {t : M (List D)} {z : S} {Qz : Rs → S → Prop} {Xz : XQ} : Wp0 (TBM f o t z) Qz Xz = Wp0 ((bnd o fun r => bnd (pk r) fun d => if isL d = true then bnd t fun ds => bnd (mutD r (f ds)) fun d => ret (.v d) else fun _ => none : M Rs) z) Qz Xz := Eq.trans rfl rfl
theorem wu_TBP0 {f : List D → D → Option (D × D)} {o : M Rs} {t : M (List Rs)} {z : S} {Qz : Rs → S → Prop} {Xz : XQ} : Wp0 (TBP f o t z) Qz Xz = Wp0 ((bnd o fun r => bnd (pk r) fun d => if isL d = true then bnd t fun rs => bnd (pks rs) fun ds => bnd (mutD r (f ds)) fun d => ret (.v d) else fun _ => none : M Rs) z) Qz Xz := Eq.trans rfl rfl
theorem wu_TAug0 {i : Nat} {f : D → D → Option Rs} {T : M Rs} {z : S} {Qz : Fl → S → Prop} : Ws0 (TAug i f T z) Qz = Ws0 ((sb (TVar i) fun x => sb T fun y => sb (bnd (pk x) fun d => bnd (pk y) fun e => opt (f d e)) fun r s => nxt (asg i r s) : TSd) z) Qz := Eq.trans rfl rfl
theorem wu_TSub0 {o i t : M Rs} {z : S} {Qz : Fl → S → Prop} : Ws0 (TSub o i t z) Qz = Ws0 ((sb t fun r => sb (stab r) fun d => sb o fun ro => sb i fun ri => sb (pk ri) fun k => sb (mutD ro fun l => match l, k with
  | .list xs, .int k => (ixN xs.length k).map fun j => ((), D.list (xs.set j d))
  | _, _ => none) fun _ s => some (.nx, s) : TSd) z) Qz := Eq.trans rfl rfl
theorem wu_TDPut0 {o i t : M Rs} {z : S} {Qz : Fl → S → Prop} : Ws0 (TDPut o i t z) Qz = Ws0 ((sb t fun r => sb (stab r) fun d => sb o fun ro => sb i fun ri => sb (pk ri) fun k => sb (mutD ro fun l => match l, toKey k with
  | .dict kvs, some k => if kvs.length < 16777216 then some ((), D.dict (putD kvs k d)) else none
  | _, _ => none) fun _ s => some (.nx, s) : TSd) z) Qz := Eq.trans rfl rfl
theorem wu_TFld0 {ok : Nat → Bool} {f : Str} {o t : M Rs} {z : S} {Qz : Fl → S → Prop} : Ws0 (TFld ok f o t z) Qz = Ws0 ((sb t fun r => sb (stab r) fun d => sb o fun ro => sb (mutD ro fun l => match l with
  | .obj k fs => if (ok k && decide (fs.length < 1000)) = true then some ((), D.obj k (putFd f d fs)) else none
  | _ => none) fun _ s => some (.nx, s) : TSd) z) Qz := Eq.trans rfl rfl
theorem wu_TFn0 {F : FT} {T : M (List D)} {z : S} {Qz : Rs → S → Prop} {Xz : XQ} : Wp0 (TFn F T z) Qz Xz = Wp0 ((bnd T fun ds => call F ds : M Rs) z) Qz Xz := Eq.trans rfl rfl
theorem wu_TFnK0 {F : FT} {n : Nat} {g : List D → List D} {T : M (List D)} {z : S} {Qz : Rs → S → Prop} {Xz : XQ} : Wp0 (TFnK F n g T z) Qz Xz = Wp0 ((bnd T fun ds => if ds.length = n then call F (g ds) else fun _ => none : M Rs) z) Qz Xz := Eq.trans rfl rfl
theorem wu_TMth0 {tab : Nat → Option FT} {m : Str} {o : M Rs} {T : M (List D)} {z : S} {Qz : Rs → S → Prop} {Xz : XQ} : Wp0 (TMth tab m o T z) Qz Xz = Wp0 ((bnd o fun r => bnd (stab r) fun d => bnd (pk (.v d)) fun d0 => meth tab m d0 fun F => bnd T fun ds => call F (d :: ds) : M Rs) z) Qz Xz := Eq.trans rfl rfl
theorem wu_TMthK0 {tab : Nat → Option FT} {m : Str} {n : Nat} {g : List D → List D} {o : M Rs} {T : M (List D)} {z : S} {Qz : Rs → S → Prop} {Xz : XQ} : Wp0 (TMthK tab m n g o T z) Qz Xz = Wp0 ((bnd o fun r => bnd (stab r) fun d => bnd (pk (.v d)) fun d0 => meth tab m d0 fun F => bnd T fun ds => if ds.length = n then call F (d :: g ds) else fun _ => none : M Rs) z) Qz Xz := Eq.trans rfl rfl
theorem wu_TAtt0 {tab : Nat → Option AK} {ct : Nat → Option D} {f : Str} {a : M Rs} {z : S} {Qz : Rs → S → Prop} {Xz : XQ} : Wp0 (TAtt tab ct f a z) Qz Xz = Wp0 ((bnd a fun r => bnd (pk r) fun d0 => bnd (opt (attD tab ct f d0)) fun d => ret (.v d) : M Rs) z) Qz Xz := Eq.trans rfl rfl
theorem wu_TAttE0 {tab : Nat → Option AK} {f : Str} {a : M Rs} {z : S} {Qz : Rs → S → Prop} {Xz : XQ} : Wp0 (TAttE tab f a z) Qz Xz = Wp0 ((bnd a fun r => bnd (pk r) fun d0 => bnd (opt (attE tab f d0)) fun d => ret (.v d) : M Rs) z) Qz Xz := Eq.trans rfl rfl
theorem wu_TNoP0 {z : S} {Qz : (Option Int) → S → Prop} {Xz : XQ} : Wp0 (TNoP z) Qz Xz = Wp0 ((ret none : M (Option Int)) z) Qz Xz := Eq.trans rfl rfl
theorem wu_TPart0 {a : M Rs} {z : S} {Qz : (Option Int) → S → Prop} {Xz : XQ} : Wp0 (TPart a z) Qz Xz = Wp0 ((bnd a fun r => bnd (pk r) fun d => bnd (opt (asI d)) fun i => ret (some i) : M (Option Int)) z) Qz Xz := Eq.trans rfl rfl
theorem wu_TSl0 {f : D → Option Int → Option Int → Option Rs} {a : M Rs} {lo hi : M (Option Int)} {z : S} {Qz : Rs → S → Prop} {Xz : XQ} : Wp0 (TSl f a lo hi z) Qz Xz = Wp0 ((bnd a fun r => bnd lo fun l => bnd hi fun h => bnd (pk r) fun d => opt (f d l h) : M Rs) z) Qz Xz := Eq.trans rfl rfl
theorem wu_TRevL0 {a : M Rs} {z : S} {Qz : Rs → S → Prop} {Xz : XQ} : Wp0 (TRevL a z) Qz Xz = Wp0 ((TUn revL a : M Rs) z) Qz Xz := Eq.trans rfl rfl
theorem wu_TDGet0 {a b : M Rs} {z : S} {Qz : Rs → S → Prop} {Xz : XQ} : Wp0 (TDGet a b z) Qz Xz = Wp0 ((bnd a fun x => bnd b fun y => bnd (pk x) fun d => bnd (pk y) fun k => bnd (opt (getD d k)) fun r => ret (.v r) : M Rs) z) Qz Xz := Eq.trans rfl rfl
theorem wu_TDNew0 {z : S} {Qz : Rs → S → Prop} {Xz : XQ} : Wp0 (TDNew z) Qz Xz = Wp0 ((ret (.fr (.dict [])) : M Rs) z) Qz Xz := Eq.trans rfl rfl
theorem wu_TIndex0 {o : M Rs} {t : M (List Rs)} {z : S} {Qz : Rs → S → Prop} {Xz : XQ} : Wp0 (TIndex o t z) Qz Xz = Wp0 ((bnd o fun r => bnd (pk r) fun d0 => if (itemsL d0).isSome = true then bnd t fun rs => bnd (pk r) fun d => bnd (pks rs) fun es => opt (indexD d es) else fun _ => none : M Rs) z) Qz Xz := Eq.trans rfl rfl
theorem wu_TAsgG0 {T : M Rs} {G : GD} {z : S} {Qz : Fl → S → Prop} : Ws0 (TAsgG T G z) Qz = Ws0 ((sb T fun r => sb (stab r) fun d s => nxt (G d s) : TSd) z) Qz := Eq.trans rfl rfl
theorem wu_TKeep0 {T : M Rs} {z : S} {Qz : Rs → S → Prop} {Xz : XQ} : Wp0 (TKeep T z) Qz Xz = Wp0 ((bnd T fun r s => match r with
  | .fr d => some (.ok (.v (.loc s.μ.length)), { s with μ := s.μ ++ [d] })
  | _ => none : M Rs) z) Qz Xz := Eq.trans rfl rfl
theorem wu_TSup0 {kid : Nat} {F : FT} {T : M (List D)} {z : S} {Qz : Rs → S → Prop} {Xz : XQ} : Wp0 (TSup kid F T z) Qz Xz = Wp0 ((bnd (TVar 0) fun r => bnd (stab r) fun d => bnd (pk (.v d)) fun d0 => match d0 with
  | .obj k _ => if k = kid then bnd T fun ds => call F (d :: ds) else fun _ => none
  | _ => fun _ => none : M Rs) z) Qz Xz := Eq.trans rfl rfl
theorem wu_TDct10 {a b : M Rs} {z : S} {Qz : Rs → S → Prop} {Xz : XQ} : Wp0 (TDct1 a b z) Qz Xz = Wp0 ((bnd a fun x => bnd (stab x) fun dk => bnd b fun y => bnd (stab y) fun dv => bnd (opt (toKey dk)) fun k => ret (.fr (.dict [(k, dv)])) : M Rs) z) Qz Xz := Eq.trans rfl rfl
theorem wu_TLenSet0 {a : M Rs} {z : S} {Qz : Rs → S → Prop} {Xz : XQ} : Wp0 (TLenSet a z) Qz Xz = Wp0 ((TUn lenSet a : M Rs) z) Qz Xz := Eq.trans rfl rfl
theorem wu_TRaise0 {k : Nat} {z : S} {Qz : Fl → S → Prop} : Ws0 (TRaise k z) Qz = Ws0 ((fun s => some (.ex ⟨k, []⟩, s) : TSd) z) Qz := Eq.trans rfl rfl
theorem wu_TRaiseF0 {k : Nat} {f : Str} {T : M Rs} {z : S} {Qz : Fl → S → Prop} : Ws0 (TRaiseF k f T z) Qz = Ws0 ((sb T fun r => sb (stab r) fun d s => some (.ex ⟨k, [(f, d)]⟩, s) : TSd) z) Qz := Eq.trans rfl rfl
-- wu end
theorem wp_meth0 {tab : Nat → Option FT} {m : Str} {c : Nat} {fs : List (Str × D)} {k : FT → M Rs} {s : S} {Q : Rs → S → Prop} {X : XQ} : Wp0 (meth tab m (.obj c fs) k s) Q X = (fs.lookup m = none ∧ ∃ F, tab c = some F ∧ Wp0 (k F s) Q X) := by
  unfold meth
  simp only
  by_cases h : (fs.lookup m).isNone = true
  · rw [if_pos h]
    have h' : fs.lookup m = none := by simpa using h
    cases e : tab c with
    | none => simp [Wp0]
    | some F => simp [h']
  · rw [if_neg h]
    have h' : ¬ fs.lookup m = none := by simpa using h
    simp [Wp0, h']
end Z
/-! laws on lists of texts, slices -/
namespace Z
open PySem PySem.Spec PyProof.Rows L2 U ClX
variable {zs : List Str} {z : Str}
theorem flat_strs : (zs.map D.str).all flatD = true := by rw [List.all_eq_true]; intro d hd; obtain ⟨z, _, rfl⟩ := List.mem_map.mp hd; rfl
theorem inF_strs : inF (.str z) (zs.map D.str) = decide (z ∈ zs) := by
  unfold inF
  induction zs with
  | nil => rfl
  | cons y ys ih =>
    rw [List.map_cons, List.any_cons, ih]
    show ((y == z) || _) = _
    by_cases e : y = z
    · subst e; simp
    · have e' : ¬ z = y := fun h => e h.symm
      simp [e, e']
theorem inL_strs : inL (.str z) (zs.map D.str) = some (decide (z ∈ zs)) := by
  unfold inL
  rw [if_pos (by rw [flat_strs]; rfl), inF_strs]
theorem vIn_strs : vIn (.str z) (.list (zs.map D.str)) = some (.v (.bl (decide (z ∈ zs)))) := by
  show (inL (.str z) (zs.map D.str)).map _ = _
  rw [inL_strs]; rfl
theorem vNotIn_strs : vNotIn (.str z) (.list (zs.map D.str)) = some (.v (.bl (!decide (z ∈ zs)))) := by
  show (inL (.str z) (zs.map D.str)).map _ = _
  rw [inL_strs]; rfl
theorem vIn_dict {kvs : List (Key × D)} : vIn (.str z) (.dict kvs) = some (.v (.bl (valD kvs (.inr z)).isSome)) := rfl
theorem vNotIn_dict {kvs : List (Key × D)} : vNotIn (.str z) (.dict kvs) = some (.v (.bl (!(valD kvs (.inr z)).isSome))) := rfl
def ix : List Str → Str → Nat
  | [], _ => 0
  | y :: ys, z => if y = z then 0 else ix ys z + 1
theorem ix_lt : ∀ {zs : List Str} {z : Str}, z ∈ zs → ix zs z < zs.length
  | y :: ys, z, h => by
    unfold ix
    by_cases e : y = z
    · rw [if_pos e]; exact Nat.zero_lt_succ _
    · rw [if_neg e]
      exact Nat.succ_lt_succ (ix_lt ((List.mem_cons.mp h).resolve_left fun h => e h.symm))
theorem ix_get : ∀ {zs : List Str} {z : Str}, z ∈ zs → zs[ix zs z]? = some z
  | y :: ys, z, h => by
    unfold ix
    by_cases e : y = z
    · rw [if_pos e, e]; rfl
    · rw [if_neg e]
      exact ix_get ((List.mem_cons.mp h).resolve_left fun h => e h.symm)
theorem ixF_strs : ∀ {zs : List Str} {z : Str} {n : Nat}, z ∈ zs → ixF (.str z) (zs.map D.str) n = some (n + ix zs z)
  | y :: ys, z, n, h => by
    show (if (y == z) = true then some n else ixF (.str z) (ys.map D.str) (n + 1)) = _
    unfold ix
    by_cases e : y = z
    · rw [if_pos e, if_pos (by simp [e])]; rfl
    · rw [if_neg e, if_neg (by simp [e]), ixF_strs ((List.mem_cons.mp h).resolve_left fun h => e h.symm)]
      congr 1; omega
theorem index_strs (h : z ∈ zs) : indexD (.list (zs.map D.str)) [.str z] = some (.v (.int (ix zs z : Nat))) := by
  show (if (flatD (.str z) && (zs.map D.str).all flatD) = true then _ else _) = _
  rw [if_pos (by rw [flat_strs]; rfl), ixF_strs h, Nat.zero_add]; rfl
section
variable {α β : Type} {xs : List α} {i : Nat}
theorem cutL_map {f : α → β} {lo hi : Option Int} : cutL (xs.map f) lo hi = (cutL xs lo hi).map f := by
  unfold cutL
  rw [List.length_map, ← List.map_drop, ← List.map_take]
theorem cutL_to : cutL xs none (some (i : Int)) = xs.take i := by
  unfold cutL
  rw [HT.sIx_none, HT.sIx_nat, Nat.sub_zero, List.drop_zero]
  by_cases h : i ≤ xs.length
  · rw [Nat.min_eq_left h]
  · rw [Nat.min_eq_right (by omega), List.take_length, List.take_of_length_le (by omega)]
theorem cutL_from : cutL xs (some (i : Int)) none = xs.drop i := by
  unfold cutL
  rw [HT.sIx_none, HT.sIx_nat]
  by_cases h : i ≤ xs.length
  · rw [Nat.min_eq_left h, List.take_of_length_le (by rw [List.length_drop]; omega)]
  · rw [Nat.min_eq_right (by omega), Nat.sub_self, List.take_zero, List.drop_of_length_le (by omega)]
theorem cutL_last (h : 0 < i) : cutL xs (some (-(i : Int))) none = xs.drop (xs.length - i) := by
  unfold cutL
  rw [HT.sIx_none]
  have e : HT.sIx xs.length 0 (some (-(i : Int))) = xs.length - i := by
    show (if -(i : Int) < 0 then (-(i : Int) + (xs.length : Int)).toNat else min (-(i : Int)).toNat xs.length) = _
    rw [if_pos (by omega)]; omega
  rw [e, List.take_of_length_le (by rw [List.length_drop]; omega)]
end
/-! len(set(..)) -/
theorem ddS_new {acc : List Str} {x : Str} (h : x ∉ acc) : ddS acc x = acc ++ [x] := by
  unfold ddS
  rw [if_neg]
  rw [List.any_eq_true]
  rintro ⟨y, hy, e⟩
  exact h (by rw [beq_iff_eq] at e; rw [← e]; exact hy)
theorem dd_nodup {xs : List Str} (h : xs.Nodup) : dd xs = xs := by
  unfold dd
  suffices q : ∀ (l acc : List Str), (acc ++ l).Nodup → l.foldl ddS acc = acc ++ l by simpa using q xs [] (by simpa using h)
  intro l
  induction l with
  | nil => intro acc _; simp
  | cons x l ih =>
    intro acc nd
    rw [List.foldl_cons, ddS_new]
    · rw [ih (acc ++ [x]) (by simpa using nd)]; simp
    · intro hx
      have := List.nodup_append.mp nd
      exact this.2.2 x hx x List.mem_cons_self rfl
theorem dd_const {xs : List Str} {c : Str} (h : ∀ x ∈ xs, x = c) : (dd xs).length ≤ 1 := by
  unfold dd
  suffices q : ∀ (l acc : List Str), (∀ x ∈ l, x = c) → (acc = [] ∨ acc = [c]) → (l.foldl ddS acc = [] ∨ l.foldl ddS acc = [c]) by
    rcases q xs [] h (.inl rfl) with e | e <;> rw [e] <;> simp
  intro l
  induction l with
  | nil => intro acc _ h; exact h
  | cons x l ih =>
    intro acc hl ha
    obtain rfl := hl x List.mem_cons_self
    refine ih _ (fun y hy => hl y (List.mem_cons_of_mem _ hy)) ?_
    rcases ha with rfl | rfl
    · exact .inr rfl
    · exact .inr (by unfold ddS; rw [if_pos (by simp)])
theorem lenSet_nd {zs : List Str} (h : zs.Nodup) (hl : zs.length ≤ 1000) : lenSet (.list (zs.map D.str)) = some (.v (.int zs.length)) := by
  unfold lenSet
  have : (zs.map D.str).mapM asS = some zs := by
    clear h hl
    induction zs with
    | nil => rfl
    | cons x xs ih => rw [List.map_cons, List.mapM_cons, ih]; rfl
  simp only [this, Option.bind_some]
  rw [if_pos hl, dd_nodup h]
theorem lenSet_one {zs : List Str} {c : Str} (h : ∀ x ∈ zs, x = c) (hl : zs.length ≤ 1000) : ∃ n : Nat, lenSet (.list (zs.map D.str)) = some (.v (.int n)) ∧ n ≤ 1 := by
  unfold lenSet
  have : (zs.map D.str).mapM asS = some zs := by
    clear h hl
    induction zs with
    | nil => rfl
    | cons x xs ih => rw [List.map_cons, List.mapM_cons, ih]; rfl
  simp only [this, Option.bind_some]
  rw [if_pos hl]
  exact ⟨_, rfl, dd_const h⟩
/-! dict comprehensions -/
theorem wp_Dc0 {I : M (List D)} {G : GD} {B : M Bool} {T U : M Rs} {vs : List Nat} {s : S} {Q : Rs → S → Prop} {X : XQ} (h : Wp0 (I s) (fun ds s1 => ds.length ≤ 16777216 ∧ Wp0 (dcD G B T U vs ds [] ⟨wipeE vs s1.env, s1.μ⟩) (fun es s2 => Q (.fr (.dict es)) ⟨restE vs s1.env s2.env, s2.μ⟩) fun _ _ => False) X) : Wp0 (TDc I G B T U vs s) Q X := by
  unfold TDc
  rw [wp_bnd0]
  refine wp_mono0 h fun ds s1 h1 => ?_
  obtain ⟨h1, h2⟩ := h1
  rw [if_pos (by simpa [fits] using h1)]
  unfold Wp0 at h2
  cases e : dcD G B T U vs ds [] ⟨wipeE vs s1.env, s1.μ⟩ with
  | none => rw [e] at h2; exact h2.elim
  | some p =>
    obtain ⟨r, s2⟩ := p
    rw [e] at h2
    cases r with
    | ok es => exact h2
    | ex x => exact h2.elim
theorem dc_all0 {G : GD} {B : M Bool} {T U : M Rs} {vs : List Nat} {Q : List (Key × D) → S → Prop} {X : XQ} {α : Type} {s : S} (g : α → D) (f : α → Str) (h : α → D) : ∀ {xs : List α} {acc : List (Key × D)},
    (∀ x ∈ xs, ∃ s1, G (g x) s = some s1 ∧ Wp0 (B s1) (fun b s2 => b = true ∧ Wp0 (bnd T stab s2) (fun k s3 => k = .str (f x) ∧ Wp0 (bnd U stab s3) (fun e s4 => e = h x ∧ (⟨wipeE vs s4.env, s4.μ⟩ : S) = s) fun _ _ => False) fun _ _ => False) fun _ _ => False) →
    Q (mergeD acc (xs.map fun x => (.inr (f x), h x))) s → Wp0 (dcD G B T U vs (xs.map g) acc s) Q X
  | [], acc, _, q => q
  | x :: xs, acc, st, q => by
    obtain ⟨s1, e1, h1⟩ := st x (List.mem_cons_self ..)
    have next := dc_all0 (X := X) g f h (xs := xs) (acc := putD acc (.inr (f x)) (h x)) (fun y hy => st y (List.mem_cons_of_mem _ hy)) q
    rw [List.map_cons]
    unfold dcD
    rw [e1]
    simp only
    unfold Wp0 at h1
    cases e2 : B s1 with
    | none => rw [e2] at h1; exact h1.elim
    | some p =>
      obtain ⟨r, s2⟩ := p
      rw [e2] at h1
      cases r with
      | ex y => exact h1.elim
      | ok b =>
        obtain ⟨rfl, h2⟩ := h1
        simp only
        cases e3 : bnd T stab s2 with
        | none => rw [e3] at h2; exact h2.elim
        | some p =>
          obtain ⟨r, s3⟩ := p
          rw [e3] at h2
          cases r with
          | ex y => exact h2.elim
          | ok kd =>
            obtain ⟨rfl, h3⟩ := h2
            simp only [toKey]
            cases e4 : bnd U stab s3 with
            | none => rw [e4] at h3; exact h3.elim
            | some p =>
              obtain ⟨r, s4⟩ := p
              rw [e4] at h3
              cases r with
              | ex y => exact h3.elim
              | ok e =>
                obtain ⟨rfl, h4⟩ := h3
                simp only
                rw [h4]
                exact next
theorem merge_nd : ∀ {kvs acc : List (Key × D)}, ((acc ++ kvs).map (·.1)).Nodup → mergeD acc kvs = acc ++ kvs
  | [], acc, _ => by simp [mergeD]
  | p :: kvs, acc, nd => by
    have np : (acc.any fun kv => decide (kv.1 = p.1)) = false := by
      rw [List.any_eq_false]
      intro q hq e
      rw [List.map_append, List.map_cons] at nd
      exact (List.nodup_append.mp nd).2.2 q.1 (List.mem_map_of_mem hq) p.1 (List.mem_cons_self ..) (of_decide_eq_true e)
    show mergeD (putD acc p.1 p.2) kvs = _
    have e : putD acc p.1 p.2 = acc ++ [p] := by unfold putD; rw [if_neg (by rw [np]; simp)]
    rw [e, merge_nd (by simpa using nd)]; simp
theorem val_map {α : Type} {f : α → Str} {h : α → D} : ∀ {xs : List α} {x : α}, (xs.map f).Nodup → x ∈ xs → valD (xs.map fun x => (.inr (f x), h x)) (.inr (f x)) = some (h x)
  | y :: ys, x, nd, hx => by
    have nd' := List.nodup_cons.mp nd
    unfold valD
    rw [List.map_cons, List.find?_cons]
    rcases List.mem_cons.mp hx with rfl | hx
    · simp
    · have : f y ≠ f x := fun e => nd'.1 (by rw [e]; exact List.mem_map_of_mem hx)
      have e : decide ((.inr (f y) : Key) = .inr (f x)) = false := decide_eq_false fun h => this (Sum.inr.inj h)
      simp only [e]
      exact val_map nd'.2 hx
theorem val_none {α : Type} {f : α → Str} {h : α → D} : ∀ {xs : List α} {z : Str}, z ∉ xs.map f → valD (xs.map fun x => (.inr (f x), h x)) (.inr z) = none
  | [], z, _ => rfl
  | y :: ys, z, hz => by
    unfold valD
    rw [List.map_cons, List.find?_cons]
    rw [List.map_cons, List.mem_cons, not_or] at hz
    have e : decide ((.inr (f y) : Key) = .inr z) = false := decide_eq_false fun h => hz.1 (Sum.inr.inj h).symm
    simp only [e]
    exact val_none hz.2
theorem val_some {α : Type} {f : α → Str} {h : α → D} {xs : List α} {z : Str} : (valD (xs.map fun x => (.inr (f x), h x)) (.inr z)).isSome = decide (z ∈ xs.map f) := by
  induction xs with
  | nil => rfl
  | cons y ys ih =>
    unfold valD at ih ⊢
    rw [List.map_cons, List.find?_cons]
    by_cases e : f y = z
    · simp [e]
    · have e' : decide ((.inr (f y) : Key) = .inr z) = false := decide_eq_false fun h => e (Sum.inr.inj h)
      simp only [e', ih]
      have : ¬ z = f y := fun h => e h.symm
      simp [this]
end Z
/-! the rules over predicates that nothing unfolds -/
namespace Z
open PySem PySem.Spec PyProof.Rows L2 U ClX
@[irreducible] def Wp {β : Type} (o : Option (Rz β × S)) (Q : β → S → Prop) (X : XQ) : Prop := Wp0 o Q X
@[irreducible] def Ws (o : Option (Fl × S)) (Q : Fl → S → Prop) : Prop := Ws0 o Q
@[irreducible] def Wf (o : Option (Rz Rs × List D)) (Q : Rs → List D → Prop) (X : XF) : Prop := Wf0 o Q X
theorem Wp_eq {β : Type} {o : Option (Rz β × S)} {Q : β → S → Prop} {X : XQ} : Wp o Q X = Wp0 o Q X := by unfold Wp; rfl
theorem Ws_eq {o : Option (Fl × S)} {Q : Fl → S → Prop} : Ws o Q = Ws0 o Q := by unfold Ws; rfl
theorem Wf_eq {o : Option (Rz Rs × List D)} {Q : Rs → List D → Prop} {X : XF} : Wf o Q X = Wf0 o Q X := by unfold Wf; rfl
@[irreducible] def sqQ (U : TSd) (Q : Fl → S → Prop) : Fl → S → Prop := sqQ0 U Q
theorem sqQ_eq {U : TSd} {Q : Fl → S → Prop} : sqQ U Q = sqQ0 U Q := by unfold sqQ; rfl
@[irreducible] def tryX (b : Option Bool) (i : Nat) (U : TSd) (Q : Fl → S → Prop) : Xn → S → Prop := tryX0 b i U Q
theorem tryX_eq {b : Option Bool} {i : Nat} {U : TSd} {Q : Fl → S → Prop} : tryX b i U Q = tryX0 b i U Q := by unfold tryX; rfl
@[irreducible] def tryQ (h : Nat → Option Bool) (i : Nat) (U : TSd) (Q : Fl → S → Prop) : Fl → S → Prop := tryQ0 h i U Q
theorem tryQ_eq {h : Nat → Option Bool} {i : Nat} {U : TSd} {Q : Fl → S → Prop} : tryQ h i U Q = tryQ0 h i U Q := by unfold tryQ; rfl
section
variable {β γ : Type} {s : S} {Q : β → S → Prop} {X : XQ}
theorem wp_bnd {m : M β} {k : β → M γ} {Q : γ → S → Prop} : Wp (bnd m k s) Q X = Wp (m s) (fun b s1 => Wp (k b s1) Q X) X := by
  first
    | exact wp_bnd0 
    | (simp only [Wp_eq, Ws_eq, Wf_eq, sqQ_eq, tryX_eq, tryQ_eq] at *; exact wp_bnd0 )
    | (simp only [Wp_eq, Ws_eq, Wf_eq, sqQ_eq, tryX_eq, tryQ_eq]; exact wp_bnd0 )
theorem wp_ret {b : β} : Wp (ret b s) Q X = Q b s := by
  first
    | exact wp_ret0 
    | (simp only [Wp_eq, Ws_eq, Wf_eq, sqQ_eq, tryX_eq, tryQ_eq] at *; exact wp_ret0 )
    | (simp only [Wp_eq, Ws_eq, Wf_eq, sqQ_eq, tryX_eq, tryQ_eq]; exact wp_ret0 )
theorem wp_some {b : β} : Wp (some (.ok b, s)) Q X = Q b s := by
  first
    | exact wp_some0 
    | (simp only [Wp_eq, Ws_eq, Wf_eq, sqQ_eq, tryX_eq, tryQ_eq] at *; exact wp_some0 )
    | (simp only [Wp_eq, Ws_eq, Wf_eq, sqQ_eq, tryX_eq, tryQ_eq]; exact wp_some0 )
theorem wp_none : Wp (none : Option (Rz β × S)) Q X = False := by
  first
    | exact wp_none0 
    | (simp only [Wp_eq, Ws_eq, Wf_eq, sqQ_eq, tryX_eq, tryQ_eq] at *; exact wp_none0 )
    | (simp only [Wp_eq, Ws_eq, Wf_eq, sqQ_eq, tryX_eq, tryQ_eq]; exact wp_none0 )
theorem wp_opt {o : Option β} : Wp (opt o s) Q X = ∃ b, o = some b ∧ Q b s := by
  first
    | exact wp_opt0 
    | (simp only [Wp_eq, Ws_eq, Wf_eq, sqQ_eq, tryX_eq, tryQ_eq] at *; exact wp_opt0 )
    | (simp only [Wp_eq, Ws_eq, Wf_eq, sqQ_eq, tryX_eq, tryQ_eq]; exact wp_opt0 )
theorem wp_pk {r : Rs} {Q : D → S → Prop} : Wp (pk r s) Q X = ∃ d, peek s r = some d ∧ Q d s := by
  first
    | exact wp_pk0 
    | (simp only [Wp_eq, Ws_eq, Wf_eq, sqQ_eq, tryX_eq, tryQ_eq] at *; exact wp_pk0 )
    | (simp only [Wp_eq, Ws_eq, Wf_eq, sqQ_eq, tryX_eq, tryQ_eq]; exact wp_pk0 )
theorem wp_pks_nil {Q : List D → S → Prop} : Wp (pks [] s) Q X = Q [] s := by
  first
    | exact wp_pks_nil0 
    | (simp only [Wp_eq, Ws_eq, Wf_eq, sqQ_eq, tryX_eq, tryQ_eq] at *; exact wp_pks_nil0 )
    | (simp only [Wp_eq, Ws_eq, Wf_eq, sqQ_eq, tryX_eq, tryQ_eq]; exact wp_pks_nil0 )
theorem wp_pks_cons {r : Rs} {rs : List Rs} {Q : List D → S → Prop} : Wp (pks (r :: rs) s) Q X = ∃ d, peek s r = some d ∧ Wp (pks rs s) (fun ds s1 => Q (d :: ds) s1) X := by
  first
    | exact wp_pks_cons0 
    | (simp only [Wp_eq, Ws_eq, Wf_eq, sqQ_eq, tryX_eq, tryQ_eq] at *; exact wp_pks_cons0 )
    | (simp only [Wp_eq, Ws_eq, Wf_eq, sqQ_eq, tryX_eq, tryQ_eq]; exact wp_pks_cons0 )
theorem wp_ite {c : Prop} [Decidable c] {a b : M β} : Wp ((if c then a else b) s) Q X = if c then Wp (a s) Q X else Wp (b s) Q X := by
  first
    | exact wp_ite0 
    | (simp only [Wp_eq, Ws_eq, Wf_eq, sqQ_eq, tryX_eq, tryQ_eq] at *; exact wp_ite0 )
    | (simp only [Wp_eq, Ws_eq, Wf_eq, sqQ_eq, tryX_eq, tryQ_eq]; exact wp_ite0 )
theorem ws_ite {c : Prop} [Decidable c] {a b : TSd} {Q : Fl → S → Prop} : Ws ((if c then a else b) s) Q = if c then Ws (a s) Q else Ws (b s) Q := by
  first
    | exact ws_ite0 
    | (simp only [Wp_eq, Ws_eq, Wf_eq, sqQ_eq, tryX_eq, tryQ_eq] at *; exact ws_ite0 )
    | (simp only [Wp_eq, Ws_eq, Wf_eq, sqQ_eq, tryX_eq, tryQ_eq]; exact ws_ite0 )
theorem ws_sb {m : M β} {k : β → TSd} {Q : Fl → S → Prop} : Ws (sb m k s) Q = Wp (m s) (fun b s1 => Ws (k b s1) Q) (fun x s1 => Q (.ex x) s1) := by
  first
    | exact ws_sb0 
    | (simp only [Wp_eq, Ws_eq, Wf_eq, sqQ_eq, tryX_eq, tryQ_eq] at *; exact ws_sb0 )
    | (simp only [Wp_eq, Ws_eq, Wf_eq, sqQ_eq, tryX_eq, tryQ_eq]; exact ws_sb0 )
theorem ws_some {f : Fl} {Q : Fl → S → Prop} : Ws (some (f, s)) Q = Q f s := by
  first
    | exact ws_some0 
    | (simp only [Wp_eq, Ws_eq, Wf_eq, sqQ_eq, tryX_eq, tryQ_eq] at *; exact ws_some0 )
    | (simp only [Wp_eq, Ws_eq, Wf_eq, sqQ_eq, tryX_eq, tryQ_eq]; exact ws_some0 )
theorem sqQ_nx {U : TSd} {Q : Fl → S → Prop} : sqQ U Q .nx s = Ws (U s) Q := by
  first
    | exact sqQ_nx0 
    | (simp only [Wp_eq, Ws_eq, Wf_eq, sqQ_eq, tryX_eq, tryQ_eq] at *; exact sqQ_nx0 )
    | (simp only [Wp_eq, Ws_eq, Wf_eq, sqQ_eq, tryX_eq, tryQ_eq]; exact sqQ_nx0 )
theorem sqQ_rt {U : TSd} {Q : Fl → S → Prop} {r : Rs} : sqQ U Q (.rt r) s = Q (.rt r) s := by
  first
    | exact sqQ_rt0 
    | (simp only [Wp_eq, Ws_eq, Wf_eq, sqQ_eq, tryX_eq, tryQ_eq] at *; exact sqQ_rt0 )
    | (simp only [Wp_eq, Ws_eq, Wf_eq, sqQ_eq, tryX_eq, tryQ_eq]; exact sqQ_rt0 )
theorem sqQ_bk {U : TSd} {Q : Fl → S → Prop} : sqQ U Q .bk s = Q .bk s := by
  first
    | exact sqQ_bk0 
    | (simp only [Wp_eq, Ws_eq, Wf_eq, sqQ_eq, tryX_eq, tryQ_eq] at *; exact sqQ_bk0 )
    | (simp only [Wp_eq, Ws_eq, Wf_eq, sqQ_eq, tryX_eq, tryQ_eq]; exact sqQ_bk0 )
theorem sqQ_ct {U : TSd} {Q : Fl → S → Prop} : sqQ U Q .ct s = Q .ct s := by
  first
    | exact sqQ_ct0 
    | (simp only [Wp_eq, Ws_eq, Wf_eq, sqQ_eq, tryX_eq, tryQ_eq] at *; exact sqQ_ct0 )
    | (simp only [Wp_eq, Ws_eq, Wf_eq, sqQ_eq, tryX_eq, tryQ_eq]; exact sqQ_ct0 )
theorem sqQ_ex {U : TSd} {Q : Fl → S → Prop} {x : Xn} : sqQ U Q (.ex x) s = Q (.ex x) s := by
  first
    | exact sqQ_ex0 
    | (simp only [Wp_eq, Ws_eq, Wf_eq, sqQ_eq, tryX_eq, tryQ_eq] at *; exact sqQ_ex0 )
    | (simp only [Wp_eq, Ws_eq, Wf_eq, sqQ_eq, tryX_eq, tryQ_eq]; exact sqQ_ex0 )
theorem ws_seq {T U : TSd} {Q : Fl → S → Prop} : Ws (TSeq T U s) Q = Ws (T s) (sqQ U Q) := by
  first
    | exact ws_seq0 
    | (simp only [Wp_eq, Ws_eq, Wf_eq, sqQ_eq, tryX_eq, tryQ_eq] at *; exact ws_seq0 )
    | (simp only [Wp_eq, Ws_eq, Wf_eq, sqQ_eq, tryX_eq, tryQ_eq]; exact ws_seq0 )
theorem ws_nxt {o : Option S} {Q : Fl → S → Prop} : Ws (nxt o) Q = ∃ s', o = some s' ∧ Q .nx s' := by
  first
    | exact ws_nxt0 
    | (simp only [Wp_eq, Ws_eq, Wf_eq, sqQ_eq, tryX_eq, tryQ_eq] at *; exact ws_nxt0 )
    | (simp only [Wp_eq, Ws_eq, Wf_eq, sqQ_eq, tryX_eq, tryQ_eq]; exact ws_nxt0 )
theorem wp_call {F : FT} {ds : List D} {Q : Rs → S → Prop} : Wp (call F ds s) Q X = Wf (F ds s.μ) (fun r μ => Q r ⟨s.env, μ⟩) (fun x μ => X x ⟨s.env, μ⟩) := by
  first
    | exact wp_call0 
    | (simp only [Wp_eq, Ws_eq, Wf_eq, sqQ_eq, tryX_eq, tryQ_eq] at *; exact wp_call0 )
    | (simp only [Wp_eq, Ws_eq, Wf_eq, sqQ_eq, tryX_eq, tryQ_eq]; exact wp_call0 )
theorem wf_run {m n : Nat} {T : TSd} {ds : List D} {μ : List D} {Q : Rs → List D → Prop} {X : XF} (h : ds.length = m) (w : Ws (T ⟨env0 n ds, μ⟩) (outQ Q X)) : Wf (runF m n T ds μ) Q X := by
  first
    | exact wf_run0 h w
    | (simp only [Wp_eq, Ws_eq, Wf_eq, sqQ_eq, tryX_eq, tryQ_eq] at *; exact wf_run0 h w)
    | (simp only [Wp_eq, Ws_eq, Wf_eq, sqQ_eq, tryX_eq, tryQ_eq]; exact wf_run0 h w)
theorem wf_runI {m n k : Nat} {T : TSd} {ds : List D} {μ : List D} {Q : Rs → List D → Prop} {X : XF} (h : ds.length + 1 = m) (w : Ws (T ⟨envI n k ds, μ⟩) (outIQ Q X)) : Wf (runI m n k T ds μ) Q X := by
  first
    | exact wf_runI0 h w
    | (simp only [Wp_eq, Ws_eq, Wf_eq, sqQ_eq, tryX_eq, tryQ_eq] at *; exact wf_runI0 h w)
    | (simp only [Wp_eq, Ws_eq, Wf_eq, sqQ_eq, tryX_eq, tryQ_eq]; exact wf_runI0 h w)
theorem wf_v {d : D} {μ : List D} {Q : Rs → List D → Prop} {X : XF} : Wf (some (.ok (.v d), μ)) Q X = Q (.v d) μ := by
  first
    | exact wf_v0 
    | (simp only [Wp_eq, Ws_eq, Wf_eq, sqQ_eq, tryX_eq, tryQ_eq] at *; exact wf_v0 )
    | (simp only [Wp_eq, Ws_eq, Wf_eq, sqQ_eq, tryX_eq, tryQ_eq]; exact wf_v0 )
theorem wf_fr {d : D} {μ : List D} {Q : Rs → List D → Prop} {X : XF} : Wf (some (.ok (.fr d), μ)) Q X = Q (.fr d) μ := by
  first
    | exact wf_fr0 
    | (simp only [Wp_eq, Ws_eq, Wf_eq, sqQ_eq, tryX_eq, tryQ_eq] at *; exact wf_fr0 )
    | (simp only [Wp_eq, Ws_eq, Wf_eq, sqQ_eq, tryX_eq, tryQ_eq]; exact wf_fr0 )
theorem wf_mono {o : Option (Rz Rs × List D)} {Q Q' : Rs → List D → Prop} {X : XF} (h : Wf o Q X) (q : ∀ r μ, Q r μ → Q' r μ) : Wf o Q' X := by
  first
    | exact wf_mono0 h q
    | (simp only [Wp_eq, Ws_eq, Wf_eq, sqQ_eq, tryX_eq, tryQ_eq] at *; exact wf_mono0 h q)
    | (simp only [Wp_eq, Ws_eq, Wf_eq, sqQ_eq, tryX_eq, tryQ_eq]; exact wf_mono0 h q)
theorem wp_mono {o : Option (Rz β × S)} {Q Q' : β → S → Prop} {X : XQ} (h : Wp o Q X) (q : ∀ r μ, Q r μ → Q' r μ) : Wp o Q' X := by
  first
    | exact wp_mono0 h q
    | (simp only [Wp_eq, Ws_eq, Wf_eq, sqQ_eq, tryX_eq, tryQ_eq] at *; exact wp_mono0 h q)
    | (simp only [Wp_eq, Ws_eq, Wf_eq, sqQ_eq, tryX_eq, tryQ_eq]; exact wp_mono0 h q)
theorem wf_eq {o : Option (Rz Rs × List D)} {d : D} (h : Wf o (fun r μ => r = .v d) fun _ _ => False) : ∃ μ, o = some (.ok (.v d), μ) := by
  first
    | exact wf_eq0 h
    | (simp only [Wp_eq, Ws_eq, Wf_eq, sqQ_eq, tryX_eq, tryQ_eq] at *; exact wf_eq0 h)
    | (simp only [Wp_eq, Ws_eq, Wf_eq, sqQ_eq, tryX_eq, tryQ_eq]; exact wf_eq0 h)
variable {d : D} {ds : List D} {i : Nat} {z : Str} {k : Int} {b : Bool}
theorem wp_stab_v {Q : D → S → Prop} : Wp (stab (.v d) s) Q X = Q d s := by
  first
    | exact wp_stab_v0 
    | (simp only [Wp_eq, Ws_eq, Wf_eq, sqQ_eq, tryX_eq, tryQ_eq] at *; exact wp_stab_v0 )
    | (simp only [Wp_eq, Ws_eq, Wf_eq, sqQ_eq, tryX_eq, tryQ_eq]; exact wp_stab_v0 )
theorem wp_stab_fr {Q : D → S → Prop} : Wp (stab (.fr d) s) Q X = Q d s := by
  first
    | exact wp_stab_fr0 
    | (simp only [Wp_eq, Ws_eq, Wf_eq, sqQ_eq, tryX_eq, tryQ_eq] at *; exact wp_stab_fr0 )
    | (simp only [Wp_eq, Ws_eq, Wf_eq, sqQ_eq, tryX_eq, tryQ_eq]; exact wp_stab_fr0 )
theorem wp_stab_al {Q : D → S → Prop} : Wp (stab (.al i) s) Q X = stabQ s.env[i]? i s Q := by
  first
    | exact wp_stab_al0 
    | (simp only [Wp_eq, Ws_eq, Wf_eq, sqQ_eq, tryX_eq, tryQ_eq] at *; exact wp_stab_al0 )
    | (simp only [Wp_eq, Ws_eq, Wf_eq, sqQ_eq, tryX_eq, tryQ_eq]; exact wp_stab_al0 )
theorem stabQ_o {s : S} {Q : D → S → Prop} : stabQ (some (some (.o d))) i s Q = Q d ⟨s.env.set i (some (.s d)), s.μ⟩ := by
  first
    | exact stabQ_o0 
    | (simp only [Wp_eq, Ws_eq, Wf_eq, sqQ_eq, tryX_eq, tryQ_eq] at *; exact stabQ_o0 )
    | (simp only [Wp_eq, Ws_eq, Wf_eq, sqQ_eq, tryX_eq, tryQ_eq]; exact stabQ_o0 )
theorem stabQ_s {s : S} {Q : D → S → Prop} : stabQ (some (some (.s d))) i s Q = Q d s := by
  first
    | exact stabQ_s0 
    | (simp only [Wp_eq, Ws_eq, Wf_eq, sqQ_eq, tryX_eq, tryQ_eq] at *; exact stabQ_s0 )
    | (simp only [Wp_eq, Ws_eq, Wf_eq, sqQ_eq, tryX_eq, tryQ_eq]; exact stabQ_s0 )
theorem wp_Var {Q : Rs → S → Prop} : Wp (TVar i s) Q X = varQ s.env[i]? i s Q := by
  first
    | exact wp_Var0 
    | (simp only [Wp_eq, Ws_eq, Wf_eq, sqQ_eq, tryX_eq, tryQ_eq] at *; exact wp_Var0 )
    | (simp only [Wp_eq, Ws_eq, Wf_eq, sqQ_eq, tryX_eq, tryQ_eq]; exact wp_Var0 )
theorem varQ_s {s : S} {Q : Rs → S → Prop} : varQ (some (some (.s d))) i s Q = Q (.v d) s := by
  first
    | exact varQ_s0 
    | (simp only [Wp_eq, Ws_eq, Wf_eq, sqQ_eq, tryX_eq, tryQ_eq] at *; exact varQ_s0 )
    | (simp only [Wp_eq, Ws_eq, Wf_eq, sqQ_eq, tryX_eq, tryQ_eq]; exact varQ_s0 )
theorem varQ_o {s : S} {Q : Rs → S → Prop} : varQ (some (some (.o d))) i s Q = Q (.al i) s := by
  first
    | exact varQ_o0 
    | (simp only [Wp_eq, Ws_eq, Wf_eq, sqQ_eq, tryX_eq, tryQ_eq] at *; exact varQ_o0 )
    | (simp only [Wp_eq, Ws_eq, Wf_eq, sqQ_eq, tryX_eq, tryQ_eq]; exact varQ_o0 )
theorem wp_asB_bl {Q : Bool → S → Prop} : Wp (asB (.bl b) s) Q X = Q b s := by
  first
    | exact wp_asB_bl0 
    | (simp only [Wp_eq, Ws_eq, Wf_eq, sqQ_eq, tryX_eq, tryQ_eq] at *; exact wp_asB_bl0 )
    | (simp only [Wp_eq, Ws_eq, Wf_eq, sqQ_eq, tryX_eq, tryQ_eq]; exact wp_asB_bl0 )
end
theorem mutQ_o {β : Type} {i : Nat} {s : S} {d : D} {f : D → Option (β × D)} {Q : β → S → Prop} : mutQ (some (some (.o d))) i s f Q = ∃ b d', f d = some (b, d') ∧ Q b ⟨s.env.set i (some (.o d')), s.μ⟩ := by
  first
    | exact mutQ_o0 
    | (simp only [Wp_eq, Ws_eq, Wf_eq, sqQ_eq, tryX_eq, tryQ_eq] at *; exact mutQ_o0 )
    | (simp only [Wp_eq, Ws_eq, Wf_eq, sqQ_eq, tryX_eq, tryQ_eq]; exact mutQ_o0 )
theorem wp_mut_al {β : Type} {i : Nat} {s : S} {f : D → Option (β × D)} {Q : β → S → Prop} {X : XQ} : Wp (mutD (.al i) f s) Q X = mutQ s.env[i]? i s f Q := by
  first
    | exact wp_mut_al0 
    | (simp only [Wp_eq, Ws_eq, Wf_eq, sqQ_eq, tryX_eq, tryQ_eq] at *; exact wp_mut_al0 )
    | (simp only [Wp_eq, Ws_eq, Wf_eq, sqQ_eq, tryX_eq, tryQ_eq]; exact wp_mut_al0 )
theorem wp_mut_loc {β : Type} {n : Nat} {s : S} {f : D → Option (β × D)} {Q : β → S → Prop} {X : XQ} : Wp (mutD (.v (.loc n)) f s) Q X = ∃ d, s.μ[n]? = some d ∧ ∃ b d', f d = some (b, d') ∧ Q b ⟨s.env, s.μ.set n d'⟩ := by
  first
    | exact wp_mut_loc0 
    | (simp only [Wp_eq, Ws_eq, Wf_eq, sqQ_eq, tryX_eq, tryQ_eq] at *; exact wp_mut_loc0 )
    | (simp only [Wp_eq, Ws_eq, Wf_eq, sqQ_eq, tryX_eq, tryQ_eq]; exact wp_mut_loc0 )
theorem endQ_rt {i : Nat} {Q : Fl → S → Prop} {r : Rs} {s : S} : endQ i Q (.rt r) s = Q (.rt r) s := by
  first
    | exact endQ_rt0 
    | (simp only [Wp_eq, Ws_eq, Wf_eq, sqQ_eq, tryX_eq, tryQ_eq] at *; exact endQ_rt0 )
    | (simp only [Wp_eq, Ws_eq, Wf_eq, sqQ_eq, tryX_eq, tryQ_eq]; exact endQ_rt0 )
theorem endQ_nx {i : Nat} {Q : Fl → S → Prop} {s : S} : endQ i Q .nx s = Q .nx ⟨s.env.set i none, s.μ⟩ := by
  first
    | exact endQ_nx0 
    | (simp only [Wp_eq, Ws_eq, Wf_eq, sqQ_eq, tryX_eq, tryQ_eq] at *; exact endQ_nx0 )
    | (simp only [Wp_eq, Ws_eq, Wf_eq, sqQ_eq, tryX_eq, tryQ_eq]; exact endQ_nx0 )
theorem tryX_t {i : Nat} {U : TSd} {Q : Fl → S → Prop} {x : Xn} {s1 : S} : tryX (some true) i U Q x s1 = (i < s1.env.length ∧ Ws (U ⟨s1.env.set i (some (.s (.exc x.c x.fs))), s1.μ⟩) (endQ i Q)) := by
  first
    | exact tryX_t0 
    | (simp only [Wp_eq, Ws_eq, Wf_eq, sqQ_eq, tryX_eq, tryQ_eq] at *; exact tryX_t0 )
    | (simp only [Wp_eq, Ws_eq, Wf_eq, sqQ_eq, tryX_eq, tryQ_eq]; exact tryX_t0 )
theorem tryX_f {i : Nat} {U : TSd} {Q : Fl → S → Prop} {x : Xn} {s1 : S} : tryX (some false) i U Q x s1 = Q (.ex x) s1 := by
  first
    | exact tryX_f0 
    | (simp only [Wp_eq, Ws_eq, Wf_eq, sqQ_eq, tryX_eq, tryQ_eq] at *; exact tryX_f0 )
    | (simp only [Wp_eq, Ws_eq, Wf_eq, sqQ_eq, tryX_eq, tryQ_eq]; exact tryX_f0 )
theorem tryQ_ex {h : Nat → Option Bool} {i : Nat} {U : TSd} {Q : Fl → S → Prop} {x : Xn} {s : S} : tryQ h i U Q (.ex x) s = tryX (h x.c) i U Q x s := by
  first
    | exact tryQ_ex0 
    | (simp only [Wp_eq, Ws_eq, Wf_eq, sqQ_eq, tryX_eq, tryQ_eq] at *; exact tryQ_ex0 )
    | (simp only [Wp_eq, Ws_eq, Wf_eq, sqQ_eq, tryX_eq, tryQ_eq]; exact tryQ_ex0 )
theorem tryQ_nx {h : Nat → Option Bool} {i : Nat} {U : TSd} {Q : Fl → S → Prop} {s : S} : tryQ h i U Q .nx s = Q .nx s := by
  first
    | exact tryQ_nx0 
    | (simp only [Wp_eq, Ws_eq, Wf_eq, sqQ_eq, tryX_eq, tryQ_eq] at *; exact tryQ_nx0 )
    | (simp only [Wp_eq, Ws_eq, Wf_eq, sqQ_eq, tryX_eq, tryQ_eq]; exact tryQ_nx0 )
theorem tryQ_rt {h : Nat → Option Bool} {i : Nat} {U : TSd} {Q : Fl → S → Prop} {r : Rs} {s : S} : tryQ h i U Q (.rt r) s = Q (.rt r) s := by
  first
    | exact tryQ_rt0 
    | (simp only [Wp_eq, Ws_eq, Wf_eq, sqQ_eq, tryX_eq, tryQ_eq] at *; exact tryQ_rt0 )
    | (simp only [Wp_eq, Ws_eq, Wf_eq, sqQ_eq, tryX_eq, tryQ_eq]; exact tryQ_rt0 )
theorem tryQ_bk {h : Nat → Option Bool} {i : Nat} {U : TSd} {Q : Fl → S → Prop} {s : S} : tryQ h i U Q .bk s = Q .bk s := by
  first
    | exact tryQ_bk0 
    | (simp only [Wp_eq, Ws_eq, Wf_eq, sqQ_eq, tryX_eq, tryQ_eq] at *; exact tryQ_bk0 )
    | (simp only [Wp_eq, Ws_eq, Wf_eq, sqQ_eq, tryX_eq, tryQ_eq]; exact tryQ_bk0 )
theorem tryQ_ct {h : Nat → Option Bool} {i : Nat} {U : TSd} {Q : Fl → S → Prop} {s : S} : tryQ h i U Q .ct s = Q .ct s := by
  first
    | exact tryQ_ct0 
    | (simp only [Wp_eq, Ws_eq, Wf_eq, sqQ_eq, tryX_eq, tryQ_eq] at *; exact tryQ_ct0 )
    | (simp only [Wp_eq, Ws_eq, Wf_eq, sqQ_eq, tryX_eq, tryQ_eq]; exact tryQ_ct0 )
theorem ws_try {h : Nat → Option Bool} {i : Nat} {T U : TSd} {Q : Fl → S → Prop} {s : S} : Ws (TTry T h i U s) Q = Ws (T s) (tryQ h i U Q) := by
  first
    | exact ws_try0 
    | (simp only [Wp_eq, Ws_eq, Wf_eq, sqQ_eq, tryX_eq, tryQ_eq] at *; exact ws_try0 )
    | (simp only [Wp_eq, Ws_eq, Wf_eq, sqQ_eq, tryX_eq, tryQ_eq]; exact ws_try0 )
theorem forQ_nx {I : S → Prop} {Q : Fl → S → Prop} {s : S} : forQ I Q .nx s = I s := by
  first
    | exact forQ_nx0 
    | (simp only [Wp_eq, Ws_eq, Wf_eq, sqQ_eq, tryX_eq, tryQ_eq] at *; exact forQ_nx0 )
    | (simp only [Wp_eq, Ws_eq, Wf_eq, sqQ_eq, tryX_eq, tryQ_eq]; exact forQ_nx0 )
theorem forQ_ct {I : S → Prop} {Q : Fl → S → Prop} {s : S} : forQ I Q .ct s = I s := by
  first
    | exact forQ_ct0 
    | (simp only [Wp_eq, Ws_eq, Wf_eq, sqQ_eq, tryX_eq, tryQ_eq] at *; exact forQ_ct0 )
    | (simp only [Wp_eq, Ws_eq, Wf_eq, sqQ_eq, tryX_eq, tryQ_eq]; exact forQ_ct0 )
theorem forQ_bk {I : S → Prop} {Q : Fl → S → Prop} {s : S} : forQ I Q .bk s = Q .nx s := by
  first
    | exact forQ_bk0 
    | (simp only [Wp_eq, Ws_eq, Wf_eq, sqQ_eq, tryX_eq, tryQ_eq] at *; exact forQ_bk0 )
    | (simp only [Wp_eq, Ws_eq, Wf_eq, sqQ_eq, tryX_eq, tryQ_eq]; exact forQ_bk0 )
theorem forQ_rt {I : S → Prop} {Q : Fl → S → Prop} {s : S} {r : Rs} : forQ I Q (.rt r) s = Q (.rt r) s := by
  first
    | exact forQ_rt0 
    | (simp only [Wp_eq, Ws_eq, Wf_eq, sqQ_eq, tryX_eq, tryQ_eq] at *; exact forQ_rt0 )
    | (simp only [Wp_eq, Ws_eq, Wf_eq, sqQ_eq, tryX_eq, tryQ_eq]; exact forQ_rt0 )
theorem forQ_ex {I : S → Prop} {Q : Fl → S → Prop} {s : S} {x : Xn} : forQ I Q (.ex x) s = Q (.ex x) s := by
  first
    | exact forQ_ex0 
    | (simp only [Wp_eq, Ws_eq, Wf_eq, sqQ_eq, tryX_eq, tryQ_eq] at *; exact forQ_ex0 )
    | (simp only [Wp_eq, Ws_eq, Wf_eq, sqQ_eq, tryX_eq, tryQ_eq]; exact forQ_ex0 )
theorem for_inv {G : GD} {T : TSd} {Q : Fl → S → Prop} : ∀ {ds : List D} {s : S} (I : Nat → S → Prop), I 0 s → (∀ k d s, ds[k]? = some d → I k s → ∃ s1, G d s = some s1 ∧ Ws (T s1) (forQ (I (k + 1)) Q)) → (∀ s, I ds.length s → Q .nx s) → Ws (forD G T ds s) Q := by
  first
    | exact for_inv0 
    | (simp only [Wp_eq, Ws_eq, Wf_eq, sqQ_eq, tryX_eq, tryQ_eq] at *; exact for_inv0 )
    | (simp only [Wp_eq, Ws_eq, Wf_eq, sqQ_eq, tryX_eq, tryQ_eq]; exact for_inv0 )
theorem ws_for {I : M (List D)} {G : GD} {T : TSd} {s : S} {Q : Fl → S → Prop} : Ws (TFor I G T s) Q = Wp (I s) (fun ds s1 => Ws (forD G T ds s1) Q) (fun x s1 => Q (.ex x) s1) := by
  first
    | exact ws_for0 
    | (simp only [Wp_eq, Ws_eq, Wf_eq, sqQ_eq, tryX_eq, tryQ_eq] at *; exact ws_for0 )
    | (simp only [Wp_eq, Ws_eq, Wf_eq, sqQ_eq, tryX_eq, tryQ_eq]; exact ws_for0 )
theorem wh_inv {B : M Bool} {T : TSd} {Q : Fl → S → Prop} : ∀ {n : Nat} {s : S} (I : Nat → S → Prop), I n s → (∀ k s, I k s → 0 < k ∧ Wp (B s) (fun b s1 => if b = true then Ws (T s1) (forQ (I (k - 1)) Q) else Q .nx s1) (fun x s1 => Q (.ex x) s1)) → Ws (whD B T n s) Q := by
  first
    | exact wh_inv0 
    | (simp only [Wp_eq, Ws_eq, Wf_eq, sqQ_eq, tryX_eq, tryQ_eq] at *; exact wh_inv0 )
    | (simp only [Wp_eq, Ws_eq, Wf_eq, sqQ_eq, tryX_eq, tryQ_eq]; exact wh_inv0 )
theorem lc_inv {G : GD} {B : M Bool} {T : M Rs} {vs : List Nat} {Q : List D → S → Prop} {X : XQ} : ∀ {ds acc : List D} {s : S} (I : Nat → List D → S → Prop), I 0 acc s → (∀ k d acc s, ds[k]? = some d → I k acc s → ∃ s1, G d s = some s1 ∧ Wp (B s1) (fun b s2 => if b = true then Wp (T s2) (fun r s3 => Wp (stab r s3) (fun e s4 => I (k + 1) (acc ++ [e]) ⟨wipeE vs s4.env, s4.μ⟩) fun _ _ => False) (fun _ _ => False) else I (k + 1) acc ⟨wipeE vs s2.env, s2.μ⟩) fun _ _ => False) → (∀ acc s, I ds.length acc s → Q acc s) → Wp (lcD G B T vs ds acc s) Q X := by
  first
    | exact lc_inv0 
    | (simp only [Wp_eq, Ws_eq, Wf_eq, sqQ_eq, tryX_eq, tryQ_eq] at *; exact lc_inv0 )
    | (simp only [Wp_eq, Ws_eq, Wf_eq, sqQ_eq, tryX_eq, tryQ_eq]; exact lc_inv0 )
theorem wp_Lc {I : M (List D)} {G : GD} {B : M Bool} {T : M Rs} {vs : List Nat} {s : S} {Q : Rs → S → Prop} {X : XQ} (h : Wp (I s) (fun ds s1 => ds.length ≤ 16777216 ∧ Wp (lcD G B T vs ds [] ⟨wipeE vs s1.env, s1.μ⟩) (fun es s2 => Q (.fr (.list es)) ⟨restE vs s1.env s2.env, s2.μ⟩) fun _ _ => False) X) : Wp (TLc I G B T vs s) Q X := by
  first
    | exact wp_Lc0 h
    | (simp only [Wp_eq, Ws_eq, Wf_eq, sqQ_eq, tryX_eq, tryQ_eq] at *; exact wp_Lc0 h)
    | (simp only [Wp_eq, Ws_eq, Wf_eq, sqQ_eq, tryX_eq, tryQ_eq]; exact wp_Lc0 h)
theorem lc_map {G : GD} {B : M Bool} {T : M Rs} {vs : List Nat} {Q : List D → S → Prop} {X : XQ} {ds : List D} {s : S} (f : D → Option D)
    (step : ∀ d ∈ ds, ∃ s1, G d s = some s1 ∧ Wp (B s1) (fun b s2 => if b = true then Wp (T s2) (fun r s3 => Wp (stab r s3) (fun e s4 => f d = some e ∧ (⟨wipeE vs s4.env, s4.μ⟩ : S) = s) fun _ _ => False) (fun _ _ => False) else f d = none ∧ (⟨wipeE vs s2.env, s2.μ⟩ : S) = s) fun _ _ => False)
    (fin : Q (ds.filterMap f) s) : Wp (lcD G B T vs ds [] s) Q X := by
  first
    | exact lc_map0 f step fin
    | (simp only [Wp_eq, Ws_eq, Wf_eq, sqQ_eq, tryX_eq, tryQ_eq] at *; exact lc_map0 f step fin)
    | (simp only [Wp_eq, Ws_eq, Wf_eq, sqQ_eq, tryX_eq, tryQ_eq]; exact lc_map0 f step fin)
theorem lc_each {G : GD} {B : M Bool} {T : M Rs} {vs : List Nat} {Q : List D → S → Prop} {X : XQ} {α : Type} {xs : List α} {s : S} (g : α → D) (f : α → Option D)
    (step : ∀ d ∈ xs, ∃ s1, G (g d) s = some s1 ∧ Wp (B s1) (fun b s2 => if b = true then Wp (T s2) (fun r s3 => Wp (stab r s3) (fun e s4 => f d = some e ∧ (⟨wipeE vs s4.env, s4.μ⟩ : S) = s) fun _ _ => False) (fun _ _ => False) else f d = none ∧ (⟨wipeE vs s2.env, s2.μ⟩ : S) = s) fun _ _ => False)
    (fin : Q (xs.filterMap f) s) : Wp (lcD G B T vs (xs.map g) [] s) Q X := by
  first
    | exact lc_each0 g f step fin
    | (simp only [Wp_eq, Ws_eq, Wf_eq, sqQ_eq, tryX_eq, tryQ_eq] at *; exact lc_each0 g f step fin)
    | (simp only [Wp_eq, Ws_eq, Wf_eq, sqQ_eq, tryX_eq, tryQ_eq]; exact lc_each0 g f step fin)
theorem lc_all {G : GD} {B : M Bool} {T : M Rs} {vs : List Nat} {Q : List D → S → Prop} {X : XQ} {α : Type} {xs : List α} {s : S} (g : α → D) (f : α → D)
    (step : ∀ d ∈ xs, ∃ s1, G (g d) s = some s1 ∧ Wp (B s1) (fun b s2 => if b = true then Wp (T s2) (fun r s3 => Wp (stab r s3) (fun e s4 => e = f d ∧ (⟨wipeE vs s4.env, s4.μ⟩ : S) = s) fun _ _ => False) (fun _ _ => False) else False) fun _ _ => False)
    (fin : Q (xs.map f) s) : Wp (lcD G B T vs (xs.map g) [] s) Q X := by
  first
    | exact lc_all0 g f step fin
    | (simp only [Wp_eq, Ws_eq, Wf_eq, sqQ_eq, tryX_eq, tryQ_eq] at *; exact lc_all0 g f step fin)
    | (simp only [Wp_eq, Ws_eq, Wf_eq, sqQ_eq, tryX_eq, tryQ_eq]; exact lc_all0 g f step fin)
theorem lc_filter {G : GD} {B : M Bool} {T : M Rs} {vs : List Nat} {Q : List D → S → Prop} {X : XQ} {α : Type} {xs : List α} {s : S} (g : α → D) (p : α → Bool)
    (step : ∀ d ∈ xs, ∃ s1, G (g d) s = some s1 ∧ Wp (B s1) (fun b s2 => b = p d ∧ if b = true then Wp (T s2) (fun r s3 => Wp (stab r s3) (fun e s4 => e = g d ∧ (⟨wipeE vs s4.env, s4.μ⟩ : S) = s) fun _ _ => False) (fun _ _ => False) else (⟨wipeE vs s2.env, s2.μ⟩ : S) = s) fun _ _ => False)
    (fin : Q ((xs.filter p).map g) s) : Wp (lcD G B T vs (xs.map g) [] s) Q X := by
  first
    | exact lc_filter0 g p step fin
    | (simp only [Wp_eq, Ws_eq, Wf_eq, sqQ_eq, tryX_eq, tryQ_eq] at *; exact lc_filter0 g p step fin)
    | (simp only [Wp_eq, Ws_eq, Wf_eq, sqQ_eq, tryX_eq, tryQ_eq]; exact lc_filter0 g p step fin)
section
variable {i j : Int} {a b : Str} {xs ys ds : List D} {d e : D} {x y : Bool} {μ : List D} {s : S} {Q : Rs → List D → Prop} {X : XF}
theorem outQ_v : outQ Q X (.rt (.v d)) s = Q (.v d) s.μ := by
  first
    | exact outQ_v0 
    | (simp only [Wp_eq, Ws_eq, Wf_eq, sqQ_eq, tryX_eq, tryQ_eq] at *; exact outQ_v0 )
    | (simp only [Wp_eq, Ws_eq, Wf_eq, sqQ_eq, tryX_eq, tryQ_eq]; exact outQ_v0 )
theorem outQ_fr : outQ Q X (.rt (.fr d)) s = Q (.fr d) s.μ := by
  first
    | exact outQ_fr0 
    | (simp only [Wp_eq, Ws_eq, Wf_eq, sqQ_eq, tryX_eq, tryQ_eq] at *; exact outQ_fr0 )
    | (simp only [Wp_eq, Ws_eq, Wf_eq, sqQ_eq, tryX_eq, tryQ_eq]; exact outQ_fr0 )
theorem outQ_nx : outQ Q X .nx s = Q (.v .non) s.μ := by
  first
    | exact outQ_nx0 
    | (simp only [Wp_eq, Ws_eq, Wf_eq, sqQ_eq, tryX_eq, tryQ_eq] at *; exact outQ_nx0 )
    | (simp only [Wp_eq, Ws_eq, Wf_eq, sqQ_eq, tryX_eq, tryQ_eq]; exact outQ_nx0 )
theorem outQ_ex {x : Xn} : outQ Q X (.ex x) s = X x s.μ := by
  first
    | exact outQ_ex0 
    | (simp only [Wp_eq, Ws_eq, Wf_eq, sqQ_eq, tryX_eq, tryQ_eq] at *; exact outQ_ex0 )
    | (simp only [Wp_eq, Ws_eq, Wf_eq, sqQ_eq, tryX_eq, tryQ_eq]; exact outQ_ex0 )
theorem outQ_al {n : Nat} : outQ Q X (.rt (.al n)) s = outA s.env[n]? s.μ Q := by
  first
    | exact outQ_al0 
    | (simp only [Wp_eq, Ws_eq, Wf_eq, sqQ_eq, tryX_eq, tryQ_eq] at *; exact outQ_al0 )
    | (simp only [Wp_eq, Ws_eq, Wf_eq, sqQ_eq, tryX_eq, tryQ_eq]; exact outQ_al0 )
theorem outIQ_nx : outIQ Q X .nx s = outA s.env[(0 : Nat)]? s.μ Q := by
  first
    | exact outIQ_nx0 
    | (simp only [Wp_eq, Ws_eq, Wf_eq, sqQ_eq, tryX_eq, tryQ_eq] at *; exact outIQ_nx0 )
    | (simp only [Wp_eq, Ws_eq, Wf_eq, sqQ_eq, tryX_eq, tryQ_eq]; exact outIQ_nx0 )
theorem outIQ_ex {x : Xn} : outIQ Q X (.ex x) s = X x s.μ := by
  first
    | exact outIQ_ex0 
    | (simp only [Wp_eq, Ws_eq, Wf_eq, sqQ_eq, tryX_eq, tryQ_eq] at *; exact outIQ_ex0 )
    | (simp only [Wp_eq, Ws_eq, Wf_eq, sqQ_eq, tryX_eq, tryQ_eq]; exact outIQ_ex0 )
end
theorem wu_TC {d : D} {z : S} {Qz : Rs → S → Prop} {Xz : XQ} : Wp (TC d z) Qz Xz = Wp ((ret (.v d) : M Rs) z) Qz Xz := by
  first
    | exact wu_TC0 
    | (simp only [Wp_eq, Ws_eq, Wf_eq, sqQ_eq, tryX_eq, tryQ_eq] at *; exact wu_TC0 )
    | (simp only [Wp_eq, Ws_eq, Wf_eq, sqQ_eq, tryX_eq, tryQ_eq]; exact wu_TC0 )
theorem wu_TOp {f : D → D → Option Rs} {a b : M Rs} {z : S} {Qz : Rs → S → Prop} {Xz : XQ} : Wp (TOp f a b z) Qz Xz = Wp ((bnd a fun x => bnd b fun y => bnd (pk x) fun d => bnd (pk y) fun e => opt (f d e) : M Rs) z) Qz Xz := by
  first
    | exact wu_TOp0 
    | (simp only [Wp_eq, Ws_eq, Wf_eq, sqQ_eq, tryX_eq, tryQ_eq] at *; exact wu_TOp0 )
    | (simp only [Wp_eq, Ws_eq, Wf_eq, sqQ_eq, tryX_eq, tryQ_eq]; exact wu_TOp0 )
theorem wu_TUn {f : D → Option Rs} {a : M Rs} {z : S} {Qz : Rs → S → Prop} {Xz : XQ} : Wp (TUn f a z) Qz Xz = Wp ((bnd a fun x => bnd (pk x) fun d => opt (f d) : M Rs) z) Qz Xz := by
  first
    | exact wu_TUn0 
    | (simp only [Wp_eq, Ws_eq, Wf_eq, sqQ_eq, tryX_eq, tryQ_eq] at *; exact wu_TUn0 )
    | (simp only [Wp_eq, Ws_eq, Wf_eq, sqQ_eq, tryX_eq, tryQ_eq]; exact wu_TUn0 )
theorem wu_TB {a : M Rs} {z : S} {Qz : Bool → S → Prop} {Xz : XQ} : Wp (TB a z) Qz Xz = Wp ((bnd a fun x => bnd (pk x) asB : M Bool) z) Qz Xz := by
  first
    | exact wu_TB0 
    | (simp only [Wp_eq, Ws_eq, Wf_eq, sqQ_eq, tryX_eq, tryQ_eq] at *; exact wu_TB0 )
    | (simp only [Wp_eq, Ws_eq, Wf_eq, sqQ_eq, tryX_eq, tryQ_eq]; exact wu_TB0 )
theorem wu_TNotV {a : M Rs} {z : S} {Qz : Rs → S → Prop} {Xz : XQ} : Wp (TNotV a z) Qz Xz = Wp ((bnd (TB a) fun b => ret (.v (.bl (!b))) : M Rs) z) Qz Xz := by
  first
    | exact wu_TNotV0 
    | (simp only [Wp_eq, Ws_eq, Wf_eq, sqQ_eq, tryX_eq, tryQ_eq] at *; exact wu_TNotV0 )
    | (simp only [Wp_eq, Ws_eq, Wf_eq, sqQ_eq, tryX_eq, tryQ_eq]; exact wu_TNotV0 )
theorem wu_TAndV {a b : M Rs} {z : S} {Qz : Rs → S → Prop} {Xz : XQ} : Wp (TAndV a b z) Qz Xz = Wp ((bnd (TB a) fun x => if x = true then b else ret (.v (.bl false)) : M Rs) z) Qz Xz := by
  first
    | exact wu_TAndV0 
    | (simp only [Wp_eq, Ws_eq, Wf_eq, sqQ_eq, tryX_eq, tryQ_eq] at *; exact wu_TAndV0 )
    | (simp only [Wp_eq, Ws_eq, Wf_eq, sqQ_eq, tryX_eq, tryQ_eq]; exact wu_TAndV0 )
theorem wu_TOrV {a b : M Rs} {z : S} {Qz : Rs → S → Prop} {Xz : XQ} : Wp (TOrV a b z) Qz Xz = Wp ((bnd (TB a) fun x => if x = true then ret (.v (.bl true)) else b : M Rs) z) Qz Xz := by
  first
    | exact wu_TOrV0 
    | (simp only [Wp_eq, Ws_eq, Wf_eq, sqQ_eq, tryX_eq, tryQ_eq] at *; exact wu_TOrV0 )
    | (simp only [Wp_eq, Ws_eq, Wf_eq, sqQ_eq, tryX_eq, tryQ_eq]; exact wu_TOrV0 )
theorem wu_TIf {β : Type} {t : M Bool} {a b : M β} {z : S} {Qz : β → S → Prop} {Xz : XQ} : Wp (TIf t a b z) Qz Xz = Wp ((bnd t fun x => if x = true then a else b : M β) z) Qz Xz := by
  first
    | exact wu_TIf0 
    | (simp only [Wp_eq, Ws_eq, Wf_eq, sqQ_eq, tryX_eq, tryQ_eq] at *; exact wu_TIf0 )
    | (simp only [Wp_eq, Ws_eq, Wf_eq, sqQ_eq, tryX_eq, tryQ_eq]; exact wu_TIf0 )
theorem wu_TNot {t : M Bool} {z : S} {Qz : Bool → S → Prop} {Xz : XQ} : Wp (TNot t z) Qz Xz = Wp ((bnd t fun x => ret (!x) : M Bool) z) Qz Xz := by
  first
    | exact wu_TNot0 
    | (simp only [Wp_eq, Ws_eq, Wf_eq, sqQ_eq, tryX_eq, tryQ_eq] at *; exact wu_TNot0 )
    | (simp only [Wp_eq, Ws_eq, Wf_eq, sqQ_eq, tryX_eq, tryQ_eq]; exact wu_TNot0 )
theorem wu_TAnd {t u : M Bool} {z : S} {Qz : Bool → S → Prop} {Xz : XQ} : Wp (TAnd t u z) Qz Xz = Wp ((bnd t fun x => if x = true then u else ret false : M Bool) z) Qz Xz := by
  first
    | exact wu_TAnd0 
    | (simp only [Wp_eq, Ws_eq, Wf_eq, sqQ_eq, tryX_eq, tryQ_eq] at *; exact wu_TAnd0 )
    | (simp only [Wp_eq, Ws_eq, Wf_eq, sqQ_eq, tryX_eq, tryQ_eq]; exact wu_TAnd0 )
theorem wu_TOr {t u : M Bool} {z : S} {Qz : Bool → S → Prop} {Xz : XQ} : Wp (TOr t u z) Qz Xz = Wp ((bnd t fun x => if x = true then ret true else u : M Bool) z) Qz Xz := by
  first
    | exact wu_TOr0 
    | (simp only [Wp_eq, Ws_eq, Wf_eq, sqQ_eq, tryX_eq, tryQ_eq] at *; exact wu_TOr0 )
    | (simp only [Wp_eq, Ws_eq, Wf_eq, sqQ_eq, tryX_eq, tryQ_eq]; exact wu_TOr0 )
theorem wu_TYes {z : S} {Qz : Bool → S → Prop} {Xz : XQ} : Wp (TYes z) Qz Xz = Wp ((ret true : M Bool) z) Qz Xz := by
  first
    | exact wu_TYes0 
    | (simp only [Wp_eq, Ws_eq, Wf_eq, sqQ_eq, tryX_eq, tryQ_eq] at *; exact wu_TYes0 )
    | (simp only [Wp_eq, Ws_eq, Wf_eq, sqQ_eq, tryX_eq, tryQ_eq]; exact wu_TYes0 )
theorem wu_TChain {f g : D → D → Option Rs} {a b k : M Rs} {z : S} {Qz : Rs → S → Prop} {Xz : XQ} : Wp (TChain f g a b k z) Qz Xz = Wp ((bnd a fun x => bnd b fun y => bnd (pk x) fun d => bnd (pk y) fun e => bnd (opt (f d e)) fun r => match r with
  | .v (.bl z) => if z = true then bnd k fun q => bnd (pk y) fun e2 => bnd (pk q) fun u => opt (g e2 u) else ret (.v (.bl false))
  | _ => fun _ => none : M Rs) z) Qz Xz := by
  first
    | exact wu_TChain0 
    | (simp only [Wp_eq, Ws_eq, Wf_eq, sqQ_eq, tryX_eq, tryQ_eq] at *; exact wu_TChain0 )
    | (simp only [Wp_eq, Ws_eq, Wf_eq, sqQ_eq, tryX_eq, tryQ_eq]; exact wu_TChain0 )
theorem wu_TNil {z : S} {Qz : (List D) → S → Prop} {Xz : XQ} : Wp (TNil z) Qz Xz = Wp ((ret [] : M (List D)) z) Qz Xz := by
  first
    | exact wu_TNil0 
    | (simp only [Wp_eq, Ws_eq, Wf_eq, sqQ_eq, tryX_eq, tryQ_eq] at *; exact wu_TNil0 )
    | (simp only [Wp_eq, Ws_eq, Wf_eq, sqQ_eq, tryX_eq, tryQ_eq]; exact wu_TNil0 )
theorem wu_TCons {a : M Rs} {t : M (List D)} {z : S} {Qz : (List D) → S → Prop} {Xz : XQ} : Wp (TCons a t z) Qz Xz = Wp ((bnd a fun x => bnd (stab x) fun d => bnd t fun ds => ret (d :: ds) : M (List D)) z) Qz Xz := by
  first
    | exact wu_TCons0 
    | (simp only [Wp_eq, Ws_eq, Wf_eq, sqQ_eq, tryX_eq, tryQ_eq] at *; exact wu_TCons0 )
    | (simp only [Wp_eq, Ws_eq, Wf_eq, sqQ_eq, tryX_eq, tryQ_eq]; exact wu_TCons0 )
theorem wu_TStar {a : M Rs} {t : M (List D)} {z : S} {Qz : (List D) → S → Prop} {Xz : XQ} : Wp (TStar a t z) Qz Xz = Wp ((bnd a fun x => bnd (pk x) fun d => match d with
  | .list xs => bnd t fun ds => ret (xs ++ ds)
  | .tup xs => bnd t fun ds => ret (xs ++ ds)
  | .scr xs => bnd t fun ds => ret (xs ++ ds)
  | _ => fun _ => none : M (List D)) z) Qz Xz := by
  first
    | exact wu_TStar0 
    | (simp only [Wp_eq, Ws_eq, Wf_eq, sqQ_eq, tryX_eq, tryQ_eq] at *; exact wu_TStar0 )
    | (simp only [Wp_eq, Ws_eq, Wf_eq, sqQ_eq, tryX_eq, tryQ_eq]; exact wu_TStar0 )
theorem wu_PNil {z : S} {Qz : (List Rs) → S → Prop} {Xz : XQ} : Wp (PNil z) Qz Xz = Wp ((ret [] : M (List Rs)) z) Qz Xz := by
  first
    | exact wu_PNil0 
    | (simp only [Wp_eq, Ws_eq, Wf_eq, sqQ_eq, tryX_eq, tryQ_eq] at *; exact wu_PNil0 )
    | (simp only [Wp_eq, Ws_eq, Wf_eq, sqQ_eq, tryX_eq, tryQ_eq]; exact wu_PNil0 )
theorem wu_PCons {a : M Rs} {t : M (List Rs)} {z : S} {Qz : (List Rs) → S → Prop} {Xz : XQ} : Wp (PCons a t z) Qz Xz = Wp ((bnd a fun x => bnd t fun xs => ret (x :: xs) : M (List Rs)) z) Qz Xz := by
  first
    | exact wu_PCons0 
    | (simp only [Wp_eq, Ws_eq, Wf_eq, sqQ_eq, tryX_eq, tryQ_eq] at *; exact wu_PCons0 )
    | (simp only [Wp_eq, Ws_eq, Wf_eq, sqQ_eq, tryX_eq, tryQ_eq]; exact wu_PCons0 )
theorem wu_TLst {t : M (List D)} {z : S} {Qz : Rs → S → Prop} {Xz : XQ} : Wp (TLst t z) Qz Xz = Wp ((bnd t fun ds => if fits ds.length = true then ret (.fr (.list ds)) else fun _ => none : M Rs) z) Qz Xz := by
  first
    | exact wu_TLst0 
    | (simp only [Wp_eq, Ws_eq, Wf_eq, sqQ_eq, tryX_eq, tryQ_eq] at *; exact wu_TLst0 )
    | (simp only [Wp_eq, Ws_eq, Wf_eq, sqQ_eq, tryX_eq, tryQ_eq]; exact wu_TLst0 )
theorem wu_TTup {t : M (List D)} {z : S} {Qz : Rs → S → Prop} {Xz : XQ} : Wp (TTup t z) Qz Xz = Wp ((bnd t fun ds => if fits ds.length = true then ret (.fr (.tup ds)) else fun _ => none : M Rs) z) Qz Xz := by
  first
    | exact wu_TTup0 
    | (simp only [Wp_eq, Ws_eq, Wf_eq, sqQ_eq, tryX_eq, tryQ_eq] at *; exact wu_TTup0 )
    | (simp only [Wp_eq, Ws_eq, Wf_eq, sqQ_eq, tryX_eq, tryQ_eq]; exact wu_TTup0 )
theorem wu_TCB {f : List D → Option Rs} {t : M (List Rs)} {z : S} {Qz : Rs → S → Prop} {Xz : XQ} : Wp (TCB f t z) Qz Xz = Wp ((bnd t fun rs => bnd (pks rs) fun ds => opt (f ds) : M Rs) z) Qz Xz := by
  first
    | exact wu_TCB0 
    | (simp only [Wp_eq, Ws_eq, Wf_eq, sqQ_eq, tryX_eq, tryQ_eq] at *; exact wu_TCB0 )
    | (simp only [Wp_eq, Ws_eq, Wf_eq, sqQ_eq, tryX_eq, tryQ_eq]; exact wu_TCB0 )
theorem wu_TNext {z : S} {Qz : Fl → S → Prop} : Ws (TNext z) Qz = Ws ((fun s => some (.nx, s) : TSd) z) Qz := by
  first
    | exact wu_TNext0 
    | (simp only [Wp_eq, Ws_eq, Wf_eq, sqQ_eq, tryX_eq, tryQ_eq] at *; exact wu_TNext0 )
    | (simp only [Wp_eq, Ws_eq, Wf_eq, sqQ_eq, tryX_eq, tryQ_eq]; exact wu_TNext0 )
theorem wu_TBreak {z : S} {Qz : Fl → S → Prop} : Ws (TBreak z) Qz = Ws ((fun s => some (.bk, s) : TSd) z) Qz := by
  first
    | exact wu_TBreak0 
    | (simp only [Wp_eq, Ws_eq, Wf_eq, sqQ_eq, tryX_eq, tryQ_eq] at *; exact wu_TBreak0 )
    | (simp only [Wp_eq, Ws_eq, Wf_eq, sqQ_eq, tryX_eq, tryQ_eq]; exact wu_TBreak0 )
theorem wu_TCont {z : S} {Qz : Fl → S → Prop} : Ws (TCont z) Qz = Ws ((fun s => some (.ct, s) : TSd) z) Qz := by
  first
    | exact wu_TCont0 
    | (simp only [Wp_eq, Ws_eq, Wf_eq, sqQ_eq, tryX_eq, tryQ_eq] at *; exact wu_TCont0 )
    | (simp only [Wp_eq, Ws_eq, Wf_eq, sqQ_eq, tryX_eq, tryQ_eq]; exact wu_TCont0 )
theorem wu_TRet {T : M Rs} {z : S} {Qz : Fl → S → Prop} : Ws (TRet T z) Qz = Ws ((sb T fun r s => some (.rt r, s) : TSd) z) Qz := by
  first
    | exact wu_TRet0 
    | (simp only [Wp_eq, Ws_eq, Wf_eq, sqQ_eq, tryX_eq, tryQ_eq] at *; exact wu_TRet0 )
    | (simp only [Wp_eq, Ws_eq, Wf_eq, sqQ_eq, tryX_eq, tryQ_eq]; exact wu_TRet0 )
theorem wu_TRetN {z : S} {Qz : Fl → S → Prop} : Ws (TRetN z) Qz = Ws ((fun s => some (.rt (.v .non), s) : TSd) z) Qz := by
  first
    | exact wu_TRetN0 
    | (simp only [Wp_eq, Ws_eq, Wf_eq, sqQ_eq, tryX_eq, tryQ_eq] at *; exact wu_TRetN0 )
    | (simp only [Wp_eq, Ws_eq, Wf_eq, sqQ_eq, tryX_eq, tryQ_eq]; exact wu_TRetN0 )
theorem wu_TDrop {T : M Rs} {z : S} {Qz : Fl → S → Prop} : Ws (TDrop T z) Qz = Ws ((sb T fun _ s => some (.nx, s) : TSd) z) Qz := by
  first
    | exact wu_TDrop0 
    | (simp only [Wp_eq, Ws_eq, Wf_eq, sqQ_eq, tryX_eq, tryQ_eq] at *; exact wu_TDrop0 )
    | (simp only [Wp_eq, Ws_eq, Wf_eq, sqQ_eq, tryX_eq, tryQ_eq]; exact wu_TDrop0 )
theorem wu_TIfS {t : M Bool} {T U : TSd} {z : S} {Qz : Fl → S → Prop} : Ws (TIfS t T U z) Qz = Ws ((sb t fun b => if b = true then T else U : TSd) z) Qz := by
  first
    | exact wu_TIfS0 
    | (simp only [Wp_eq, Ws_eq, Wf_eq, sqQ_eq, tryX_eq, tryQ_eq] at *; exact wu_TIfS0 )
    | (simp only [Wp_eq, Ws_eq, Wf_eq, sqQ_eq, tryX_eq, tryQ_eq]; exact wu_TIfS0 )
theorem wu_TAsg {T : M Rs} {i : Nat} {z : S} {Qz : Fl → S → Prop} : Ws (TAsg T i z) Qz = Ws ((sb T fun r => sb (res1 r) fun r s => nxt (asg i r s) : TSd) z) Qz := by
  first
    | exact wu_TAsg0 
    | (simp only [Wp_eq, Ws_eq, Wf_eq, sqQ_eq, tryX_eq, tryQ_eq] at *; exact wu_TAsg0 )
    | (simp only [Wp_eq, Ws_eq, Wf_eq, sqQ_eq, tryX_eq, tryQ_eq]; exact wu_TAsg0 )
theorem wu_TPar {is : List Nat} {T : M (List Rs)} {z : S} {Qz : Fl → S → Prop} : Ws (TPar is T z) Qz = Ws ((sb T fun rs => sb (res rs) fun rs s => nxt (asgs is rs s) : TSd) z) Qz := by
  first
    | exact wu_TPar0 
    | (simp only [Wp_eq, Ws_eq, Wf_eq, sqQ_eq, tryX_eq, tryQ_eq] at *; exact wu_TPar0 )
    | (simp only [Wp_eq, Ws_eq, Wf_eq, sqQ_eq, tryX_eq, tryQ_eq]; exact wu_TPar0 )
theorem wu_ILst {T : M Rs} {z : S} {Qz : (List D) → S → Prop} {Xz : XQ} : Wp (ILst T z) Qz Xz = Wp ((bnd T fun r => bnd (stab r) fun d => opt (itemsL d) : M (List D)) z) Qz Xz := by
  first
    | exact wu_ILst0 
    | (simp only [Wp_eq, Ws_eq, Wf_eq, sqQ_eq, tryX_eq, tryQ_eq] at *; exact wu_ILst0 )
    | (simp only [Wp_eq, Ws_eq, Wf_eq, sqQ_eq, tryX_eq, tryQ_eq]; exact wu_ILst0 )
theorem wu_ITup {T : M Rs} {z : S} {Qz : (List D) → S → Prop} {Xz : XQ} : Wp (ITup T z) Qz Xz = Wp ((bnd T fun r => bnd (stab r) fun d => opt (match d with | .tup ds => some ds | _ => none) : M (List D)) z) Qz Xz := by
  first
    | exact wu_ITup0 
    | (simp only [Wp_eq, Ws_eq, Wf_eq, sqQ_eq, tryX_eq, tryQ_eq] at *; exact wu_ITup0 )
    | (simp only [Wp_eq, Ws_eq, Wf_eq, sqQ_eq, tryX_eq, tryQ_eq]; exact wu_ITup0 )
theorem wu_IStr {T : M Rs} {z : S} {Qz : (List D) → S → Prop} {Xz : XQ} : Wp (IStr T z) Qz Xz = Wp ((bnd T fun r => bnd (pk r) fun d => opt (match d with | .str z => some (z.cps.toList.map fun k => D.str ⟨#[k]⟩) | _ => none) : M (List D)) z) Qz Xz := by
  first
    | exact wu_IStr0 
    | (simp only [Wp_eq, Ws_eq, Wf_eq, sqQ_eq, tryX_eq, tryQ_eq] at *; exact wu_IStr0 )
    | (simp only [Wp_eq, Ws_eq, Wf_eq, sqQ_eq, tryX_eq, tryQ_eq]; exact wu_IStr0 )
theorem wu_IRng1 {T : M (List D)} {z : S} {Qz : (List D) → S → Prop} {Xz : XQ} : Wp (IRng1 T z) Qz Xz = Wp ((bnd T fun ds => opt (match ds with | [.int j] => if smallI j = true then some (rngD 0 j.toNat) else none | _ => none) : M (List D)) z) Qz Xz := by
  first
    | exact wu_IRng10 
    | (simp only [Wp_eq, Ws_eq, Wf_eq, sqQ_eq, tryX_eq, tryQ_eq] at *; exact wu_IRng10 )
    | (simp only [Wp_eq, Ws_eq, Wf_eq, sqQ_eq, tryX_eq, tryQ_eq]; exact wu_IRng10 )
theorem wu_IRng2 {T : M (List D)} {z : S} {Qz : (List D) → S → Prop} {Xz : XQ} : Wp (IRng2 T z) Qz Xz = Wp ((bnd T fun ds => opt (match ds with | [.int i, .int j] => if (smallI i && smallI j) = true then some (rngD i (j - i).toNat) else none | _ => none) : M (List D)) z) Qz Xz := by
  first
    | exact wu_IRng20 
    | (simp only [Wp_eq, Ws_eq, Wf_eq, sqQ_eq, tryX_eq, tryQ_eq] at *; exact wu_IRng20 )
    | (simp only [Wp_eq, Ws_eq, Wf_eq, sqQ_eq, tryX_eq, tryQ_eq]; exact wu_IRng20 )
theorem wu_IEnum {T : M (List D)} {z : S} {Qz : (List D) → S → Prop} {Xz : XQ} : Wp (IEnum T z) Qz Xz = Wp ((bnd T fun ds => opt (match ds with | [d] => (itemsL d).map enumD | _ => none) : M (List D)) z) Qz Xz := by
  first
    | exact wu_IEnum0 
    | (simp only [Wp_eq, Ws_eq, Wf_eq, sqQ_eq, tryX_eq, tryQ_eq] at *; exact wu_IEnum0 )
    | (simp only [Wp_eq, Ws_eq, Wf_eq, sqQ_eq, tryX_eq, tryQ_eq]; exact wu_IEnum0 )
theorem wu_IZip {T : M (List D)} {z : S} {Qz : (List D) → S → Prop} {Xz : XQ} : Wp (IZip T z) Qz Xz = Wp ((bnd T fun ds => opt (match ds with | [a, b] => (match itemsL a, itemsL b with | some xs, some ys => some ((xs.zip ys).map fun p => D.tup [p.1, p.2]) | _, _ => none) | _ => none) : M (List D)) z) Qz Xz := by
  first
    | exact wu_IZip0 
    | (simp only [Wp_eq, Ws_eq, Wf_eq, sqQ_eq, tryX_eq, tryQ_eq] at *; exact wu_IZip0 )
    | (simp only [Wp_eq, Ws_eq, Wf_eq, sqQ_eq, tryX_eq, tryQ_eq]; exact wu_IZip0 )
theorem wu_TBM {f : List D → D → Option (D × D)} {o : M Rs} {t : M (List D)} {z : S} {Qz : Rs → S → Prop} {Xz : XQ} : Wp (TBM f o t z) Qz Xz = Wp ((bnd o fun r => bnd (pk r) fun d => if isL d = true then bnd t fun ds => bnd (mutD r (f ds)) fun d => ret (.v d) else fun _ => none : M Rs) z) Qz Xz := by
  first
    | exact wu_TBM0 
    | (simp only [Wp_eq, Ws_eq, Wf_eq, sqQ_eq, tryX_eq, tryQ_eq] at *; exact wu_TBM0 )
    | (simp only [Wp_eq, Ws_eq, Wf_eq, sqQ_eq, tryX_eq, tryQ_eq]; exact wu_TBM0 )
theorem wu_TBP {f : List D → D → Option (D × D)} {o : M Rs} {t : M (List Rs)} {z : S} {Qz : Rs → S → Prop} {Xz : XQ} : Wp (TBP f o t z) Qz Xz = Wp ((bnd o fun r => bnd (pk r) fun d => if isL d = true then bnd t fun rs => bnd (pks rs) fun ds => bnd (mutD r (f ds)) fun d => ret (.v d) else fun _ => none : M Rs) z) Qz Xz := by
  first
    | exact wu_TBP0 
    | (simp only [Wp_eq, Ws_eq, Wf_eq, sqQ_eq, tryX_eq, tryQ_eq] at *; exact wu_TBP0 )
    | (simp only [Wp_eq, Ws_eq, Wf_eq, sqQ_eq, tryX_eq, tryQ_eq]; exact wu_TBP0 )
theorem wu_TAug {i : Nat} {f : D → D → Option Rs} {T : M Rs} {z : S} {Qz : Fl → S → Prop} : Ws (TAug i f T z) Qz = Ws ((sb (TVar i) fun x => sb T fun y => sb (bnd (pk x) fun d => bnd (pk y) fun e => opt (f d e)) fun r s => nxt (asg i r s) : TSd) z) Qz := by
  first
    | exact wu_TAug0 
    | (simp only [Wp_eq, Ws_eq, Wf_eq, sqQ_eq, tryX_eq, tryQ_eq] at *; exact wu_TAug0 )
    | (simp only [Wp_eq, Ws_eq, Wf_eq, sqQ_eq, tryX_eq, tryQ_eq]; exact wu_TAug0 )
theorem wu_TSub {o i t : M Rs} {z : S} {Qz : Fl → S → Prop} : Ws (TSub o i t z) Qz = Ws ((sb t fun r => sb (stab r) fun d => sb o fun ro => sb i fun ri => sb (pk ri) fun k => sb (mutD ro fun l => match l, k with
  | .list xs, .int k => (ixN xs.length k).map fun j => ((), D.list (xs.set j d))
  | _, _ => none) fun _ s => some (.nx, s) : TSd) z) Qz := by
  first
    | exact wu_TSub0 
    | (simp only [Wp_eq, Ws_eq, Wf_eq, sqQ_eq, tryX_eq, tryQ_eq] at *; exact wu_TSub0 )
    | (simp only [Wp_eq, Ws_eq, Wf_eq, sqQ_eq, tryX_eq, tryQ_eq]; exact wu_TSub0 )
theorem wu_TDPut {o i t : M Rs} {z : S} {Qz : Fl → S → Prop} : Ws (TDPut o i t z) Qz = Ws ((sb t fun r => sb (stab r) fun d => sb o fun ro => sb i fun ri => sb (pk ri) fun k => sb (mutD ro fun l => match l, toKey k with
  | .dict kvs, some k => if kvs.length < 16777216 then some ((), D.dict (putD kvs k d)) else none
  | _, _ => none) fun _ s => some (.nx, s) : TSd) z) Qz := by
  first
    | exact wu_TDPut0 
    | (simp only [Wp_eq, Ws_eq, Wf_eq, sqQ_eq, tryX_eq, tryQ_eq] at *; exact wu_TDPut0 )
    | (simp only [Wp_eq, Ws_eq, Wf_eq, sqQ_eq, tryX_eq, tryQ_eq]; exact wu_TDPut0 )
theorem wu_TFld {ok : Nat → Bool} {f : Str} {o t : M Rs} {z : S} {Qz : Fl → S → Prop} : Ws (TFld ok f o t z) Qz = Ws ((sb t fun r => sb (stab r) fun d => sb o fun ro => sb (mutD ro fun l => match l with
  | .obj k fs => if (ok k && decide (fs.length < 1000)) = true then some ((), D.obj k (putFd f d fs)) else none
  | _ => none) fun _ s => some (.nx, s) : TSd) z) Qz := by
  first
    | exact wu_TFld0 
    | (simp only [Wp_eq, Ws_eq, Wf_eq, sqQ_eq, tryX_eq, tryQ_eq] at *; exact wu_TFld0 )
    | (simp only [Wp_eq, Ws_eq, Wf_eq, sqQ_eq, tryX_eq, tryQ_eq]; exact wu_TFld0 )
theorem wu_TFn {F : FT} {T : M (List D)} {z : S} {Qz : Rs → S → Prop} {Xz : XQ} : Wp (TFn F T z) Qz Xz = Wp ((bnd T fun ds => call F ds : M Rs) z) Qz Xz := by
  first
    | exact wu_TFn0 
    | (simp only [Wp_eq, Ws_eq, Wf_eq, sqQ_eq, tryX_eq, tryQ_eq] at *; exact wu_TFn0 )
    | (simp only [Wp_eq, Ws_eq, Wf_eq, sqQ_eq, tryX_eq, tryQ_eq]; exact wu_TFn0 )
theorem wu_TFnK {F : FT} {n : Nat} {g : List D → List D} {T : M (List D)} {z : S} {Qz : Rs → S → Prop} {Xz : XQ} : Wp (TFnK F n g T z) Qz Xz = Wp ((bnd T fun ds => if ds.length = n then call F (g ds) else fun _ => none : M Rs) z) Qz Xz := by
  first
    | exact wu_TFnK0 
    | (simp only [Wp_eq, Ws_eq, Wf_eq, sqQ_eq, tryX_eq, tryQ_eq] at *; exact wu_TFnK0 )
    | (simp only [Wp_eq, Ws_eq, Wf_eq, sqQ_eq, tryX_eq, tryQ_eq]; exact wu_TFnK0 )
theorem wu_TMth {tab : Nat → Option FT} {m : Str} {o : M Rs} {T : M (List D)} {z : S} {Qz : Rs → S → Prop} {Xz : XQ} : Wp (TMth tab m o T z) Qz Xz = Wp ((bnd o fun r => bnd (stab r) fun d => bnd (pk (.v d)) fun d0 => meth tab m d0 fun F => bnd T fun ds => call F (d :: ds) : M Rs) z) Qz Xz := by
  first
    | exact wu_TMth0 
    | (simp only [Wp_eq, Ws_eq, Wf_eq, sqQ_eq, tryX_eq, tryQ_eq] at *; exact wu_TMth0 )
    | (simp only [Wp_eq, Ws_eq, Wf_eq, sqQ_eq, tryX_eq, tryQ_eq]; exact wu_TMth0 )
theorem wu_TMthK {tab : Nat → Option FT} {m : Str} {n : Nat} {g : List D → List D} {o : M Rs} {T : M (List D)} {z : S} {Qz : Rs → S → Prop} {Xz : XQ} : Wp (TMthK tab m n g o T z) Qz Xz = Wp ((bnd o fun r => bnd (stab r) fun d => bnd (pk (.v d)) fun d0 => meth tab m d0 fun F => bnd T fun ds => if ds.length = n then call F (d :: g ds) else fun _ => none : M Rs) z) Qz Xz := by
  first
    | exact wu_TMthK0 
    | (simp only [Wp_eq, Ws_eq, Wf_eq, sqQ_eq, tryX_eq, tryQ_eq] at *; exact wu_TMthK0 )
    | (simp only [Wp_eq, Ws_eq, Wf_eq, sqQ_eq, tryX_eq, tryQ_eq]; exact wu_TMthK0 )
theorem wu_TAtt {tab : Nat → Option AK} {ct : Nat → Option D} {f : Str} {a : M Rs} {z : S} {Qz : Rs → S → Prop} {Xz : XQ} : Wp (TAtt tab ct f a z) Qz Xz = Wp ((bnd a fun r => bnd (pk r) fun d0 => bnd (opt (attD tab ct f d0)) fun d => ret (.v d) : M Rs) z) Qz Xz := by
  first
    | exact wu_TAtt0 
    | (simp only [Wp_eq, Ws_eq, Wf_eq, sqQ_eq, tryX_eq, tryQ_eq] at *; exact wu_TAtt0 )
    | (simp only [Wp_eq, Ws_eq, Wf_eq, sqQ_eq, tryX_eq, tryQ_eq]; exact wu_TAtt0 )
theorem wu_TAttE {tab : Nat → Option AK} {f : Str} {a : M Rs} {z : S} {Qz : Rs → S → Prop} {Xz : XQ} : Wp (TAttE tab f a z) Qz Xz = Wp ((bnd a fun r => bnd (pk r) fun d0 => bnd (opt (attE tab f d0)) fun d => ret (.v d) : M Rs) z) Qz Xz := by
  first
    | exact wu_TAttE0 
    | (simp only [Wp_eq, Ws_eq, Wf_eq, sqQ_eq, tryX_eq, tryQ_eq] at *; exact wu_TAttE0 )
    | (simp only [Wp_eq, Ws_eq, Wf_eq, sqQ_eq, tryX_eq, tryQ_eq]; exact wu_TAttE0 )
theorem wu_TNoP {z : S} {Qz : (Option Int) → S → Prop} {Xz : XQ} : Wp (TNoP z) Qz Xz = Wp ((ret none : M (Option Int)) z) Qz Xz := by
  first
    | exact wu_TNoP0 
    | (simp only [Wp_eq, Ws_eq, Wf_eq, sqQ_eq, tryX_eq, tryQ_eq] at *; exact wu_TNoP0 )
    | (simp only [Wp_eq, Ws_eq, Wf_eq, sqQ_eq, tryX_eq, tryQ_eq]; exact wu_TNoP0 )
theorem wu_TPart {a : M Rs} {z : S} {Qz : (Option Int) → S → Prop} {Xz : XQ} : Wp (TPart a z) Qz Xz = Wp ((bnd a fun r => bnd (pk r) fun d => bnd (opt (asI d)) fun i => ret (some i) : M (Option Int)) z) Qz Xz := by
  first
    | exact wu_TPart0 
    | (simp only [Wp_eq, Ws_eq, Wf_eq, sqQ_eq, tryX_eq, tryQ_eq] at *; exact wu_TPart0 )
    | (simp only [Wp_eq, Ws_eq, Wf_eq, sqQ_eq, tryX_eq, tryQ_eq]; exact wu_TPart0 )
theorem wu_TSl {f : D → Option Int → Option Int → Option Rs} {a : M Rs} {lo hi : M (Option Int)} {z : S} {Qz : Rs → S → Prop} {Xz : XQ} : Wp (TSl f a lo hi z) Qz Xz = Wp ((bnd a fun r => bnd lo fun l => bnd hi fun h => bnd (pk r) fun d => opt (f d l h) : M Rs) z) Qz Xz := by
  first
    | exact wu_TSl0 
    | (simp only [Wp_eq, Ws_eq, Wf_eq, sqQ_eq, tryX_eq, tryQ_eq] at *; exact wu_TSl0 )
    | (simp only [Wp_eq, Ws_eq, Wf_eq, sqQ_eq, tryX_eq, tryQ_eq]; exact wu_TSl0 )
theorem wu_TRevL {a : M Rs} {z : S} {Qz : Rs → S → Prop} {Xz : XQ} : Wp (TRevL a z) Qz Xz = Wp ((TUn revL a : M Rs) z) Qz Xz := by
  first
    | exact wu_TRevL0 
    | (simp only [Wp_eq, Ws_eq, Wf_eq, sqQ_eq, tryX_eq, tryQ_eq] at *; exact wu_TRevL0 )
    | (simp only [Wp_eq, Ws_eq, Wf_eq, sqQ_eq, tryX_eq, tryQ_eq]; exact wu_TRevL0 )
theorem wu_TDGet {a b : M Rs} {z : S} {Qz : Rs → S → Prop} {Xz : XQ} : Wp (TDGet a b z) Qz Xz = Wp ((bnd a fun x => bnd b fun y => bnd (pk x) fun d => bnd (pk y) fun k => bnd (opt (getD d k)) fun r => ret (.v r) : M Rs) z) Qz Xz := by
  first
    | exact wu_TDGet0 
    | (simp only [Wp_eq, Ws_eq, Wf_eq, sqQ_eq, tryX_eq, tryQ_eq] at *; exact wu_TDGet0 )
    | (simp only [Wp_eq, Ws_eq, Wf_eq, sqQ_eq, tryX_eq, tryQ_eq]; exact wu_TDGet0 )
theorem wu_TDNew {z : S} {Qz : Rs → S → Prop} {Xz : XQ} : Wp (TDNew z) Qz Xz = Wp ((ret (.fr (.dict [])) : M Rs) z) Qz Xz := by
  first
    | exact wu_TDNew0 
    | (simp only [Wp_eq, Ws_eq, Wf_eq, sqQ_eq, tryX_eq, tryQ_eq] at *; exact wu_TDNew0 )
    | (simp only [Wp_eq, Ws_eq, Wf_eq, sqQ_eq, tryX_eq, tryQ_eq]; exact wu_TDNew0 )
theorem wu_TIndex {o : M Rs} {t : M (List Rs)} {z : S} {Qz : Rs → S → Prop} {Xz : XQ} : Wp (TIndex o t z) Qz Xz = Wp ((bnd o fun r => bnd (pk r) fun d0 => if (itemsL d0).isSome = true then bnd t fun rs => bnd (pk r) fun d => bnd (pks rs) fun es => opt (indexD d es) else fun _ => none : M Rs) z) Qz Xz := by
  first
    | exact wu_TIndex0 
    | (simp only [Wp_eq, Ws_eq, Wf_eq, sqQ_eq, tryX_eq, tryQ_eq] at *; exact wu_TIndex0 )
    | (simp only [Wp_eq, Ws_eq, Wf_eq, sqQ_eq, tryX_eq, tryQ_eq]; exact wu_TIndex0 )
theorem wu_TAsgG {T : M Rs} {G : GD} {z : S} {Qz : Fl → S → Prop} : Ws (TAsgG T G z) Qz = Ws ((sb T fun r => sb (stab r) fun d s => nxt (G d s) : TSd) z) Qz := by
  first
    | exact wu_TAsgG0 
    | (simp only [Wp_eq, Ws_eq, Wf_eq, sqQ_eq, tryX_eq, tryQ_eq] at *; exact wu_TAsgG0 )
    | (simp only [Wp_eq, Ws_eq, Wf_eq, sqQ_eq, tryX_eq, tryQ_eq]; exact wu_TAsgG0 )
theorem wu_TKeep {T : M Rs} {z : S} {Qz : Rs → S → Prop} {Xz : XQ} : Wp (TKeep T z) Qz Xz = Wp ((bnd T fun r s => match r with
  | .fr d => some (.ok (.v (.loc s.μ.length)), { s with μ := s.μ ++ [d] })
  | _ => none : M Rs) z) Qz Xz := by
  first
    | exact wu_TKeep0 
    | (simp only [Wp_eq, Ws_eq, Wf_eq, sqQ_eq, tryX_eq, tryQ_eq] at *; exact wu_TKeep0 )
    | (simp only [Wp_eq, Ws_eq, Wf_eq, sqQ_eq, tryX_eq, tryQ_eq]; exact wu_TKeep0 )
theorem wu_TSup {kid : Nat} {F : FT} {T : M (List D)} {z : S} {Qz : Rs → S → Prop} {Xz : XQ} : Wp (TSup kid F T z) Qz Xz = Wp ((bnd (TVar 0) fun r => bnd (stab r) fun d => bnd (pk (.v d)) fun d0 => match d0 with
  | .obj k _ => if k = kid then bnd T fun ds => call F (d :: ds) else fun _ => none
  | _ => fun _ => none : M Rs) z) Qz Xz := by
  first
    | exact wu_TSup0 
    | (simp only [Wp_eq, Ws_eq, Wf_eq, sqQ_eq, tryX_eq, tryQ_eq] at *; exact wu_TSup0 )
    | (simp only [Wp_eq, Ws_eq, Wf_eq, sqQ_eq, tryX_eq, tryQ_eq]; exact wu_TSup0 )
theorem wu_TDct1 {a b : M Rs} {z : S} {Qz : Rs → S → Prop} {Xz : XQ} : Wp (TDct1 a b z) Qz Xz = Wp ((bnd a fun x => bnd (stab x) fun dk => bnd b fun y => bnd (stab y) fun dv => bnd (opt (toKey dk)) fun k => ret (.fr (.dict [(k, dv)])) : M Rs) z) Qz Xz := by
  first
    | exact wu_TDct10 
    | (simp only [Wp_eq, Ws_eq, Wf_eq, sqQ_eq, tryX_eq, tryQ_eq] at *; exact wu_TDct10 )
    | (simp only [Wp_eq, Ws_eq, Wf_eq, sqQ_eq, tryX_eq, tryQ_eq]; exact wu_TDct10 )
theorem wu_TLenSet {a : M Rs} {z : S} {Qz : Rs → S → Prop} {Xz : XQ} : Wp (TLenSet a z) Qz Xz = Wp ((TUn lenSet a : M Rs) z) Qz Xz := by
  first
    | exact wu_TLenSet0 
    | (simp only [Wp_eq, Ws_eq, Wf_eq, sqQ_eq, tryX_eq, tryQ_eq] at *; exact wu_TLenSet0 )
    | (simp only [Wp_eq, Ws_eq, Wf_eq, sqQ_eq, tryX_eq, tryQ_eq]; exact wu_TLenSet0 )
theorem wu_TRaise {k : Nat} {z : S} {Qz : Fl → S → Prop} : Ws (TRaise k z) Qz = Ws ((fun s => some (.ex ⟨k, []⟩, s) : TSd) z) Qz := by
  first
    | exact wu_TRaise0 
    | (simp only [Wp_eq, Ws_eq, Wf_eq, sqQ_eq, tryX_eq, tryQ_eq] at *; exact wu_TRaise0 )
    | (simp only [Wp_eq, Ws_eq, Wf_eq, sqQ_eq, tryX_eq, tryQ_eq]; exact wu_TRaise0 )
theorem wu_TRaiseF {k : Nat} {f : Str} {T : M Rs} {z : S} {Qz : Fl → S → Prop} : Ws (TRaiseF k f T z) Qz = Ws ((sb T fun r => sb (stab r) fun d s => some (.ex ⟨k, [(f, d)]⟩, s) : TSd) z) Qz := by
  first
    | exact wu_TRaiseF0 
    | (simp only [Wp_eq, Ws_eq, Wf_eq, sqQ_eq, tryX_eq, tryQ_eq] at *; exact wu_TRaiseF0 )
    | (simp only [Wp_eq, Ws_eq, Wf_eq, sqQ_eq, tryX_eq, tryQ_eq]; exact wu_TRaiseF0 )
theorem wp_meth {tab : Nat → Option FT} {m : Str} {c : Nat} {fs : List (Str × D)} {k : FT → M Rs} {s : S} {Q : Rs → S → Prop} {X : XQ} : Wp (meth tab m (.obj c fs) k s) Q X = (fs.lookup m = none ∧ ∃ F, tab c = some F ∧ Wp (k F s) Q X) := by
  first
    | exact wp_meth0 
    | (simp only [Wp_eq, Ws_eq, Wf_eq, sqQ_eq, tryX_eq, tryQ_eq] at *; exact wp_meth0 )
    | (simp only [Wp_eq, Ws_eq, Wf_eq, sqQ_eq, tryX_eq, tryQ_eq]; exact wp_meth0 )
variable {zs : List Str} {z : Str}
section
variable {α β : Type} {xs : List α} {i : Nat}
end
theorem wp_Dc {I : M (List D)} {G : GD} {B : M Bool} {T U : M Rs} {vs : List Nat} {s : S} {Q : Rs → S → Prop} {X : XQ} (h : Wp (I s) (fun ds s1 => ds.length ≤ 16777216 ∧ Wp (dcD G B T U vs ds [] ⟨wipeE vs s1.env, s1.μ⟩) (fun es s2 => Q (.fr (.dict es)) ⟨restE vs s1.env s2.env, s2.μ⟩) fun _ _ => False) X) : Wp (TDc I G B T U vs s) Q X := by
  first
    | exact wp_Dc0 h
    | (simp only [Wp_eq, Ws_eq, Wf_eq, sqQ_eq, tryX_eq, tryQ_eq] at *; exact wp_Dc0 h)
    | (simp only [Wp_eq, Ws_eq, Wf_eq, sqQ_eq, tryX_eq, tryQ_eq]; exact wp_Dc0 h)
theorem dc_all {G : GD} {B : M Bool} {T U : M Rs} {vs : List Nat} {Q : List (Key × D) → S → Prop} {X : XQ} {α : Type} {s : S} (g : α → D) (f : α → Str) (h : α → D) : ∀ {xs : List α} {acc : List (Key × D)},
    (∀ x ∈ xs, ∃ s1, G (g x) s = some s1 ∧ Wp (B s1) (fun b s2 => b = true ∧ Wp (bnd T stab s2) (fun k s3 => k = .str (f x) ∧ Wp (bnd U stab s3) (fun e s4 => e = h x ∧ (⟨wipeE vs s4.env, s4.μ⟩ : S) = s) fun _ _ => False) fun _ _ => False) fun _ _ => False) →
    Q (mergeD acc (xs.map fun x => (.inr (f x), h x))) s → Wp (dcD G B T U vs (xs.map g) acc s) Q X := by
  first
    | exact dc_all0 g f h
    | (simp only [Wp_eq, Ws_eq, Wf_eq, sqQ_eq, tryX_eq, tryQ_eq] at *; exact dc_all0 g f h)
    | (simp only [Wp_eq, Ws_eq, Wf_eq, sqQ_eq, tryX_eq, tryQ_eq]; exact dc_all0 g f h)
end Z
/-! rules for texts and for == of own instances -/
namespace Z
open PySem PySem.Spec PyProof.Rows L2 U ClX
/-- the last step of == on lists of own instances -/
noncomputable def eqO (neg : Bool) (tab : Nat → Option FT) (d e : D) : M Rs := fun s => match d, e with
  | .list ds, .list es => @ite _ (eqAll tab ds es s) (Classical.propDecidable _) (some (.ok (.v (.bl (!neg))), s)) none
  | _, _ => none
section
variable {s : S} {Q : Rs → S → Prop} {X : XQ}
theorem wu_TGet {tab : Nat → Option FT} {o : M Rs} : Wp (TGet tab o s) Q X = Wp ((bnd o fun r => bnd (stab r) fun d => bnd (pk (.v d)) fun d0 => getM tab d d0 : M Rs) s) Q X := rfl
theorem wp_noex {m : M Rs} : Wp (noex m s) Q X = Wp (m s) Q fun _ _ => False := by
  rw [Wp_eq, Wp_eq]
  unfold noex Wp0
  cases m s with
  | none => rfl
  | some p => obtain ⟨r, s1⟩ := p; cases r <;> rfl
theorem wp_getM {tab : Nat → Option FT} {d : D} {k : Nat} {fs : List (Str × D)} : Wp (getM tab d (.obj k fs) s) Q X = ∃ F, tab k = some F ∧ Wf (F [d] s.μ) (fun r μ => Q r ⟨s.env, μ⟩) fun _ _ => False := by
  show Wp ((match tab k with | some F => noex (call F [d]) | none => fun _ => none : M Rs) s) Q X = _
  cases tab k with
  | none => rw [Wp_eq]; simp [Wp0]
  | some F =>
    show Wp (noex (call F [d]) s) Q X = _
    rw [wp_noex, wp_call]
    simp
theorem vIsB_bl {a b : Bool} : vIsB (.bl a) (.bl b) = some (.v (.bl (decide (a = b)))) := rfl
theorem wu_TEqO {neg : Bool} {tab : Nat → Option FT} {a b : M Rs} : Wp (TEqO neg tab a b s) Q X = Wp ((bnd a fun x => bnd b fun y => bnd (pk x) fun d => bnd (pk y) fun e => eqO neg tab d e : M Rs) s) Q X := rfl
theorem wp_eqO {neg : Bool} {tab : Nat → Option FT} {ds es : List D} : Wp (eqO neg tab (.list ds) (.list es) s) Q X = (eqAll tab ds es s ∧ Q (.v (.bl (!neg))) s) := by
  rw [Wp_eq]
  show Wp0 (@ite _ (eqAll tab ds es s) (Classical.propDecidable _) (some (.ok (Rs.v (.bl (!neg))), s)) none) Q X = _
  by_cases h : eqAll tab ds es s
  · rw [if_pos h]
    exact propext ⟨fun z => ⟨h, z⟩, fun z => z.2⟩
  · rw [if_neg h]
    exact propext ⟨fun z => z.elim, fun z => h z.1⟩
theorem wu_TFmt {a : M Rs} : Wp (TFmt a s) Q X = Wp ((bnd a fun x => bnd (pk x) fun d => bnd (opt (fmtD d)) fun z => ret (.v (.str z)) : M Rs) s) Q X := rfl
theorem wu_TJs_nil {acc : Str} : Wp (TJs [] acc s) Q X = Wp ((ret (.v (.str acc)) : M Rs) s) Q X := rfl
/-- a part's text behind what stands -/
def jStr (ts : List (M Rs)) (acc : Str) (d : D) : M Rs := match d with
  | .str y => if fits (acc ++ y).length = true then TJs ts (acc ++ y) else fun _ => none
  | _ => fun _ => none
theorem wu_TJs_cons {t : M Rs} {ts : List (M Rs)} {acc : Str} : Wp (TJs (t :: ts) acc s) Q X = Wp ((bnd t fun x => bnd (pk x) fun d => jStr ts acc d : M Rs) s) Q X := rfl
theorem wp_jStr {ts : List (M Rs)} {acc y : Str} : Wp (jStr ts acc (.str y) s) Q X = (fits (acc ++ y).length = true ∧ Wp (TJs ts (acc ++ y) s) Q X) := by
  show Wp ((if fits (acc ++ y).length = true then TJs ts (acc ++ y) else fun _ => none) s) Q X = _
  by_cases h : fits (acc ++ y).length = true
  · rw [if_pos h]; exact propext ⟨fun z => ⟨h, z⟩, fun z => z.2⟩
  · rw [if_neg h, Wp_eq]
    exact propext ⟨fun z => z.elim, fun z => h z.1⟩
theorem fmtD_int {i : Int} (h : i.natAbs.log2 < 1920) : fmtD (.int i) = some (Str.ofString (toString i)) := if_pos h
theorem fmtD_str {z : Str} (h : z.length ≤ 1000) : fmtD (.str z) = some z := if_pos (decide_eq_true (by omega))
end
/-! ### loops over lists that may stand in the store -/
section
variable {s : S} {G : GD} {chk : S → Prop} {ds : List D}
theorem ws_TForC {I : M (List D × (S → Prop))} {T : TSd} {Q : Fl → S → Prop} : Ws (TForC I G T s) Q = Wp (I s) (fun p s1 => Ws (forC G T p.2 p.1 s1) Q) (fun x s1 => Q (.ex x) s1) := ws_sb
theorem wu_ILstC {T : M Rs} {Q : (List D × (S → Prop)) → S → Prop} {X : XQ} : Wp (ILstC T s) Q X = Wp ((bnd T fun r => bnd (stab r) fun d => listC d : M (List D × (S → Prop))) s) Q X := rfl
theorem wu_IEnumC {T : M (List D)} {Q : (List D × (S → Prop)) → S → Prop} {X : XQ} : Wp (IEnumC T s) Q X = Wp ((bnd T enC : M (List D × (S → Prop))) s) Q X := rfl
theorem wp_enC {d : D} {Q : (List D × (S → Prop)) → S → Prop} {X : XQ} : Wp (enC [d] s) Q X = Wp ((bnd (listC d) fun p => ret (enumD p.1, p.2) : M (List D × (S → Prop))) s) Q X := rfl
theorem wp_listC {d : D} {Q : (List D × (S → Prop)) → S → Prop} {X : XQ} : Wp (listC d s) Q X = ∃ x, peek s (.v d) = some x ∧ ∃ ds, itemsL x = some ds ∧ Q (ds, chkD d ds) s := by
  rw [Wp_eq]
  unfold listC
  cases h : peek s (.v d) with
  | none =>
    simp only [Option.bind_none]
    exact propext ⟨fun z => z.elim, fun ⟨x, e, _⟩ => nomatch e⟩
  | some x =>
    simp only [Option.bind_some]
    cases h2 : itemsL x with
    | none => exact propext ⟨fun z => z.elim, fun ⟨x', e, ds, e2, _⟩ => by cases e; rw [h2] at e2; cases e2⟩
    | some ds => exact propext ⟨fun z => ⟨x, rfl, ds, h2, z⟩, fun ⟨x', e, ds', e2, z⟩ => by cases e; rw [h2] at e2; cases e2; exact z⟩
theorem forC_eq {T : TSd} (h : ∀ s, chk s) : ∀ {ds : List D} {s : S}, forC G T chk ds s = forD G T ds s
  | [], s => by unfold forC; rw [if_pos (h s)]; rfl
  | d :: ds, s => by
    unfold forC forD
    rw [if_pos (h s)]
    cases G d s with
    | none => rfl
    | some s1 =>
      simp only
      cases T s1 with
      | none => rfl
      | some p => obtain ⟨f, s2⟩ := p; cases f <;> first | rfl | exact forC_eq h
theorem chk_list (s : S) : chkD (.list ds) ds s := rfl
theorem chk_scr (s : S) : chkD (.scr ds) ds s := rfl
theorem forC_list {T : TSd} {es : List D} {Q : Fl → S → Prop} : Ws (forC G T (chkD (.list ds) ds) es s) Q = Ws (forD G T es s) Q := by rw [forC_eq chk_list]
theorem forC_scr {T : TSd} {es : List D} {Q : Fl → S → Prop} : Ws (forC G T (chkD (.scr ds) ds) es s) Q = Ws (forD G T es s) Q := by rw [forC_eq chk_scr]
theorem for_invC {T : TSd} {Q : Fl → S → Prop} : ∀ {ds : List D} {s : S} (I : Nat → S → Prop), I 0 s → (∀ k s, k ≤ ds.length → I k s → chk s) → (∀ k d s, ds[k]? = some d → I k s → ∃ s1, G d s = some s1 ∧ Ws (T s1) (forQ (I (k + 1)) Q)) → (∀ s, I ds.length s → Q .nx s) → Ws (forC G T chk ds s) Q
  | [], s, I, h0, ck, _, fin => by
    rw [Ws_eq]
    unfold forC
    rw [if_pos (ck 0 s (Nat.le_refl _) h0)]
    exact fin s h0
  | d :: ds, s, I, h0, ck, step, fin => by
    obtain ⟨s1, e1, h1⟩ := step 0 d s rfl h0
    rw [Ws_eq] at h1 ⊢
    unfold forC
    rw [if_pos (ck 0 s (Nat.zero_le _) h0), e1]
    simp only
    have next : ∀ s2, I 1 s2 → Ws0 (forC G T chk ds s2) Q := fun s2 h => by
      rw [← Ws_eq]
      exact for_invC (fun k => I (k + 1)) h (fun k s hk hi => ck (k + 1) s (by simpa using hk) hi) (fun k d s hd hi => step (k + 1) d s (by simpa using hd) hi) fin
    cases e : T s1 with
    | none => rw [e] at h1; exact h1.elim
    | some p =>
      obtain ⟨f, s2⟩ := p
      rw [e] at h1
      cases f with
      | nx => exact next s2 h1
      | ct => exact next s2 h1
      | bk => exact h1
      | rt r => exact h1
      | ex x => exact h1
variable {B : M Bool} {T : M Rs} {vs : List Nat}
theorem lcC_eq (h : ∀ s, chk s) : ∀ {ds acc : List D} {s : S}, lcC G B T vs chk ds acc s = lcD G B T vs ds acc s
  | [], acc, s => by unfold lcC; rw [if_pos (h s)]; rfl
  | d :: ds, acc, s => by
    unfold lcC lcD
    rw [if_pos (h s)]
    cases G d s with
    | none => rfl
    | some s1 =>
      simp only
      cases B s1 with
      | none => rfl
      | some p =>
        obtain ⟨r, s2⟩ := p
        cases r with
        | ex x => rfl
        | ok b =>
          cases b with
          | false => exact lcC_eq h
          | true =>
            simp only
            cases bnd T stab s2 with
            | none => rfl
            | some p => obtain ⟨r, s3⟩ := p; cases r <;> first | rfl | exact lcC_eq h
theorem lcC_list {es acc : List D} {Q : List D → S → Prop} {X : XQ} : Wp (lcC G B T vs (chkD (.list ds) ds) es acc s) Q X = Wp (lcD G B T vs es acc s) Q X := by rw [lcC_eq chk_list]
theorem lcC_scr {es acc : List D} {Q : List D → S → Prop} {X : XQ} : Wp (lcC G B T vs (chkD (.scr ds) ds) es acc s) Q X = Wp (lcD G B T vs es acc s) Q X := by rw [lcC_eq chk_scr]
theorem wp_LcC {I : M (List D × (S → Prop))} {Q : Rs → S → Prop} {X : XQ} (h : Wp (I s) (fun p s1 => p.1.length ≤ 16777216 ∧ Wp (lcC G B T vs p.2 p.1 [] ⟨wipeE vs s1.env, s1.μ⟩) (fun es s2 => Q (.fr (.list es)) ⟨restE vs s1.env s2.env, s2.μ⟩) fun _ _ => False) X) : Wp (TLcC I G B T vs s) Q X := by
  unfold TLcC
  rw [wp_bnd]
  refine wp_mono h fun p s1 ⟨hf, h⟩ => ?_
  have hf : fits p.1.length = true := decide_eq_true hf
  show Wp (if fits p.1.length = true then _ else _) Q X
  rw [if_pos hf]
  rw [Wp_eq] at h ⊢
  cases e : lcC G B T vs p.2 p.1 [] ⟨wipeE vs s1.env, s1.μ⟩ with
  | none => rw [e] at h; exact h.elim
  | some q =>
    obtain ⟨r, s2⟩ := q
    rw [e] at h
    cases r with
    | ex x => exact h.elim
    | ok es => exact h
/-- as lc_inv: where the list stands, I says so -/
theorem lc_invC {Q : List D → S → Prop} {X : XQ} : ∀ {ds acc : List D} {s : S} (I : Nat → List D → S → Prop), I 0 acc s → (∀ k acc s, k ≤ ds.length → I k acc s → chk s) → (∀ k d acc s, ds[k]? = some d → I k acc s → ∃ s1, G d s = some s1 ∧ Wp (B s1) (fun b s2 => if b = true then Wp (T s2) (fun r s3 => Wp (stab r s3) (fun e s4 => I (k + 1) (acc ++ [e]) ⟨wipeE vs s4.env, s4.μ⟩) fun _ _ => False) (fun _ _ => False) else I (k + 1) acc ⟨wipeE vs s2.env, s2.μ⟩) fun _ _ => False) → (∀ acc s, I ds.length acc s → Q acc s) → Wp (lcC G B T vs chk ds acc s) Q X
  | [], acc, s, I, h0, ck, _, fin => by
    rw [Wp_eq]
    unfold lcC
    rw [if_pos (ck 0 acc s (Nat.le_refl _) h0)]
    exact fin acc s h0
  | d :: ds, acc, s, I, h0, ck, step, fin => by
    obtain ⟨s1, e1, h1⟩ := step 0 d acc s rfl h0
    rw [Wp_eq] at h1 ⊢
    unfold lcC
    rw [if_pos (ck 0 acc s (Nat.zero_le _) h0), e1]
    simp only
    have next : ∀ acc s2, I 1 acc s2 → Wp0 (lcC G B T vs chk ds acc s2) Q X := fun acc s2 h => by
      rw [← Wp_eq]
      exact lc_invC (fun k => I (k + 1)) h (fun k acc s hk hi => ck (k + 1) acc s (by simpa using hk) hi) (fun k d acc s hd hi => step (k + 1) d acc s (by simpa using hd) hi) fin
    cases e : B s1 with
    | none => rw [e] at h1; exact h1.elim
    | some p =>
      obtain ⟨r, s2⟩ := p
      rw [e] at h1
      cases r with
      | ex x => exact h1.elim
      | ok b =>
        have h1 : (if b = true then Wp (T s2) (fun r s3 => Wp (stab r s3) (fun e s4 => I 1 (acc ++ [e]) ⟨wipeE vs s4.env, s4.μ⟩) fun _ _ => False) (fun _ _ => False) else I 1 acc ⟨wipeE vs s2.env, s2.μ⟩) := h1
        cases b with
        | false => exact next _ _ h1
        | true =>
          rw [if_pos rfl, ← wp_bnd, Wp_eq] at h1
          simp only
          cases e2 : bnd T stab s2 with
          | none => rw [e2] at h1; exact h1.elim
          | some p =>
            obtain ⟨r, s3⟩ := p
            rw [e2] at h1
            cases r with
            | ex x => exact h1.elim
            | ok u => exact next _ _ h1
variable {Q : List D → S → Prop} {X : XQ} {α : Type} {xs : List α}
theorem lc_eachC (ck : chk s) (g : α → D) (f : α → Option D)
    (step : ∀ d ∈ xs, ∃ s1, G (g d) s = some s1 ∧ Wp (B s1) (fun b s2 => if b = true then Wp (T s2) (fun r s3 => Wp (stab r s3) (fun e s4 => f d = some e ∧ (⟨wipeE vs s4.env, s4.μ⟩ : S) = s) fun _ _ => False) (fun _ _ => False) else f d = none ∧ (⟨wipeE vs s2.env, s2.μ⟩ : S) = s) fun _ _ => False)
    (fin : Q (xs.filterMap f) s) : Wp (lcC G B T vs chk (xs.map g) [] s) Q X := by
  refine lc_invC (fun k acc s' => acc = (xs.take k).filterMap f ∧ s' = s) ⟨rfl, rfl⟩ (fun k acc s' _ h => by rw [h.2]; exact ck) ?_ ?_
  · rintro k d acc s' hd ⟨rfl, rfl⟩
    rw [List.getElem?_map] at hd
    obtain ⟨d, hd', rfl⟩ := Option.map_eq_some_iff.mp hd
    clear hd
    have hd := hd'
    obtain ⟨s1, e1, h1⟩ := step d (List.mem_of_getElem? hd)
    have hk : k < xs.length := (List.getElem?_eq_some_iff.mp hd).1
    have tk : (xs.take (k + 1)).filterMap f = (xs.take k).filterMap f ++ (match f d with | some e => [e] | none => []) := by
      rw [List.take_succ_eq_append_getElem hk, List.filterMap_append]
      congr 1
      obtain ⟨_, e⟩ := List.getElem?_eq_some_iff.mp hd
      rw [e]
      simp only [List.filterMap_cons, List.filterMap_nil]
      cases f d <;> rfl
    refine ⟨s1, e1, wp_mono h1 fun b s2 h2 => ?_⟩
    cases b with
    | false =>
      simp only [Bool.false_eq_true, if_false] at h2 ⊢
      exact ⟨by rw [tk, h2.1]; simp, h2.2⟩
    | true =>
      simp only [if_true] at h2 ⊢
      exact wp_mono h2 fun r s3 h3 => wp_mono h3 fun e s4 h4 => ⟨by rw [tk, h4.1], h4.2⟩
  · rintro acc s' ⟨rfl, rfl⟩
    rw [List.length_map, List.take_length]; exact fin
theorem lc_allC (ck : chk s) (g : α → D) (f : α → D)
    (step : ∀ d ∈ xs, ∃ s1, G (g d) s = some s1 ∧ Wp (B s1) (fun b s2 => if b = true then Wp (T s2) (fun r s3 => Wp (stab r s3) (fun e s4 => e = f d ∧ (⟨wipeE vs s4.env, s4.μ⟩ : S) = s) fun _ _ => False) (fun _ _ => False) else False) fun _ _ => False)
    (fin : Q (xs.map f) s) : Wp (lcC G B T vs chk (xs.map g) [] s) Q X := by
  refine lc_eachC ck g (fun x => some (f x)) (fun d hd => ?_) (by rw [show xs.filterMap (fun x => some (f x)) = xs.map f from congrFun (List.filterMap_eq_map (f := f)) xs]; exact fin)
  obtain ⟨s1, e1, h1⟩ := step d hd
  refine ⟨s1, e1, wp_mono h1 fun b s2 h2 => ?_⟩
  cases b with
  | false => simp only [Bool.false_eq_true, if_false] at h2
  | true =>
    simp only [if_true] at h2 ⊢
    exact wp_mono h2 fun r s3 h3 => wp_mono h3 fun e s4 h4 => ⟨by rw [h4.1], h4.2⟩
theorem lc_filterC (ck : chk s) (g : α → D) (p : α → Bool)
    (step : ∀ d ∈ xs, ∃ s1, G (g d) s = some s1 ∧ Wp (B s1) (fun b s2 => b = p d ∧ if b = true then Wp (T s2) (fun r s3 => Wp (stab r s3) (fun e s4 => e = g d ∧ (⟨wipeE vs s4.env, s4.μ⟩ : S) = s) fun _ _ => False) (fun _ _ => False) else (⟨wipeE vs s2.env, s2.μ⟩ : S) = s) fun _ _ => False)
    (fin : Q ((xs.filter p).map g) s) : Wp (lcC G B T vs chk (xs.map g) [] s) Q X := by
  have fe : xs.filterMap (fun x => if p x = true then some (g x) else none) = (xs.filter p).map g := by
    clear step fin ck
    induction xs with
    | nil => rfl
    | cons x xs ih => by_cases c : p x = true <;> simp [c, ih]
  refine lc_eachC ck g (fun x => if p x = true then some (g x) else none) (fun d hd => ?_) (by rw [fe]; exact fin)
  obtain ⟨s1, e1, h1⟩ := step d hd
  refine ⟨s1, e1, wp_mono h1 fun b s2 h2 => ?_⟩
  obtain ⟨rfl, h2⟩ := h2
  cases hb : p d with
  | false => rw [hb] at h2; simp only [Bool.false_eq_true, if_false] at h2 ⊢; exact ⟨trivial, h2⟩
  | true =>
    rw [hb] at h2
    simp only [if_true] at h2 ⊢
    exact wp_mono h2 fun r s3 h3 => wp_mono h3 fun e s4 h4 => ⟨by rw [h4.1], h4.2⟩
end
theorem wu_TReprM {a : M Rs} {s : S} {Q : Rs → S → Prop} {X : XQ} : Wp (TReprM a s) Q X = Wp ((bnd a fun x => bnd (pk x) reprM : M Rs) s) Q X := rfl
theorem wp_reprM {d : D} {s : S} {Q : Rs → S → Prop} {X : XQ} : Wp (reprM d s) Q X = ∃ z, reprS s d = some z ∧ Q (.v (.str z)) s := by
  show Wp (opt ((reprS s d).map fun z => Rs.v (.str z)) s) Q X = _
  rw [wp_opt]
  apply propext
  constructor
  · rintro ⟨b, e, q⟩
    obtain ⟨z, e2, rfl⟩ := Option.map_eq_some_iff.mp e
    exact ⟨z, e2, q⟩
  · rintro ⟨z, e, q⟩
    exact ⟨_, by rw [e]; rfl, q⟩
/-- d is x at this store -/
def Lk (μ : List D) (d x : D) : Prop := ∀ env, peek ⟨env, μ⟩ (.v d) = some x
theorem Lk.chk {μ : List D} {d : D} {ds : List D} (h : Lk μ d (.list ds)) {env : List (Option A)} : chkD d ds ⟨env, μ⟩ := by
  unfold chkD
  rw [h env]; rfl
theorem Lk.app {μ l : List D} {d x : D} (h : Lk μ d x) : Lk (μ ++ l) d x := fun env => by
  have := h env
  cases d with
  | loc n =>
    have h1 : μ[n]? = some x := this
    show (μ ++ l)[n]? = some x
    rw [List.getElem?_append_left (List.getElem?_eq_some_iff.mp h1).1]; exact h1
  | _ => exact this
theorem Lk.set {μ : List D} {d x y : D} {m : Nat} (h : Lk μ d x) (hm : d ≠ .loc m) : Lk (μ.set m y) d x := fun env => by
  have := h env
  cases d with
  | loc n =>
    have h1 : μ[n]? = some x := this
    show (μ.set m y)[n]? = some x
    rw [List.getElem?_set_ne (fun e => hm (by rw [e]))]; exact h1
  | _ => exact this
theorem Lk.keep {μ ν : List D} {d x : D} (h : Lk μ d x) (k : ∀ j, j < μ.length → ν[j]? = μ[j]?) : Lk ν d x := fun env => by
  have := h env
  cases d with
  | loc n =>
    have h1 : μ[n]? = some x := this
    show ν[n]? = some x
    rw [k n (List.getElem?_eq_some_iff.mp h1).1]; exact h1
  | _ => exact this
theorem Lk.lt {μ : List D} {x : D} {n : Nat} (h : Lk μ (.loc n) x) : n < μ.length := (List.getElem?_eq_some_iff.mp (h [])).1
theorem lk_list {μ ds : List D} : Lk μ (.list ds) (.list ds) := fun _ => rfl
theorem lk_loc {μ : List D} {n : Nat} {x : D} (h : μ[n]? = some x) : Lk μ (.loc n) x := fun _ => h
/-- a result that is known -/
theorem wf_eq2 {o : Option (Rz Rs × List D)} {d : D} {μ : List D} (h : Wf o (fun r ν => r = .v d ∧ ν = μ) fun _ _ => False) : o = some (.ok (.v d), μ) := by
  rw [Wf_eq] at h
  unfold Wf0 at h
  split at h
  · obtain ⟨h1, h2⟩ := h; cases h1; cases h2; rfl
  · obtain ⟨h1, _⟩ := h; cases h1
  · exact h.elim
  · exact h.elim
end Z
/-! orders: codes of orders by insertion, plays on lists; plain lists, no program -/
namespace MO
variable {α : Type} [DecidableEq α]
theorem snocRec {motive : List α → Prop} (nil : motive []) (snoc : ∀ a m, motive a → motive (a ++ [m])) (l : List α) : motive l := by
  have h : ∀ k : List α, motive k.reverse := by
    intro k
    induction k with
    | nil => exact nil
    | cons a k ih => rw [List.reverse_cons]; exact snoc _ _ ih
  have := h l.reverse
  rwa [List.reverse_reverse] at this
/-- x is put in behind i others -/
def put (i : Nat) (x : α) (l : List α) : List α := l.take i ++ x :: l.drop i
theorem put_app {u v : List α} {x : α} : put u.length x (u ++ v) = u ++ x :: v := by
  unfold put; rw [List.take_left, List.drop_left]
theorem put_perm {i : Nat} {x : α} {l : List α} : (put i x l).Perm (x :: l) := by
  unfold put
  have := List.perm_middle (a := x) (l₁ := l.take i) (l₂ := l.drop i)
  rwa [List.take_append_drop] at this
theorem put_len {i : Nat} {x : α} {l : List α} : (put i x l).length = l.length + 1 := put_perm.length_eq
theorem put_rev {i : Nat} {x : α} {l : List α} (h : i ≤ l.length) : (put (l.length - i) x l).reverse = put i x l.reverse := by
  unfold put
  rw [List.reverse_append, List.reverse_cons, List.append_assoc, List.singleton_append, List.take_reverse, List.drop_reverse]
/-- n stands in r behind c smaller ones -/
def Cnt (P : α → Nat) (r : List α) (n : α) (c : Nat) : Prop := ∃ u v, r = u ++ n :: v ∧ n ∉ u ∧ u.countP (fun x => decide (P x < P n)) = c
theorem split_uniq {u v u' v' : List α} {n : α} (h : u ++ n :: v = u' ++ n :: v') (h1 : n ∉ u) (h2 : n ∉ u') : u = u' ∧ v = v' := by
  induction u generalizing u' with
  | nil =>
    cases u' with
    | nil => simpa using h
    | cons a u' => simp at h; exact absurd (by simp [h.1]) h2
  | cons a u ih =>
    cases u' with
    | nil => simp at h; exact absurd (by simp [h.1]) h1
    | cons b u' =>
      simp at h
      obtain ⟨rfl, h⟩ := h
      obtain ⟨rfl, rfl⟩ := ih (u' := u') (by simpa using h) (fun z => h1 (List.mem_cons_of_mem _ z)) (fun z => h2 (List.mem_cons_of_mem _ z))
      exact ⟨rfl, rfl⟩
theorem Cnt.uniq {P : α → Nat} {r : List α} {n : α} {c d : Nat} (h : Cnt P r n c) (k : Cnt P r n d) : c = d := by
  obtain ⟨u, v, e, nu, hc⟩ := h
  obtain ⟨u', v', e', nu', hd⟩ := k
  obtain ⟨rfl, rfl⟩ := split_uniq (e.symm.trans e') nu nu'
  exact hc.symm.trans hd
def dec (sh : α → Nat) (ms : List α) : List α := ms.foldl (fun f m => put (sh m) m f) []
theorem dec_snoc {sh : α → Nat} {a : List α} {m : α} : dec sh (a ++ [m]) = put (sh m) m (dec sh a) := by unfold dec; rw [List.foldl_append]; rfl
theorem dec_perm {sh : α → Nat} (a : List α) : (dec sh a).Perm a := by
  suffices h : ∀ (b : List α) (f : List α), (b.foldl (fun f m => put (sh m) m f) f).Perm (f ++ b) by simpa [dec] using h a []
  intro b
  induction b with
  | nil => intro f; simp
  | cons m b ih =>
    intro f
    refine (ih (put (sh m) m f)).trans ?_
    refine (put_perm.append_right b).trans ?_
    exact (List.perm_middle (a := m) (l₁ := f) (l₂ := b)).symm
/-- the order is read from the counts -/
theorem dec_of {P : α → Nat} {sh : α → Nat} {r : List α} (nd : r.Nodup) (hc : ∀ n ∈ r, Cnt P r n (sh n)) : ∀ {ms : List α}, ms.Perm r → ms.Pairwise (fun a b => P a < P b) → dec sh ms = r := by
  intro ms pm so
  suffices h : ∀ (b a : List α), ms = a ++ b → dec sh a = r.filter (fun x => decide (x ∈ a)) by
    have := h [] ms (by simp)
    rw [this]
    exact List.filter_eq_self.mpr fun x hx => by simpa using pm.mem_iff.mpr hx
  intro b a
  induction a using snocRec generalizing b with
  | nil => intro _; simp [dec]
  | snoc a m ih =>
    intro e
    have e2 : ms = a ++ (m :: b) := by rw [e]; simp
    rw [dec_snoc, ih (m :: b) e2]
    have mr : m ∈ r := pm.mem_iff.mp (by rw [e2]; simp)
    obtain ⟨u, v, er, nu, hn⟩ := hc m mr
    have so2 := so
    rw [e2] at so2
    have so3 := List.pairwise_append.mp so2
    have nv : m ∉ v := by
      rw [er] at nd
      have := (List.nodup_append.mp nd).2.1
      exact (List.nodup_cons.mp this).1
    have ma : m ∉ a := fun z => Nat.lt_irrefl _ (so3.2.2 m z m (List.mem_cons_self ..))
    have less : ∀ x ∈ u, (decide (x ∈ a) = decide (P x < P m)) := by
      intro x hx
      have xr : x ∈ ms := pm.mem_iff.mpr (by rw [er]; simp [hx])
      rw [e2] at xr
      rw [decide_eq_decide]
      constructor
      · exact fun z => so3.2.2 x z m (List.mem_cons_self ..)
      · intro z
        rcases List.mem_append.mp xr with h | h
        · exact h
        · rcases List.mem_cons.mp h with rfl | h
          · exact absurd hx nu
          · have := (List.pairwise_cons.mp so3.2.1).1 x h
            omega
    have cu : sh m = (u.filter fun x => decide (x ∈ a)).length := by
      rw [← hn, List.countP_eq_length_filter]
      congr 1
      exact (List.filter_congr fun x hx => (less x hx)).symm
    rw [er, List.filter_append, List.filter_cons, if_neg (by simpa using ma), cu, put_app, List.filter_append, List.filter_cons, if_pos (by simp)]
    congr 1
    · exact List.filter_congr fun x hx => by
        have : x ≠ m := fun z => nu (z ▸ hx)
        simp [this]
    · congr 1
      exact List.filter_congr fun x hx => by
        have : x ≠ m := fun z => nv (z ▸ hx)
        simp [this]
/-- the counts of an order that was read -/
theorem dec_cnt {P : α → Nat} {sh : α → Nat} : ∀ {ms : List α}, ms.Pairwise (fun a b => P a < P b) → (∀ a m b, ms = a ++ m :: b → sh m ≤ a.length) → ∀ n ∈ ms, Cnt P (dec sh ms) n (sh n) := by
  intro ms so hs
  suffices h : ∀ (b a : List α), ms = a ++ b → ∀ n ∈ a, Cnt P (dec sh a) n (sh n) from h [] ms (by simp)
  intro b a
  induction a using snocRec generalizing b with
  | nil => intro _ n hn; cases hn
  | snoc a m ih =>
    intro e n hn
    have e2 : ms = a ++ (m :: b) := by rw [e]; simp
    have so2 := so
    rw [e2] at so2
    have so3 := List.pairwise_append.mp so2
    have ma : m ∉ a := fun z => Nat.lt_irrefl _ (so3.2.2 m z m (List.mem_cons_self ..))
    have la := (dec_perm (sh := sh) a).length_eq
    have hle : sh m ≤ (dec sh a).length := by rw [la]; exact hs a m b e2
    have mem : ∀ x, x ∈ dec sh a ↔ x ∈ a := fun x => (dec_perm a).mem_iff
    rw [dec_snoc]
    unfold put
    rcases List.mem_append.mp hn with hn | hn
    · obtain ⟨u, v, eu, nu, hc⟩ := ih (m :: b) e2 n hn
      have nm : n ≠ m := fun z => ma (z ▸ hn)
      have gt : ¬ P m < P n := by have := so3.2.2 n hn m (List.mem_cons_self ..); omega
      by_cases hl : sh m ≤ u.length
      · refine ⟨u.take (sh m) ++ m :: u.drop (sh m), v, ?_, ?_, ?_⟩
        · rw [eu, List.take_append_of_le_length hl, List.drop_append_of_le_length hl]; simp
        · intro z
          rcases List.mem_append.mp z with z | z
          · exact nu (List.mem_of_mem_take z)
          · rcases List.mem_cons.mp z with z | z
            · exact nm z
            · exact nu (List.mem_of_mem_drop z)
        · rw [List.countP_append, List.countP_cons, ← hc]
          have : decide (P m < P n) = false := by simpa using gt
          rw [this]
          have t := List.countP_append (p := fun x => decide (P x < P n)) (l₁ := u.take (sh m)) (l₂ := u.drop (sh m))
          rw [List.take_append_drop] at t
          rw [t]; simp
      · obtain ⟨k, hk⟩ : ∃ k, sh m = u.length + 1 + k := ⟨sh m - u.length - 1, by omega⟩
        refine ⟨u, v.take k ++ m :: v.drop k, ?_, nu, hc⟩
        have e1 : u ++ n :: v = (u ++ [n]) ++ v := by simp
        have l1 : sh m = (u ++ [n]).length + k := by simp; omega
        rw [eu, e1, l1, List.take_length_add_append, List.drop_length_add_append]
        simp
    · obtain rfl := List.mem_singleton.mp hn
      refine ⟨(dec sh a).take (sh n), (dec sh a).drop (sh n), rfl, fun z => ma ((mem _).mp (List.mem_of_mem_take z)), ?_⟩
      rw [List.countP_eq_length.mpr, List.length_take]
      · omega
      · intro x hx
        have := so3.2.2 x ((mem x).mp (List.mem_of_mem_take hx)) n (List.mem_cons_self ..)
        simpa using this
/-! ### plays -/
def ix : List α → α → Nat
  | [], _ => 0
  | y :: ys, z => if y = z then 0 else ix ys z + 1
theorem ix_in {a c : List α} {x : α} (h : x ∈ a) : ix (a ++ c) x < a.length := by
  induction a with
  | nil => cases h
  | cons y a ih =>
    simp only [List.cons_append, ix, List.length_cons]
    by_cases e : y = x
    · rw [if_pos e]; omega
    · rw [if_neg e]
      have := ih ((List.mem_cons.mp h).resolve_left fun z => e z.symm)
      omega
theorem ix_out {a c : List α} {x : α} (h : x ∉ a) : ix (a ++ c) x = a.length + ix c x := by
  induction a with
  | nil => simp
  | cons y a ih =>
    simp only [List.cons_append, ix, List.length_cons]
    rw [if_neg (fun e : y = x => h (by rw [e]; exact List.mem_cons_self ..)), ih fun z => h (List.mem_cons_of_mem _ z)]
    omega
theorem ix_app {a b : List α} {n : α} (h : n ∉ a) : ix (a ++ n :: b) n = a.length := by rw [ix_out h]; simp [ix]
theorem ix_lt {zs : List α} {x : α} (h : x ∈ zs) : ix zs x < zs.length := by simpa using ix_in (c := []) h
theorem ix_inj {zs : List α} {x y : α} (hx : x ∈ zs) (hy : y ∈ zs) (e : ix zs x = ix zs y) : x = y := by
  induction zs with
  | nil => cases hx
  | cons z zs ih =>
    simp only [ix] at e
    by_cases h1 : z = x
    · by_cases h2 : z = y
      · exact h1.symm.trans h2
      · rw [if_pos h1, if_neg h2] at e; omega
    · by_cases h2 : z = y
      · rw [if_neg h1, if_pos h2] at e; omega
      · rw [if_neg h1, if_neg h2] at e
        exact ih ((List.mem_cons.mp hx).resolve_left fun z => h1 z.symm) ((List.mem_cons.mp hy).resolve_left fun z => h2 z.symm) (by omega)
theorem nodup_le : ∀ {xs ys : List α}, xs.Nodup → (∀ x ∈ xs, x ∈ ys) → xs.length ≤ ys.length
  | [], _, _, _ => Nat.zero_le _
  | x :: xs, ys, nd, h => by
    have nd := List.nodup_cons.mp nd
    have hx : x ∈ ys := h x (List.mem_cons_self ..)
    have := nodup_le (xs := xs) (ys := ys.erase x) nd.2 fun y hy => (List.mem_erase_of_ne (show y ≠ x from fun e => nd.1 (by rw [← e]; exact hy))).mpr (h y (List.mem_cons_of_mem _ hy))
    rw [List.length_erase_of_mem hx] at this
    have : 0 < ys.length := List.length_pos_of_mem hx
    simp only [List.length_cons]; omega
def noneOf (dn : List α) (x : α) : Bool := decide (x ∉ dn)
/-- where an item stands when some are gone -/
theorem gone {zs dn : List α} {n : α} (nd : zs.Nodup) (hn : n ∈ zs) (nn : n ∉ dn) (dd : dn.Nodup) (sub : ∀ x ∈ dn, x ∈ zs) :
    ∃ a b, n ∉ a ∧ n ∉ b ∧ zs.filter (noneOf dn) = a ++ n :: b ∧ zs.filter (noneOf (dn ++ [n])) = a ++ b ∧ a.length + dn.countP (fun x => decide (ix zs x < ix zs n)) = ix zs n := by
  obtain ⟨a, b, e, na⟩ := List.eq_append_cons_of_mem hn
  have nb : n ∉ b := by
    rw [e] at nd
    exact (List.nodup_cons.mp (List.nodup_append.mp nd).2.1).1
  have same : ∀ l : List α, n ∉ l → l.filter (noneOf (dn ++ [n])) = l.filter (noneOf dn) := fun l hl => List.filter_congr fun x hx => by
    have : x ≠ n := fun z => hl (z ▸ hx)
    simp [noneOf, this]
  refine ⟨a.filter (noneOf dn), b.filter (noneOf dn), fun z => na (List.mem_filter.mp z).1, fun z => nb (List.mem_filter.mp z).1, ?_, ?_, ?_⟩
  · rw [e, List.filter_append, List.filter_cons, if_pos (by simp [noneOf, nn])]
  · rw [e, List.filter_append, List.filter_cons, if_neg (by simp [noneOf]), same a na, same b nb]
  · have e1 : ix zs n = a.length := by rw [e]; exact ix_app na
    have e2 : dn.countP (fun x => decide (ix zs x < ix zs n)) = (dn.filter fun x => decide (x ∈ a)).length := by
      rw [List.countP_eq_length_filter]
      congr 1
      refine List.filter_congr fun x hx => ?_
      rw [decide_eq_decide, e1, e]
      constructor
      · intro h
        refine Decidable.byContradiction fun z => ?_
        rw [ix_out z] at h; omega
      · exact fun h => ix_in h
    have e3 : (dn.filter fun x => decide (x ∈ a)).length = (a.filter fun x => decide (x ∈ dn)).length := by
      have na' : a.Nodup := by rw [e] at nd; exact (List.nodup_append.mp nd).1
      exact ((List.perm_ext_iff_of_nodup (dd.sublist List.filter_sublist) (na'.sublist List.filter_sublist)).mpr fun x => by simp [and_comm]).length_eq
    rw [e2, e3, e1]
    have := List.length_eq_countP_add_countP (noneOf dn) (l := a)
    rw [List.countP_eq_length_filter, List.countP_eq_length_filter] at this
    rw [this]
    congr 2
    exact List.filter_congr fun x _ => by simp [noneOf]
def play (k : Nat) (h : List α) (n : α) (s : Nat) : Option (List α) :=
  if k = 0 then (if n ∉ h ∧ s ≤ h.length then some (put s n h) else none)
  else if h[s]? = some n then (if k = 1 then some (h.take s ++ h.drop (s + 1)) else some (n :: (h.take s ++ h.drop (s + 1)))) else none
def run (k : Nat) : List α → List (α × Nat) → Option (List α)
  | h, [] => some h
  | h, p :: r => (play k h p.1 p.2).bind fun h' => run k h' r
theorem run_app {k : Nat} {h : List α} {a b : List (α × Nat)} : run k h (a ++ b) = (run k h a).bind fun h' => run k h' b := by
  induction a generalizing h with
  | nil => rfl
  | cons p a ih =>
    simp only [List.cons_append, run]
    cases play k h p.1 p.2 with
    | none => rfl
    | some h' => simp [ih]
theorem at_split {a b : List α} {n : α} {s : Nat} (na : n ∉ a) (nb : n ∉ b) : (a ++ n :: b)[s]? = some n ↔ s = a.length := by
  constructor
  · intro h
    rcases Nat.lt_trichotomy s a.length with c | c | c
    · rw [List.getElem?_append_left c] at h
      exact absurd (List.mem_of_getElem? h) na
    · exact c
    · obtain ⟨j, rfl⟩ : ∃ j, s = a.length + (j + 1) := ⟨s - a.length - 1, by omega⟩
      rw [List.getElem?_append_right (by omega)] at h
      simp at h
      exact absurd (List.mem_of_getElem? h) nb
  · rintro rfl; simp
theorem cut_split {a b : List α} {n : α} : (a ++ n :: b).take a.length ++ (a ++ n :: b).drop (a.length + 1) = a ++ b := by
  rw [List.take_left, ← List.drop_drop, List.drop_left]; rfl
/-- the counts that the records of a removal must have -/
def good (f : List α → α → Nat) : List α → List (α × Nat) → Prop
  | _, [] => True
  | dn, p :: r => p.2 = f dn p.1 ∧ good f (dn ++ [p.1]) r
theorem run1 {zs : List α} (nd : zs.Nodup) : ∀ {row : List (α × Nat)} {dn : List α}, (dn ++ row.map (·.1)).Nodup → (∀ x ∈ dn ++ row.map (·.1), x ∈ zs) →
    ((good (fun dn n => ix zs n - dn.countP fun x => decide (ix zs x < ix zs n)) dn row → run 1 (zs.filter (noneOf dn)) row = some (zs.filter (noneOf (dn ++ row.map (·.1))))) ∧ ((run 1 (zs.filter (noneOf dn)) row).isSome → good (fun dn n => ix zs n - dn.countP fun x => decide (ix zs x < ix zs n)) dn row))
  | [], dn, _, _ => by simp [good, run]
  | p :: row, dn, hd, hs => by
    have hd' : (dn ++ [p.1] ++ row.map (·.1)).Nodup := by simpa using hd
    have dd : dn.Nodup := (List.nodup_append.mp hd).1
    have pn : p.1 ∉ dn := fun z => (List.nodup_append.mp hd).2.2 _ z p.1 (by simp) rfl
    obtain ⟨a, b, na, nb, e1, e2, e3⟩ := gone nd (hs p.1 (by simp)) pn dd fun x hx => hs x (by simp [hx])
    obtain ⟨g1, g2⟩ := run1 nd (row := row) (dn := dn ++ [p.1]) hd' fun x hx => hs x (by simpa using hx)
    have st : ∀ s, play 1 (zs.filter (noneOf dn)) p.1 s = if s = a.length then some (zs.filter (noneOf (dn ++ [p.1]))) else none := by
      intro s
      unfold play
      rw [if_neg (by decide), e1, e2]
      by_cases c : s = a.length
      · subst c
        rw [if_pos ((at_split na nb).mpr rfl), if_pos rfl, cut_split, if_pos rfl]
      · rw [if_neg (fun z => c ((at_split na nb).mp z)), if_neg c]
    have al : a.length = ix zs p.1 - dn.countP fun x => decide (ix zs x < ix zs p.1) := by omega
    simp only [run, good, st]
    rw [← al]
    refine ⟨fun ⟨c, g⟩ => ?_, fun h => ?_⟩
    · rw [if_pos c]
      have := g1 g
      simpa using this
    · by_cases c : p.2 = a.length
      · rw [if_pos c] at h
        exact ⟨c, g2 h⟩
      · rw [if_neg c] at h; cases h
theorem run2 {zs : List α} (nd : zs.Nodup) : ∀ {row : List (α × Nat)} {dn : List α}, (dn ++ row.map (·.1)).Nodup → (∀ x ∈ dn ++ row.map (·.1), x ∈ zs) →
    ((run 2 (dn.reverse ++ zs.filter (noneOf dn)) row).isSome ↔ good (fun dn n => ix zs n + dn.countP fun x => decide (ix zs n < ix zs x)) dn row)
  | [], dn, _, _ => by simp [good, run]
  | p :: row, dn, hd, hs => by
    have hd' : (dn ++ [p.1] ++ row.map (·.1)).Nodup := by simpa using hd
    have dd : dn.Nodup := (List.nodup_append.mp hd).1
    have pn : p.1 ∉ dn := fun z => (List.nodup_append.mp hd).2.2 _ z p.1 (by simp) rfl
    obtain ⟨a, b, na, nb, e1, e2, e3⟩ := gone nd (hs p.1 (by simp)) pn dd fun x hx => hs x (by simp [hx])
    have g := run2 nd (row := row) (dn := dn ++ [p.1]) hd' fun x hx => hs x (by simpa using hx)
    have nr : p.1 ∉ dn.reverse ++ a := by simp [pn, na]
    have st : ∀ s, play 2 (dn.reverse ++ zs.filter (noneOf dn)) p.1 s = if s = dn.length + a.length then some ((dn ++ [p.1]).reverse ++ zs.filter (noneOf (dn ++ [p.1]))) else none := by
      intro s
      unfold play
      rw [if_neg (by decide), e1, e2, ← List.append_assoc]
      by_cases c : s = dn.length + a.length
      · subst c
        have l : dn.length + a.length = (dn.reverse ++ a).length := by simp
        rw [if_pos ((at_split nr nb).mpr l), if_neg (by decide), l, cut_split, if_pos rfl]
        simp
      · rw [if_neg (fun z => c (by simpa using (at_split nr nb).mp z)), if_neg c]
    have cl : dn.length = dn.countP (fun x => decide (ix zs x < ix zs p.1)) + dn.countP (fun x => decide (ix zs p.1 < ix zs x)) := by
      have := List.length_eq_countP_add_countP (fun x => decide (ix zs x < ix zs p.1)) (l := dn)
      rw [this]
      congr 1
      refine List.countP_congr fun x hx => ?_
      have : ix zs x ≠ ix zs p.1 := fun z => pn (ix_inj (hs x (by simp [hx])) (hs p.1 (by simp)) z ▸ hx)
      simp
      omega
    have al : dn.length + a.length = ix zs p.1 + dn.countP fun x => decide (ix zs p.1 < ix zs x) := by omega
    simp only [run, good, st]
    rw [← al, ← g]
    by_cases c : p.2 = dn.length + a.length
    · rw [if_pos c]; simp [c]
    · rw [if_neg c]; simp [c]
/-- an insertion is a removal, told backwards -/
theorem play01 {h h' : List α} {n : α} {s : Nat} (nd : h.Nodup) (e : play 0 h n s = some h') : h'.Nodup ∧ play 1 h' n s = some h := by
  unfold play at e
  rw [if_pos rfl] at e
  by_cases c : n ∉ h ∧ s ≤ h.length
  · rw [if_pos c] at e
    cases e
    refine ⟨put_perm.nodup_iff.mpr (List.nodup_cons.mpr ⟨c.1, nd⟩), ?_⟩
    unfold play put
    have l : s = (h.take s).length := by rw [List.length_take]; omega
    rw [if_neg (by decide), if_pos rfl]
    have na : n ∉ h.take s := fun z => c.1 (List.mem_of_mem_take z)
    have nb : n ∉ h.drop s := fun z => c.1 (List.mem_of_mem_drop z)
    rw [if_pos ((at_split na nb).mpr l)]
    have := cut_split (a := h.take s) (b := h.drop s) (n := n)
    rw [← l, List.take_append_drop] at this
    rw [this]
  · rw [if_neg c] at e; cases e
theorem play10 {h h' : List α} {n : α} {s : Nat} (nd : h'.Nodup) (e : play 1 h' n s = some h) : h.Nodup ∧ play 0 h n s = some h' := by
  unfold play at e
  rw [if_neg (by decide)] at e
  by_cases c : h'[s]? = some n
  · rw [if_pos c, if_pos rfl] at e
    cases e
    obtain ⟨hs, en⟩ := List.getElem?_eq_some_iff.mp c
    have e1 : h' = h'.take s ++ n :: h'.drop (s + 1) := by
      rw [← en, ← List.drop_eq_getElem_cons hs, List.take_append_drop]
    have l : (h'.take s).length = s := by rw [List.length_take]; omega
    have nd2 := nd
    rw [e1] at nd2
    have pm : (n :: (h'.take s ++ h'.drop (s + 1))).Nodup := (List.perm_middle.nodup_iff).mp nd2
    refine ⟨(List.nodup_cons.mp pm).2, ?_⟩
    unfold play
    rw [if_pos rfl, if_pos ⟨(List.nodup_cons.mp pm).1, by rw [List.length_append, l]; omega⟩]
    have := put_app (u := h'.take s) (v := h'.drop (s + 1)) (x := n)
    rw [l] at this
    rw [this, ← e1]
  · rw [if_neg c] at e; cases e
theorem run01 : ∀ {row : List (α × Nat)} {h h' : List α}, h.Nodup → run 0 h row = some h' → h'.Nodup ∧ run 1 h' row.reverse = some h
  | [], h, h', nd, e => by cases e; exact ⟨nd, rfl⟩
  | p :: row, h, h', nd, e => by
    simp only [run] at e
    obtain ⟨h1, e1, e2⟩ := Option.bind_eq_some_iff.mp e
    obtain ⟨n1, q⟩ := play01 nd e1
    obtain ⟨n2, q2⟩ := run01 n1 e2
    refine ⟨n2, ?_⟩
    rw [List.reverse_cons, run_app, q2]
    simp [run, q]
theorem run10 : ∀ {row : List (α × Nat)} {h h' : List α}, h'.Nodup → run 1 h' row.reverse = some h → h.Nodup ∧ run 0 h row = some h'
  | [], h, h', nd, e => by cases e; exact ⟨nd, rfl⟩
  | p :: row, h, h', nd, e => by
    rw [List.reverse_cons, run_app] at e
    obtain ⟨h1, e1, e2⟩ := Option.bind_eq_some_iff.mp e
    simp only [run] at e2
    obtain ⟨h2, e2, e3⟩ := Option.bind_eq_some_iff.mp e2
    cases e3
    obtain ⟨n1, q⟩ := run10 nd e1
    obtain ⟨n2, q2⟩ := play10 n1 e2
    exact ⟨n2, by simp [run, q2, q]⟩
/-! ### what happens, by counts -/
theorem good_split {f : List α → α → Nat} : ∀ {row : List (α × Nat)} {dn : List α}, good f dn row ↔ ∀ u p v, row = u ++ p :: v → p.2 = f (dn ++ u.map (·.1)) p.1
  | [], dn => by simp [good]
  | q :: row, dn => by
    simp only [good]
    rw [good_split (row := row)]
    constructor
    · rintro ⟨h1, h2⟩ u p v e
      cases u with
      | nil => simp at e; obtain ⟨rfl, rfl⟩ := e; simpa using h1
      | cons x u =>
        simp at e
        obtain ⟨rfl, e⟩ := e
        have := h2 u p v e
        simpa using this
    · intro h
      refine ⟨by simpa using h [] q row rfl, fun u p v e => ?_⟩
      have := h (q :: u) p v (by rw [e]; rfl)
      simpa using this
def start (k : Nat) (zs names : List α) : List α := zs.filter fun z => decide (0 < k ∨ z ∉ names)
def happens (k : Nat) (row : List (α × Nat)) (zs : List α) : Bool := match run k (start k zs (row.map (·.1))) row with
  | none => false
  | some h => decide (0 < k ∨ h = zs)
structure Cfg (zs names : List α) : Prop where
  nd : zs.Nodup
  rn : names.Nodup
  sub : ∀ x ∈ names, x ∈ zs
def rx (zs : List α) (x : α) : Nat := zs.length - 1 - ix zs x
theorem rx_lt {zs : List α} {x y : α} (hx : x ∈ zs) (hy : y ∈ zs) : rx zs x < rx zs y ↔ ix zs y < ix zs x := by
  have := ix_lt hx
  have := ix_lt hy
  unfold rx; omega
/-- the order of the names that counts: for insertions from behind -/
def dir (k : Nat) (names : List α) : List α := if k = 0 then names.reverse else names
def pos (k : Nat) (zs : List α) (x : α) : Nat := if k = 2 then rx zs x else ix zs x
def slotOk (k : Nat) (zs : List α) (p : α × Nat) (c : Nat) : Prop := if k = 2 then p.2 = ix zs p.1 + c else p.2 + c = ix zs p.1
theorem filter_all {zs : List α} : zs.filter (noneOf []) = zs := List.filter_eq_self.mpr fun x _ => by simp [noneOf]
theorem start1 {k : Nat} {zs names : List α} (h : 0 < k) : start k zs names = zs := List.filter_eq_self.mpr fun x _ => by simp [h]
theorem start0 {zs names : List α} : start 0 zs names = zs.filter (noneOf names) := List.filter_congr fun x _ => by simp [noneOf]
theorem hap1 {row : List (α × Nat)} {zs : List α} (C : Cfg zs (row.map (·.1))) : (run 1 zs row).isSome ↔ ∀ u p v, row = u ++ p :: v → p.2 + (u.map (·.1)).countP (fun x => decide (ix zs x < ix zs p.1)) = ix zs p.1 := by
  have h := run1 C.nd (row := row) (dn := []) (by simpa using C.rn) (by simpa using C.sub)
  rw [filter_all] at h
  have e : (run 1 zs row).isSome ↔ good (fun dn n => ix zs n - dn.countP fun x => decide (ix zs x < ix zs n)) [] row := ⟨h.2, fun g => by rw [h.1 g]; rfl⟩
  rw [e, good_split]
  have le : ∀ u p v, row = u ++ p :: v → (u.map (·.1)).countP (fun x => decide (ix zs x < ix zs p.1)) ≤ ix zs p.1 := by
    intro u p v er
    have rn := C.rn
    rw [er] at rn
    simp only [List.map_append, List.map_cons] at rn
    have un := (List.nodup_append.mp rn).1
    have pu : p.1 ∉ u.map (·.1) := fun z => (List.nodup_append.mp rn).2.2 _ z p.1 (by simp) rfl
    obtain ⟨a, b, _, _, _, _, q⟩ := gone C.nd (C.sub p.1 (by rw [er]; simp)) pu un fun x hx => C.sub x (by rw [er]; simp only [List.map_append]; exact List.mem_append_left _ hx)
    omega
  constructor
  · intro g u p v er
    have := g u p v er
    have := le u p v er
    simp at *
    omega
  · intro g u p v er
    have := g u p v er
    simp at *
    omega
theorem hap_iff {k : Nat} (hk : k < 3) {row : List (α × Nat)} {zs : List α} (C : Cfg zs (row.map (·.1))) : happens k row zs = true ↔ ∀ p ∈ row, ∃ c, Cnt (pos k zs) (dir k (row.map (·.1))) p.1 c ∧ slotOk k zs p c := by
  have cnt : ∀ {r : List (α × Nat)} (P : α → Nat) (S : α × Nat → Nat → Prop), (r.map (·.1)).Nodup → ((∀ u p v, r = u ++ p :: v → S p ((u.map (·.1)).countP fun x => decide (P x < P p.1))) ↔ ∀ p ∈ r, ∃ c, Cnt P (r.map (·.1)) p.1 c ∧ S p c) := by
    intro r P S rn
    constructor
    · intro g p hp
      obtain ⟨u, v, e⟩ := List.append_of_mem hp
      refine ⟨_, ⟨u.map (·.1), v.map (·.1), by rw [e]; simp, fun z => ?_, rfl⟩, g u p v e⟩
      rw [e] at rn
      simp only [List.map_append, List.map_cons] at rn
      exact (List.nodup_append.mp rn).2.2 _ z p.1 (by simp) rfl
    · intro g u p v e
      obtain ⟨c, hc, s⟩ := g p (by rw [e]; simp)
      have : Cnt P (r.map (·.1)) p.1 ((u.map (·.1)).countP fun x => decide (P x < P p.1)) := ⟨u.map (·.1), v.map (·.1), by rw [e]; simp, fun z => by
        rw [e] at rn
        simp only [List.map_append, List.map_cons] at rn
        exact (List.nodup_append.mp rn).2.2 _ z p.1 (by simp) rfl, rfl⟩
      rw [this.uniq hc]
      exact s
  match k, hk with
  | 1, _ =>
    have e : happens 1 row zs = true ↔ (run 1 zs row).isSome := by
      unfold happens
      rw [start1 (by decide)]
      cases run 1 zs row <;> simp
    rw [e, hap1 C, cnt (ix zs) (fun p c => p.2 + c = ix zs p.1) C.rn]
    rfl
  | 2, _ =>
    have e : happens 2 row zs = true ↔ (run 2 zs row).isSome := by
      unfold happens
      rw [start1 (by decide)]
      cases run 2 zs row <;> simp
    have h := run2 C.nd (row := row) (dn := []) (by simpa using C.rn) (by simpa using C.sub)
    rw [filter_all] at h
    have h : (run 2 zs row).isSome ↔ _ := h
    rw [e, h, good_split]
    have cc : ∀ u p v, row = u ++ p :: v → (u.map (·.1)).countP (fun x => decide (ix zs p.1 < ix zs x)) = (u.map (·.1)).countP (fun x => decide (rx zs x < rx zs p.1)) := by
      intro u p v er
      refine List.countP_congr fun x hx => ?_
      have hx' : x ∈ zs := C.sub x (by rw [er]; simp only [List.map_append]; exact List.mem_append_left _ hx)
      have hp' : p.1 ∈ zs := C.sub p.1 (by rw [er]; simp)
      simp [rx_lt hx' hp']
    have e2 : (∀ u p v, row = u ++ p :: v → p.2 = ix zs p.1 + ([] ++ u.map (·.1)).countP fun x => decide (ix zs p.1 < ix zs x)) ↔ ∀ u p v, row = u ++ p :: v → p.2 = ix zs p.1 + (u.map (·.1)).countP fun x => decide (rx zs x < rx zs p.1) := by
      constructor
      · intro g u p v er; rw [← cc u p v er]; exact g u p v er
      · intro g u p v er; rw [List.nil_append, cc u p v er]; exact g u p v er
    rw [e2, cnt (rx zs) (fun p c => p.2 = ix zs p.1 + c) C.rn]
    rfl
  | 0, _ =>
    have C' : Cfg zs (row.reverse.map (·.1)) := ⟨C.nd, by rw [List.map_reverse]; exact (List.reverse_perm _).nodup_iff.mpr C.rn, fun x hx => C.sub x (by rw [List.map_reverse] at hx; exact List.mem_reverse.mp hx)⟩
    have h1 := run1 C'.nd (row := row.reverse) (dn := []) (by simpa using C'.rn) (by simpa using C'.sub)
    rw [filter_all, List.nil_append] at h1
    have ef : zs.filter (noneOf (row.reverse.map (·.1))) = zs.filter (noneOf (row.map (·.1))) := List.filter_congr fun x _ => by simp [noneOf]
    have e : happens 0 row zs = true ↔ (run 1 zs row.reverse).isSome := by
      unfold happens
      rw [start0]
      have fn : (zs.filter (noneOf (row.map (·.1)))).Nodup := C.nd.sublist List.filter_sublist
      constructor
      · intro h
        cases er : run 0 (zs.filter (noneOf (row.map (·.1)))) row with
        | none => rw [er] at h; cases h
        | some h' =>
          rw [er] at h
          have h : h' = zs := by simpa using h
          subst h
          rw [(run01 fn er).2]; rfl
      · intro h
        have q := h1.1 (h1.2 h)
        rw [ef] at q
        rw [(run10 C.nd q).2]; simp
    rw [e, hap1 C', cnt (ix zs) (fun p c => p.2 + c = ix zs p.1) C'.rn]
    constructor
    · intro g p hp
      have := g p (List.mem_reverse.mpr hp)
      rwa [List.map_reverse] at this
    · intro g p hp
      have := g p (List.mem_reverse.mp hp)
      rwa [List.map_reverse]
/-! ### the items with records, the only order -/
def mk (zs names : List α) : List α := zs.filter fun z => decide (z ∈ names)
theorem zs_sorted {zs : List α} : ∀ {c : List α}, (c ++ zs).Nodup → zs.Pairwise fun a b => ix (c ++ zs) a < ix (c ++ zs) b := by
  induction zs with
  | nil => intro c _; exact List.Pairwise.nil
  | cons a zs ih =>
    intro c nd
    have ac : a ∉ c := fun z => (List.nodup_append.mp nd).2.2 _ z a (by simp) rfl
    refine List.pairwise_cons.mpr ⟨fun b hb => ?_, ?_⟩
    · have bc : b ∉ c := fun z => (List.nodup_append.mp nd).2.2 _ z b (by simp [hb]) rfl
      have ab : a ≠ b := fun z => (List.nodup_cons.mp (List.nodup_append.mp nd).2.1).1 (z ▸ hb)
      rw [ix_app ac, ix_out bc]
      simp only [ix]
      rw [if_neg ab]; omega
    · have := ih (c := c ++ [a]) (by simpa using nd)
      simpa using this
theorem mk_sorted {zs names : List α} (nd : zs.Nodup) : (mk zs names).Pairwise fun a b => ix zs a < ix zs b := (zs_sorted (c := []) (by simpa using nd)).sublist List.filter_sublist
theorem mk_perm {zs names : List α} (C : Cfg zs names) : (mk zs names).Perm names := (List.perm_ext_iff_of_nodup (C.nd.sublist List.filter_sublist) C.rn).mpr fun x => by
  rw [List.mem_filter]
  simp only [decide_eq_true_eq]
  exact ⟨fun h => h.2, fun h => ⟨C.sub x h, h⟩⟩
theorem mk_nd {zs names : List α} (C : Cfg zs names) : (mk zs names).Nodup := C.nd.sublist List.filter_sublist
/-- the items in the order in which they are put in -/
def lane (k : Nat) (ms : List α) : List α := if k = 2 then ms.reverse else ms
theorem lane_sorted {k : Nat} {zs names : List α} (C : Cfg zs names) : (lane k (mk zs names)).Pairwise fun a b => pos k zs a < pos k zs b := by
  unfold lane pos
  by_cases h : k = 2
  · simp only [if_pos h]
    rw [List.pairwise_reverse]
    refine (mk_sorted C.nd).imp_of_mem fun ha hb r => ?_
    exact (rx_lt (List.mem_filter.mp hb).1 (List.mem_filter.mp ha).1).mpr r
  · simp only [if_neg h]
    exact mk_sorted C.nd
theorem lane_perm {k : Nat} {ms : List α} : (lane k ms).Perm ms := by
  unfold lane
  split
  · exact List.reverse_perm _
  · exact List.Perm.refl _
theorem dir_perm {k : Nat} {ms : List α} : (dir k ms).Perm ms := by
  unfold dir
  split
  · exact List.reverse_perm _
  · exact List.Perm.refl _
def room (k : Nat) (ms : List α) (x : α) : Nat := if k = 2 then ms.length - 1 - ix ms x else ix ms x
theorem lane_room {k : Nat} {ms a b : List α} {m : α} (nd : ms.Nodup) (e : lane k ms = a ++ m :: b) : room k ms m = a.length := by
  unfold lane at e
  unfold room
  by_cases h : k = 2
  · simp only [if_pos h] at e ⊢
    have e2 : ms = b.reverse ++ m :: a.reverse := by
      have := congrArg List.reverse e
      rw [List.reverse_reverse] at this
      rw [this]; simp
    have nb : m ∉ b.reverse := fun z => by
      rw [e2] at nd
      exact (List.nodup_append.mp nd).2.2 _ z m (by simp) rfl
    rw [e2, ix_app nb]; simp
  · simp only [if_neg h] at e ⊢
    subst e
    exact ix_app fun z => (List.nodup_append.mp nd).2.2 _ z m (by simp) rfl
/-- the order as the program finds it -/
def ord (k : Nat) (ms : List α) (sh : α → Nat) : List α := (lane k ms).foldl (fun f m => put (if k = 0 then f.length - sh m else sh m) m f) []
theorem ord_dec {k : Nat} {ms : List α} {sh : α → Nat} (h : ∀ a m b, lane k ms = a ++ m :: b → sh m ≤ a.length) : dir k (ord k ms sh) = dec sh (lane k ms) := by
  unfold ord dec dir
  by_cases hk : k = 0
  · simp only [if_pos hk]
    generalize lane k ms = l at h
    suffices g : ∀ (b a f : List α), l = a ++ b → f.length = a.length → (b.foldl (fun f m => put (f.length - sh m) m f) f).reverse = b.foldl (fun f m => put (sh m) m f) f.reverse by simpa using g l [] [] rfl rfl
    intro b
    induction b with
    | nil => intro a f _ _; rfl
    | cons m b ih =>
      intro a f e lf
      simp only [List.foldl_cons]
      rw [ih (a ++ [m]) _ (by simp [e]) (by rw [put_len, List.length_append, lf]; rfl), put_rev (by rw [lf]; exact h a m b e)]
  · simp only [if_neg hk]
theorem dir_dir {k : Nat} {l : List α} : dir k (dir k l) = l := by
  unfold dir
  by_cases h : k = 0
  · simp only [if_pos h, List.reverse_reverse]
  · simp only [if_neg h]
theorem cnt_room {k : Nat} {zs names : List α} {n : α} {c : Nat} (C : Cfg zs names) (h : Cnt (pos k zs) (dir k names) n c) : c ≤ room k (mk zs names) n := by
  obtain ⟨u, v, e, nu, hc⟩ := h
  have nn : n ∈ names := dir_perm.mem_iff.mp (by rw [e]; simp)
  have nl : n ∈ lane k (mk zs names) := lane_perm.mem_iff.mpr ((mk_perm C).mem_iff.mpr nn)
  obtain ⟨a, b, el⟩ := List.append_of_mem nl
  rw [lane_room (mk_nd C) el]
  have so := lane_sorted (k := k) C
  rw [el] at so
  have so3 := List.pairwise_append.mp so
  have un : u.Nodup := by
    have := dir_perm (k := k).nodup_iff.mpr C.rn
    rw [e] at this
    exact (List.nodup_append.mp this).1
  rw [← hc, List.countP_eq_length_filter]
  have sub : ∀ x ∈ u.filter (fun x => decide (pos k zs x < pos k zs n)), x ∈ a := by
    intro x hx
    obtain ⟨h1, h2⟩ := List.mem_filter.mp hx
    have h2 : pos k zs x < pos k zs n := by simpa using h2
    have xl : x ∈ lane k (mk zs names) := lane_perm.mem_iff.mpr ((mk_perm C).mem_iff.mpr (dir_perm.mem_iff.mp (by rw [e]; simp [h1])))
    rw [el] at xl
    rcases List.mem_append.mp xl with z | z
    · exact z
    · rcases List.mem_cons.mp z with rfl | z
      · omega
      · have := (List.pairwise_cons.mp so3.2.1).1 x z
        omega
  exact nodup_le (un.sublist List.filter_sublist) sub
/-- what happened is read back, and no other order happens -/
theorem ord_uniq {k : Nat} (hk : k < 3) {row : List (α × Nat)} {zs : List α} (C : Cfg zs (row.map (·.1))) (h : happens k row zs = true) (sh : α → Nat) (hs : ∀ p ∈ row, ∀ c, slotOk k zs p c → sh p.1 = c) :
    ord k (mk zs (row.map (·.1))) sh = row.map (·.1) ∧ ∀ p ∈ row, slotOk k zs p (sh p.1) ∧ sh p.1 ≤ room k (mk zs (row.map (·.1))) p.1 := by
  have hi := (hap_iff hk C).mp h
  have key : ∀ p ∈ row, Cnt (pos k zs) (dir k (row.map (·.1))) p.1 (sh p.1) ∧ slotOk k zs p (sh p.1) := by
    intro p hp
    obtain ⟨c, h1, h2⟩ := hi p hp
    rw [hs p hp c h2]
    exact ⟨h1, h2⟩
  have rm : ∀ p ∈ row, sh p.1 ≤ room k (mk zs (row.map (·.1))) p.1 := fun p hp => cnt_room C (key p hp).1
  refine ⟨?_, fun p hp => ⟨(key p hp).2, rm p hp⟩⟩
  have hl : ∀ a m b, lane k (mk zs (row.map (·.1))) = a ++ m :: b → sh m ≤ a.length := by
    intro a m b e
    have : m ∈ row.map (·.1) := (mk_perm C).mem_iff.mp (lane_perm.mem_iff.mp (by rw [e]; simp))
    obtain ⟨p, hp, rfl⟩ := List.mem_map.mp this
    rw [← lane_room (mk_nd C) e]
    exact rm p hp
  have d := ord_dec (sh := sh) hl
  have dn : (dir k (row.map (·.1))).Nodup := dir_perm.nodup_iff.mpr C.rn
  have q := dec_of (P := pos k zs) (sh := sh) dn (fun n hn => by
    obtain ⟨p, hp, rfl⟩ := List.mem_map.mp (dir_perm.mem_iff.mp hn)
    exact (key p hp).1) ((lane_perm.trans (mk_perm C)).trans dir_perm.symm) (lane_sorted C)
  rw [← d] at q
  have := congrArg (dir k) q
  rwa [dir_dir, dir_dir] at this
/-- an order happens if every count has room -/
theorem ord_ex {k : Nat} (hk : k < 3) {zs names : List α} (C : Cfg zs names) (sl sh : α → Nat) (hs : ∀ n ∈ names, slotOk k zs (n, sl n) (sh n)) (hr : ∀ n ∈ names, sh n ≤ room k (mk zs names) n) :
    (ord k (mk zs names) sh).Perm names ∧ happens k ((ord k (mk zs names) sh).map fun n => (n, sl n)) zs = true := by
  have hl : ∀ a m b, lane k (mk zs names) = a ++ m :: b → sh m ≤ a.length := by
    intro a m b e
    rw [← lane_room (mk_nd C) e]
    exact hr m ((mk_perm C).mem_iff.mp (lane_perm.mem_iff.mp (by rw [e]; simp)))
  have d := ord_dec (sh := sh) hl
  have op : (ord k (mk zs names) sh).Perm names := by
    have : (dir k (ord k (mk zs names) sh)).Perm names := by rw [d]; exact ((dec_perm _).trans lane_perm).trans (mk_perm C)
    exact dir_perm.symm.trans this
  refine ⟨op, ?_⟩
  have em : ((ord k (mk zs names) sh).map fun n => (n, sl n)).map (·.1) = ord k (mk zs names) sh := by rw [List.map_map]; simp [Function.comp_def]
  have C' : Cfg zs (((ord k (mk zs names) sh).map fun n => (n, sl n)).map (·.1)) := by
    rw [em]
    exact ⟨C.nd, op.nodup_iff.mpr C.rn, fun x hx => C.sub x (op.mem_iff.mp hx)⟩
  rw [hap_iff hk C', em]
  intro p hp
  obtain ⟨n, hn, rfl⟩ := List.mem_map.mp hp
  have nn := op.mem_iff.mp hn
  refine ⟨sh n, ?_, hs n nn⟩
  rw [d]
  exact dec_cnt (lane_sorted C) hl n (lane_perm.mem_iff.mpr ((mk_perm C).mem_iff.mpr nn))
end MO
namespace K
open PySem PySem.Spec PyProof.Rows L2 U ClX Z
def top (i : Nat) : Stmt := PySem.Challenge.pw_indexlogs_k08_logs_recognized.main.body.getD i (.Pass ⟨0, 0, 0, 0⟩)
/-- the classes at hand, the constants -/
structure Ads where
  cInserted : Addr
  cRemoved : Addr
  cFronted : Addr
  cRecord : Addr
  cNoItem : Addr
  cNoIndex : Addr
  cLogError : Addr
abbrev Ads.kAT (_ : Ads) : V := .str "@"
abbrev Ads.kLETTERS (_ : Ads) : V := .str "abcdefghijklmnopqrstuvwxyz"
abbrev Ads.kMOST_LETTERS (_ : Ads) : V := .int 8
abbrev Ads.kMOST_LOG (_ : Ads) : V := .int 40
structure Gm (P : Program) (K : PySem.W.Frag) (mg : Str → Option Value) (A : Ads) : Prop where
  g_abs : mg "abs" = none
  g_all : mg "all" = none
  g_bool : mg "bool" = none
  g_int : mg "int" = none
  g_isinstance : mg "isinstance" = none
  g_len : mg "len" = none
  g_list : mg "list" = none
  g_max : mg "max" = none
  g_min : mg "min" = none
  g_range : mg "range" = none
  g_repr : mg "repr" = none
  g_set : mg "set" = none
  g_str : mg "str" = none
  g_tuple : mg "tuple" = none
  g_AT : ∃ u, mg "AT" = some u ∧ RelV A.kAT u
  g_LETTERS : ∃ u, mg "LETTERS" = some u ∧ RelV A.kLETTERS u
  g_MOST_LETTERS : ∃ u, mg "MOST_LETTERS" = some u ∧ RelV A.kMOST_LETTERS u
  g_MOST_LOG : ∃ u, mg "MOST_LOG" = some u ∧ RelV A.kMOST_LOG u
  cInserted : mg "Inserted" = some (.ref A.cInserted)
  cRemoved : mg "Removed" = some (.ref A.cRemoved)
  cFronted : mg "Fronted" = some (.ref A.cFronted)
  cRecord : mg "Record" = some (.ref A.cRecord)
  cNoItem : mg "NoItem" = some (.ref A.cNoItem)
  cNoIndex : mg "NoIndex" = some (.ref A.cNoIndex)
  cLogError : mg "LogError" = some (.ref A.cLogError)
  x_NoIndex : ExcN K mg "NoIndex" A.cNoIndex
  x_NoItem : ExcN K mg "NoItem" A.cNoItem
def cadA (A : Ads) : Nat → Addr
  | 0 => A.cInserted
  | 1 => A.cRemoved
  | 2 => A.cFronted
  | 3 => A.cRecord
  | 4 => A.cNoItem
  | 5 => A.cNoIndex
  | 6 => A.cLogError
  | _ => 0
abbrev cz (K : PySem.W.Frag) (A : Ads) : Cz := ⟨K, cadA A⟩
abbrev s_is_integer : Stmt := top 15
abbrev N_is_integer : List Str := ["thing", "least", "most"]
abbrev ps_is_integer : List Str := ["thing", "least", "most"]
theorem sc_is_integer : FnScope N_is_integer ["thing", "least", "most"] (defScope s_is_integer) := ⟨rfl, rfl, rfl, by decide +kernel, rfl, by decide +kernel, by decide +kernel⟩
def t_is_integer (P : Program) (w : World) (K : PySem.W.Frag) (mg : Str → Option Value) (base : Heap) (A : Ads) (E : XS) : TS :=
  tRet (tAndV (tCB (cIsi K) (tCons (tVar 0) (tCons (tC (.ty "int")) (tNil)))) (tAndV (tNotV (tCB (cIsi K) (tCons (tVar 0) (tCons (tC (.ty "bool")) (tNil))))) (tChain uLe uLe (tVar 1) (tVar 0) (tVar 2))))
theorem d_is_integer {P : Program} {w : World} {K : PySem.W.Frag} {mg : Str → Option Value} {base : Heap} {A : Ads} {f : Addr} {cdv : Value} {Ar : Around} {outer : List Env} {s : Shared} {H : Hp} {E : XK} (G : Gm P K mg A) (hr : Room 2 (Ar.deeper (envOfC "is_integer" (defScope s_is_integer) s.heap.objs.size f cdv))) (qt : Quiet (Ar.deeper (envOfC "is_integer" (defScope s_is_integer) s.heap.objs.size f cdv))) :
    PSs (cxOf (L2.CX P w) P w K mg base N_is_integer "is_integer" (defScope s_is_integer) f cdv Ar outer s H E) (defBody s_is_integer) (t_is_integer P w K mg base A fun _ => E) := by
  have sc := sc_is_integer
  have tk : Takes (cxOf (L2.CX P w) P w K mg base N_is_integer "is_integer" (defScope s_is_integer) f cdv Ar outer s H E) (fun cls d _ H => E cls d H) := takes_of rfl rfl rfl rfl
  have at_ : At (cxOf (L2.CX P w) P w K mg base N_is_integer "is_integer" (defScope s_is_integer) f cdv Ar outer s H E) 2 (fun _ => E) := At.of hr qt tk
  have pn : PassesOwn (model P w) (cxOf (L2.CX P w) P w K mg base N_is_integer "is_integer" (defScope s_is_integer) f cdv Ar outer s H E).A (cxOf (L2.CX P w) P w K mg base N_is_integer "is_integer" (defScope s_is_integer) f cdv Ar outer s H E).env (cxOf (L2.CX P w) P w K mg base N_is_integer "is_integer" (defScope s_is_integer) f cdv Ar outer s H E).xe := passes_of rfl
  exact pss_one (ps_ret (pe_and (pe_callB call_cIsi (by rfl) G.g_isinstance (by decide +kernel) (pa_cons (pv 0) (pa_cons (pe_bltn (v := .ty "int") (by rfl) G.g_int (by decide +kernel) rfl) (pa_nil)))) (pe_and (pe_not (pe_callB call_cIsi (by rfl) G.g_isinstance (by decide +kernel) (pa_cons (pv 0) (pa_cons (pe_bltn (v := .ty "bool") (by rfl) G.g_bool (by decide +kernel) rfl) (pa_nil))))) (pe_one (pe_chain op_uLe op_uLe (pv 1) (pv 0) (pv 2))))))
abbrev s_is_item : Stmt := top 16
abbrev N_is_item : List Str := ["thing", "letter"]
abbrev ps_is_item : List Str := ["thing"]
theorem sc_is_item : FnScope N_is_item ["thing"] (defScope s_is_item) := ⟨rfl, rfl, rfl, by decide +kernel, rfl, by decide +kernel, by decide +kernel⟩
def t_is_item (P : Program) (w : World) (K : PySem.W.Frag) (mg : Str → Option Value) (base : Heap) (A : Ads) (E : XS) : TS :=
  tSeq (tIfS (tOr (tNot (tB (tCB (cIsi K) (tCons (tVar 0) (tCons (tC (.ty "str")) (tNil)))))) (tNot (tTest (tChain uLe uLe (tC (.int 1)) (tCB (cLen K) (tCons (tVar 0) (tNil))) (tC A.kMOST_LETTERS))))) (tRet (tC (.bl false))) (tNext)) (tRet (tCB (cAll K) (tCons (tLc (iStr (tVar 0)) (gName 1) (tYes) (tOp (uIn K false) (tVar 1) (tC A.kLETTERS)) [1]) (tNil))))
theorem d_is_item {P : Program} {w : World} {K : PySem.W.Frag} {mg : Str → Option Value} {base : Heap} {A : Ads} {f : Addr} {cdv : Value} {Ar : Around} {outer : List Env} {s : Shared} {H : Hp} {E : XK} (G : Gm P K mg A) (hr : Room 2 (Ar.deeper (envOfC "is_item" (defScope s_is_item) s.heap.objs.size f cdv))) (qt : Quiet (Ar.deeper (envOfC "is_item" (defScope s_is_item) s.heap.objs.size f cdv))) :
    PSs (cxOf (L2.CX P w) P w K mg base N_is_item "is_item" (defScope s_is_item) f cdv Ar outer s H E) (defBody s_is_item) (t_is_item P w K mg base A fun _ => E) := by
  have sc := sc_is_item
  have tk : Takes (cxOf (L2.CX P w) P w K mg base N_is_item "is_item" (defScope s_is_item) f cdv Ar outer s H E) (fun cls d _ H => E cls d H) := takes_of rfl rfl rfl rfl
  have at_ : At (cxOf (L2.CX P w) P w K mg base N_is_item "is_item" (defScope s_is_item) f cdv Ar outer s H E) 2 (fun _ => E) := At.of hr qt tk
  have pn : PassesOwn (model P w) (cxOf (L2.CX P w) P w K mg base N_is_item "is_item" (defScope s_is_item) f cdv Ar outer s H E).A (cxOf (L2.CX P w) P w K mg base N_is_item "is_item" (defScope s_is_item) f cdv Ar outer s H E).env (cxOf (L2.CX P w) P w K mg base N_is_item "is_item" (defScope s_is_item) f cdv Ar outer s H E).xe := passes_of rfl
  exact pss_cons (ps_if (PW.pt (pw_or (pt_not (pt_val (pe_callB call_cIsi (by rfl) G.g_isinstance (by decide +kernel) (pa_cons (pv 0) (pa_cons (pe_bltn (v := .ty "str") (by rfl) G.g_str (by decide +kernel) rfl) (pa_nil)))))) (pw_or1 (pt_not (pt_chain op_uLe op_uLe (pe_int) (pe_callB call_cLen (by rfl) G.g_len (by decide +kernel) (pa_cons (pv 0) (pa_nil))) (pe_g (by rfl) G.g_MOST_LETTERS)))))) (pss_one (ps_ret (pe_bl))) (pss_nil)) (pss_one (ps_ret (pe_callB (call_cAll rfl) (by rfl) G.g_all (by decide +kernel) (pa_cons (pe_lc (own := [("letter", 1)]) (g := gName 1) (tt := tYes) rfl sc.nd (pi_str (pv 0)) (blkOk_by (N := N_is_item) (sc := defScope s_is_item) (by decide +kernel)) (fun _ _ _ _ _ => pg_name (i := 1) sc.nd rfl (by first | exact Or.inl rfl | exact Or.inr rfl)) (fun _ _ _ _ _ => pts_nil) (fun _ _ _ _ _ => pe_cmpR (op_uIn hr) (pv 1) (pe_g (by rfl) G.g_LETTERS) (by rfl))) (pa_nil)))))
abbrev s_Record_init : Stmt := inClass (top 17) 2
abbrev N_Record_init : List Str := ["self", "item", "slot"]
abbrev ps_Record_init : List Str := ["self", "item", "slot"]
theorem sc_Record_init : FnScope N_Record_init ["self", "item", "slot"] (defScope s_Record_init) := ⟨rfl, rfl, rfl, by decide +kernel, rfl, by decide +kernel, by decide +kernel⟩
def t_Record_init (P : Program) (w : World) (K : PySem.W.Frag) (mg : Str → Option Value) (base : Heap) (A : Ads) (E : XS) : TS :=
  tSeq (tIfS (tNot (tB (tFn P w K mg base "is_item" 3 E (tCons (tVar 1) (tNil))))) (tRaise A.cNoItem E) (tNext)) (tSeq (tIfS (tNot (tB (tFn P w K mg base "is_integer" 3 E (tCons (tVar 2) (tCons (tC (.int 0)) (tCons (tAtt P w K mg base "MOST" (tC (.ref A.cRecord))) (tNil))))))) (tRaise A.cNoIndex E) (tNext)) (tSeq (sFld K (tVar 0) (tVar 1) "held_item") (sFld K (tVar 0) (tVar 2) "held_slot")))
theorem d_Record_init {P : Program} {w : World} {K : PySem.W.Frag} {mg : Str → Option Value} {base : Heap} {A : Ads} {f : Addr} {cdv : Value} {Ar : Around} {outer : List Env} {s : Shared} {H : Hp} {E : XK} (G : Gm P K mg A) (hr : Room 3 (Ar.deeper (envOfC "Record.__init__" (defScope s_Record_init) s.heap.objs.size f cdv))) (qt : Quiet (Ar.deeper (envOfC "Record.__init__" (defScope s_Record_init) s.heap.objs.size f cdv))) :
    PSs (cxOf (L2.CX P w) P w K mg base N_Record_init "Record.__init__" (defScope s_Record_init) f cdv Ar outer s H E) (defBody s_Record_init) (t_Record_init P w K mg base A fun _ => E) := by
  have sc := sc_Record_init
  have tk : Takes (cxOf (L2.CX P w) P w K mg base N_Record_init "Record.__init__" (defScope s_Record_init) f cdv Ar outer s H E) (fun cls d _ H => E cls d H) := takes_of rfl rfl rfl rfl
  have at_ : At (cxOf (L2.CX P w) P w K mg base N_Record_init "Record.__init__" (defScope s_Record_init) f cdv Ar outer s H E) 3 (fun _ => E) := At.of hr qt tk
  have pn : PassesOwn (model P w) (cxOf (L2.CX P w) P w K mg base N_Record_init "Record.__init__" (defScope s_Record_init) f cdv Ar outer s H E).A (cxOf (L2.CX P w) P w K mg base N_Record_init "Record.__init__" (defScope s_Record_init) f cdv Ar outer s H E).env (cxOf (L2.CX P w) P w K mg base N_Record_init "Record.__init__" (defScope s_Record_init) f cdv Ar outer s H E).xe := passes_of rfl
  exact pss_cons (ps_if (pt_not (pt_val (pe_fn at_ (by rfl) (pa_cons (pv 1) (pa_nil))))) (pss_one (ps_raiseN rfl tk G.x_NoItem (by rfl))) (pss_nil)) (pss_cons (ps_if (pt_not (pt_val (pe_fn at_ (by rfl) (pa_cons (pv 2) (pa_cons (pe_int) (pa_cons (pe_att hr (pe_g (by rfl) ⟨_, G.cRecord, rfl⟩)) (pa_nil))))))) (pss_one (ps_raiseN rfl tk G.x_NoIndex (by rfl))) (pss_nil)) (pss_cons (ps_fld (pv 0) (pv 1) rfl) (pss_one (ps_fld (pv 0) (pv 2) rfl))))
abbrev s_Record_told : Stmt := inClass (top 17) 8
abbrev N_Record_told : List Str := ["self"]
abbrev ps_Record_told : List Str := ["self"]
theorem sc_Record_told : FnScope N_Record_told ["self"] (defScope s_Record_told) := ⟨rfl, rfl, rfl, by decide +kernel, rfl, by decide +kernel, by decide +kernel⟩
def t_Record_told (P : Program) (w : World) (K : PySem.W.Frag) (mg : Str → Option Value) (base : Heap) (A : Ads) (E : XS) : TS :=
  tRet (tJn [tFmt (tAtt P w K mg base "held_item" (tVar 0)), tFmt (tC A.kAT), tFmt (tAtt P w K mg base "held_slot" (tVar 0))] Str.empty)
theorem d_Record_told {P : Program} {w : World} {K : PySem.W.Frag} {mg : Str → Option Value} {base : Heap} {A : Ads} {f : Addr} {cdv : Value} {Ar : Around} {outer : List Env} {s : Shared} {H : Hp} {E : XK} (G : Gm P K mg A) (hr : Room 2 (Ar.deeper (envOfC "Record.told" (defScope s_Record_told) s.heap.objs.size f cdv))) (qt : Quiet (Ar.deeper (envOfC "Record.told" (defScope s_Record_told) s.heap.objs.size f cdv))) :
    PSs (cxOf (L2.CX P w) P w K mg base N_Record_told "Record.told" (defScope s_Record_told) f cdv Ar outer s H E) (defBody s_Record_told) (t_Record_told P w K mg base A fun _ => E) := by
  have sc := sc_Record_told
  have tk : Takes (cxOf (L2.CX P w) P w K mg base N_Record_told "Record.told" (defScope s_Record_told) f cdv Ar outer s H E) (fun cls d _ H => E cls d H) := takes_of rfl rfl rfl rfl
  have at_ : At (cxOf (L2.CX P w) P w K mg base N_Record_told "Record.told" (defScope s_Record_told) f cdv Ar outer s H E) 2 (fun _ => E) := At.of hr qt tk
  have pn : PassesOwn (model P w) (cxOf (L2.CX P w) P w K mg base N_Record_told "Record.told" (defScope s_Record_told) f cdv Ar outer s H E).A (cxOf (L2.CX P w) P w K mg base N_Record_told "Record.told" (defScope s_Record_told) f cdv Ar outer s H E).env (cxOf (L2.CX P w) P w K mg base N_Record_told "Record.told" (defScope s_Record_told) f cdv Ar outer s H E).xe := passes_of rfl
  exact pss_one (ps_ret (pe_joined (.cons (pe_fmt (pe_att hr (pv 0))) (.cons (pe_fmt (pe_g (by rfl) G.g_AT)) (.cons (pe_fmt (pe_att hr (pv 0))) (.nil))))))
abbrev s_Inserted_told : Stmt := inClass (top 18) 1
abbrev s_Removed_told : Stmt := inClass (top 19) 1
abbrev s_Fronted_told : Stmt := inClass (top 20) 1
abbrev s_Record_text : Stmt := inClass (top 17) 6
abbrev N_Record_text : List Str := ["self"]
abbrev ps_Record_text : List Str := ["self"]
theorem sc_Record_text : FnScope N_Record_text ["self"] (defScope s_Record_text) := ⟨rfl, rfl, rfl, by decide +kernel, rfl, by decide +kernel, by decide +kernel⟩
def t_Record_text (P : Program) (w : World) (K : PySem.W.Frag) (mg : Str → Option Value) (base : Heap) (A : Ads) (E : XS) : TS :=
  tRet (tMth P w K mg base "told" 4 E (tVar 0) (tNil))
theorem d_Record_text {P : Program} {w : World} {K : PySem.W.Frag} {mg : Str → Option Value} {base : Heap} {A : Ads} {f : Addr} {cdv : Value} {Ar : Around} {outer : List Env} {s : Shared} {H : Hp} {E : XK} (G : Gm P K mg A) (hr : Room 4 (Ar.deeper (envOfC "Record.text" (defScope s_Record_text) s.heap.objs.size f cdv))) (qt : Quiet (Ar.deeper (envOfC "Record.text" (defScope s_Record_text) s.heap.objs.size f cdv))) :
    PSs (cxOf (L2.CX P w) P w K mg base N_Record_text "Record.text" (defScope s_Record_text) f cdv Ar outer s H E) (defBody s_Record_text) (t_Record_text P w K mg base A fun _ => E) := by
  have sc := sc_Record_text
  have tk : Takes (cxOf (L2.CX P w) P w K mg base N_Record_text "Record.text" (defScope s_Record_text) f cdv Ar outer s H E) (fun cls d _ H => E cls d H) := takes_of rfl rfl rfl rfl
  have at_ : At (cxOf (L2.CX P w) P w K mg base N_Record_text "Record.text" (defScope s_Record_text) f cdv Ar outer s H E) 4 (fun _ => E) := At.of hr qt tk
  have pn : PassesOwn (model P w) (cxOf (L2.CX P w) P w K mg base N_Record_text "Record.text" (defScope s_Record_text) f cdv Ar outer s H E).A (cxOf (L2.CX P w) P w K mg base N_Record_text "Record.text" (defScope s_Record_text) f cdv Ar outer s H E).env (cxOf (L2.CX P w) P w K mg base N_Record_text "Record.text" (defScope s_Record_text) f cdv Ar outer s H E).xe := passes_of rfl
  exact pss_one (ps_ret (pe_mth0 at_ (pv 0)))
abbrev s_are_records : Stmt := top 26
abbrev N_are_records : List Str := ["thing", "most", "record"]
abbrev ps_are_records : List Str := ["thing", "most"]
theorem sc_are_records : FnScope N_are_records ["thing", "most"] (defScope s_are_records) := ⟨rfl, rfl, rfl, by decide +kernel, rfl, by decide +kernel, by decide +kernel⟩
def t_are_records (P : Program) (w : World) (K : PySem.W.Frag) (mg : Str → Option Value) (base : Heap) (A : Ads) (E : XS) : TS :=
  tSeq (tIfS (tOr (tNot (tB (tCB (cIsi K) (tCons (tVar 0) (tCons (tC (.ty "list")) (tNil)))))) (tTest (tOp uGt (tCB (cLen K) (tCons (tVar 0) (tNil))) (tVar 1)))) (tRet (tC (.bl false))) (tNext)) (tRet (tCB (cAll K) (tCons (tLc (iList K (tVar 0)) (gName 2) (tYes) (tAndV (tCB (cIsi K) (tCons (tVar 2) (tCons (tC (.ref A.cRecord)) (tNil)))) (tOp (uNe K) (tAtt P w K mg base "SIGN" (tVar 2)) (tC (.str "")))) [2]) (tNil))))
theorem d_are_records {P : Program} {w : World} {K : PySem.W.Frag} {mg : Str → Option Value} {base : Heap} {A : Ads} {f : Addr} {cdv : Value} {Ar : Around} {outer : List Env} {s : Shared} {H : Hp} {E : XK} (G : Gm P K mg A) (hr : Room 2 (Ar.deeper (envOfC "are_records" (defScope s_are_records) s.heap.objs.size f cdv))) (qt : Quiet (Ar.deeper (envOfC "are_records" (defScope s_are_records) s.heap.objs.size f cdv))) :
    PSs (cxOf (L2.CX P w) P w K mg base N_are_records "are_records" (defScope s_are_records) f cdv Ar outer s H E) (defBody s_are_records) (t_are_records P w K mg base A fun _ => E) := by
  have sc := sc_are_records
  have tk : Takes (cxOf (L2.CX P w) P w K mg base N_are_records "are_records" (defScope s_are_records) f cdv Ar outer s H E) (fun cls d _ H => E cls d H) := takes_of rfl rfl rfl rfl
  have at_ : At (cxOf (L2.CX P w) P w K mg base N_are_records "are_records" (defScope s_are_records) f cdv Ar outer s H E) 2 (fun _ => E) := At.of hr qt tk
  have pn : PassesOwn (model P w) (cxOf (L2.CX P w) P w K mg base N_are_records "are_records" (defScope s_are_records) f cdv Ar outer s H E).A (cxOf (L2.CX P w) P w K mg base N_are_records "are_records" (defScope s_are_records) f cdv Ar outer s H E).env (cxOf (L2.CX P w) P w K mg base N_are_records "are_records" (defScope s_are_records) f cdv Ar outer s H E).xe := passes_of rfl
  exact pss_cons (ps_if (PW.pt (pw_or (pt_not (pt_val (pe_callB call_cIsi (by rfl) G.g_isinstance (by decide +kernel) (pa_cons (pv 0) (pa_cons (pe_bltn (v := .ty "list") (by rfl) G.g_list (by decide +kernel) rfl) (pa_nil)))))) (pw_or1 (pt_cmpR op_uGt (pe_callB call_cLen (by rfl) G.g_len (by decide +kernel) (pa_cons (pv 0) (pa_nil))) (pv 1) (nomark _))))) (pss_one (ps_ret (pe_bl))) (pss_nil)) (pss_one (ps_ret (pe_callB (call_cAll rfl) (by rfl) G.g_all (by decide +kernel) (pa_cons (pe_lc (own := [("record", 2)]) (g := gName 2) (tt := tYes) rfl sc.nd (pi_list (pv 0)) (blkOk_by (N := N_are_records) (sc := defScope s_are_records) (by decide +kernel)) (fun _ _ _ _ _ => pg_name (i := 2) sc.nd rfl (by first | exact Or.inl rfl | exact Or.inr rfl)) (fun _ _ _ _ _ => pts_nil) (fun _ _ _ _ _ => pe_and (pe_callB call_cIsi (by rfl) G.g_isinstance (by decide +kernel) (pa_cons (pv 2) (pa_cons (pe_g (by rfl) ⟨_, G.cRecord, rfl⟩) (pa_nil)))) (pe_one (pe_cmpR (op_uNe hr) (pe_att hr (pv 2)) (pe_str) (nomark _))))) (pa_nil)))))
abbrev s_items_of : Stmt := top 27
abbrev N_items_of : List Str := ["log", "record"]
abbrev ps_items_of : List Str := ["log"]
theorem sc_items_of : FnScope N_items_of ["log"] (defScope s_items_of) := ⟨rfl, rfl, rfl, by decide +kernel, rfl, by decide +kernel, by decide +kernel⟩
def t_items_of (P : Program) (w : World) (K : PySem.W.Frag) (mg : Str → Option Value) (base : Heap) (A : Ads) (E : XS) : TS :=
  tRet (tLc (iList K (tVar 0)) (gName 1) (tYes) (tAtt P w K mg base "item" (tVar 1)) [1])
theorem d_items_of {P : Program} {w : World} {K : PySem.W.Frag} {mg : Str → Option Value} {base : Heap} {A : Ads} {f : Addr} {cdv : Value} {Ar : Around} {outer : List Env} {s : Shared} {H : Hp} {E : XK} (G : Gm P K mg A) (hr : Room 2 (Ar.deeper (envOfC "items_of" (defScope s_items_of) s.heap.objs.size f cdv))) (qt : Quiet (Ar.deeper (envOfC "items_of" (defScope s_items_of) s.heap.objs.size f cdv))) :
    PSs (cxOf (L2.CX P w) P w K mg base N_items_of "items_of" (defScope s_items_of) f cdv Ar outer s H E) (defBody s_items_of) (t_items_of P w K mg base A fun _ => E) := by
  have sc := sc_items_of
  have tk : Takes (cxOf (L2.CX P w) P w K mg base N_items_of "items_of" (defScope s_items_of) f cdv Ar outer s H E) (fun cls d _ H => E cls d H) := takes_of rfl rfl rfl rfl
  have at_ : At (cxOf (L2.CX P w) P w K mg base N_items_of "items_of" (defScope s_items_of) f cdv Ar outer s H E) 2 (fun _ => E) := At.of hr qt tk
  have pn : PassesOwn (model P w) (cxOf (L2.CX P w) P w K mg base N_items_of "items_of" (defScope s_items_of) f cdv Ar outer s H E).A (cxOf (L2.CX P w) P w K mg base N_items_of "items_of" (defScope s_items_of) f cdv Ar outer s H E).env (cxOf (L2.CX P w) P w K mg base N_items_of "items_of" (defScope s_items_of) f cdv Ar outer s H E).xe := passes_of rfl
  exact pss_one (ps_ret (pe_lc (own := [("record", 1)]) (g := gName 1) (tt := tYes) rfl sc.nd (pi_list (pv 0)) (blkOk_by (N := N_items_of) (sc := defScope s_items_of) (by decide +kernel)) (fun _ _ _ _ _ => pg_name (i := 1) sc.nd rfl (by first | exact Or.inl rfl | exact Or.inr rfl)) (fun _ _ _ _ _ => pts_nil) (fun _ _ _ _ _ => pe_att hr (pv 1))))
abbrev s_is_log : Stmt := top 28
abbrev N_is_log : List Str := ["thing", "record"]
abbrev ps_is_log : List Str := ["thing"]
theorem sc_is_log : FnScope N_is_log ["thing"] (defScope s_is_log) := ⟨rfl, rfl, rfl, by decide +kernel, rfl, by decide +kernel, by decide +kernel⟩
def t_is_log (P : Program) (w : World) (K : PySem.W.Frag) (mg : Str → Option Value) (base : Heap) (A : Ads) (E : XS) : TS :=
  tSeq (tIfS (tNot (tB (tFn P w K mg base "are_records" 3 E (tCons (tVar 0) (tCons (tC A.kMOST_LOG) (tNil)))))) (tRet (tC (.bl false))) (tNext)) (tRet (tAndV (tOp uLe (tLenSetT K (tLc (iList K (tVar 0)) (gName 1) (tYes) (tAtt P w K mg base "SIGN" (tVar 1)) [1])) (tC (.int 1))) (tOp (uEq K) (tLenSetT K (tFn P w K mg base "items_of" 3 E (tCons (tVar 0) (tNil)))) (tCB (cLen K) (tCons (tVar 0) (tNil))))))
theorem d_is_log {P : Program} {w : World} {K : PySem.W.Frag} {mg : Str → Option Value} {base : Heap} {A : Ads} {f : Addr} {cdv : Value} {Ar : Around} {outer : List Env} {s : Shared} {H : Hp} {E : XK} (G : Gm P K mg A) (hr : Room 3 (Ar.deeper (envOfC "is_log" (defScope s_is_log) s.heap.objs.size f cdv))) (qt : Quiet (Ar.deeper (envOfC "is_log" (defScope s_is_log) s.heap.objs.size f cdv))) :
    PSs (cxOf (L2.CX P w) P w K mg base N_is_log "is_log" (defScope s_is_log) f cdv Ar outer s H E) (defBody s_is_log) (t_is_log P w K mg base A fun _ => E) := by
  have sc := sc_is_log
  have tk : Takes (cxOf (L2.CX P w) P w K mg base N_is_log "is_log" (defScope s_is_log) f cdv Ar outer s H E) (fun cls d _ H => E cls d H) := takes_of rfl rfl rfl rfl
  have at_ : At (cxOf (L2.CX P w) P w K mg base N_is_log "is_log" (defScope s_is_log) f cdv Ar outer s H E) 3 (fun _ => E) := At.of hr qt tk
  have pn : PassesOwn (model P w) (cxOf (L2.CX P w) P w K mg base N_is_log "is_log" (defScope s_is_log) f cdv Ar outer s H E).A (cxOf (L2.CX P w) P w K mg base N_is_log "is_log" (defScope s_is_log) f cdv Ar outer s H E).env (cxOf (L2.CX P w) P w K mg base N_is_log "is_log" (defScope s_is_log) f cdv Ar outer s H E).xe := passes_of rfl
  exact pss_cons (ps_if (pt_not (pt_val (pe_fn at_ (by rfl) (pa_cons (pv 0) (pa_cons (pe_g (by rfl) G.g_MOST_LOG) (pa_nil)))))) (pss_one (ps_ret (pe_bl))) (pss_nil)) (pss_one (ps_ret (pe_and (pe_cmpR op_uLe (pe_lenSetT (by rfl) G.g_len (by rfl) G.g_set (pe_lc (own := [("record", 1)]) (g := gName 1) (tt := tYes) rfl sc.nd (pi_list (pv 0)) (blkOk_by (N := N_is_log) (sc := defScope s_is_log) (by decide +kernel)) (fun _ _ _ _ _ => pg_name (i := 1) sc.nd rfl (by first | exact Or.inl rfl | exact Or.inr rfl)) (fun _ _ _ _ _ => pts_nil) (fun _ _ _ _ _ => pe_att hr (pv 1)))) (pe_int) (nomark _)) (pe_one (pe_cmpR (op_uEq hr) (pe_lenSetT (by rfl) G.g_len (by rfl) G.g_set (pe_fn at_ (by rfl) (pa_cons (pv 0) (pa_nil)))) (pe_callB call_cLen (by rfl) G.g_len (by decide +kernel) (pa_cons (pv 0) (pa_nil))) (nomark _))))))
abbrev s_law_source : Stmt := top 30
abbrev N_law_source : List Str := ["_law_script", "_law_k", "_law_cell"]
abbrev ps_law_source : List Str := ["_law_script", "_law_k"]
theorem sc_law_source : FnScope N_law_source ["_law_script", "_law_k"] (defScope s_law_source) := ⟨rfl, rfl, rfl, by decide +kernel, rfl, by decide +kernel, by decide +kernel⟩
def t_law_source (P : Program) (w : World) (K : PySem.W.Frag) (mg : Str → Option Value) (base : Heap) (A : Ads) (E : XS) : TS :=
  tSeq (tAsg (tIf (tTest (tOp uLt (tVar 1) (tCB (cLen K) (tCons (tVar 0) (tNil))))) (tCB (cAbs) (tCons (tOp (uIx K) (tVar 0) (tVar 1)) (tNil))) (tC (.int 0))) (gName 2)) (tRet (tLst (tCons (tCB (cMax K) (tCons (tC (.int 0)) (tCons (tOp uSub (tVar 2) (tOp uPow (tC (.int 10)) (tC (.int 18)))) (tNil)))) (tCons (tOp uAdd (tOp uMul (tOp uMod (tVar 2) (tOp uAdd (tOp uPow (tC (.int 10)) (tC (.int 39))) (tC (.int 153)))) (tC (.int 64))) (tVar 1)) (tCons (tC (.int 0)) (tNil))))))
theorem d_law_source {P : Program} {w : World} {K : PySem.W.Frag} {mg : Str → Option Value} {base : Heap} {A : Ads} {f : Addr} {cdv : Value} {Ar : Around} {outer : List Env} {s : Shared} {H : Hp} {E : XK} (G : Gm P K mg A) (hr : Room 2 (Ar.deeper (envOfC "_law_source" (defScope s_law_source) s.heap.objs.size f cdv))) (qt : Quiet (Ar.deeper (envOfC "_law_source" (defScope s_law_source) s.heap.objs.size f cdv))) :
    PSs (cxOf (L2.CX P w) P w K mg base N_law_source "_law_source" (defScope s_law_source) f cdv Ar outer s H E) (defBody s_law_source) (t_law_source P w K mg base A fun _ => E) := by
  have sc := sc_law_source
  have tk : Takes (cxOf (L2.CX P w) P w K mg base N_law_source "_law_source" (defScope s_law_source) f cdv Ar outer s H E) (fun cls d _ H => E cls d H) := takes_of rfl rfl rfl rfl
  have at_ : At (cxOf (L2.CX P w) P w K mg base N_law_source "_law_source" (defScope s_law_source) f cdv Ar outer s H E) 2 (fun _ => E) := At.of hr qt tk
  have pn : PassesOwn (model P w) (cxOf (L2.CX P w) P w K mg base N_law_source "_law_source" (defScope s_law_source) f cdv Ar outer s H E).A (cxOf (L2.CX P w) P w K mg base N_law_source "_law_source" (defScope s_law_source) f cdv Ar outer s H E).env (cxOf (L2.CX P w) P w K mg base N_law_source "_law_source" (defScope s_law_source) f cdv Ar outer s H E).xe := passes_of rfl
  exact pss_cons (ps_set (i := 2) sc.nd rfl (by first | exact Or.inl rfl | exact Or.inr rfl) (pe_ifExp (pt_cmpR op_uLt (pv 1) (pe_callB call_cLen (by rfl) G.g_len (by decide +kernel) (pa_cons (pv 0) (pa_nil))) (nomark _)) (pe_callB call_cAbs (by rfl) G.g_abs (by decide +kernel) (pa_cons (pe_ix ix_u (pv 0) (pv 1) (fun _ _ => rfl)) (pa_nil))) (pe_int))) (pss_one (ps_ret (pe_lst (pa_cons (pe_callB (call_cMax rfl) (by rfl) G.g_max (by decide +kernel) (pa_cons (pe_int) (pa_cons (pe_op op_uSub (pv 2) (pe_op op_uPow (pe_int) (pe_int))) (pa_nil)))) (pa_cons (pe_op op_uAdd (pe_op op_uMul (pe_op op_uMod (pv 2) (pe_op op_uAdd (pe_op op_uPow (pe_int) (pe_int)) (pe_int))) (pe_int)) (pv 1)) (pa_cons (pe_int) (pa_nil)))))))
abbrev s_law_pick : Stmt := top 31
abbrev N_law_pick : List Str := ["_law_source_here", "_law_size", "_law_digit", "_law_mixed"]
abbrev ps_law_pick : List Str := ["_law_source_here", "_law_size"]
theorem sc_law_pick : FnScope N_law_pick ["_law_source_here", "_law_size"] (defScope s_law_pick) := ⟨rfl, rfl, rfl, by decide +kernel, rfl, by decide +kernel, by decide +kernel⟩
def t_law_pick (P : Program) (w : World) (K : PySem.W.Frag) (mg : Str → Option Value) (base : Heap) (A : Ads) (E : XS) : TS :=
  tSeq (tIfS (tTest (tOp uGt (tOp (uIx K) (tVar 0) (tC (.int 0))) (tC (.int 0)))) (tSeq (tAsg (tOp uMod (tOp (uIx K) (tVar 0) (tC (.int 0))) (tVar 1)) (gName 2)) (tSeq (tAsg (tOp uDiv (tOp (uIx K) (tVar 0) (tC (.int 0))) (tVar 1)) (gSub (tVar 0) (tC (.int 0)) rSetL)) (tRet (tVar 2)))) (tNext)) (tSeq (tAsg (tOp uAdd (tOp (uIx K) (tVar 0) (tC (.int 2))) (tC (.int 1))) (gSub (tVar 0) (tC (.int 2)) rSetL)) (tSeq (tAsg (tOp uMod (tOp uPow (tOp uAdd (tOp (uIx K) (tVar 0) (tC (.int 1))) (tOp uMul (tC (.int 86028121)) (tOp (uIx K) (tVar 0) (tC (.int 2))))) (tC (.int 3))) (tOp uAdd (tOp uPow (tC (.int 10)) (tC (.int 41))) (tC (.int 109)))) (gName 3)) (tSeq (tAsg (tOp uMod (tOp uPow (tOp uAdd (tVar 3) (tOp uMul (tC (.int 122949823)) (tOp (uIx K) (tVar 0) (tC (.int 2))))) (tC (.int 5))) (tOp uAdd (tOp uPow (tC (.int 10)) (tC (.int 38))) (tC (.int 133)))) (gName 3)) (tRet (tOp uMod (tOp uDiv (tVar 3) (tC (.int 786433))) (tVar 1))))))
theorem d_law_pick {P : Program} {w : World} {K : PySem.W.Frag} {mg : Str → Option Value} {base : Heap} {A : Ads} {f : Addr} {cdv : Value} {Ar : Around} {outer : List Env} {s : Shared} {H : Hp} {E : XK} (G : Gm P K mg A) (hr : Room 2 (Ar.deeper (envOfC "_law_pick" (defScope s_law_pick) s.heap.objs.size f cdv))) (qt : Quiet (Ar.deeper (envOfC "_law_pick" (defScope s_law_pick) s.heap.objs.size f cdv))) :
    PSs (cxOf (L2.CX P w) P w K mg base N_law_pick "_law_pick" (defScope s_law_pick) f cdv Ar outer s H E) (defBody s_law_pick) (t_law_pick P w K mg base A fun _ => E) := by
  have sc := sc_law_pick
  have tk : Takes (cxOf (L2.CX P w) P w K mg base N_law_pick "_law_pick" (defScope s_law_pick) f cdv Ar outer s H E) (fun cls d _ H => E cls d H) := takes_of rfl rfl rfl rfl
  have at_ : At (cxOf (L2.CX P w) P w K mg base N_law_pick "_law_pick" (defScope s_law_pick) f cdv Ar outer s H E) 2 (fun _ => E) := At.of hr qt tk
  have pn : PassesOwn (model P w) (cxOf (L2.CX P w) P w K mg base N_law_pick "_law_pick" (defScope s_law_pick) f cdv Ar outer s H E).A (cxOf (L2.CX P w) P w K mg base N_law_pick "_law_pick" (defScope s_law_pick) f cdv Ar outer s H E).env (cxOf (L2.CX P w) P w K mg base N_law_pick "_law_pick" (defScope s_law_pick) f cdv Ar outer s H E).xe := passes_of rfl
  exact pss_cons (ps_if (pt_cmpR op_uGt (pe_ix ix_u (pv 0) (pe_int) (fun _ _ => rfl)) (pe_int) (nomark _)) (pss_cons (ps_set (i := 2) sc.nd rfl (by first | exact Or.inl rfl | exact Or.inr rfl) (pe_op op_uMod (pe_ix ix_u (pv 0) (pe_int) (fun _ _ => rfl)) (pv 1))) (pss_cons (ps_asg (pe_op op_uDiv (pe_ix ix_u (pv 0) (pe_int) (fun _ _ => rfl)) (pv 1)) (pg_sub (pv 0) (pe_int) set_list)) (pss_one (ps_ret (pv 2))))) (pss_nil)) (pss_cons (ps_asg (pe_op op_uAdd (pe_ix ix_u (pv 0) (pe_int) (fun _ _ => rfl)) (pe_int)) (pg_sub (pv 0) (pe_int) set_list)) (pss_cons (ps_set (i := 3) sc.nd rfl (by first | exact Or.inl rfl | exact Or.inr rfl) (pe_op op_uMod (pe_op op_uPow (pe_op op_uAdd (pe_ix ix_u (pv 0) (pe_int) (fun _ _ => rfl)) (pe_op op_uMul (pe_int) (pe_ix ix_u (pv 0) (pe_int) (fun _ _ => rfl)))) (pe_int)) (pe_op op_uAdd (pe_op op_uPow (pe_int) (pe_int)) (pe_int)))) (pss_cons (ps_set (i := 3) sc.nd rfl (by first | exact Or.inl rfl | exact Or.inr rfl) (pe_op op_uMod (pe_op op_uPow (pe_op op_uAdd (pv 3) (pe_op op_uMul (pe_int) (pe_ix ix_u (pv 0) (pe_int) (fun _ _ => rfl)))) (pe_int)) (pe_op op_uAdd (pe_op op_uPow (pe_int) (pe_int)) (pe_int)))) (pss_one (ps_ret (pe_op op_uMod (pe_op op_uDiv (pv 3) (pe_int)) (pv 1)))))))
abbrev s_law_shuffled : Stmt := top 32
abbrev N_law_shuffled : List Str := ["_law_source_here", "_law_row", "_law_left", "_law_j"]
abbrev ps_law_shuffled : List Str := ["_law_source_here", "_law_row"]
theorem sc_law_shuffled : FnScope N_law_shuffled ["_law_source_here", "_law_row"] (defScope s_law_shuffled) := ⟨rfl, rfl, rfl, by decide +kernel, rfl, by decide +kernel, by decide +kernel⟩
def t_law_shuffled (P : Program) (w : World) (K : PySem.W.Frag) (mg : Str → Option Value) (base : Heap) (A : Ads) (E : XS) : TS :=
  tSeq (tAsg (tCB (cList K) (tCons (tVar 1) (tNil))) (gName 2)) (tRet (tLc (iRng1 (tCons (tCB (cLen K) (tCons (tVar 1) (tNil))) (tNil))) (gName 3) (tYes) (tBM K "list" rPopAt (tVar 2) (tCons (tFn P w K mg base "_law_pick" 3 E0s (tCons (tVar 0) (tCons (tCB (cLen K) (tCons (tVar 2) (tNil))) (tNil)))) (tNil))) [3]))
theorem d_law_shuffled {P : Program} {w : World} {K : PySem.W.Frag} {mg : Str → Option Value} {base : Heap} {A : Ads} {f : Addr} {cdv : Value} {Ar : Around} {outer : List Env} {s : Shared} {H : Hp} {E : XK} (G : Gm P K mg A) (hr : Room 3 (Ar.deeper (envOfC "_law_shuffled" (defScope s_law_shuffled) s.heap.objs.size f cdv))) (qt : Quiet (Ar.deeper (envOfC "_law_shuffled" (defScope s_law_shuffled) s.heap.objs.size f cdv))) :
    PSs (cxOf (L2.CX P w) P w K mg base N_law_shuffled "_law_shuffled" (defScope s_law_shuffled) f cdv Ar outer s H E) (defBody s_law_shuffled) (t_law_shuffled P w K mg base A fun _ => E) := by
  have sc := sc_law_shuffled
  have tk : Takes (cxOf (L2.CX P w) P w K mg base N_law_shuffled "_law_shuffled" (defScope s_law_shuffled) f cdv Ar outer s H E) (fun cls d _ H => E cls d H) := takes_of rfl rfl rfl rfl
  have at_ : At (cxOf (L2.CX P w) P w K mg base N_law_shuffled "_law_shuffled" (defScope s_law_shuffled) f cdv Ar outer s H E) 3 (fun _ => E) := At.of hr qt tk
  have pn : PassesOwn (model P w) (cxOf (L2.CX P w) P w K mg base N_law_shuffled "_law_shuffled" (defScope s_law_shuffled) f cdv Ar outer s H E).A (cxOf (L2.CX P w) P w K mg base N_law_shuffled "_law_shuffled" (defScope s_law_shuffled) f cdv Ar outer s H E).env (cxOf (L2.CX P w) P w K mg base N_law_shuffled "_law_shuffled" (defScope s_law_shuffled) f cdv Ar outer s H E).xe := passes_of rfl
  exact pss_cons (ps_set (i := 2) sc.nd rfl (by first | exact Or.inl rfl | exact Or.inr rfl) (pe_callTy call_cList (by rfl) G.g_list (by decide +kernel) (pa_cons (pv 1) (pa_nil)))) (pss_one (ps_ret (pe_lc (own := [("_law_j", 3)]) (g := gName 3) (tt := tYes) rfl sc.nd (pi_range1 (by rfl) G.g_range (pa_cons (pe_callB call_cLen (by rfl) G.g_len (by decide +kernel) (pa_cons (pv 1) (pa_nil))) (pa_nil))) (blkOk_by (N := N_law_shuffled) (sc := defScope s_law_shuffled) (by decide +kernel)) (fun _ _ _ _ _ => pg_name (i := 3) sc.nd rfl (by first | exact Or.inl rfl | exact Or.inr rfl)) (fun _ _ _ _ _ => pts_nil) (fun _ _ _ _ _ => pe_bm PySem.F.plainAttrs_list PySem.F.slot_list_pop PySem.F.type_list_pop mt_popAt (pv 2) (pa_cons (pe_fn (At.e0 hr qt) (by rfl) (pa_cons (pv 0) (pa_cons (pe_callB call_cLen (by rfl) G.g_len (by decide +kernel) (pa_cons (pv 2) (pa_nil))) (pa_nil)))) (pa_nil))))))
abbrev s_law_names : Stmt := top 33
abbrev N_law_names : List Str := ["_law_source_here", "_law_many", "_law_letters", "_law_style", "_law_found", "_law_j", "_law_short", "_law_two"]
abbrev ps_law_names : List Str := ["_law_source_here", "_law_many"]
theorem sc_law_names : FnScope N_law_names ["_law_source_here", "_law_many"] (defScope s_law_names) := ⟨rfl, rfl, rfl, by decide +kernel, rfl, by decide +kernel, by decide +kernel⟩
def t_law_names (P : Program) (w : World) (K : PySem.W.Frag) (mg : Str → Option Value) (base : Heap) (A : Ads) (E : XS) : TS :=
  tSeq (tAsg (tC (.str "abcdefghijklmnopqrstuvwxyz")) (gName 2)) (tSeq (tAsg (tFn P w K mg base "_law_pick" 4 E (tCons (tVar 0) (tCons (tC (.int 3)) (tNil)))) (gName 3)) (tSeq (tAsg (tLst (tNil)) (gName 4)) (tSeq (tFor (iRng1 (tCons (tVar 1) (tNil))) (gName 5) (tSeq (tAsg (tIf (tTest (tOp uLt (tVar 5) (tC (.int 26)))) (tOp (uIx K) (tVar 2) (tVar 5)) (tOp uAdd (tOp (uIx K) (tVar 2) (tOp uSub (tOp uDiv (tVar 5) (tC (.int 26))) (tC (.int 1)))) (tOp (uIx K) (tVar 2) (tOp uMod (tVar 5) (tC (.int 26)))))) (gName 6)) (tSeq (tAsg (tOp uAdd (tOp (uIx K) (tVar 2) (tOp uDiv (tVar 5) (tC (.int 26)))) (tOp (uIx K) (tVar 2) (tOp uMod (tVar 5) (tC (.int 26))))) (gName 7)) (tDrop (tBM K "list" rAppend (tVar 4) (tCons (tOp (uIx K) (tLst (tCons (tVar 6) (tCons (tVar 7) (tCons (tOp uAdd (tC (.str "abcdef")) (tVar 7)) (tNil))))) (tVar 3)) (tNil))))))) (tRet (tFn P w K mg base "_law_shuffled" 4 E (tCons (tVar 0) (tCons (tVar 4) (tNil))))))))
theorem d_law_names {P : Program} {w : World} {K : PySem.W.Frag} {mg : Str → Option Value} {base : Heap} {A : Ads} {f : Addr} {cdv : Value} {Ar : Around} {outer : List Env} {s : Shared} {H : Hp} {E : XK} (G : Gm P K mg A) (hr : Room 4 (Ar.deeper (envOfC "_law_names" (defScope s_law_names) s.heap.objs.size f cdv))) (qt : Quiet (Ar.deeper (envOfC "_law_names" (defScope s_law_names) s.heap.objs.size f cdv))) :
    PSs (cxOf (L2.CX P w) P w K mg base N_law_names "_law_names" (defScope s_law_names) f cdv Ar outer s H E) (defBody s_law_names) (t_law_names P w K mg base A fun _ => E) := by
  have sc := sc_law_names
  have tk : Takes (cxOf (L2.CX P w) P w K mg base N_law_names "_law_names" (defScope s_law_names) f cdv Ar outer s H E) (fun cls d _ H => E cls d H) := takes_of rfl rfl rfl rfl
  have at_ : At (cxOf (L2.CX P w) P w K mg base N_law_names "_law_names" (defScope s_law_names) f cdv Ar outer s H E) 4 (fun _ => E) := At.of hr qt tk
  have pn : PassesOwn (model P w) (cxOf (L2.CX P w) P w K mg base N_law_names "_law_names" (defScope s_law_names) f cdv Ar outer s H E).A (cxOf (L2.CX P w) P w K mg base N_law_names "_law_names" (defScope s_law_names) f cdv Ar outer s H E).env (cxOf (L2.CX P w) P w K mg base N_law_names "_law_names" (defScope s_law_names) f cdv Ar outer s H E).xe := passes_of rfl
  exact pss_cons (ps_set (i := 2) sc.nd rfl (by first | exact Or.inl rfl | exact Or.inr rfl) (pe_str)) (pss_cons (ps_set (i := 3) sc.nd rfl (by first | exact Or.inl rfl | exact Or.inr rfl) (pe_fn at_ (by rfl) (pa_cons (pv 0) (pa_cons (pe_int) (pa_nil))))) (pss_cons (ps_set (i := 4) sc.nd rfl (by first | exact Or.inl rfl | exact Or.inr rfl) (pe_lst (pa_nil))) (pss_cons (ps_for pn rfl (pi_range1 (by rfl) G.g_range (pa_cons (pv 1) (pa_nil))) (pg_name (i := 5) sc.nd rfl (by first | exact Or.inl rfl | exact Or.inr rfl)) (pss_cons (ps_set (i := 6) sc.nd rfl (by first | exact Or.inl rfl | exact Or.inr rfl) (pe_ifExp (pt_cmpR op_uLt (pv 5) (pe_int) (nomark _)) (pe_ix ix_u (pv 2) (pv 5) (fun _ _ => rfl)) (pe_op op_uAdd (pe_ix ix_u (pv 2) (pe_op op_uSub (pe_op op_uDiv (pv 5) (pe_int)) (pe_int)) (fun _ _ => rfl)) (pe_ix ix_u (pv 2) (pe_op op_uMod (pv 5) (pe_int)) (fun _ _ => rfl))))) (pss_cons (ps_set (i := 7) sc.nd rfl (by first | exact Or.inl rfl | exact Or.inr rfl) (pe_op op_uAdd (pe_ix ix_u (pv 2) (pe_op op_uDiv (pv 5) (pe_int)) (fun _ _ => rfl)) (pe_ix ix_u (pv 2) (pe_op op_uMod (pv 5) (pe_int)) (fun _ _ => rfl)))) (pss_one (ps_expr (pe_bm PySem.F.plainAttrs_list PySem.F.slot_list_append PySem.F.type_list_append mt_append (pv 4) (pa_cons (pe_ix ix_u (pe_lst (pa_cons (pv 6) (pa_cons (pv 7) (pa_cons (pe_op op_uAdd (pe_str) (pv 7)) (pa_nil))))) (pv 3) (fun _ _ => rfl)) (pa_nil)))))))) (pss_one (ps_ret (pe_fn at_ (by rfl) (pa_cons (pv 0) (pa_cons (pv 4) (pa_nil)))))))))
abbrev s_law_make : Stmt := top 34
abbrev N_law_make : List Str := ["_law_way", "_law_name", "_law_place"]
abbrev ps_law_make : List Str := ["_law_way", "_law_name", "_law_place"]
theorem sc_law_make : FnScope N_law_make ["_law_way", "_law_name", "_law_place"] (defScope s_law_make) := ⟨rfl, rfl, rfl, by decide +kernel, rfl, by decide +kernel, by decide +kernel⟩
def t_law_make (P : Program) (w : World) (K : PySem.W.Frag) (mg : Str → Option Value) (base : Heap) (A : Ads) (E : XS) : TS :=
  tSeq (tIfS (tTest (tOp (uEq K) (tVar 0) (tC (.int 0)))) (tRet (tMkr P w K mg base "Inserted" 5 E (tCons (tVar 1) (tCons (tVar 2) (tNil))))) (tNext)) (tSeq (tIfS (tTest (tOp (uEq K) (tVar 0) (tC (.int 1)))) (tRet (tMkr P w K mg base "Removed" 5 E (tCons (tVar 1) (tCons (tVar 2) (tNil))))) (tNext)) (tRet (tIf (tTest (tOp (uEq K) (tVar 0) (tC (.int 2)))) (tMkr P w K mg base "Fronted" 5 E (tCons (tVar 1) (tCons (tVar 2) (tNil)))) (tMkr P w K mg base "Record" 5 E (tCons (tVar 1) (tCons (tVar 2) (tNil)))))))
theorem d_law_make {P : Program} {w : World} {K : PySem.W.Frag} {mg : Str → Option Value} {base : Heap} {A : Ads} {f : Addr} {cdv : Value} {Ar : Around} {outer : List Env} {s : Shared} {H : Hp} {E : XK} (G : Gm P K mg A) (hr : Room 5 (Ar.deeper (envOfC "_law_make" (defScope s_law_make) s.heap.objs.size f cdv))) (qt : Quiet (Ar.deeper (envOfC "_law_make" (defScope s_law_make) s.heap.objs.size f cdv))) :
    PSs (cxOf (L2.CX P w) P w K mg base N_law_make "_law_make" (defScope s_law_make) f cdv Ar outer s H E) (defBody s_law_make) (t_law_make P w K mg base A fun _ => E) := by
  have sc := sc_law_make
  have tk : Takes (cxOf (L2.CX P w) P w K mg base N_law_make "_law_make" (defScope s_law_make) f cdv Ar outer s H E) (fun cls d _ H => E cls d H) := takes_of rfl rfl rfl rfl
  have at_ : At (cxOf (L2.CX P w) P w K mg base N_law_make "_law_make" (defScope s_law_make) f cdv Ar outer s H E) 5 (fun _ => E) := At.of hr qt tk
  have pn : PassesOwn (model P w) (cxOf (L2.CX P w) P w K mg base N_law_make "_law_make" (defScope s_law_make) f cdv Ar outer s H E).A (cxOf (L2.CX P w) P w K mg base N_law_make "_law_make" (defScope s_law_make) f cdv Ar outer s H E).env (cxOf (L2.CX P w) P w K mg base N_law_make "_law_make" (defScope s_law_make) f cdv Ar outer s H E).xe := passes_of rfl
  exact pss_cons (ps_if (pt_cmpR (op_uEq hr) (pv 0) (pe_int) (nomark _)) (pss_one (ps_ret (pe_mkr at_ (by rfl) (pa_cons (pv 1) (pa_cons (pv 2) (pa_nil)))))) (pss_nil)) (pss_cons (ps_if (pt_cmpR (op_uEq hr) (pv 0) (pe_int) (nomark _)) (pss_one (ps_ret (pe_mkr at_ (by rfl) (pa_cons (pv 1) (pa_cons (pv 2) (pa_nil)))))) (pss_nil)) (pss_one (ps_ret (pe_ifExp (pt_cmpR (op_uEq hr) (pv 0) (pe_int) (nomark _)) (pe_mkr at_ (by rfl) (pa_cons (pv 1) (pa_cons (pv 2) (pa_nil)))) (pe_mkr at_ (by rfl) (pa_cons (pv 1) (pa_cons (pv 2) (pa_nil))))))))
abbrev s_law_rows : Stmt := top 35
abbrev N_law_rows : List Str := ["_law_parts", "_law_way", "_law_name", "_law_place"]
abbrev ps_law_rows : List Str := ["_law_parts"]
theorem sc_law_rows : FnScope N_law_rows ["_law_parts"] (defScope s_law_rows) := ⟨rfl, rfl, rfl, by decide +kernel, rfl, by decide +kernel, by decide +kernel⟩
def t_law_rows (P : Program) (w : World) (K : PySem.W.Frag) (mg : Str → Option Value) (base : Heap) (A : Ads) (E : XS) : TS :=
  tRet (tLc (iList K (tVar 0)) (gTup K 3 (gCons (gName 1) (gCons (gName 2) (gCons (gName 3) (gNil))))) (tYes) (tFn P w K mg base "_law_make" 6 E0s (tCons (tVar 1) (tCons (tVar 2) (tCons (tVar 3) (tNil))))) [1, 2, 3])
theorem d_law_rows {P : Program} {w : World} {K : PySem.W.Frag} {mg : Str → Option Value} {base : Heap} {A : Ads} {f : Addr} {cdv : Value} {Ar : Around} {outer : List Env} {s : Shared} {H : Hp} {E : XK} (G : Gm P K mg A) (hr : Room 6 (Ar.deeper (envOfC "_law_rows" (defScope s_law_rows) s.heap.objs.size f cdv))) (qt : Quiet (Ar.deeper (envOfC "_law_rows" (defScope s_law_rows) s.heap.objs.size f cdv))) :
    PSs (cxOf (L2.CX P w) P w K mg base N_law_rows "_law_rows" (defScope s_law_rows) f cdv Ar outer s H E) (defBody s_law_rows) (t_law_rows P w K mg base A fun _ => E) := by
  have sc := sc_law_rows
  have tk : Takes (cxOf (L2.CX P w) P w K mg base N_law_rows "_law_rows" (defScope s_law_rows) f cdv Ar outer s H E) (fun cls d _ H => E cls d H) := takes_of rfl rfl rfl rfl
  have at_ : At (cxOf (L2.CX P w) P w K mg base N_law_rows "_law_rows" (defScope s_law_rows) f cdv Ar outer s H E) 6 (fun _ => E) := At.of hr qt tk
  have pn : PassesOwn (model P w) (cxOf (L2.CX P w) P w K mg base N_law_rows "_law_rows" (defScope s_law_rows) f cdv Ar outer s H E).A (cxOf (L2.CX P w) P w K mg base N_law_rows "_law_rows" (defScope s_law_rows) f cdv Ar outer s H E).env (cxOf (L2.CX P w) P w K mg base N_law_rows "_law_rows" (defScope s_law_rows) f cdv Ar outer s H E).xe := passes_of rfl
  exact pss_one (ps_ret (pe_lc (own := [("_law_way", 1), ("_law_name", 2), ("_law_place", 3)]) (g := gTup K 3 (gCons (gName 1) (gCons (gName 2) (gCons (gName 3) (gNil))))) (tt := tYes) rfl sc.nd (pi_list (pv 0)) (blkOk_by (N := N_law_rows) (sc := defScope s_law_rows) (by decide +kernel)) (fun _ _ _ _ _ => pg_tup rfl (pgs_cons (pg_name (i := 1) sc.nd rfl (by first | exact Or.inl rfl | exact Or.inr rfl)) (pgs_cons (pg_name (i := 2) sc.nd rfl (by first | exact Or.inl rfl | exact Or.inr rfl)) (pgs_cons (pg_name (i := 3) sc.nd rfl (by first | exact Or.inl rfl | exact Or.inr rfl)) (pgs_nil))))) (fun _ _ _ _ _ => pts_nil) (fun _ _ _ _ _ => pe_fn (At.e0 hr qt) (by rfl) (pa_cons (pv 1) (pa_cons (pv 2) (pa_cons (pv 3) (pa_nil)))))))
abbrev s_law_log : Stmt := top 36
abbrev N_law_log : List Str := ["_law_source_here", "_law_most", "_law_many", "_law_way", "_law_high", "_law_name"]
abbrev ps_law_log : List Str := ["_law_source_here", "_law_most"]
theorem sc_law_log : FnScope N_law_log ["_law_source_here", "_law_most"] (defScope s_law_log) := ⟨rfl, rfl, rfl, by decide +kernel, rfl, by decide +kernel, by decide +kernel⟩
def t_law_log (P : Program) (w : World) (K : PySem.W.Frag) (mg : Str → Option Value) (base : Heap) (A : Ads) (E : XS) : TS :=
  tSeq (tAsg (tOp (uIx K) (tLst (tCons (tFn P w K mg base "_law_pick" 5 E (tCons (tVar 0) (tCons (tC (.int 4)) (tNil)))) (tCons (tFn P w K mg base "_law_pick" 5 E (tCons (tVar 0) (tCons (tOp uAdd (tVar 1) (tC (.int 1))) (tNil)))) (tCons (tVar 1) (tNil))))) (tFn P w K mg base "_law_pick" 5 E (tCons (tVar 0) (tCons (tC (.int 3)) (tNil))))) (gName 2)) (tSeq (tAsg (tTup (tCons (tFn P w K mg base "_law_pick" 5 E (tCons (tVar 0) (tCons (tC (.int 3)) (tNil)))) (tCons (tOp (uIx K) (tLst (tCons (tC (.int 1)) (tCons (tC (.int 5)) (tCons (tOp uAdd (tVar 2) (tC (.int 1))) (tCons (tC (.int 61)) (tNil)))))) (tFn P w K mg base "_law_pick" 5 E (tCons (tVar 0) (tCons (tC (.int 4)) (tNil))))) (tNil)))) (gTup K 2 (gCons (gName 3) (gCons (gName 4) (gNil))))) (tRet (tLc (iList K (tFn P w K mg base "_law_names" 5 E (tCons (tVar 0) (tCons (tVar 2) (tNil))))) (gName 5) (tYes) (tTup (tCons (tVar 3) (tCons (tVar 5) (tCons (tFn P w K mg base "_law_pick" 5 E0s (tCons (tVar 0) (tCons (tCB (cMin K) (tCons (tVar 4) (tCons (tC (.int 61)) (tNil)))) (tNil)))) (tNil))))) [5])))
theorem d_law_log {P : Program} {w : World} {K : PySem.W.Frag} {mg : Str → Option Value} {base : Heap} {A : Ads} {f : Addr} {cdv : Value} {Ar : Around} {outer : List Env} {s : Shared} {H : Hp} {E : XK} (G : Gm P K mg A) (hr : Room 5 (Ar.deeper (envOfC "_law_log" (defScope s_law_log) s.heap.objs.size f cdv))) (qt : Quiet (Ar.deeper (envOfC "_law_log" (defScope s_law_log) s.heap.objs.size f cdv))) :
    PSs (cxOf (L2.CX P w) P w K mg base N_law_log "_law_log" (defScope s_law_log) f cdv Ar outer s H E) (defBody s_law_log) (t_law_log P w K mg base A fun _ => E) := by
  have sc := sc_law_log
  have tk : Takes (cxOf (L2.CX P w) P w K mg base N_law_log "_law_log" (defScope s_law_log) f cdv Ar outer s H E) (fun cls d _ H => E cls d H) := takes_of rfl rfl rfl rfl
  have at_ : At (cxOf (L2.CX P w) P w K mg base N_law_log "_law_log" (defScope s_law_log) f cdv Ar outer s H E) 5 (fun _ => E) := At.of hr qt tk
  have pn : PassesOwn (model P w) (cxOf (L2.CX P w) P w K mg base N_law_log "_law_log" (defScope s_law_log) f cdv Ar outer s H E).A (cxOf (L2.CX P w) P w K mg base N_law_log "_law_log" (defScope s_law_log) f cdv Ar outer s H E).env (cxOf (L2.CX P w) P w K mg base N_law_log "_law_log" (defScope s_law_log) f cdv Ar outer s H E).xe := passes_of rfl
  exact pss_cons (ps_set (i := 2) sc.nd rfl (by first | exact Or.inl rfl | exact Or.inr rfl) (pe_ix ix_u (pe_lst (pa_cons (pe_fn at_ (by rfl) (pa_cons (pv 0) (pa_cons (pe_int) (pa_nil)))) (pa_cons (pe_fn at_ (by rfl) (pa_cons (pv 0) (pa_cons (pe_op op_uAdd (pv 1) (pe_int)) (pa_nil)))) (pa_cons (pv 1) (pa_nil))))) (pe_fn at_ (by rfl) (pa_cons (pv 0) (pa_cons (pe_int) (pa_nil)))) (fun _ _ => rfl))) (pss_cons (ps_asg (pe_tup (pa_cons (pe_fn at_ (by rfl) (pa_cons (pv 0) (pa_cons (pe_int) (pa_nil)))) (pa_cons (pe_ix ix_u (pe_lst (pa_cons (pe_int) (pa_cons (pe_int) (pa_cons (pe_op op_uAdd (pv 2) (pe_int)) (pa_cons (pe_int) (pa_nil)))))) (pe_fn at_ (by rfl) (pa_cons (pv 0) (pa_cons (pe_int) (pa_nil)))) (fun _ _ => rfl)) (pa_nil)))) (pg_tup rfl (pgs_cons (pg_name (i := 3) sc.nd rfl (by first | exact Or.inl rfl | exact Or.inr rfl)) (pgs_cons (pg_name (i := 4) sc.nd rfl (by first | exact Or.inl rfl | exact Or.inr rfl)) (pgs_nil))))) (pss_one (ps_ret (pe_lc (own := [("_law_name", 5)]) (g := gName 5) (tt := tYes) rfl sc.nd (pi_list (pe_fn at_ (by rfl) (pa_cons (pv 0) (pa_cons (pv 2) (pa_nil))))) (blkOk_by (N := N_law_log) (sc := defScope s_law_log) (by decide +kernel)) (fun _ _ _ _ _ => pg_name (i := 5) sc.nd rfl (by first | exact Or.inl rfl | exact Or.inr rfl)) (fun _ _ _ _ _ => pts_nil) (fun _ _ _ _ _ => pe_tup (pa_cons (pv 3) (pa_cons (pv 5) (pa_cons (pe_fn (At.e0 hr qt) (by rfl) (pa_cons (pv 0) (pa_cons (pe_callB (call_cMin rfl) (by rfl) G.g_min (by decide +kernel) (pa_cons (pv 4) (pa_cons (pe_int) (pa_nil)))) (pa_nil)))) (pa_nil)))))))))
abbrev s_law_things : Stmt := top 37
abbrev N_law_things : List Str := ["_law_found"]
abbrev ps_law_things : List Str := []
theorem sc_law_things : FnScope N_law_things [] (defScope s_law_things) := ⟨rfl, rfl, rfl, by decide +kernel, rfl, by decide +kernel, by decide +kernel⟩
def t_law_things (P : Program) (w : World) (K : PySem.W.Frag) (mg : Str → Option Value) (base : Heap) (A : Ads) (E : XS) : TS :=
  tSeq (tAsg (tLst (tCons (tC .non) (tCons (tC (.bl true)) (tCons (tC (.bl false)) (tCons (tC (.int 0)) (tCons (tC (.int 1)) (tCons (tC (.int 60)) (tCons (tC (.int 61)) (tCons (tUn uNeg (tC (.int 1))) (tCons (tOp uPow (tC (.int 10)) (tC (.int 59))) (tCons (tOp uSub (tC (.int 0)) (tOp uPow (tC (.int 10)) (tC (.int 59)))) (tCons (tC (.str "")) (tCons (tC (.str "a")) (tCons (tC (.str "abcdefgh")) (tCons (tC (.str "abcdefghi")) (tCons (tC (.str "A")) (tCons (tC (.str "aB")) (tNil)))))))))))))))))) (gName 0)) (tSeq (tAsg (tOp uAdd (tVar 0) (tLst (tCons (tC (.str "a b")) (tCons (tC (.str " a")) (tCons (tC (.str "a1")) (tCons (tC (.str "a_b")) (tCons (tC (.str "a\n")) (tCons (tC (.str "3")) (tCons (tC (.str "+a@3")) (tCons (tC (.str "zz")) (tCons (tLst (tNil)) (tCons (tLst (tCons (tC (.str "a")) (tNil))) (tCons (tLst (tCons (tC (.int 0)) (tNil))) (tCons (tTup (tNil)) (tCons (tTup (tCons (tC (.str "a")) (tNil))) (tCons (tTup (tCons (tC (.int 0)) (tNil))) (tCons (tDNewK) (tCons (tDct1 (tC (.str "a")) (tC (.int 0))) (tNil))))))))))))))))))) (gName 0)) (tRet (tOp uAdd (tVar 0) (tLst (tCons (tLst (tCons (tLst (tCons (tLst (tCons (tLst (tCons (tLst (tNil)) (tNil))) (tNil))) (tNil))) (tNil))) (tCons (tLst (tCons (tC .non) (tNil))) (tCons (tMkr P w K mg base "Inserted" 6 E (tCons (tC (.str "a")) (tCons (tC (.int 0)) (tNil)))) (tCons (tMkr P w K mg base "Record" 6 E (tCons (tC (.str "b")) (tCons (tC (.int 3)) (tNil)))) (tCons (tLst (tCons (tMkr P w K mg base "Fronted" 6 E (tCons (tC (.str "c")) (tCons (tC (.int 1)) (tNil)))) (tNil))) (tCons (tDct1 (tC (.str "a")) (tMkr P w K mg base "Removed" 6 E (tCons (tC (.str "a")) (tCons (tC (.int 0)) (tNil))))) (tNil)))))))))))
theorem d_law_things {P : Program} {w : World} {K : PySem.W.Frag} {mg : Str → Option Value} {base : Heap} {A : Ads} {f : Addr} {cdv : Value} {Ar : Around} {outer : List Env} {s : Shared} {H : Hp} {E : XK} (G : Gm P K mg A) (hr : Room 6 (Ar.deeper (envOfC "_law_things" (defScope s_law_things) s.heap.objs.size f cdv))) (qt : Quiet (Ar.deeper (envOfC "_law_things" (defScope s_law_things) s.heap.objs.size f cdv))) :
    PSs (cxOf (L2.CX P w) P w K mg base N_law_things "_law_things" (defScope s_law_things) f cdv Ar outer s H E) (defBody s_law_things) (t_law_things P w K mg base A fun _ => E) := by
  have sc := sc_law_things
  have tk : Takes (cxOf (L2.CX P w) P w K mg base N_law_things "_law_things" (defScope s_law_things) f cdv Ar outer s H E) (fun cls d _ H => E cls d H) := takes_of rfl rfl rfl rfl
  have at_ : At (cxOf (L2.CX P w) P w K mg base N_law_things "_law_things" (defScope s_law_things) f cdv Ar outer s H E) 6 (fun _ => E) := At.of hr qt tk
  have pn : PassesOwn (model P w) (cxOf (L2.CX P w) P w K mg base N_law_things "_law_things" (defScope s_law_things) f cdv Ar outer s H E).A (cxOf (L2.CX P w) P w K mg base N_law_things "_law_things" (defScope s_law_things) f cdv Ar outer s H E).env (cxOf (L2.CX P w) P w K mg base N_law_things "_law_things" (defScope s_law_things) f cdv Ar outer s H E).xe := passes_of rfl
  exact pss_cons (ps_set (i := 0) sc.nd rfl (by first | exact Or.inl rfl | exact Or.inr rfl) (pe_lst (pa_cons (pe_non) (pa_cons (pe_bl) (pa_cons (pe_bl) (pa_cons (pe_int) (pa_cons (pe_int) (pa_cons (pe_int) (pa_cons (pe_int) (pa_cons (pe_un un_uNeg (pe_int)) (pa_cons (pe_op op_uPow (pe_int) (pe_int)) (pa_cons (pe_op op_uSub (pe_int) (pe_op op_uPow (pe_int) (pe_int))) (pa_cons (pe_str) (pa_cons (pe_str) (pa_cons (pe_str) (pa_cons (pe_str) (pa_cons (pe_str) (pa_cons (pe_str) (pa_nil))))))))))))))))))) (pss_cons (ps_set (i := 0) sc.nd rfl (by first | exact Or.inl rfl | exact Or.inr rfl) (pe_op op_uAdd (pv 0) (pe_lst (pa_cons (pe_str) (pa_cons (pe_str) (pa_cons (pe_str) (pa_cons (pe_str) (pa_cons (pe_str) (pa_cons (pe_str) (pa_cons (pe_str) (pa_cons (pe_str) (pa_cons (pe_lst (pa_nil)) (pa_cons (pe_lst (pa_cons (pe_str) (pa_nil))) (pa_cons (pe_lst (pa_cons (pe_int) (pa_nil))) (pa_cons (pe_tup (pa_nil)) (pa_cons (pe_tup (pa_cons (pe_str) (pa_nil))) (pa_cons (pe_tup (pa_cons (pe_int) (pa_nil))) (pa_cons (pe_dnewK) (pa_cons (pe_dct1 (pe_str) (pe_int)) (pa_nil)))))))))))))))))))) (pss_one (ps_ret (pe_op op_uAdd (pv 0) (pe_lst (pa_cons (pe_lst (pa_cons (pe_lst (pa_cons (pe_lst (pa_cons (pe_lst (pa_cons (pe_lst (pa_nil)) (pa_nil))) (pa_nil))) (pa_nil))) (pa_nil))) (pa_cons (pe_lst (pa_cons (pe_non) (pa_nil))) (pa_cons (pe_mkr at_ (by rfl) (pa_cons (pe_str) (pa_cons (pe_int) (pa_nil)))) (pa_cons (pe_mkr at_ (by rfl) (pa_cons (pe_str) (pa_cons (pe_int) (pa_nil)))) (pa_cons (pe_lst (pa_cons (pe_mkr at_ (by rfl) (pa_cons (pe_str) (pa_cons (pe_int) (pa_nil)))) (pa_nil))) (pa_cons (pe_dct1 (pe_str) (pe_mkr at_ (by rfl) (pa_cons (pe_str) (pa_cons (pe_int) (pa_nil))))) (pa_nil))))))))))))
abbrev s_law_due : Stmt := top 38
abbrev N_law_due : List Str := ["_law_case", "_law_signs", "_law_row"]
abbrev ps_law_due : List Str := ["_law_case"]
theorem sc_law_due : FnScope N_law_due ["_law_case"] (defScope s_law_due) := ⟨rfl, rfl, rfl, by decide +kernel, rfl, by decide +kernel, by decide +kernel⟩
def t_law_due (P : Program) (w : World) (K : PySem.W.Frag) (mg : Str → Option Value) (base : Heap) (A : Ads) (E : XS) : TS :=
  tSeq (tIfS (tOr (tNot (tB (tCB (cIsi K) (tCons (tVar 0) (tCons (tC (.ty "list")) (tNil)))))) (tTest (tOp uGt (tCB (cLen K) (tCons (tVar 0) (tNil))) (tC (.int 40))))) (tRet (tC (.bl false))) (tNext)) (tSeq (tIfS (tTest (tOp (uNe K) (tLc (iList K (tVar 0)) (gName 2) (tNot (tB (tCB (cIsi K) (tCons (tVar 2) (tCons (tTup (tCons (tC (.ref A.cInserted)) (tCons (tC (.ref A.cRemoved)) (tCons (tC (.ref A.cFronted)) (tNil))))) (tNil)))))) (tC (.int 1)) [2]) (tLst (tNil)))) (tRet (tC (.bl false))) (tNext)) (tSeq (tAsg (tLc (iList K (tVar 0)) (gName 2) (tYes) (tSl rSlS (tGet P w K mg base "text" 6 (tVar 2)) (tNoPart) (tPart (tC (.int 1)))) [2]) (gName 1)) (tRet (tAndV (tOp (uEq K) (tVar 1) (tOp uMul (tSl (rSlL K) (tVar 1) (tNoPart) (tPart (tC (.int 1)))) (tCB (cLen K) (tCons (tVar 1) (tNil))))) (tOp (uEq K) (tLenSetT K (tLc (iList K (tVar 0)) (gName 2) (tYes) (tAtt P w K mg base "item" (tVar 2)) [2])) (tCB (cLen K) (tCons (tVar 0) (tNil))))))))
theorem d_law_due {P : Program} {w : World} {K : PySem.W.Frag} {mg : Str → Option Value} {base : Heap} {A : Ads} {f : Addr} {cdv : Value} {Ar : Around} {outer : List Env} {s : Shared} {H : Hp} {E : XK} (G : Gm P K mg A) (hr : Room 6 (Ar.deeper (envOfC "_law_due" (defScope s_law_due) s.heap.objs.size f cdv))) (qt : Quiet (Ar.deeper (envOfC "_law_due" (defScope s_law_due) s.heap.objs.size f cdv))) :
    PSs (cxOf (L2.CX P w) P w K mg base N_law_due "_law_due" (defScope s_law_due) f cdv Ar outer s H E) (defBody s_law_due) (t_law_due P w K mg base A fun _ => E) := by
  have sc := sc_law_due
  have tk : Takes (cxOf (L2.CX P w) P w K mg base N_law_due "_law_due" (defScope s_law_due) f cdv Ar outer s H E) (fun cls d _ H => E cls d H) := takes_of rfl rfl rfl rfl
  have at_ : At (cxOf (L2.CX P w) P w K mg base N_law_due "_law_due" (defScope s_law_due) f cdv Ar outer s H E) 6 (fun _ => E) := At.of hr qt tk
  have pn : PassesOwn (model P w) (cxOf (L2.CX P w) P w K mg base N_law_due "_law_due" (defScope s_law_due) f cdv Ar outer s H E).A (cxOf (L2.CX P w) P w K mg base N_law_due "_law_due" (defScope s_law_due) f cdv Ar outer s H E).env (cxOf (L2.CX P w) P w K mg base N_law_due "_law_due" (defScope s_law_due) f cdv Ar outer s H E).xe := passes_of rfl
  exact pss_cons (ps_if (PW.pt (pw_or (pt_not (pt_val (pe_callB call_cIsi (by rfl) G.g_isinstance (by decide +kernel) (pa_cons (pv 0) (pa_cons (pe_bltn (v := .ty "list") (by rfl) G.g_list (by decide +kernel) rfl) (pa_nil)))))) (pw_or1 (pt_cmpR op_uGt (pe_callB call_cLen (by rfl) G.g_len (by decide +kernel) (pa_cons (pv 0) (pa_nil))) (pe_int) (nomark _))))) (pss_one (ps_ret (pe_bl))) (pss_nil)) (pss_cons (ps_if (pt_cmpR (op_uNe hr) (pe_lc (own := [("_law_row", 2)]) (g := gName 2) (tt := tNot (tB (tCB (cIsi K) (tCons (tVar 2) (tCons (tTup (tCons (tC (.ref A.cInserted)) (tCons (tC (.ref A.cRemoved)) (tCons (tC (.ref A.cFronted)) (tNil))))) (tNil)))))) rfl sc.nd (pi_list (pv 0)) (blkOk_by (N := N_law_due) (sc := defScope s_law_due) (by decide +kernel)) (fun _ _ _ _ _ => pg_name (i := 2) sc.nd rfl (by first | exact Or.inl rfl | exact Or.inr rfl)) (fun _ _ _ _ _ => pts_one (pt_not (pt_val (pe_callB call_cIsi (by rfl) G.g_isinstance (by decide +kernel) (pa_cons (pv 2) (pa_cons (pe_tup (pa_cons (pe_g (by rfl) ⟨_, G.cInserted, rfl⟩) (pa_cons (pe_g (by rfl) ⟨_, G.cRemoved, rfl⟩) (pa_cons (pe_g (by rfl) ⟨_, G.cFronted, rfl⟩) (pa_nil))))) (pa_nil))))))) (fun _ _ _ _ _ => pe_int)) (pe_lst (pa_nil)) (nomark _)) (pss_one (ps_ret (pe_bl))) (pss_nil)) (pss_cons (ps_setLc (i := 1) (own := [("_law_row", 2)]) (g := gName 2) (tt := tYes) rfl sc.nd rfl rfl (sw_true rfl rfl rfl (by decide +kernel)) (pi_list (pv 0)) (blkOk_by (N := N_law_due) (sc := defScope s_law_due) (by decide +kernel)) (fun _ _ _ _ _ => pg_name (i := 2) sc.nd rfl (by first | exact Or.inl rfl | exact Or.inr rfl)) (fun _ _ _ _ _ => pts_nil) (fun _ _ _ _ _ => pe_slice sl_str (pe_get hr qt (pv 2)) (po_none) (po_some (pe_int)))) (pss_one (ps_ret (pe_and (pe_cmpR (op_uEq hr) (pv 1) (pe_op op_uMul (pe_slice sl_list (pv 1) (po_none) (po_some (pe_int))) (pe_callB call_cLen (by rfl) G.g_len (by decide +kernel) (pa_cons (pv 1) (pa_nil)))) (nomark _)) (pe_one (pe_cmpR (op_uEq hr) (pe_lenSetT (by rfl) G.g_len (by rfl) G.g_set (pe_lc (own := [("_law_row", 2)]) (g := gName 2) (tt := tYes) rfl sc.nd (pi_list (pv 0)) (blkOk_by (N := N_law_due) (sc := defScope s_law_due) (by decide +kernel)) (fun _ _ _ _ _ => pg_name (i := 2) sc.nd rfl (by first | exact Or.inl rfl | exact Or.inr rfl)) (fun _ _ _ _ _ => pts_nil) (fun _ _ _ _ _ => pe_att hr (pv 2)))) (pe_callB call_cLen (by rfl) G.g_len (by decide +kernel) (pa_cons (pv 0) (pa_nil))) (nomark _))))))))
abbrev s_law_right : Stmt := top 39
abbrev N_law_right : List Str := ["_law_case", "_law_due_here"]
abbrev ps_law_right : List Str := ["_law_case"]
theorem sc_law_right : FnScope N_law_right ["_law_case"] (defScope s_law_right) := ⟨rfl, rfl, rfl, by decide +kernel, rfl, by decide +kernel, by decide +kernel⟩
def t_law_right (P : Program) (w : World) (K : PySem.W.Frag) (mg : Str → Option Value) (base : Heap) (A : Ads) (E : XS) : TS :=
  tSeq (tAsg (tFn P w K mg base "_law_due" 7 E (tCons (tVar 0) (tNil))) (gName 1)) (tRet (tOp (uEq K) (tCB (cRepr K) (tCons (tLst (tCons (tFn P w K mg base "is_log" 7 E (tCons (tVar 0) (tNil))) (tCons (tFnK P w K mg base "is_log" ["thing"] 7 E (tCons (tVar 0) (tNil))) (tNil)))) (tNil))) (tCB (cRepr K) (tCons (tLst (tCons (tVar 1) (tCons (tVar 1) (tNil)))) (tNil)))))
theorem d_law_right {P : Program} {w : World} {K : PySem.W.Frag} {mg : Str → Option Value} {base : Heap} {A : Ads} {f : Addr} {cdv : Value} {Ar : Around} {outer : List Env} {s : Shared} {H : Hp} {E : XK} (G : Gm P K mg A) (hr : Room 7 (Ar.deeper (envOfC "_law_right" (defScope s_law_right) s.heap.objs.size f cdv))) (qt : Quiet (Ar.deeper (envOfC "_law_right" (defScope s_law_right) s.heap.objs.size f cdv))) :
    PSs (cxOf (L2.CX P w) P w K mg base N_law_right "_law_right" (defScope s_law_right) f cdv Ar outer s H E) (defBody s_law_right) (t_law_right P w K mg base A fun _ => E) := by
  have sc := sc_law_right
  have tk : Takes (cxOf (L2.CX P w) P w K mg base N_law_right "_law_right" (defScope s_law_right) f cdv Ar outer s H E) (fun cls d _ H => E cls d H) := takes_of rfl rfl rfl rfl
  have at_ : At (cxOf (L2.CX P w) P w K mg base N_law_right "_law_right" (defScope s_law_right) f cdv Ar outer s H E) 7 (fun _ => E) := At.of hr qt tk
  have pn : PassesOwn (model P w) (cxOf (L2.CX P w) P w K mg base N_law_right "_law_right" (defScope s_law_right) f cdv Ar outer s H E).A (cxOf (L2.CX P w) P w K mg base N_law_right "_law_right" (defScope s_law_right) f cdv Ar outer s H E).env (cxOf (L2.CX P w) P w K mg base N_law_right "_law_right" (defScope s_law_right) f cdv Ar outer s H E).xe := passes_of rfl
  exact pss_cons (ps_set (i := 1) sc.nd rfl (by first | exact Or.inl rfl | exact Or.inr rfl) (pe_fn at_ (by rfl) (pa_cons (pv 0) (pa_nil)))) (pss_one (ps_ret (pe_cmpR (op_uEq hr) (pe_callB (call_cRepr hr qt) (by rfl) G.g_repr (by decide +kernel) (pa_cons (pe_lst (pa_cons (pe_fn at_ (by rfl) (pa_cons (pv 0) (pa_nil))) (pa_cons (pe_fnK at_ (by rfl) (pk_cons (pv 0) (pk_nil))) (pa_nil)))) (pa_nil))) (pe_callB (call_cRepr hr qt) (by rfl) G.g_repr (by decide +kernel) (pa_cons (pe_lst (pa_cons (pv 1) (pa_cons (pv 1) (pa_nil)))) (pa_nil))) (nomark _))))
abbrev s_law_changed : Stmt := top 40
abbrev N_law_changed : List Str := ["_law_source_here", "_law_rows_here", "_law_parts", "_law_spot", "_law_way", "_law_some", "_law_odd", "_law_found", "_law_kind", "_law_name", "_law_place"]
abbrev ps_law_changed : List Str := ["_law_source_here", "_law_rows_here", "_law_parts"]
theorem sc_law_changed : FnScope N_law_changed ["_law_source_here", "_law_rows_here", "_law_parts"] (defScope s_law_changed) := ⟨rfl, rfl, rfl, by decide +kernel, rfl, by decide +kernel, by decide +kernel⟩
def t_law_changed (P : Program) (w : World) (K : PySem.W.Frag) (mg : Str → Option Value) (base : Heap) (A : Ads) (E : XS) : TS :=
  tSeq (tPar 3 4 (tCons (tFn P w K mg base "_law_pick" 6 E (tCons (tVar 0) (tCons (tOp uAdd (tCB (cLen K) (tCons (tVar 1) (tNil))) (tC (.int 1))) (tNil)))) (tCons (tFn P w K mg base "_law_pick" 6 E (tCons (tVar 0) (tCons (tC (.int 9)) (tNil)))) (tNil)))) (tSeq (tAsg (tLst (tCons (tC .non) (tCons (tC (.int 0)) (tCons (tC (.bl true)) (tCons (tC (.str "+a@0")) (tCons (tC (.str "a")) (tCons (tLst (tNil)) (tCons (tTup (tNil)) (tCons (tDNewK) (tCons (tTup (tCons (tC (.str "a")) (tCons (tC (.int 0)) (tNil)))) (tCons (tLst (tCons (tC (.str "a")) (tCons (tC (.int 0)) (tNil)))) (tNil)))))))))))) (gName 5)) (tSeq (tAsg (tLst (tCons (tOp (uIx K) (tVar 5) (tFn P w K mg base "_law_pick" 6 E (tCons (tVar 0) (tCons (tC (.int 10)) (tNil))))) (tCons (tMkr P w K mg base "Record" 6 E (tCons (tC (.str "zzz")) (tCons (tC (.int 0)) (tNil)))) (tCons (tMkr P w K mg base "Inserted" 6 E (tCons (tC (.str "zzz")) (tCons (tC (.int 0)) (tNil)))) (tCons (tMkr P w K mg base "Removed" 6 E (tCons (tC (.str "zzz")) (tCons (tC (.int 60)) (tNil)))) (tCons (tMkr P w K mg base "Fronted" 6 E (tCons (tC (.str "zzz")) (tCons (tC (.int 1)) (tNil)))) (tNil))))))) (gName 6)) (tSeq (tAsg (tOp uAdd (tOp uAdd (tSl (rSlL K) (tVar 1) (tNoPart) (tPart (tVar 3))) (tLst (tCons (tOp (uIx K) (tVar 6) (tOp uMod (tVar 4) (tC (.int 5)))) (tNil)))) (tSl (rSlL K) (tVar 1) (tPart (tVar 3)) (tNoPart))) (gName 7)) (tSeq (tIfS (tAnd (tTest (tOp uGt (tVar 4) (tC (.int 5)))) (tTest (tOp (uNe K) (tVar 1) (tLst (tNil))))) (tSeq (tAsg (tOp (uIx K) (tVar 2) (tFn P w K mg base "_law_pick" 6 E (tCons (tVar 0) (tCons (tCB (cLen K) (tCons (tVar 2) (tNil))) (tNil))))) (gTup K 3 (gCons (gName 8) (gCons (gName 9) (gCons (gName 10) (gNil)))))) (tAsg (tOp uAdd (tOp uAdd (tSl (rSlL K) (tVar 1) (tNoPart) (tPart (tVar 3))) (tLst (tCons (tOp (uIx K) (tLst (tCons (tFn P w K mg base "_law_make" 6 E (tCons (tVar 8) (tCons (tVar 9) (tCons (tOp uSub (tC (.int 60)) (tVar 10)) (tNil))))) (tCons (tOp (uIx K) (tVar 1) (tC (.int 0))) (tCons (tOp (uIx K) (tVar 1) (tUn uNeg (tC (.int 1)))) (tNil))))) (tOp uSub (tVar 4) (tC (.int 6)))) (tNil)))) (tSl (rSlL K) (tVar 1) (tPart (tVar 3)) (tNoPart))) (gName 7))) (tNext)) (tRet (tVar 7))))))
theorem d_law_changed {P : Program} {w : World} {K : PySem.W.Frag} {mg : Str → Option Value} {base : Heap} {A : Ads} {f : Addr} {cdv : Value} {Ar : Around} {outer : List Env} {s : Shared} {H : Hp} {E : XK} (G : Gm P K mg A) (hr : Room 6 (Ar.deeper (envOfC "_law_changed" (defScope s_law_changed) s.heap.objs.size f cdv))) (qt : Quiet (Ar.deeper (envOfC "_law_changed" (defScope s_law_changed) s.heap.objs.size f cdv))) :
    PSs (cxOf (L2.CX P w) P w K mg base N_law_changed "_law_changed" (defScope s_law_changed) f cdv Ar outer s H E) (defBody s_law_changed) (t_law_changed P w K mg base A fun _ => E) := by
  have sc := sc_law_changed
  have tk : Takes (cxOf (L2.CX P w) P w K mg base N_law_changed "_law_changed" (defScope s_law_changed) f cdv Ar outer s H E) (fun cls d _ H => E cls d H) := takes_of rfl rfl rfl rfl
  have at_ : At (cxOf (L2.CX P w) P w K mg base N_law_changed "_law_changed" (defScope s_law_changed) f cdv Ar outer s H E) 6 (fun _ => E) := At.of hr qt tk
  have pn : PassesOwn (model P w) (cxOf (L2.CX P w) P w K mg base N_law_changed "_law_changed" (defScope s_law_changed) f cdv Ar outer s H E).A (cxOf (L2.CX P w) P w K mg base N_law_changed "_law_changed" (defScope s_law_changed) f cdv Ar outer s H E).env (cxOf (L2.CX P w) P w K mg base N_law_changed "_law_changed" (defScope s_law_changed) f cdv Ar outer s H E).xe := passes_of rfl
  exact pss_cons (ps_par rfl sc.nd rfl rfl (by decide) rfl rfl (pa_cons (pe_fn at_ (by rfl) (pa_cons (pv 0) (pa_cons (pe_op op_uAdd (pe_callB call_cLen (by rfl) G.g_len (by decide +kernel) (pa_cons (pv 1) (pa_nil))) (pe_int)) (pa_nil)))) (pa_cons (pe_fn at_ (by rfl) (pa_cons (pv 0) (pa_cons (pe_int) (pa_nil)))) (pa_nil))) (by rfl)) (pss_cons (ps_set (i := 5) sc.nd rfl (by first | exact Or.inl rfl | exact Or.inr rfl) (pe_lst (pa_cons (pe_non) (pa_cons (pe_int) (pa_cons (pe_bl) (pa_cons (pe_str) (pa_cons (pe_str) (pa_cons (pe_lst (pa_nil)) (pa_cons (pe_tup (pa_nil)) (pa_cons (pe_dnewK) (pa_cons (pe_tup (pa_cons (pe_str) (pa_cons (pe_int) (pa_nil)))) (pa_cons (pe_lst (pa_cons (pe_str) (pa_cons (pe_int) (pa_nil)))) (pa_nil))))))))))))) (pss_cons (ps_set (i := 6) sc.nd rfl (by first | exact Or.inl rfl | exact Or.inr rfl) (pe_lst (pa_cons (pe_ix ix_u (pv 5) (pe_fn at_ (by rfl) (pa_cons (pv 0) (pa_cons (pe_int) (pa_nil)))) (fun _ _ => rfl)) (pa_cons (pe_mkr at_ (by rfl) (pa_cons (pe_str) (pa_cons (pe_int) (pa_nil)))) (pa_cons (pe_mkr at_ (by rfl) (pa_cons (pe_str) (pa_cons (pe_int) (pa_nil)))) (pa_cons (pe_mkr at_ (by rfl) (pa_cons (pe_str) (pa_cons (pe_int) (pa_nil)))) (pa_cons (pe_mkr at_ (by rfl) (pa_cons (pe_str) (pa_cons (pe_int) (pa_nil)))) (pa_nil)))))))) (pss_cons (ps_set (i := 7) sc.nd rfl (by first | exact Or.inl rfl | exact Or.inr rfl) (pe_op op_uAdd (pe_op op_uAdd (pe_slice sl_list (pv 1) (po_none) (po_some (pv 3))) (pe_lst (pa_cons (pe_ix ix_u (pv 6) (pe_op op_uMod (pv 4) (pe_int)) (fun _ _ => rfl)) (pa_nil)))) (pe_slice sl_list (pv 1) (po_some (pv 3)) (po_none)))) (pss_cons (ps_if (PW.pt (pw_and (pt_cmpR op_uGt (pv 4) (pe_int) (nomark _)) (pw_and1 (pt_cmpR (op_uNe hr) (pv 1) (pe_lst (pa_nil)) (nomark _))))) (pss_cons (ps_asg (pe_ix ix_u (pv 2) (pe_fn at_ (by rfl) (pa_cons (pv 0) (pa_cons (pe_callB call_cLen (by rfl) G.g_len (by decide +kernel) (pa_cons (pv 2) (pa_nil))) (pa_nil)))) (fun _ _ => rfl)) (pg_tup rfl (pgs_cons (pg_name (i := 8) sc.nd rfl (by first | exact Or.inl rfl | exact Or.inr rfl)) (pgs_cons (pg_name (i := 9) sc.nd rfl (by first | exact Or.inl rfl | exact Or.inr rfl)) (pgs_cons (pg_name (i := 10) sc.nd rfl (by first | exact Or.inl rfl | exact Or.inr rfl)) (pgs_nil)))))) (pss_one (ps_set (i := 7) sc.nd rfl (by first | exact Or.inl rfl | exact Or.inr rfl) (pe_op op_uAdd (pe_op op_uAdd (pe_slice sl_list (pv 1) (po_none) (po_some (pv 3))) (pe_lst (pa_cons (pe_ix ix_u (pe_lst (pa_cons (pe_fn at_ (by rfl) (pa_cons (pv 8) (pa_cons (pv 9) (pa_cons (pe_op op_uSub (pe_int) (pv 10)) (pa_nil))))) (pa_cons (pe_ix ix_u (pv 1) (pe_int) (fun _ _ => rfl)) (pa_cons (pe_ix ix_u (pv 1) (pe_un un_uNeg (pe_int)) (fun _ _ => rfl)) (pa_nil))))) (pe_op op_uSub (pv 4) (pe_int)) (fun _ _ => rfl)) (pa_nil)))) (pe_slice sl_list (pv 1) (po_some (pv 3)) (po_none)))))) (pss_nil)) (pss_one (ps_ret (pv 7)))))))
abbrev s_law_texts : Stmt := top 41
abbrev N_law_texts : List Str := ["_law_rows_here", "_law_row"]
abbrev ps_law_texts : List Str := ["_law_rows_here"]
theorem sc_law_texts : FnScope N_law_texts ["_law_rows_here"] (defScope s_law_texts) := ⟨rfl, rfl, rfl, by decide +kernel, rfl, by decide +kernel, by decide +kernel⟩
def t_law_texts (P : Program) (w : World) (K : PySem.W.Frag) (mg : Str → Option Value) (base : Heap) (A : Ads) (E : XS) : TS :=
  tRet (tLc (iList K (tVar 0)) (gName 1) (tYes) (tGet P w K mg base "text" 6 (tVar 1)) [1])
theorem d_law_texts {P : Program} {w : World} {K : PySem.W.Frag} {mg : Str → Option Value} {base : Heap} {A : Ads} {f : Addr} {cdv : Value} {Ar : Around} {outer : List Env} {s : Shared} {H : Hp} {E : XK} (G : Gm P K mg A) (hr : Room 6 (Ar.deeper (envOfC "_law_texts" (defScope s_law_texts) s.heap.objs.size f cdv))) (qt : Quiet (Ar.deeper (envOfC "_law_texts" (defScope s_law_texts) s.heap.objs.size f cdv))) :
    PSs (cxOf (L2.CX P w) P w K mg base N_law_texts "_law_texts" (defScope s_law_texts) f cdv Ar outer s H E) (defBody s_law_texts) (t_law_texts P w K mg base A fun _ => E) := by
  have sc := sc_law_texts
  have tk : Takes (cxOf (L2.CX P w) P w K mg base N_law_texts "_law_texts" (defScope s_law_texts) f cdv Ar outer s H E) (fun cls d _ H => E cls d H) := takes_of rfl rfl rfl rfl
  have at_ : At (cxOf (L2.CX P w) P w K mg base N_law_texts "_law_texts" (defScope s_law_texts) f cdv Ar outer s H E) 6 (fun _ => E) := At.of hr qt tk
  have pn : PassesOwn (model P w) (cxOf (L2.CX P w) P w K mg base N_law_texts "_law_texts" (defScope s_law_texts) f cdv Ar outer s H E).A (cxOf (L2.CX P w) P w K mg base N_law_texts "_law_texts" (defScope s_law_texts) f cdv Ar outer s H E).env (cxOf (L2.CX P w) P w K mg base N_law_texts "_law_texts" (defScope s_law_texts) f cdv Ar outer s H E).xe := passes_of rfl
  exact pss_one (ps_ret (pe_lc (own := [("_law_row", 1)]) (g := gName 1) (tt := tYes) rfl sc.nd (pi_list (pv 0)) (blkOk_by (N := N_law_texts) (sc := defScope s_law_texts) (by decide +kernel)) (fun _ _ _ _ _ => pg_name (i := 1) sc.nd rfl (by first | exact Or.inl rfl | exact Or.inr rfl)) (fun _ _ _ _ _ => pts_nil) (fun _ _ _ _ _ => pe_get hr qt (pv 1))))
abbrev s_law : Stmt := top 42
abbrev N_law : List Str := ["_law_script", "_law_k", "_law_source_here", "_law_turn", "_law_parts", "_law_rows_here", "_law_told", "_law_some", "_law_case"]
abbrev ps_law : List Str := ["_law_script"]
theorem sc_law : FnScope N_law ["_law_script"] (defScope s_law) := ⟨rfl, rfl, rfl, by decide +kernel, rfl, by decide +kernel, by decide +kernel⟩
def t_law (P : Program) (w : World) (K : PySem.W.Frag) (mg : Str → Option Value) (base : Heap) (A : Ads) (E : XS) : TS :=
  tSeq (tFor (iRng1 (tCons (tCB (cMax K) (tCons (tC (.int 1)) (tCons (tCB (cMin K) (tCons (tC (.int 8)) (tCons (tCB (cLen K) (tCons (tVar 0) (tNil))) (tNil)))) (tNil)))) (tNil))) (gName 1) (tSeq (tAsg (tFn P w K mg base "_law_source" 8 E (tCons (tVar 0) (tCons (tVar 1) (tNil)))) (gName 2)) (tFor (iRng1 (tCons (tC (.int 10)) (tNil))) (gName 3) (tSeq (tAsg (tFn P w K mg base "_law_log" 8 E (tCons (tVar 2) (tCons (tC (.int 41)) (tNil)))) (gName 4)) (tSeq (tAsg (tFn P w K mg base "_law_rows" 8 E (tCons (tVar 4) (tNil))) (gName 5)) (tSeq (tAsg (tFn P w K mg base "_law_texts" 8 E (tCons (tVar 5) (tNil))) (gName 6)) (tSeq (tAsg (tLst (tCons (tVar 5) (tCons (tRevL K (tVar 5)) (tCons (tFn P w K mg base "_law_changed" 8 E (tCons (tVar 2) (tCons (tVar 5) (tCons (tVar 4) (tNil))))) (tCons (tSl (rSlL K) (tVar 5) (tNoPart) (tPart (tC (.int 40)))) (tCons (tSl (rSlL K) (tVar 5) (tPart (tC (.int 1))) (tNoPart)) (tCons (tCB (cTuple K) (tCons (tVar 5) (tNil))) (tCons (tLst (tCons (tVar 5) (tNil))) (tNil))))))))) (gName 7)) (tSeq (tAsg (tOp uAdd (tVar 7) (tLst (tCons (tOp uAdd (tVar 5) (tVar 5)) (tCons (tFn P w K mg base "_law_changed" 8 E (tCons (tVar 2) (tCons (tSl (rSlL K) (tVar 5) (tNoPart) (tPart (tC (.int 39)))) (tCons (tSl (rSlL K) (tVar 4) (tNoPart) (tPart (tC (.int 39)))) (tNil))))) (tCons (tDct1 (tC (.str "a")) (tVar 5)) (tCons (tOp uAdd (tVar 5) (tLst (tCons (tC .non) (tNil)))) (tNil))))))) (gName 7)) (tIfS (tOr (tTest (tOp (uNe K) (tLc (iList K (tVar 7)) (gName 8) (tNot (tB (tFn P w K mg base "_law_right" 8 E0s (tCons (tVar 8) (tNil))))) (tVar 8) [8]) (tLst (tNil)))) (tTest (tOp (uNe K) (tFn P w K mg base "_law_texts" 8 E (tCons (tVar 5) (tNil))) (tVar 6)))) (tRet (tC (.bl false))) (tNext)))))))))) (tSeq (tAsg (tFn P w K mg base "_law_things" 8 E (tNil)) (gName 7)) (tSeq (tIfS (tTest (tOp (uNe K) (tLc (iList K (tVar 7)) (gName 8) (tOr (tNot (tB (tFn P w K mg base "_law_right" 8 E0s (tCons (tVar 8) (tNil))))) (tNot (tB (tFn P w K mg base "_law_right" 8 E0s (tCons (tLst (tCons (tVar 8) (tNil))) (tNil)))))) (tVar 8) [8]) (tLst (tNil)))) (tRet (tC (.bl false))) (tNext)) (tRet (tAndV (tOp uIsB (tFn P w K mg base "is_log" 8 E (tCons (tLst (tNil)) (tNil))) (tC (.bl true))) (tOp uIsB (tFn P w K mg base "is_log" 8 E (tCons (tLst (tCons (tMkr P w K mg base "Inserted" 8 E (tCons (tC (.str "x")) (tCons (tC (.int 1)) (tNil)))) (tCons (tMkr P w K mg base "Removed" 8 E (tCons (tC (.str "y")) (tCons (tC (.int 0)) (tNil)))) (tNil)))) (tNil))) (tC (.bl false)))))))
theorem d_law {P : Program} {w : World} {K : PySem.W.Frag} {mg : Str → Option Value} {base : Heap} {A : Ads} {f : Addr} {cdv : Value} {Ar : Around} {outer : List Env} {s : Shared} {H : Hp} {E : XK} (G : Gm P K mg A) (hr : Room 8 (Ar.deeper (envOfC "law" (defScope s_law) s.heap.objs.size f cdv))) (qt : Quiet (Ar.deeper (envOfC "law" (defScope s_law) s.heap.objs.size f cdv))) :
    PSs (cxOf (L2.CX P w) P w K mg base N_law "law" (defScope s_law) f cdv Ar outer s H E) (defBody s_law) (t_law P w K mg base A fun _ => E) := by
  have sc := sc_law
  have tk : Takes (cxOf (L2.CX P w) P w K mg base N_law "law" (defScope s_law) f cdv Ar outer s H E) (fun cls d _ H => E cls d H) := takes_of rfl rfl rfl rfl
  have at_ : At (cxOf (L2.CX P w) P w K mg base N_law "law" (defScope s_law) f cdv Ar outer s H E) 8 (fun _ => E) := At.of hr qt tk
  have pn : PassesOwn (model P w) (cxOf (L2.CX P w) P w K mg base N_law "law" (defScope s_law) f cdv Ar outer s H E).A (cxOf (L2.CX P w) P w K mg base N_law "law" (defScope s_law) f cdv Ar outer s H E).env (cxOf (L2.CX P w) P w K mg base N_law "law" (defScope s_law) f cdv Ar outer s H E).xe := passes_of rfl
  exact pss_cons (ps_for pn rfl (pi_range1 (by rfl) G.g_range (pa_cons (pe_callB (call_cMax rfl) (by rfl) G.g_max (by decide +kernel) (pa_cons (pe_int) (pa_cons (pe_callB (call_cMin rfl) (by rfl) G.g_min (by decide +kernel) (pa_cons (pe_int) (pa_cons (pe_callB call_cLen (by rfl) G.g_len (by decide +kernel) (pa_cons (pv 0) (pa_nil))) (pa_nil)))) (pa_nil)))) (pa_nil))) (pg_name (i := 1) sc.nd rfl (by first | exact Or.inl rfl | exact Or.inr rfl)) (pss_cons (ps_set (i := 2) sc.nd rfl (by first | exact Or.inl rfl | exact Or.inr rfl) (pe_fn at_ (by rfl) (pa_cons (pv 0) (pa_cons (pv 1) (pa_nil))))) (pss_one (ps_for pn rfl (pi_range1 (by rfl) G.g_range (pa_cons (pe_int) (pa_nil))) (pg_name (i := 3) sc.nd rfl (by first | exact Or.inl rfl | exact Or.inr rfl)) (pss_cons (ps_set (i := 4) sc.nd rfl (by first | exact Or.inl rfl | exact Or.inr rfl) (pe_fn at_ (by rfl) (pa_cons (pv 2) (pa_cons (pe_int) (pa_nil))))) (pss_cons (ps_set (i := 5) sc.nd rfl (by first | exact Or.inl rfl | exact Or.inr rfl) (pe_fn at_ (by rfl) (pa_cons (pv 4) (pa_nil)))) (pss_cons (ps_set (i := 6) sc.nd rfl (by first | exact Or.inl rfl | exact Or.inr rfl) (pe_fn at_ (by rfl) (pa_cons (pv 5) (pa_nil)))) (pss_cons (ps_set (i := 7) sc.nd rfl (by first | exact Or.inl rfl | exact Or.inr rfl) (pe_lst (pa_cons (pv 5) (pa_cons (pe_revL (pv 5)) (pa_cons (pe_fn at_ (by rfl) (pa_cons (pv 2) (pa_cons (pv 5) (pa_cons (pv 4) (pa_nil))))) (pa_cons (pe_slice sl_list (pv 5) (po_none) (po_some (pe_int))) (pa_cons (pe_slice sl_list (pv 5) (po_some (pe_int)) (po_none)) (pa_cons (pe_callTy call_cTuple (by rfl) G.g_tuple (by decide +kernel) (pa_cons (pv 5) (pa_nil))) (pa_cons (pe_lst (pa_cons (pv 5) (pa_nil))) (pa_nil)))))))))) (pss_cons (ps_set (i := 7) sc.nd rfl (by first | exact Or.inl rfl | exact Or.inr rfl) (pe_op op_uAdd (pv 7) (pe_lst (pa_cons (pe_op op_uAdd (pv 5) (pv 5)) (pa_cons (pe_fn at_ (by rfl) (pa_cons (pv 2) (pa_cons (pe_slice sl_list (pv 5) (po_none) (po_some (pe_int))) (pa_cons (pe_slice sl_list (pv 4) (po_none) (po_some (pe_int))) (pa_nil))))) (pa_cons (pe_dct1 (pe_str) (pv 5)) (pa_cons (pe_op op_uAdd (pv 5) (pe_lst (pa_cons (pe_non) (pa_nil)))) (pa_nil)))))))) (pss_one (ps_if (PW.pt (pw_or (pt_cmpR (op_uNe hr) (pe_lc (own := [("_law_case", 8)]) (g := gName 8) (tt := tNot (tB (tFn P w K mg base "_law_right" 8 E0s (tCons (tVar 8) (tNil))))) rfl sc.nd (pi_list (pv 7)) (blkOk_by (N := N_law) (sc := defScope s_law) (by decide +kernel)) (fun _ _ _ _ _ => pg_name (i := 8) sc.nd rfl (by first | exact Or.inl rfl | exact Or.inr rfl)) (fun _ _ _ _ _ => pts_one (pt_not (pt_val (pe_fn (At.e0 hr qt) (by rfl) (pa_cons (pv 8) (pa_nil)))))) (fun _ _ _ _ _ => pv 8)) (pe_lst (pa_nil)) (nomark _)) (pw_or1 (pt_cmpR (op_uNe hr) (pe_fn at_ (by rfl) (pa_cons (pv 5) (pa_nil))) (pv 6) (nomark _))))) (pss_one (ps_ret (pe_bl))) (pss_nil)))))))))))) (pss_cons (ps_set (i := 7) sc.nd rfl (by first | exact Or.inl rfl | exact Or.inr rfl) (pe_fn0 at_ (by rfl))) (pss_cons (ps_if (pt_cmpR (op_uNe hr) (pe_lc (own := [("_law_case", 8)]) (g := gName 8) (tt := tOr (tNot (tB (tFn P w K mg base "_law_right" 8 E0s (tCons (tVar 8) (tNil))))) (tNot (tB (tFn P w K mg base "_law_right" 8 E0s (tCons (tLst (tCons (tVar 8) (tNil))) (tNil)))))) rfl sc.nd (pi_list (pv 7)) (blkOk_by (N := N_law) (sc := defScope s_law) (by decide +kernel)) (fun _ _ _ _ _ => pg_name (i := 8) sc.nd rfl (by first | exact Or.inl rfl | exact Or.inr rfl)) (fun _ _ _ _ _ => pts_one (PW.pt (pw_or (pt_not (pt_val (pe_fn (At.e0 hr qt) (by rfl) (pa_cons (pv 8) (pa_nil))))) (pw_or1 (pt_not (pt_val (pe_fn (At.e0 hr qt) (by rfl) (pa_cons (pe_lst (pa_cons (pv 8) (pa_nil))) (pa_nil))))))))) (fun _ _ _ _ _ => pv 8)) (pe_lst (pa_nil)) (nomark _)) (pss_one (ps_ret (pe_bl))) (pss_nil)) (pss_one (ps_ret (pe_and (pe_cmpR op_uIsB (pe_fn at_ (by rfl) (pa_cons (pe_lst (pa_nil)) (pa_nil))) (pe_bl) (nomark _)) (pe_one (pe_cmpR op_uIsB (pe_fn at_ (by rfl) (pa_cons (pe_lst (pa_cons (pe_mkr at_ (by rfl) (pa_cons (pe_str) (pa_cons (pe_int) (pa_nil)))) (pa_cons (pe_mkr at_ (by rfl) (pa_cons (pe_str) (pa_cons (pe_int) (pa_nil)))) (pa_nil)))) (pa_nil))) (pe_bl) (nomark _))))))))
abbrev s_Record_item : Stmt := inClass (top 17) 4
theorem sc_Record_item : FnScope ["self"] ["self"] (defScope s_Record_item) := ⟨rfl, rfl, rfl, by decide +kernel, rfl, by decide +kernel, by decide +kernel⟩
abbrev s_Record_slot : Stmt := inClass (top 17) 5
theorem sc_Record_slot : FnScope ["self"] ["self"] (defScope s_Record_slot) := ⟨rfl, rfl, rfl, by decide +kernel, rfl, by decide +kernel, by decide +kernel⟩
structure Tx (P : Program) (K : PySem.W.Frag) (mg : Str → Option Value) (A : Ads) : Prop where
  G : Gm P K mg A
  cls_Inserted : Cls K A.cInserted
  ty_Inserted : InsTy K A.cInserted
  made_Inserted : Dk K mg "Inserted" A.cInserted "Record.__init__" s_Record_init ["self", "item", "slot"]
  n_Inserted_held_item : NoAttr K A.cInserted "held_item"
  n_Inserted_held_slot : NoAttr K A.cInserted "held_slot"
  con_Inserted_SIGN : ∃ u, Con K A.cInserted "SIGN" (.str "+") u
  prop_Inserted_item : ∃ p g fd, PropOf K A.cInserted "item" p g ∧ Fun K "item" "Record.item" s_Record_item g fd ∧ Binds K fd ["self"] []
  prop_Inserted_slot : ∃ p g fd, PropOf K A.cInserted "slot" p g ∧ Fun K "slot" "Record.slot" s_Record_slot g fd ∧ Binds K fd ["self"] []
  prop_Inserted_text : ∃ p g fd, PropOf K A.cInserted "text" p g ∧ Fun K "text" "Record.text" s_Record_text g fd ∧ Binds K fd ["self"] []
  m_Inserted_told : SupM P K mg A.cInserted "told" "Inserted.told" "Record.told" s_Inserted_told s_Record_told ["self"] ps_Record_told
  cls_Removed : Cls K A.cRemoved
  ty_Removed : InsTy K A.cRemoved
  made_Removed : Dk K mg "Removed" A.cRemoved "Record.__init__" s_Record_init ["self", "item", "slot"]
  n_Removed_held_item : NoAttr K A.cRemoved "held_item"
  n_Removed_held_slot : NoAttr K A.cRemoved "held_slot"
  con_Removed_SIGN : ∃ u, Con K A.cRemoved "SIGN" (.str "-") u
  prop_Removed_item : ∃ p g fd, PropOf K A.cRemoved "item" p g ∧ Fun K "item" "Record.item" s_Record_item g fd ∧ Binds K fd ["self"] []
  prop_Removed_slot : ∃ p g fd, PropOf K A.cRemoved "slot" p g ∧ Fun K "slot" "Record.slot" s_Record_slot g fd ∧ Binds K fd ["self"] []
  prop_Removed_text : ∃ p g fd, PropOf K A.cRemoved "text" p g ∧ Fun K "text" "Record.text" s_Record_text g fd ∧ Binds K fd ["self"] []
  m_Removed_told : SupM P K mg A.cRemoved "told" "Removed.told" "Record.told" s_Removed_told s_Record_told ["self"] ps_Record_told
  cls_Fronted : Cls K A.cFronted
  ty_Fronted : InsTy K A.cFronted
  made_Fronted : Dk K mg "Fronted" A.cFronted "Record.__init__" s_Record_init ["self", "item", "slot"]
  n_Fronted_held_item : NoAttr K A.cFronted "held_item"
  n_Fronted_held_slot : NoAttr K A.cFronted "held_slot"
  con_Fronted_SIGN : ∃ u, Con K A.cFronted "SIGN" (.str "^") u
  prop_Fronted_item : ∃ p g fd, PropOf K A.cFronted "item" p g ∧ Fun K "item" "Record.item" s_Record_item g fd ∧ Binds K fd ["self"] []
  prop_Fronted_slot : ∃ p g fd, PropOf K A.cFronted "slot" p g ∧ Fun K "slot" "Record.slot" s_Record_slot g fd ∧ Binds K fd ["self"] []
  prop_Fronted_text : ∃ p g fd, PropOf K A.cFronted "text" p g ∧ Fun K "text" "Record.text" s_Record_text g fd ∧ Binds K fd ["self"] []
  m_Fronted_told : SupM P K mg A.cFronted "told" "Fronted.told" "Record.told" s_Fronted_told s_Record_told ["self"] ps_Record_told
  cls_Record : Cls K A.cRecord
  ty_Record : InsTy K A.cRecord
  made_Record : Dk K mg "Record" A.cRecord "Record.__init__" s_Record_init ["self", "item", "slot"]
  n_Record_held_item : NoAttr K A.cRecord "held_item"
  n_Record_held_slot : NoAttr K A.cRecord "held_slot"
  con_Record_SIGN : ∃ u, Con K A.cRecord "SIGN" (.str "") u
  prop_Record_item : ∃ p g fd, PropOf K A.cRecord "item" p g ∧ Fun K "item" "Record.item" s_Record_item g fd ∧ Binds K fd ["self"] []
  prop_Record_slot : ∃ p g fd, PropOf K A.cRecord "slot" p g ∧ Fun K "slot" "Record.slot" s_Record_slot g fd ∧ Binds K fd ["self"] []
  prop_Record_text : ∃ p g fd, PropOf K A.cRecord "text" p g ∧ Fun K "text" "Record.text" s_Record_text g fd ∧ Binds K fd ["self"] []
  m_Record_told : Dm K A.cRecord "told" "Record.told" s_Record_told ["self"]
  cv_Record_MOST : ∃ mc u, CRead K A.cRecord mc ∧ CVal K A.cRecord mc "MOST" (.int 60) u
  k_Inserted_Inserted : PySem.W.kitOne K (.ref A.cInserted) (.ref A.cInserted) = some true
  k_Inserted_Removed : PySem.W.kitOne K (.ref A.cInserted) (.ref A.cRemoved) = some false
  k_Inserted_Fronted : PySem.W.kitOne K (.ref A.cInserted) (.ref A.cFronted) = some false
  k_Inserted_Record : PySem.W.kitOne K (.ref A.cInserted) (.ref A.cRecord) = some true
  k_Removed_Inserted : PySem.W.kitOne K (.ref A.cRemoved) (.ref A.cInserted) = some false
  k_Removed_Removed : PySem.W.kitOne K (.ref A.cRemoved) (.ref A.cRemoved) = some true
  k_Removed_Fronted : PySem.W.kitOne K (.ref A.cRemoved) (.ref A.cFronted) = some false
  k_Removed_Record : PySem.W.kitOne K (.ref A.cRemoved) (.ref A.cRecord) = some true
  k_Fronted_Inserted : PySem.W.kitOne K (.ref A.cFronted) (.ref A.cInserted) = some false
  k_Fronted_Removed : PySem.W.kitOne K (.ref A.cFronted) (.ref A.cRemoved) = some false
  k_Fronted_Fronted : PySem.W.kitOne K (.ref A.cFronted) (.ref A.cFronted) = some true
  k_Fronted_Record : PySem.W.kitOne K (.ref A.cFronted) (.ref A.cRecord) = some true
  k_Record_Inserted : PySem.W.kitOne K (.ref A.cRecord) (.ref A.cInserted) = some false
  k_Record_Removed : PySem.W.kitOne K (.ref A.cRecord) (.ref A.cRemoved) = some false
  k_Record_Fronted : PySem.W.kitOne K (.ref A.cRecord) (.ref A.cFronted) = some false
  k_Record_Record : PySem.W.kitOne K (.ref A.cRecord) (.ref A.cRecord) = some true
  so_Inserted_list : PySem.W.kitOne K (.ref A.cInserted) (.type "list") = some false
  so_Removed_list : PySem.W.kitOne K (.ref A.cRemoved) (.type "list") = some false
  so_Fronted_list : PySem.W.kitOne K (.ref A.cFronted) (.type "list") = some false
  so_Record_list : PySem.W.kitOne K (.ref A.cRecord) (.type "list") = some false
  bo_NoneType_Inserted : PySem.W.kitOne K (.type "NoneType") (.ref A.cInserted) = some false
  bo_NoneType_Removed : PySem.W.kitOne K (.type "NoneType") (.ref A.cRemoved) = some false
  bo_NoneType_Fronted : PySem.W.kitOne K (.type "NoneType") (.ref A.cFronted) = some false
  bo_NoneType_Record : PySem.W.kitOne K (.type "NoneType") (.ref A.cRecord) = some false
  bo_bool_Inserted : PySem.W.kitOne K (.type "bool") (.ref A.cInserted) = some false
  bo_bool_Removed : PySem.W.kitOne K (.type "bool") (.ref A.cRemoved) = some false
  bo_bool_Fronted : PySem.W.kitOne K (.type "bool") (.ref A.cFronted) = some false
  bo_bool_Record : PySem.W.kitOne K (.type "bool") (.ref A.cRecord) = some false
  bo_int_Inserted : PySem.W.kitOne K (.type "int") (.ref A.cInserted) = some false
  bo_int_Removed : PySem.W.kitOne K (.type "int") (.ref A.cRemoved) = some false
  bo_int_Fronted : PySem.W.kitOne K (.type "int") (.ref A.cFronted) = some false
  bo_int_Record : PySem.W.kitOne K (.type "int") (.ref A.cRecord) = some false
  bo_str_Inserted : PySem.W.kitOne K (.type "str") (.ref A.cInserted) = some false
  bo_str_Removed : PySem.W.kitOne K (.type "str") (.ref A.cRemoved) = some false
  bo_str_Fronted : PySem.W.kitOne K (.type "str") (.ref A.cFronted) = some false
  bo_str_Record : PySem.W.kitOne K (.type "str") (.ref A.cRecord) = some false
  bo_list_Inserted : PySem.W.kitOne K (.type "list") (.ref A.cInserted) = some false
  bo_list_Removed : PySem.W.kitOne K (.type "list") (.ref A.cRemoved) = some false
  bo_list_Fronted : PySem.W.kitOne K (.type "list") (.ref A.cFronted) = some false
  bo_list_Record : PySem.W.kitOne K (.type "list") (.ref A.cRecord) = some false
  bo_tuple_Inserted : PySem.W.kitOne K (.type "tuple") (.ref A.cInserted) = some false
  bo_tuple_Removed : PySem.W.kitOne K (.type "tuple") (.ref A.cRemoved) = some false
  bo_tuple_Fronted : PySem.W.kitOne K (.type "tuple") (.ref A.cFronted) = some false
  bo_tuple_Record : PySem.W.kitOne K (.type "tuple") (.ref A.cRecord) = some false
  bo_dict_Inserted : PySem.W.kitOne K (.type "dict") (.ref A.cInserted) = some false
  bo_dict_Removed : PySem.W.kitOne K (.type "dict") (.ref A.cRemoved) = some false
  bo_dict_Fronted : PySem.W.kitOne K (.type "dict") (.ref A.cFronted) = some false
  bo_dict_Record : PySem.W.kitOne K (.type "dict") (.ref A.cRecord) = some false
  xc_NoIndex : ExcC K A.cNoIndex
  xc_NoItem : ExcC K A.cNoItem
  f_is_integer : Df K mg "is_integer" s_is_integer ["thing", "least", "most"]
  f_is_item : Df K mg "is_item" s_is_item ["thing"]
  f_are_records : Df K mg "are_records" s_are_records ["thing", "most"]
  f_items_of : Df K mg "items_of" s_items_of ["log"]
  f_is_log : Df K mg "is_log" s_is_log ["thing"]
  f_law_source : Df K mg "_law_source" s_law_source ["_law_script", "_law_k"]
  f_law_pick : Df K mg "_law_pick" s_law_pick ["_law_source_here", "_law_size"]
  f_law_shuffled : Df K mg "_law_shuffled" s_law_shuffled ["_law_source_here", "_law_row"]
  f_law_names : Df K mg "_law_names" s_law_names ["_law_source_here", "_law_many"]
  f_law_make : Df K mg "_law_make" s_law_make ["_law_way", "_law_name", "_law_place"]
  f_law_rows : Df K mg "_law_rows" s_law_rows ["_law_parts"]
  f_law_log : Df K mg "_law_log" s_law_log ["_law_source_here", "_law_most"]
  f_law_things : Df K mg "_law_things" s_law_things []
  f_law_due : Df K mg "_law_due" s_law_due ["_law_case"]
  f_law_right : Df K mg "_law_right" s_law_right ["_law_case"]
  f_law_changed : Df K mg "_law_changed" s_law_changed ["_law_source_here", "_law_rows_here", "_law_parts"]
  f_law_texts : Df K mg "_law_texts" s_law_texts ["_law_rows_here"]
  f_law : Df K mg "law" s_law ["_law_script"]
end K
namespace K
open PySem PySem.Spec PyProof.Rows L2 U ClX Z
noncomputable section
def kSub (i j : Nat) : Option Bool := match i, j with
    | 0, 0 => some true
    | 0, 1 => some false
    | 0, 2 => some false
    | 0, 3 => some true
    | 1, 0 => some false
    | 1, 1 => some true
    | 1, 2 => some false
    | 1, 3 => some true
    | 2, 0 => some false
    | 2, 1 => some false
    | 2, 2 => some true
    | 2, 3 => some true
    | 3, 0 => some false
    | 3, 1 => some false
    | 3, 2 => some false
    | 3, 3 => some true
    | _, _ => none
def kSo (i : Nat) (t : String) : Option Bool := match i, t with
    | 0, "list" => some false
    | 1, "list" => some false
    | 2, "list" => some false
    | 3, "list" => some false
    | _, _ => none
def kBo (t : String) (j : Nat) : Option Bool := match t, j with
    | "NoneType", 0 => some false
    | "NoneType", 1 => some false
    | "NoneType", 2 => some false
    | "NoneType", 3 => some false
    | "bool", 0 => some false
    | "bool", 1 => some false
    | "bool", 2 => some false
    | "bool", 3 => some false
    | "int", 0 => some false
    | "int", 1 => some false
    | "int", 2 => some false
    | "int", 3 => some false
    | "str", 0 => some false
    | "str", 1 => some false
    | "str", 2 => some false
    | "str", 3 => some false
    | "list", 0 => some false
    | "list", 1 => some false
    | "list", 2 => some false
    | "list", 3 => some false
    | "tuple", 0 => some false
    | "tuple", 1 => some false
    | "tuple", 2 => some false
    | "tuple", 3 => some false
    | "dict", 0 => some false
    | "dict", 1 => some false
    | "dict", 2 => some false
    | "dict", 3 => some false
    | _, _ => none
def kXs (i j : Nat) : Option Bool := none
def kXo (i : Nat) (t : String) : Option Bool := none
def kn : Kin := ⟨kSub, kSo, kBo, kXs, kXo⟩
theorem kno {P : Program} {K : PySem.W.Frag} {mg : Str → Option Value} {A : Ads} (T : Tx P K mg A) : KinOk (cz K A) kn where
  sub := by
    intro k j b h
    have h : kSub k j = some b := h
    unfold kSub at h
    split at h
    · cases h; exact ⟨T.cls_Inserted, T.ty_Inserted, T.k_Inserted_Inserted⟩
    · cases h; exact ⟨T.cls_Inserted, T.ty_Inserted, T.k_Inserted_Removed⟩
    · cases h; exact ⟨T.cls_Inserted, T.ty_Inserted, T.k_Inserted_Fronted⟩
    · cases h; exact ⟨T.cls_Inserted, T.ty_Inserted, T.k_Inserted_Record⟩
    · cases h; exact ⟨T.cls_Removed, T.ty_Removed, T.k_Removed_Inserted⟩
    · cases h; exact ⟨T.cls_Removed, T.ty_Removed, T.k_Removed_Removed⟩
    · cases h; exact ⟨T.cls_Removed, T.ty_Removed, T.k_Removed_Fronted⟩
    · cases h; exact ⟨T.cls_Removed, T.ty_Removed, T.k_Removed_Record⟩
    · cases h; exact ⟨T.cls_Fronted, T.ty_Fronted, T.k_Fronted_Inserted⟩
    · cases h; exact ⟨T.cls_Fronted, T.ty_Fronted, T.k_Fronted_Removed⟩
    · cases h; exact ⟨T.cls_Fronted, T.ty_Fronted, T.k_Fronted_Fronted⟩
    · cases h; exact ⟨T.cls_Fronted, T.ty_Fronted, T.k_Fronted_Record⟩
    · cases h; exact ⟨T.cls_Record, T.ty_Record, T.k_Record_Inserted⟩
    · cases h; exact ⟨T.cls_Record, T.ty_Record, T.k_Record_Removed⟩
    · cases h; exact ⟨T.cls_Record, T.ty_Record, T.k_Record_Fronted⟩
    · cases h; exact ⟨T.cls_Record, T.ty_Record, T.k_Record_Record⟩
    · cases h
  so := by
    intro k j b h
    have h : kSo k j = some b := h
    unfold kSo at h
    split at h
    · cases h; exact ⟨T.cls_Inserted, T.ty_Inserted, T.so_Inserted_list⟩
    · cases h; exact ⟨T.cls_Removed, T.ty_Removed, T.so_Removed_list⟩
    · cases h; exact ⟨T.cls_Fronted, T.ty_Fronted, T.so_Fronted_list⟩
    · cases h; exact ⟨T.cls_Record, T.ty_Record, T.so_Record_list⟩
    · cases h
  bo := by
    intro k j b h
    have h : kBo k j = some b := h
    unfold kBo at h
    split at h
    · cases h; exact T.bo_NoneType_Inserted
    · cases h; exact T.bo_NoneType_Removed
    · cases h; exact T.bo_NoneType_Fronted
    · cases h; exact T.bo_NoneType_Record
    · cases h; exact T.bo_bool_Inserted
    · cases h; exact T.bo_bool_Removed
    · cases h; exact T.bo_bool_Fronted
    · cases h; exact T.bo_bool_Record
    · cases h; exact T.bo_int_Inserted
    · cases h; exact T.bo_int_Removed
    · cases h; exact T.bo_int_Fronted
    · cases h; exact T.bo_int_Record
    · cases h; exact T.bo_str_Inserted
    · cases h; exact T.bo_str_Removed
    · cases h; exact T.bo_str_Fronted
    · cases h; exact T.bo_str_Record
    · cases h; exact T.bo_list_Inserted
    · cases h; exact T.bo_list_Removed
    · cases h; exact T.bo_list_Fronted
    · cases h; exact T.bo_list_Record
    · cases h; exact T.bo_tuple_Inserted
    · cases h; exact T.bo_tuple_Removed
    · cases h; exact T.bo_tuple_Fronted
    · cases h; exact T.bo_tuple_Record
    · cases h; exact T.bo_dict_Inserted
    · cases h; exact T.bo_dict_Removed
    · cases h; exact T.bo_dict_Fronted
    · cases h; exact T.bo_dict_Record
    · cases h
  xs := fun _ _ _ h => by cases h
  xo := fun _ _ _ h => by cases h
theorem gt_Record_item {P : Program} {w : World} {K : PySem.W.Frag} {mg : Str → Option Value} {base : Heap} {C g : Addr} {fd : FuncData} (F : Fun K "item" "Record.item" s_Record_item g fd) (c : Cls K C) (n : NoAttr K C "held_item") : FnOk P w K mg base (L2.CX P w) 1 g fd ["self"] (getSp C "held_item") := by
  obtain ⟨oc, od, kV, doc, pm, an, cdv, ct, osl, rfl, lk, hcd⟩ := F.ex
  exact fn_getter (N := ["self"]) lk hcd sc_Record_item rfl rfl c n
theorem gt_Record_slot {P : Program} {w : World} {K : PySem.W.Frag} {mg : Str → Option Value} {base : Heap} {C g : Addr} {fd : FuncData} (F : Fun K "slot" "Record.slot" s_Record_slot g fd) (c : Cls K C) (n : NoAttr K C "held_slot") : FnOk P w K mg base (L2.CX P w) 1 g fd ["self"] (getSp C "held_slot") := by
  obtain ⟨oc, od, kV, doc, pm, an, cdv, ct, osl, rfl, lk, hcd⟩ := F.ex
  exact fn_getter (N := ["self"]) lk hcd sc_Record_slot rfl rfl c n
def at_MOST : Nat → Option AK
  | 0 => none
  | 1 => none
  | 2 => none
  | 3 => none
  | 4 => none
  | 5 => none
  | 6 => none
  | _ => none
def ct_MOST : Nat → Option D
  | 0 => none
  | 1 => none
  | 2 => none
  | 3 => some (.int 60)
  | 4 => none
  | 5 => none
  | 6 => none
  | _ => none
theorem ao_MOST {P : Program} {w : World} {K : PySem.W.Frag} {mg : Str → Option Value} {base : Heap} {A : Ads} (T : Tx P K mg A) : AttOk (cz K A) P w mg base "MOST" at_MOST ct_MOST where
  fld := fun k h => match k, h with
    | 0, h => by cases (show (none : Option AK) = some .fld from h)
    | 1, h => by cases (show (none : Option AK) = some .fld from h)
    | 2, h => by cases (show (none : Option AK) = some .fld from h)
    | 3, h => by cases (show (none : Option AK) = some .fld from h)
    | 4, h => by cases (show (none : Option AK) = some .fld from h)
    | 5, h => by cases (show (none : Option AK) = some .fld from h)
    | 6, h => by cases (show (none : Option AK) = some .fld from h)
    | _ + 7, h => by cases (show (none : Option AK) = some .fld from h)
  con := fun k d h => match k, h with
    | 0, h => by cases (show (none : Option AK) = some (.con d) from h)
    | 1, h => by cases (show (none : Option AK) = some (.con d) from h)
    | 2, h => by cases (show (none : Option AK) = some (.con d) from h)
    | 3, h => by cases (show (none : Option AK) = some (.con d) from h)
    | 4, h => by cases (show (none : Option AK) = some (.con d) from h)
    | 5, h => by cases (show (none : Option AK) = some (.con d) from h)
    | 6, h => by cases (show (none : Option AK) = some (.con d) from h)
    | _ + 7, h => by cases (show (none : Option AK) = some (.con d) from h)
  get := fun k f h => match k, h with
    | 0, h => by cases (show (none : Option AK) = some (.get f) from h)
    | 1, h => by cases (show (none : Option AK) = some (.get f) from h)
    | 2, h => by cases (show (none : Option AK) = some (.get f) from h)
    | 3, h => by cases (show (none : Option AK) = some (.get f) from h)
    | 4, h => by cases (show (none : Option AK) = some (.get f) from h)
    | 5, h => by cases (show (none : Option AK) = some (.get f) from h)
    | 6, h => by cases (show (none : Option AK) = some (.get f) from h)
    | _ + 7, h => by cases (show (none : Option AK) = some (.get f) from h)
  xf := fun k h => match k, h with
    | 0, h => by cases (show (none : Option AK) = some .xf from h)
    | 1, h => by cases (show (none : Option AK) = some .xf from h)
    | 2, h => by cases (show (none : Option AK) = some .xf from h)
    | 3, h => by cases (show (none : Option AK) = some .xf from h)
    | 4, h => by cases (show (none : Option AK) = some .xf from h)
    | 5, h => by cases (show (none : Option AK) = some .xf from h)
    | 6, h => by cases (show (none : Option AK) = some .xf from h)
    | _ + 7, h => by cases (show (none : Option AK) = some .xf from h)
  cls := fun k d h => match k, h with
    | 0, h => by cases (show (none : Option D) = some d from h)
    | 1, h => by cases (show (none : Option D) = some d from h)
    | 2, h => by cases (show (none : Option D) = some d from h)
    | 3, h => by cases (show (some (.int 60) : Option D) = some d from h); obtain ⟨mc, u, h1, h2⟩ := T.cv_Record_MOST; exact ⟨_, mc, u, h1, h2, fun _ _ => .int _⟩
    | 4, h => by cases (show (none : Option D) = some d from h)
    | 5, h => by cases (show (none : Option D) = some d from h)
    | 6, h => by cases (show (none : Option D) = some d from h)
    | _ + 7, h => by cases (show (none : Option D) = some d from h)
def ok_MOST : Nat → Bool
  | 0 => false
  | 1 => false
  | 2 => false
  | 3 => false
  | 4 => false
  | 5 => false
  | 6 => false
  | _ => false
theorem oo_MOST {P : Program} {K : PySem.W.Frag} {mg : Str → Option Value} {A : Ads} (T : Tx P K mg A) : ∀ k, ok_MOST k = true → Cls K ((cz K A).cad k) ∧ NoAttr K ((cz K A).cad k) "MOST" := fun k h => match k, h with
    | 0, h => by cases (show false = true from h)
    | 1, h => by cases (show false = true from h)
    | 2, h => by cases (show false = true from h)
    | 3, h => by cases (show false = true from h)
    | 4, h => by cases (show false = true from h)
    | 5, h => by cases (show false = true from h)
    | 6, h => by cases (show false = true from h)
    | _ + 7, h => by cases (show false = true from h)
def at_SIGN : Nat → Option AK
  | 0 => some (.con (.str "+"))
  | 1 => some (.con (.str "-"))
  | 2 => some (.con (.str "^"))
  | 3 => some (.con (.str ""))
  | 4 => none
  | 5 => none
  | 6 => none
  | _ => none
def ct_SIGN : Nat → Option D
  | 0 => none
  | 1 => none
  | 2 => none
  | 3 => none
  | 4 => none
  | 5 => none
  | 6 => none
  | _ => none
theorem ao_SIGN {P : Program} {w : World} {K : PySem.W.Frag} {mg : Str → Option Value} {base : Heap} {A : Ads} (T : Tx P K mg A) : AttOk (cz K A) P w mg base "SIGN" at_SIGN ct_SIGN where
  fld := fun k h => match k, h with
    | 0, h => by cases (show (some (.con (.str "+")) : Option AK) = some .fld from h)
    | 1, h => by cases (show (some (.con (.str "-")) : Option AK) = some .fld from h)
    | 2, h => by cases (show (some (.con (.str "^")) : Option AK) = some .fld from h)
    | 3, h => by cases (show (some (.con (.str "")) : Option AK) = some .fld from h)
    | 4, h => by cases (show (none : Option AK) = some .fld from h)
    | 5, h => by cases (show (none : Option AK) = some .fld from h)
    | 6, h => by cases (show (none : Option AK) = some .fld from h)
    | _ + 7, h => by cases (show (none : Option AK) = some .fld from h)
  con := fun k d h => match k, h with
    | 0, h => by cases (show (some (.con (.str "+")) : Option AK) = some (.con d) from h); obtain ⟨u, hu⟩ := T.con_Inserted_SIGN; exact ⟨T.cls_Inserted, _, u, hu, fun _ _ => .str _⟩
    | 1, h => by cases (show (some (.con (.str "-")) : Option AK) = some (.con d) from h); obtain ⟨u, hu⟩ := T.con_Removed_SIGN; exact ⟨T.cls_Removed, _, u, hu, fun _ _ => .str _⟩
    | 2, h => by cases (show (some (.con (.str "^")) : Option AK) = some (.con d) from h); obtain ⟨u, hu⟩ := T.con_Fronted_SIGN; exact ⟨T.cls_Fronted, _, u, hu, fun _ _ => .str _⟩
    | 3, h => by cases (show (some (.con (.str "")) : Option AK) = some (.con d) from h); obtain ⟨u, hu⟩ := T.con_Record_SIGN; exact ⟨T.cls_Record, _, u, hu, fun _ _ => .str _⟩
    | 4, h => by cases (show (none : Option AK) = some (.con d) from h)
    | 5, h => by cases (show (none : Option AK) = some (.con d) from h)
    | 6, h => by cases (show (none : Option AK) = some (.con d) from h)
    | _ + 7, h => by cases (show (none : Option AK) = some (.con d) from h)
  get := fun k f h => match k, h with
    | 0, h => by cases (show (some (.con (.str "+")) : Option AK) = some (.get f) from h)
    | 1, h => by cases (show (some (.con (.str "-")) : Option AK) = some (.get f) from h)
    | 2, h => by cases (show (some (.con (.str "^")) : Option AK) = some (.get f) from h)
    | 3, h => by cases (show (some (.con (.str "")) : Option AK) = some (.get f) from h)
    | 4, h => by cases (show (none : Option AK) = some (.get f) from h)
    | 5, h => by cases (show (none : Option AK) = some (.get f) from h)
    | 6, h => by cases (show (none : Option AK) = some (.get f) from h)
    | _ + 7, h => by cases (show (none : Option AK) = some (.get f) from h)
  xf := fun k h => match k, h with
    | 0, h => by cases (show (some (.con (.str "+")) : Option AK) = some .xf from h)
    | 1, h => by cases (show (some (.con (.str "-")) : Option AK) = some .xf from h)
    | 2, h => by cases (show (some (.con (.str "^")) : Option AK) = some .xf from h)
    | 3, h => by cases (show (some (.con (.str "")) : Option AK) = some .xf from h)
    | 4, h => by cases (show (none : Option AK) = some .xf from h)
    | 5, h => by cases (show (none : Option AK) = some .xf from h)
    | 6, h => by cases (show (none : Option AK) = some .xf from h)
    | _ + 7, h => by cases (show (none : Option AK) = some .xf from h)
  cls := fun k d h => match k, h with
    | 0, h => by cases (show (none : Option D) = some d from h)
    | 1, h => by cases (show (none : Option D) = some d from h)
    | 2, h => by cases (show (none : Option D) = some d from h)
    | 3, h => by cases (show (none : Option D) = some d from h)
    | 4, h => by cases (show (none : Option D) = some d from h)
    | 5, h => by cases (show (none : Option D) = some d from h)
    | 6, h => by cases (show (none : Option D) = some d from h)
    | _ + 7, h => by cases (show (none : Option D) = some d from h)
def ok_SIGN : Nat → Bool
  | 0 => false
  | 1 => false
  | 2 => false
  | 3 => false
  | 4 => false
  | 5 => false
  | 6 => false
  | _ => false
theorem oo_SIGN {P : Program} {K : PySem.W.Frag} {mg : Str → Option Value} {A : Ads} (T : Tx P K mg A) : ∀ k, ok_SIGN k = true → Cls K ((cz K A).cad k) ∧ NoAttr K ((cz K A).cad k) "SIGN" := fun k h => match k, h with
    | 0, h => by cases (show false = true from h)
    | 1, h => by cases (show false = true from h)
    | 2, h => by cases (show false = true from h)
    | 3, h => by cases (show false = true from h)
    | 4, h => by cases (show false = true from h)
    | 5, h => by cases (show false = true from h)
    | 6, h => by cases (show false = true from h)
    | _ + 7, h => by cases (show false = true from h)
def at_held_item : Nat → Option AK
  | 0 => some .fld
  | 1 => some .fld
  | 2 => some .fld
  | 3 => some .fld
  | 4 => none
  | 5 => none
  | 6 => none
  | _ => none
def ct_held_item : Nat → Option D
  | 0 => none
  | 1 => none
  | 2 => none
  | 3 => none
  | 4 => none
  | 5 => none
  | 6 => none
  | _ => none
theorem ao_held_item {P : Program} {w : World} {K : PySem.W.Frag} {mg : Str → Option Value} {base : Heap} {A : Ads} (T : Tx P K mg A) : AttOk (cz K A) P w mg base "held_item" at_held_item ct_held_item where
  fld := fun k h => match k, h with
    | 0, h => ⟨T.cls_Inserted, T.n_Inserted_held_item⟩
    | 1, h => ⟨T.cls_Removed, T.n_Removed_held_item⟩
    | 2, h => ⟨T.cls_Fronted, T.n_Fronted_held_item⟩
    | 3, h => ⟨T.cls_Record, T.n_Record_held_item⟩
    | 4, h => by cases (show (none : Option AK) = some .fld from h)
    | 5, h => by cases (show (none : Option AK) = some .fld from h)
    | 6, h => by cases (show (none : Option AK) = some .fld from h)
    | _ + 7, h => by cases (show (none : Option AK) = some .fld from h)
  con := fun k d h => match k, h with
    | 0, h => by cases (show (some .fld : Option AK) = some (.con d) from h)
    | 1, h => by cases (show (some .fld : Option AK) = some (.con d) from h)
    | 2, h => by cases (show (some .fld : Option AK) = some (.con d) from h)
    | 3, h => by cases (show (some .fld : Option AK) = some (.con d) from h)
    | 4, h => by cases (show (none : Option AK) = some (.con d) from h)
    | 5, h => by cases (show (none : Option AK) = some (.con d) from h)
    | 6, h => by cases (show (none : Option AK) = some (.con d) from h)
    | _ + 7, h => by cases (show (none : Option AK) = some (.con d) from h)
  get := fun k f h => match k, h with
    | 0, h => by cases (show (some .fld : Option AK) = some (.get f) from h)
    | 1, h => by cases (show (some .fld : Option AK) = some (.get f) from h)
    | 2, h => by cases (show (some .fld : Option AK) = some (.get f) from h)
    | 3, h => by cases (show (some .fld : Option AK) = some (.get f) from h)
    | 4, h => by cases (show (none : Option AK) = some (.get f) from h)
    | 5, h => by cases (show (none : Option AK) = some (.get f) from h)
    | 6, h => by cases (show (none : Option AK) = some (.get f) from h)
    | _ + 7, h => by cases (show (none : Option AK) = some (.get f) from h)
  xf := fun k h => match k, h with
    | 0, h => by cases (show (some .fld : Option AK) = some .xf from h)
    | 1, h => by cases (show (some .fld : Option AK) = some .xf from h)
    | 2, h => by cases (show (some .fld : Option AK) = some .xf from h)
    | 3, h => by cases (show (some .fld : Option AK) = some .xf from h)
    | 4, h => by cases (show (none : Option AK) = some .xf from h)
    | 5, h => by cases (show (none : Option AK) = some .xf from h)
    | 6, h => by cases (show (none : Option AK) = some .xf from h)
    | _ + 7, h => by cases (show (none : Option AK) = some .xf from h)
  cls := fun k d h => match k, h with
    | 0, h => by cases (show (none : Option D) = some d from h)
    | 1, h => by cases (show (none : Option D) = some d from h)
    | 2, h => by cases (show (none : Option D) = some d from h)
    | 3, h => by cases (show (none : Option D) = some d from h)
    | 4, h => by cases (show (none : Option D) = some d from h)
    | 5, h => by cases (show (none : Option D) = some d from h)
    | 6, h => by cases (show (none : Option D) = some d from h)
    | _ + 7, h => by cases (show (none : Option D) = some d from h)
def ok_held_item : Nat → Bool
  | 0 => true
  | 1 => true
  | 2 => true
  | 3 => true
  | 4 => false
  | 5 => false
  | 6 => false
  | _ => false
theorem oo_held_item {P : Program} {K : PySem.W.Frag} {mg : Str → Option Value} {A : Ads} (T : Tx P K mg A) : ∀ k, ok_held_item k = true → Cls K ((cz K A).cad k) ∧ NoAttr K ((cz K A).cad k) "held_item" := fun k h => match k, h with
    | 0, h => ⟨T.cls_Inserted, T.n_Inserted_held_item⟩
    | 1, h => ⟨T.cls_Removed, T.n_Removed_held_item⟩
    | 2, h => ⟨T.cls_Fronted, T.n_Fronted_held_item⟩
    | 3, h => ⟨T.cls_Record, T.n_Record_held_item⟩
    | 4, h => by cases (show false = true from h)
    | 5, h => by cases (show false = true from h)
    | 6, h => by cases (show false = true from h)
    | _ + 7, h => by cases (show false = true from h)
def at_held_slot : Nat → Option AK
  | 0 => some .fld
  | 1 => some .fld
  | 2 => some .fld
  | 3 => some .fld
  | 4 => none
  | 5 => none
  | 6 => none
  | _ => none
def ct_held_slot : Nat → Option D
  | 0 => none
  | 1 => none
  | 2 => none
  | 3 => none
  | 4 => none
  | 5 => none
  | 6 => none
  | _ => none
theorem ao_held_slot {P : Program} {w : World} {K : PySem.W.Frag} {mg : Str → Option Value} {base : Heap} {A : Ads} (T : Tx P K mg A) : AttOk (cz K A) P w mg base "held_slot" at_held_slot ct_held_slot where
  fld := fun k h => match k, h with
    | 0, h => ⟨T.cls_Inserted, T.n_Inserted_held_slot⟩
    | 1, h => ⟨T.cls_Removed, T.n_Removed_held_slot⟩
    | 2, h => ⟨T.cls_Fronted, T.n_Fronted_held_slot⟩
    | 3, h => ⟨T.cls_Record, T.n_Record_held_slot⟩
    | 4, h => by cases (show (none : Option AK) = some .fld from h)
    | 5, h => by cases (show (none : Option AK) = some .fld from h)
    | 6, h => by cases (show (none : Option AK) = some .fld from h)
    | _ + 7, h => by cases (show (none : Option AK) = some .fld from h)
  con := fun k d h => match k, h with
    | 0, h => by cases (show (some .fld : Option AK) = some (.con d) from h)
    | 1, h => by cases (show (some .fld : Option AK) = some (.con d) from h)
    | 2, h => by cases (show (some .fld : Option AK) = some (.con d) from h)
    | 3, h => by cases (show (some .fld : Option AK) = some (.con d) from h)
    | 4, h => by cases (show (none : Option AK) = some (.con d) from h)
    | 5, h => by cases (show (none : Option AK) = some (.con d) from h)
    | 6, h => by cases (show (none : Option AK) = some (.con d) from h)
    | _ + 7, h => by cases (show (none : Option AK) = some (.con d) from h)
  get := fun k f h => match k, h with
    | 0, h => by cases (show (some .fld : Option AK) = some (.get f) from h)
    | 1, h => by cases (show (some .fld : Option AK) = some (.get f) from h)
    | 2, h => by cases (show (some .fld : Option AK) = some (.get f) from h)
    | 3, h => by cases (show (some .fld : Option AK) = some (.get f) from h)
    | 4, h => by cases (show (none : Option AK) = some (.get f) from h)
    | 5, h => by cases (show (none : Option AK) = some (.get f) from h)
    | 6, h => by cases (show (none : Option AK) = some (.get f) from h)
    | _ + 7, h => by cases (show (none : Option AK) = some (.get f) from h)
  xf := fun k h => match k, h with
    | 0, h => by cases (show (some .fld : Option AK) = some .xf from h)
    | 1, h => by cases (show (some .fld : Option AK) = some .xf from h)
    | 2, h => by cases (show (some .fld : Option AK) = some .xf from h)
    | 3, h => by cases (show (some .fld : Option AK) = some .xf from h)
    | 4, h => by cases (show (none : Option AK) = some .xf from h)
    | 5, h => by cases (show (none : Option AK) = some .xf from h)
    | 6, h => by cases (show (none : Option AK) = some .xf from h)
    | _ + 7, h => by cases (show (none : Option AK) = some .xf from h)
  cls := fun k d h => match k, h with
    | 0, h => by cases (show (none : Option D) = some d from h)
    | 1, h => by cases (show (none : Option D) = some d from h)
    | 2, h => by cases (show (none : Option D) = some d from h)
    | 3, h => by cases (show (none : Option D) = some d from h)
    | 4, h => by cases (show (none : Option D) = some d from h)
    | 5, h => by cases (show (none : Option D) = some d from h)
    | 6, h => by cases (show (none : Option D) = some d from h)
    | _ + 7, h => by cases (show (none : Option D) = some d from h)
def ok_held_slot : Nat → Bool
  | 0 => true
  | 1 => true
  | 2 => true
  | 3 => true
  | 4 => false
  | 5 => false
  | 6 => false
  | _ => false
theorem oo_held_slot {P : Program} {K : PySem.W.Frag} {mg : Str → Option Value} {A : Ads} (T : Tx P K mg A) : ∀ k, ok_held_slot k = true → Cls K ((cz K A).cad k) ∧ NoAttr K ((cz K A).cad k) "held_slot" := fun k h => match k, h with
    | 0, h => ⟨T.cls_Inserted, T.n_Inserted_held_slot⟩
    | 1, h => ⟨T.cls_Removed, T.n_Removed_held_slot⟩
    | 2, h => ⟨T.cls_Fronted, T.n_Fronted_held_slot⟩
    | 3, h => ⟨T.cls_Record, T.n_Record_held_slot⟩
    | 4, h => by cases (show false = true from h)
    | 5, h => by cases (show false = true from h)
    | 6, h => by cases (show false = true from h)
    | _ + 7, h => by cases (show false = true from h)
def at_item : Nat → Option AK
  | 0 => some (.get "held_item")
  | 1 => some (.get "held_item")
  | 2 => some (.get "held_item")
  | 3 => some (.get "held_item")
  | 4 => none
  | 5 => none
  | 6 => none
  | _ => none
def ct_item : Nat → Option D
  | 0 => none
  | 1 => none
  | 2 => none
  | 3 => none
  | 4 => none
  | 5 => none
  | 6 => none
  | _ => none
theorem ao_item {P : Program} {w : World} {K : PySem.W.Frag} {mg : Str → Option Value} {base : Heap} {A : Ads} (T : Tx P K mg A) : AttOk (cz K A) P w mg base "item" at_item ct_item where
  fld := fun k h => match k, h with
    | 0, h => by cases (show (some (.get "held_item") : Option AK) = some .fld from h)
    | 1, h => by cases (show (some (.get "held_item") : Option AK) = some .fld from h)
    | 2, h => by cases (show (some (.get "held_item") : Option AK) = some .fld from h)
    | 3, h => by cases (show (some (.get "held_item") : Option AK) = some .fld from h)
    | 4, h => by cases (show (none : Option AK) = some .fld from h)
    | 5, h => by cases (show (none : Option AK) = some .fld from h)
    | 6, h => by cases (show (none : Option AK) = some .fld from h)
    | _ + 7, h => by cases (show (none : Option AK) = some .fld from h)
  con := fun k d h => match k, h with
    | 0, h => by cases (show (some (.get "held_item") : Option AK) = some (.con d) from h)
    | 1, h => by cases (show (some (.get "held_item") : Option AK) = some (.con d) from h)
    | 2, h => by cases (show (some (.get "held_item") : Option AK) = some (.con d) from h)
    | 3, h => by cases (show (some (.get "held_item") : Option AK) = some (.con d) from h)
    | 4, h => by cases (show (none : Option AK) = some (.con d) from h)
    | 5, h => by cases (show (none : Option AK) = some (.con d) from h)
    | 6, h => by cases (show (none : Option AK) = some (.con d) from h)
    | _ + 7, h => by cases (show (none : Option AK) = some (.con d) from h)
  get := fun k f h => match k, h with
    | 0, h => by cases (show (some (.get "held_item") : Option AK) = some (.get f) from h); obtain ⟨p, ga, fd, h1, h2, h3⟩ := T.prop_Inserted_item; exact ⟨T.cls_Inserted, p, ga, fd, h1, gt_Record_item h2 T.cls_Inserted T.n_Inserted_held_item, h3⟩
    | 1, h => by cases (show (some (.get "held_item") : Option AK) = some (.get f) from h); obtain ⟨p, ga, fd, h1, h2, h3⟩ := T.prop_Removed_item; exact ⟨T.cls_Removed, p, ga, fd, h1, gt_Record_item h2 T.cls_Removed T.n_Removed_held_item, h3⟩
    | 2, h => by cases (show (some (.get "held_item") : Option AK) = some (.get f) from h); obtain ⟨p, ga, fd, h1, h2, h3⟩ := T.prop_Fronted_item; exact ⟨T.cls_Fronted, p, ga, fd, h1, gt_Record_item h2 T.cls_Fronted T.n_Fronted_held_item, h3⟩
    | 3, h => by cases (show (some (.get "held_item") : Option AK) = some (.get f) from h); obtain ⟨p, ga, fd, h1, h2, h3⟩ := T.prop_Record_item; exact ⟨T.cls_Record, p, ga, fd, h1, gt_Record_item h2 T.cls_Record T.n_Record_held_item, h3⟩
    | 4, h => by cases (show (none : Option AK) = some (.get f) from h)
    | 5, h => by cases (show (none : Option AK) = some (.get f) from h)
    | 6, h => by cases (show (none : Option AK) = some (.get f) from h)
    | _ + 7, h => by cases (show (none : Option AK) = some (.get f) from h)
  xf := fun k h => match k, h with
    | 0, h => by cases (show (some (.get "held_item") : Option AK) = some .xf from h)
    | 1, h => by cases (show (some (.get "held_item") : Option AK) = some .xf from h)
    | 2, h => by cases (show (some (.get "held_item") : Option AK) = some .xf from h)
    | 3, h => by cases (show (some (.get "held_item") : Option AK) = some .xf from h)
    | 4, h => by cases (show (none : Option AK) = some .xf from h)
    | 5, h => by cases (show (none : Option AK) = some .xf from h)
    | 6, h => by cases (show (none : Option AK) = some .xf from h)
    | _ + 7, h => by cases (show (none : Option AK) = some .xf from h)
  cls := fun k d h => match k, h with
    | 0, h => by cases (show (none : Option D) = some d from h)
    | 1, h => by cases (show (none : Option D) = some d from h)
    | 2, h => by cases (show (none : Option D) = some d from h)
    | 3, h => by cases (show (none : Option D) = some d from h)
    | 4, h => by cases (show (none : Option D) = some d from h)
    | 5, h => by cases (show (none : Option D) = some d from h)
    | 6, h => by cases (show (none : Option D) = some d from h)
    | _ + 7, h => by cases (show (none : Option D) = some d from h)
def ok_item : Nat → Bool
  | 0 => false
  | 1 => false
  | 2 => false
  | 3 => false
  | 4 => false
  | 5 => false
  | 6 => false
  | _ => false
theorem oo_item {P : Program} {K : PySem.W.Frag} {mg : Str → Option Value} {A : Ads} (T : Tx P K mg A) : ∀ k, ok_item k = true → Cls K ((cz K A).cad k) ∧ NoAttr K ((cz K A).cad k) "item" := fun k h => match k, h with
    | 0, h => by cases (show false = true from h)
    | 1, h => by cases (show false = true from h)
    | 2, h => by cases (show false = true from h)
    | 3, h => by cases (show false = true from h)
    | 4, h => by cases (show false = true from h)
    | 5, h => by cases (show false = true from h)
    | 6, h => by cases (show false = true from h)
    | _ + 7, h => by cases (show false = true from h)
def T_is_integer : TSd :=
  TRet (TAndV (TCB (bIsi kn) (PCons (TVar 0) (PCons (TC (.ty "int")) (PNil)))) (TAndV (TNotV (TCB (bIsi kn) (PCons (TVar 0) (PCons (TC (.ty "bool")) (PNil))))) (TChain vLe vLe (TVar 1) (TVar 0) (TVar 2))))
theorem z_is_integer {P : Program} {w : World} {K : PySem.W.Frag} {mg : Str → Option Value} {base : Heap} {A : Ads} (T : Tx P K mg A) : ∀ E, SimS (cz K A) E (t_is_integer P w K mg base A E) T_is_integer := by
  intro E
  unfold t_is_integer T_is_integer
  exact sim_Ret (sim_AndV (sim_CB (cs_Isi (kno T)) (sim_PCons (sim_Var) (sim_PCons (sim_C fun _ _ => .ty _) (sim_PNil)))) (sim_AndV (sim_NotV (sim_CB (cs_Isi (kno T)) (sim_PCons (sim_Var) (sim_PCons (sim_C fun _ _ => .ty _) (sim_PNil))))) (sim_Chain os_Le os_Le (sim_Var) (sim_Var) (sim_Var))))
def F_is_integer : FT := runF 3 3 T_is_integer
theorem fd_is_integer {P : Program} {w : World} {K : PySem.W.Frag} {mg : Str → Option Value} {base : Heap} {A : Ads} (T : Tx P K mg A) : Fn P w K mg base 3 "is_integer" (spF (cz K A) F_is_integer) := T.f_is_integer.fn sc_is_integer (fun hr => d_is_integer T.G hr) (pur_F (z_is_integer T))

def T_is_item : TSd :=
  TSeq (TIfS (TOr (TNot (TB (TCB (bIsi kn) (PCons (TVar 0) (PCons (TC (.ty "str")) (PNil)))))) (TNot (TB (TChain vLe vLe (TC (.int 1)) (TCB bLen (PCons (TVar 0) (PNil))) (TC (.int 8)))))) (TRet (TC (.bl false))) (TNext)) (TRet (TCB bAll (PCons (TLc (IStr (TVar 0)) (GName 1) (TYes) (TOp vIn (TVar 1) (TC (.str "abcdefghijklmnopqrstuvwxyz"))) [1]) (PNil))))
theorem z_is_item {P : Program} {w : World} {K : PySem.W.Frag} {mg : Str → Option Value} {base : Heap} {A : Ads} (T : Tx P K mg A) : ∀ E, SimS (cz K A) E (t_is_item P w K mg base A E) T_is_item := by
  intro E
  unfold t_is_item T_is_item
  exact sim_Seq (sim_IfS (sim_Or (sim_Not (sim_B (sim_CB (cs_Isi (kno T)) (sim_PCons (sim_Var) (sim_PCons (sim_C fun _ _ => .ty _) (sim_PNil)))))) (sim_Not (sim_Test (sim_Chain os_Le os_Le (sim_C fun _ _ => .int _) (sim_CB cs_Len (sim_PCons (sim_Var) (sim_PNil))) (sim_C fun _ _ => .int _))))) (sim_Ret (sim_C fun _ _ => .bl _)) (sim_Next)) (sim_Ret (sim_CB cs_All (sim_PCons (sim_Lc rfl (sim_IStr (sim_Var)) (sim_GName) (sim_Yes) (sim_Op os_In (sim_Var) (sim_C fun _ _ => .str _))) (sim_PNil))))
def F_is_item : FT := runF 1 2 T_is_item
theorem fd_is_item {P : Program} {w : World} {K : PySem.W.Frag} {mg : Str → Option Value} {base : Heap} {A : Ads} (T : Tx P K mg A) : Fn P w K mg base 3 "is_item" (spF (cz K A) F_is_item) := T.f_is_item.fn sc_is_item (fun hr => d_is_item T.G hr) (pur_F (z_is_item T))

def T_Record_init : TSd :=
  TSeq (TIfS (TNot (TB (TFn F_is_item (TCons (TVar 1) (TNil))))) (TRaise 4) (TNext)) (TSeq (TIfS (TNot (TB (TFn F_is_integer (TCons (TVar 2) (TCons (TC (.int 0)) (TCons (TAtt at_MOST ct_MOST "MOST" (TC (.cl 3))) (TNil))))))) (TRaise 5) (TNext)) (TSeq (TFld ok_held_item "held_item" (TVar 0) (TVar 1)) (TFld ok_held_slot "held_slot" (TVar 0) (TVar 2))))
theorem z_Record_init {P : Program} {w : World} {K : PySem.W.Frag} {mg : Str → Option Value} {base : Heap} {A : Ads} (T : Tx P K mg A) : ∀ E, SimN (cz K A) E (t_Record_init P w K mg base A E) T_Record_init := by
  intro E
  unfold t_Record_init T_Record_init
  exact simN_Seq (simN_IfS (sim_Not (sim_B (sim_Fn (fd_is_item T) (by decide) (sim_Cons (sim_Var) (sim_Nil))))) (simN_Raise (k := 4)) (simN_Next)) (simN_Seq (simN_IfS (sim_Not (sim_B (sim_Fn (fd_is_integer T) (by decide) (sim_Cons (sim_Var) (sim_Cons (sim_C fun _ _ => .int _) (sim_Cons (sim_Att (ao_MOST T) (sim_C fun _ _ => Tr.cl (c := cz K A) 3)) (sim_Nil))))))) (simN_Raise (k := 5)) (simN_Next)) (simN_Seq (simN_Fld (oo_held_item T) (sim_Var) (sim_Var)) (simN_Fld (oo_held_slot T) (sim_Var) (sim_Var))))
def I_Inserted : FT := runI 3 3 0 T_Record_init
theorem mk_Inserted {P : Program} {w : World} {K : PySem.W.Frag} {mg : Str → Option Value} {base : Heap} {A : Ads} (T : Tx P K mg A) : Mkr P w K mg base 4 "Inserted" A.cInserted (spI (cz K A) 0 I_Inserted) := T.made_Inserted.mkr sc_Record_init (fun hr => d_Record_init T.G hr) (pur_I (z_Record_init T))
def I_Removed : FT := runI 3 3 1 T_Record_init
theorem mk_Removed {P : Program} {w : World} {K : PySem.W.Frag} {mg : Str → Option Value} {base : Heap} {A : Ads} (T : Tx P K mg A) : Mkr P w K mg base 4 "Removed" A.cRemoved (spI (cz K A) 1 I_Removed) := T.made_Removed.mkr sc_Record_init (fun hr => d_Record_init T.G hr) (pur_I (z_Record_init T))
def I_Fronted : FT := runI 3 3 2 T_Record_init
theorem mk_Fronted {P : Program} {w : World} {K : PySem.W.Frag} {mg : Str → Option Value} {base : Heap} {A : Ads} (T : Tx P K mg A) : Mkr P w K mg base 4 "Fronted" A.cFronted (spI (cz K A) 2 I_Fronted) := T.made_Fronted.mkr sc_Record_init (fun hr => d_Record_init T.G hr) (pur_I (z_Record_init T))
def I_Record : FT := runI 3 3 3 T_Record_init
theorem mk_Record {P : Program} {w : World} {K : PySem.W.Frag} {mg : Str → Option Value} {base : Heap} {A : Ads} (T : Tx P K mg A) : Mkr P w K mg base 4 "Record" A.cRecord (spI (cz K A) 3 I_Record) := T.made_Record.mkr sc_Record_init (fun hr => d_Record_init T.G hr) (pur_I (z_Record_init T))
def T_Record_told : TSd :=
  TRet (TJs [TFmt (TAtt at_held_item ct_held_item "held_item" (TVar 0)), TFmt (TC (.str "@")), TFmt (TAtt at_held_slot ct_held_slot "held_slot" (TVar 0))] Str.empty)
theorem z_Record_told {P : Program} {w : World} {K : PySem.W.Frag} {mg : Str → Option Value} {base : Heap} {A : Ads} (T : Tx P K mg A) : ∀ E, SimS (cz K A) E (t_Record_told P w K mg base A E) T_Record_told := by
  intro E
  unfold t_Record_told T_Record_told
  exact sim_Ret (sim_Js (.cons (sim_Fmt (sim_Att (ao_held_item T) (sim_Var))) (.cons (sim_Fmt (sim_C fun _ _ => .str _)) (.cons (sim_Fmt (sim_Att (ao_held_slot T) (sim_Var))) (.nil)))) Str.empty)
def F_Record_told : FT := runF 1 1 T_Record_told
def F_Inserted_told : FT := runF 1 2 (TRet (TOp vAdd (TAtt at_SIGN ct_SIGN "SIGN" (TVar 0)) (TSup 0 F_Record_told (TNil))))
theorem sg_Inserted_told {P : Program} {w : World} {K : PySem.W.Frag} {mg : Str → Option Value} {base : Heap} {A : Ads} (T : Tx P K mg A) {f cda cc f2 : Addr} {fd2 : FuncData} {vs : Array Value} {file : Str} {tf : Tok} {oc kV doc pm ct ccl clv : Value} {an od cdd cld : Option Addr} {osl ccs csl : Array (Option Value)} {cdD : ClassData} (lk : K.lookup f = some ⟨oc, od, .func (PySem.W.fnX "told" "Inserted.told" (defArgs s_Inserted_told) (defBody s_Inserted_told) (defScope s_Inserted_told) [("__class__", cc)] .none kV doc pm an (.ref cda) ct), osl⟩) (cd : PySem.W.codeIn K (.ref cda) "Inserted.told" = true) (cell : K.lookup cc = some ⟨clv, cld, .cell (some (.ref A.cInserted)), csl⟩)
    (lc : K.lookup cda = some ⟨ccl, cdd, .fields vs, ccs⟩) (hvs : vs[2]? = some (.str file tf)) (hfile : ((P.main.file : Str) == file) = true) (hcl : PySem.W.clsIn K A.cInserted = some cdD) (su : SupAt K A.cInserted A.cInserted "told" f2) (F2 : Fun K "told" "Record.told" s_Record_told f2 fd2) (b2 : Binds K fd2 ps_Record_told []) (hsup : mg "super" = none) (htop : (P.main.scope.names.lookup ("super" : Str)).isSome = false) (ho : PySem.W.nsIn K cStatics "thirdparty.any" = some none) :
    FnG P w K mg base 4 f (PySem.W.fnX "told" "Inserted.told" (defArgs s_Inserted_told) (defBody s_Inserted_told) (defScope s_Inserted_told) [("__class__", cc)] .none kV doc pm an (.ref cda) ct) ["self"] (spF (cz K A) F_Inserted_told) := by
  have G2 : FnG P w K mg base 3 f2 fd2 ps_Record_told (spF (cz K A) F_Record_told) := fnok_of F2 sc_Record_told (fun hr => d_Record_told T.G hr) (pur_F (z_Record_told T))
  refine fnG_sup (D := A.cInserted) (N := ["self", "__class__"]) (e := retE (defBody s_Inserted_told)) (rp := retP (defBody s_Inserted_told)) lk cd (NdefX.nscope_by (by decide +kernel)) cell (sup_len (N := ["self", "__class__"]) (ps := ["self"])) ?_
  intro B outs t H vs1 Q E hr qt h
  have sx : SupX (NdefX.ncx (L2.CX P w) P w K mg base ["self", "__class__"] ⟨"told", "Inserted.told", defArgs s_Inserted_told, [.Return (some (retE (defBody s_Inserted_told))) (retP (defBody s_Inserted_told))], defScope s_Inserted_told, [("__class__", cc)], cda⟩ f B outs t H E) A.cInserted _ := ⟨⟨f, cda, cc, _, vs, file, tf, oc, ccl, clv, od, cdd, cld, osl, ccs, csl, cdD, rfl, rfl, rfl, lk, rfl, lc, hvs, hfile, cell, hcl⟩, rfl, rfl, hsup, rfl, rfl, htop, ho⟩
  have at_ : At (NdefX.ncx (L2.CX P w) P w K mg base ["self", "__class__"] ⟨"told", "Inserted.told", defArgs s_Inserted_told, [.Return (some (retE (defBody s_Inserted_told))) (retP (defBody s_Inserted_told))], defScope s_Inserted_told, [("__class__", cc)], cda⟩ f B outs t H E) 3 (fun _ => E) := At.of hr qt (takes_of rfl rfl rfl rfl)
  exact ⟨tOp uAdd (tAtt P w K mg base "SIGN" (tVar 0)) (tSupA P w K mg base A.cInserted "told" 3 (fun _ => E) (tNil)), pet_op op_uAdd (pe_att hr (pv 0)) (pet_super0 sx (by decide) at_), sup_pur (N := ["self", "__class__"]) rfl (sim_Op os_Add (sim_Att (ao_SIGN T) (sim_Var)) (sim_Sup (kid := 0) su G2 (by decide) b2 (sim_Nil))) h⟩
theorem sm_Inserted_told {P : Program} {w : World} {K : PySem.W.Frag} {mg : Str → Option Value} {base : Heap} {A : Ads} (T : Tx P K mg A) (M : SupM P K mg A.cInserted "told" "Inserted.told" "Record.told" s_Inserted_told s_Record_told ["self"] ps_Record_told) : Mth P w K mg base 4 A.cInserted "told" (spF (cz K A) F_Inserted_told) := by
  obtain ⟨cl, ⟨f, cda, cc, f2, fd2, vs, file, tf, oc, kV, doc, pm, ct, ccl, clv, an, od, cdd, cld, osl, ccs, csl, cdD, lk, cd, cell, lc, hvs, hfile, hcl, hm, su, F2, b2⟩, hsup, htop, ho⟩ := M
  exact ⟨f, _, ["self"], cl, hm, sg_Inserted_told T lk cd cell lc hvs hfile hcl su F2 b2 hsup htop ho, Binds.all fun us hl => match us, hl with | [_], _ => rfl⟩
def F_Removed_told : FT := runF 1 2 (TRet (TOp vAdd (TAtt at_SIGN ct_SIGN "SIGN" (TVar 0)) (TSup 1 F_Record_told (TNil))))
theorem sg_Removed_told {P : Program} {w : World} {K : PySem.W.Frag} {mg : Str → Option Value} {base : Heap} {A : Ads} (T : Tx P K mg A) {f cda cc f2 : Addr} {fd2 : FuncData} {vs : Array Value} {file : Str} {tf : Tok} {oc kV doc pm ct ccl clv : Value} {an od cdd cld : Option Addr} {osl ccs csl : Array (Option Value)} {cdD : ClassData} (lk : K.lookup f = some ⟨oc, od, .func (PySem.W.fnX "told" "Removed.told" (defArgs s_Removed_told) (defBody s_Removed_told) (defScope s_Removed_told) [("__class__", cc)] .none kV doc pm an (.ref cda) ct), osl⟩) (cd : PySem.W.codeIn K (.ref cda) "Removed.told" = true) (cell : K.lookup cc = some ⟨clv, cld, .cell (some (.ref A.cRemoved)), csl⟩)
    (lc : K.lookup cda = some ⟨ccl, cdd, .fields vs, ccs⟩) (hvs : vs[2]? = some (.str file tf)) (hfile : ((P.main.file : Str) == file) = true) (hcl : PySem.W.clsIn K A.cRemoved = some cdD) (su : SupAt K A.cRemoved A.cRemoved "told" f2) (F2 : Fun K "told" "Record.told" s_Record_told f2 fd2) (b2 : Binds K fd2 ps_Record_told []) (hsup : mg "super" = none) (htop : (P.main.scope.names.lookup ("super" : Str)).isSome = false) (ho : PySem.W.nsIn K cStatics "thirdparty.any" = some none) :
    FnG P w K mg base 4 f (PySem.W.fnX "told" "Removed.told" (defArgs s_Removed_told) (defBody s_Removed_told) (defScope s_Removed_told) [("__class__", cc)] .none kV doc pm an (.ref cda) ct) ["self"] (spF (cz K A) F_Removed_told) := by
  have G2 : FnG P w K mg base 3 f2 fd2 ps_Record_told (spF (cz K A) F_Record_told) := fnok_of F2 sc_Record_told (fun hr => d_Record_told T.G hr) (pur_F (z_Record_told T))
  refine fnG_sup (D := A.cRemoved) (N := ["self", "__class__"]) (e := retE (defBody s_Removed_told)) (rp := retP (defBody s_Removed_told)) lk cd (NdefX.nscope_by (by decide +kernel)) cell (sup_len (N := ["self", "__class__"]) (ps := ["self"])) ?_
  intro B outs t H vs1 Q E hr qt h
  have sx : SupX (NdefX.ncx (L2.CX P w) P w K mg base ["self", "__class__"] ⟨"told", "Removed.told", defArgs s_Removed_told, [.Return (some (retE (defBody s_Removed_told))) (retP (defBody s_Removed_told))], defScope s_Removed_told, [("__class__", cc)], cda⟩ f B outs t H E) A.cRemoved _ := ⟨⟨f, cda, cc, _, vs, file, tf, oc, ccl, clv, od, cdd, cld, osl, ccs, csl, cdD, rfl, rfl, rfl, lk, rfl, lc, hvs, hfile, cell, hcl⟩, rfl, rfl, hsup, rfl, rfl, htop, ho⟩
  have at_ : At (NdefX.ncx (L2.CX P w) P w K mg base ["self", "__class__"] ⟨"told", "Removed.told", defArgs s_Removed_told, [.Return (some (retE (defBody s_Removed_told))) (retP (defBody s_Removed_told))], defScope s_Removed_told, [("__class__", cc)], cda⟩ f B outs t H E) 3 (fun _ => E) := At.of hr qt (takes_of rfl rfl rfl rfl)
  exact ⟨tOp uAdd (tAtt P w K mg base "SIGN" (tVar 0)) (tSupA P w K mg base A.cRemoved "told" 3 (fun _ => E) (tNil)), pet_op op_uAdd (pe_att hr (pv 0)) (pet_super0 sx (by decide) at_), sup_pur (N := ["self", "__class__"]) rfl (sim_Op os_Add (sim_Att (ao_SIGN T) (sim_Var)) (sim_Sup (kid := 1) su G2 (by decide) b2 (sim_Nil))) h⟩
theorem sm_Removed_told {P : Program} {w : World} {K : PySem.W.Frag} {mg : Str → Option Value} {base : Heap} {A : Ads} (T : Tx P K mg A) (M : SupM P K mg A.cRemoved "told" "Removed.told" "Record.told" s_Removed_told s_Record_told ["self"] ps_Record_told) : Mth P w K mg base 4 A.cRemoved "told" (spF (cz K A) F_Removed_told) := by
  obtain ⟨cl, ⟨f, cda, cc, f2, fd2, vs, file, tf, oc, kV, doc, pm, ct, ccl, clv, an, od, cdd, cld, osl, ccs, csl, cdD, lk, cd, cell, lc, hvs, hfile, hcl, hm, su, F2, b2⟩, hsup, htop, ho⟩ := M
  exact ⟨f, _, ["self"], cl, hm, sg_Removed_told T lk cd cell lc hvs hfile hcl su F2 b2 hsup htop ho, Binds.all fun us hl => match us, hl with | [_], _ => rfl⟩
def F_Fronted_told : FT := runF 1 2 (TRet (TOp vAdd (TAtt at_SIGN ct_SIGN "SIGN" (TVar 0)) (TSup 2 F_Record_told (TNil))))
theorem sg_Fronted_told {P : Program} {w : World} {K : PySem.W.Frag} {mg : Str → Option Value} {base : Heap} {A : Ads} (T : Tx P K mg A) {f cda cc f2 : Addr} {fd2 : FuncData} {vs : Array Value} {file : Str} {tf : Tok} {oc kV doc pm ct ccl clv : Value} {an od cdd cld : Option Addr} {osl ccs csl : Array (Option Value)} {cdD : ClassData} (lk : K.lookup f = some ⟨oc, od, .func (PySem.W.fnX "told" "Fronted.told" (defArgs s_Fronted_told) (defBody s_Fronted_told) (defScope s_Fronted_told) [("__class__", cc)] .none kV doc pm an (.ref cda) ct), osl⟩) (cd : PySem.W.codeIn K (.ref cda) "Fronted.told" = true) (cell : K.lookup cc = some ⟨clv, cld, .cell (some (.ref A.cFronted)), csl⟩)
    (lc : K.lookup cda = some ⟨ccl, cdd, .fields vs, ccs⟩) (hvs : vs[2]? = some (.str file tf)) (hfile : ((P.main.file : Str) == file) = true) (hcl : PySem.W.clsIn K A.cFronted = some cdD) (su : SupAt K A.cFronted A.cFronted "told" f2) (F2 : Fun K "told" "Record.told" s_Record_told f2 fd2) (b2 : Binds K fd2 ps_Record_told []) (hsup : mg "super" = none) (htop : (P.main.scope.names.lookup ("super" : Str)).isSome = false) (ho : PySem.W.nsIn K cStatics "thirdparty.any" = some none) :
    FnG P w K mg base 4 f (PySem.W.fnX "told" "Fronted.told" (defArgs s_Fronted_told) (defBody s_Fronted_told) (defScope s_Fronted_told) [("__class__", cc)] .none kV doc pm an (.ref cda) ct) ["self"] (spF (cz K A) F_Fronted_told) := by
  have G2 : FnG P w K mg base 3 f2 fd2 ps_Record_told (spF (cz K A) F_Record_told) := fnok_of F2 sc_Record_told (fun hr => d_Record_told T.G hr) (pur_F (z_Record_told T))
  refine fnG_sup (D := A.cFronted) (N := ["self", "__class__"]) (e := retE (defBody s_Fronted_told)) (rp := retP (defBody s_Fronted_told)) lk cd (NdefX.nscope_by (by decide +kernel)) cell (sup_len (N := ["self", "__class__"]) (ps := ["self"])) ?_
  intro B outs t H vs1 Q E hr qt h
  have sx : SupX (NdefX.ncx (L2.CX P w) P w K mg base ["self", "__class__"] ⟨"told", "Fronted.told", defArgs s_Fronted_told, [.Return (some (retE (defBody s_Fronted_told))) (retP (defBody s_Fronted_told))], defScope s_Fronted_told, [("__class__", cc)], cda⟩ f B outs t H E) A.cFronted _ := ⟨⟨f, cda, cc, _, vs, file, tf, oc, ccl, clv, od, cdd, cld, osl, ccs, csl, cdD, rfl, rfl, rfl, lk, rfl, lc, hvs, hfile, cell, hcl⟩, rfl, rfl, hsup, rfl, rfl, htop, ho⟩
  have at_ : At (NdefX.ncx (L2.CX P w) P w K mg base ["self", "__class__"] ⟨"told", "Fronted.told", defArgs s_Fronted_told, [.Return (some (retE (defBody s_Fronted_told))) (retP (defBody s_Fronted_told))], defScope s_Fronted_told, [("__class__", cc)], cda⟩ f B outs t H E) 3 (fun _ => E) := At.of hr qt (takes_of rfl rfl rfl rfl)
  exact ⟨tOp uAdd (tAtt P w K mg base "SIGN" (tVar 0)) (tSupA P w K mg base A.cFronted "told" 3 (fun _ => E) (tNil)), pet_op op_uAdd (pe_att hr (pv 0)) (pet_super0 sx (by decide) at_), sup_pur (N := ["self", "__class__"]) rfl (sim_Op os_Add (sim_Att (ao_SIGN T) (sim_Var)) (sim_Sup (kid := 2) su G2 (by decide) b2 (sim_Nil))) h⟩
theorem sm_Fronted_told {P : Program} {w : World} {K : PySem.W.Frag} {mg : Str → Option Value} {base : Heap} {A : Ads} (T : Tx P K mg A) (M : SupM P K mg A.cFronted "told" "Fronted.told" "Record.told" s_Fronted_told s_Record_told ["self"] ps_Record_told) : Mth P w K mg base 4 A.cFronted "told" (spF (cz K A) F_Fronted_told) := by
  obtain ⟨cl, ⟨f, cda, cc, f2, fd2, vs, file, tf, oc, kV, doc, pm, ct, ccl, clv, an, od, cdd, cld, osl, ccs, csl, cdD, lk, cd, cell, lc, hvs, hfile, hcl, hm, su, F2, b2⟩, hsup, htop, ho⟩ := M
  exact ⟨f, _, ["self"], cl, hm, sg_Fronted_told T lk cd cell lc hvs hfile hcl su F2 b2 hsup htop ho, Binds.all fun us hl => match us, hl with | [_], _ => rfl⟩
def mt_told : Nat → Option FT
  | 0 => some F_Inserted_told
  | 1 => some F_Removed_told
  | 2 => some F_Fronted_told
  | 3 => some F_Record_told
  | 4 => none
  | 5 => none
  | 6 => none
  | _ => none
theorem mo_told {P : Program} {w : World} {K : PySem.W.Frag} {mg : Str → Option Value} {base : Heap} {A : Ads} (T : Tx P K mg A) {j : Nat} (hj : 4 ≤ j) : ∀ k F, mt_told k = some F → ∃ lv, lv ≤ j ∧ Mth P w K mg base lv ((cz K A).cad k) "told" (spF (cz K A) F) := fun k F h => match k, h with
    | 0, h => by cases (show (some F_Inserted_told : Option FT) = some F from h); exact ⟨4, Nat.le_trans (by decide) hj, sm_Inserted_told T T.m_Inserted_told⟩
    | 1, h => by cases (show (some F_Removed_told : Option FT) = some F from h); exact ⟨4, Nat.le_trans (by decide) hj, sm_Removed_told T T.m_Removed_told⟩
    | 2, h => by cases (show (some F_Fronted_told : Option FT) = some F from h); exact ⟨4, Nat.le_trans (by decide) hj, sm_Fronted_told T T.m_Fronted_told⟩
    | 3, h => by cases (show (some F_Record_told : Option FT) = some F from h); exact ⟨3, Nat.le_trans (by decide) hj, T.m_Record_told.mth sc_Record_told (fun hr => d_Record_told T.G hr) (pur_F (z_Record_told T))⟩
    | 4, h => by cases (show (none : Option FT) = some F from h)
    | 5, h => by cases (show (none : Option FT) = some F from h)
    | 6, h => by cases (show (none : Option FT) = some F from h)
    | _ + 7, h => by cases (show (none : Option FT) = some F from h)
def T_Record_text : TSd :=
  TRet (TMth mt_told "told" (TVar 0) (TNil))
theorem z_Record_text {P : Program} {w : World} {K : PySem.W.Frag} {mg : Str → Option Value} {base : Heap} {A : Ads} (T : Tx P K mg A) : ∀ E, SimS (cz K A) E (t_Record_text P w K mg base A E) T_Record_text := by
  intro E
  unfold t_Record_text T_Record_text
  exact sim_Ret (sim_Mth (mo_told T (by decide)) (sim_Var) (sim_Nil))
def F_Record_text : FT := runF 1 1 T_Record_text
def gx_text : Nat → Option FT
  | 0 => some F_Record_text
  | 1 => some F_Record_text
  | 2 => some F_Record_text
  | 3 => some F_Record_text
  | 4 => none
  | 5 => none
  | 6 => none
  | _ => none
theorem go_text {P : Program} {w : World} {K : PySem.W.Frag} {mg : Str → Option Value} {base : Heap} {A : Ads} (T : Tx P K mg A) {j : Nat} (hj : 6 ≤ j) : ∀ k F, gx_text k = some F → ∃ lv, lv + 1 ≤ j ∧ Get P w K mg base lv ((cz K A).cad k) "text" (spF (cz K A) F) := fun k F h => match k, h with
    | 0, h => by cases (show (some F_Record_text : Option FT) = some F from h); obtain ⟨p, g, fd, h1, h2, h3⟩ := T.prop_Inserted_text; exact ⟨5, Nat.le_trans (by decide) hj, ⟨p, g, fd, T.cls_Inserted, h1, fnok_of h2 sc_Record_text (fun hr => d_Record_text T.G hr) (pur_F (z_Record_text T)), h3⟩⟩
    | 1, h => by cases (show (some F_Record_text : Option FT) = some F from h); obtain ⟨p, g, fd, h1, h2, h3⟩ := T.prop_Removed_text; exact ⟨5, Nat.le_trans (by decide) hj, ⟨p, g, fd, T.cls_Removed, h1, fnok_of h2 sc_Record_text (fun hr => d_Record_text T.G hr) (pur_F (z_Record_text T)), h3⟩⟩
    | 2, h => by cases (show (some F_Record_text : Option FT) = some F from h); obtain ⟨p, g, fd, h1, h2, h3⟩ := T.prop_Fronted_text; exact ⟨5, Nat.le_trans (by decide) hj, ⟨p, g, fd, T.cls_Fronted, h1, fnok_of h2 sc_Record_text (fun hr => d_Record_text T.G hr) (pur_F (z_Record_text T)), h3⟩⟩
    | 3, h => by cases (show (some F_Record_text : Option FT) = some F from h); obtain ⟨p, g, fd, h1, h2, h3⟩ := T.prop_Record_text; exact ⟨5, Nat.le_trans (by decide) hj, ⟨p, g, fd, T.cls_Record, h1, fnok_of h2 sc_Record_text (fun hr => d_Record_text T.G hr) (pur_F (z_Record_text T)), h3⟩⟩
    | 4, h => by cases (show (none : Option FT) = some F from h)
    | 5, h => by cases (show (none : Option FT) = some F from h)
    | 6, h => by cases (show (none : Option FT) = some F from h)
    | _ + 7, h => by cases (show (none : Option FT) = some F from h)
def T_are_records : TSd :=
  TSeq (TIfS (TOr (TNot (TB (TCB (bIsi kn) (PCons (TVar 0) (PCons (TC (.ty "list")) (PNil)))))) (TB (TOp vGt (TCB bLen (PCons (TVar 0) (PNil))) (TVar 1)))) (TRet (TC (.bl false))) (TNext)) (TRet (TCB bAll (PCons (TLc (ILst (TVar 0)) (GName 2) (TYes) (TAndV (TCB (bIsi kn) (PCons (TVar 2) (PCons (TC (.cl 3)) (PNil)))) (TOp vNe (TAtt at_SIGN ct_SIGN "SIGN" (TVar 2)) (TC (.str "")))) [2]) (PNil))))
theorem z_are_records {P : Program} {w : World} {K : PySem.W.Frag} {mg : Str → Option Value} {base : Heap} {A : Ads} (T : Tx P K mg A) : ∀ E, SimS (cz K A) E (t_are_records P w K mg base A E) T_are_records := by
  intro E
  unfold t_are_records T_are_records
  exact sim_Seq (sim_IfS (sim_Or (sim_Not (sim_B (sim_CB (cs_Isi (kno T)) (sim_PCons (sim_Var) (sim_PCons (sim_C fun _ _ => .ty _) (sim_PNil)))))) (sim_Test (sim_Op os_Gt (sim_CB cs_Len (sim_PCons (sim_Var) (sim_PNil))) (sim_Var)))) (sim_Ret (sim_C fun _ _ => .bl _)) (sim_Next)) (sim_Ret (sim_CB cs_All (sim_PCons (sim_Lc rfl (sim_ILst (sim_Var)) (sim_GName) (sim_Yes) (sim_AndV (sim_CB (cs_Isi (kno T)) (sim_PCons (sim_Var) (sim_PCons (sim_C fun _ _ => Tr.cl (c := cz K A) 3) (sim_PNil)))) (sim_Op os_Ne (sim_Att (ao_SIGN T) (sim_Var)) (sim_C fun _ _ => .str _)))) (sim_PNil))))
def F_are_records : FT := runF 2 3 T_are_records
theorem fd_are_records {P : Program} {w : World} {K : PySem.W.Frag} {mg : Str → Option Value} {base : Heap} {A : Ads} (T : Tx P K mg A) : Fn P w K mg base 3 "are_records" (spF (cz K A) F_are_records) := T.f_are_records.fn sc_are_records (fun hr => d_are_records T.G hr) (pur_F (z_are_records T))

def T_items_of : TSd :=
  TRet (TLc (ILst (TVar 0)) (GName 1) (TYes) (TAtt at_item ct_item "item" (TVar 1)) [1])
theorem z_items_of {P : Program} {w : World} {K : PySem.W.Frag} {mg : Str → Option Value} {base : Heap} {A : Ads} (T : Tx P K mg A) : ∀ E, SimS (cz K A) E (t_items_of P w K mg base A E) T_items_of := by
  intro E
  unfold t_items_of T_items_of
  exact sim_Ret (sim_Lc rfl (sim_ILst (sim_Var)) (sim_GName) (sim_Yes) (sim_Att (ao_item T) (sim_Var)))
def F_items_of : FT := runF 1 2 T_items_of
theorem fd_items_of {P : Program} {w : World} {K : PySem.W.Frag} {mg : Str → Option Value} {base : Heap} {A : Ads} (T : Tx P K mg A) : Fn P w K mg base 3 "items_of" (spF (cz K A) F_items_of) := T.f_items_of.fn sc_items_of (fun hr => d_items_of T.G hr) (pur_F (z_items_of T))

def T_is_log : TSd :=
  TSeq (TIfS (TNot (TB (TFn F_are_records (TCons (TVar 0) (TCons (TC (.int 40)) (TNil)))))) (TRet (TC (.bl false))) (TNext)) (TRet (TAndV (TOp vLe (TLenSet (TLc (ILst (TVar 0)) (GName 1) (TYes) (TAtt at_SIGN ct_SIGN "SIGN" (TVar 1)) [1])) (TC (.int 1))) (TOp vEq (TLenSet (TFn F_items_of (TCons (TVar 0) (TNil)))) (TCB bLen (PCons (TVar 0) (PNil))))))
theorem z_is_log {P : Program} {w : World} {K : PySem.W.Frag} {mg : Str → Option Value} {base : Heap} {A : Ads} (T : Tx P K mg A) : ∀ E, SimS (cz K A) E (t_is_log P w K mg base A E) T_is_log := by
  intro E
  unfold t_is_log T_is_log
  exact sim_Seq (sim_IfS (sim_Not (sim_B (sim_Fn (fd_are_records T) (by decide) (sim_Cons (sim_Var) (sim_Cons (sim_C fun _ _ => .int _) (sim_Nil)))))) (sim_Ret (sim_C fun _ _ => .bl _)) (sim_Next)) (sim_Ret (sim_AndV (sim_Op os_Le (sim_LenSet (sim_Lc rfl (sim_ILst (sim_Var)) (sim_GName) (sim_Yes) (sim_Att (ao_SIGN T) (sim_Var)))) (sim_C fun _ _ => .int _)) (sim_Op os_Eq (sim_LenSet (sim_Fn (fd_items_of T) (by decide) (sim_Cons (sim_Var) (sim_Nil)))) (sim_CB cs_Len (sim_PCons (sim_Var) (sim_PNil))))))
def F_is_log : FT := runF 1 2 T_is_log
theorem fd_is_log {P : Program} {w : World} {K : PySem.W.Frag} {mg : Str → Option Value} {base : Heap} {A : Ads} (T : Tx P K mg A) : Fn P w K mg base 4 "is_log" (spF (cz K A) F_is_log) := T.f_is_log.fn sc_is_log (fun hr => d_is_log T.G hr) (pur_F (z_is_log T))
theorem fk_is_log_0 {P : Program} {w : World} {K : PySem.W.Frag} {mg : Str → Option Value} {base : Heap} {A : Ads} (T : Tx P K mg A) : FnK P w K mg base 4 "is_log" ["thing"] pm0 (spF (cz K A) F_is_log) := T.f_is_log.fnKG sc_is_log (fun hr => d_is_log T.G hr) (pur_F (z_is_log T)) pm0_rel (g := pm0) fun _ _ _ _ _ _ ws hl => match ws, hl with | [_], _ => rfl
def T_law_source : TSd :=
  TSeq (TAsg (TIf (TB (TOp vLt (TVar 1) (TCB bLen (PCons (TVar 0) (PNil))))) (TCB bAbs (PCons (TOp vIx (TVar 0) (TVar 1)) (PNil))) (TC (.int 0))) 2) (TRet (TLst (TCons (TCB bMax (PCons (TC (.int 0)) (PCons (TOp vSub (TVar 2) (TOp vPow (TC (.int 10)) (TC (.int 18)))) (PNil)))) (TCons (TOp vAdd (TOp vMul (TOp vMod (TVar 2) (TOp vAdd (TOp vPow (TC (.int 10)) (TC (.int 39))) (TC (.int 153)))) (TC (.int 64))) (TVar 1)) (TCons (TC (.int 0)) (TNil))))))
theorem z_law_source {P : Program} {w : World} {K : PySem.W.Frag} {mg : Str → Option Value} {base : Heap} {A : Ads} (T : Tx P K mg A) : ∀ E, SimS (cz K A) E (t_law_source P w K mg base A E) T_law_source := by
  intro E
  unfold t_law_source T_law_source
  exact sim_Seq (sim_Asg (sim_If (sim_Test (sim_Op os_Lt (sim_Var) (sim_CB cs_Len (sim_PCons (sim_Var) (sim_PNil))))) (sim_CB cs_Abs (sim_PCons (sim_Op os_Ix (sim_Var) (sim_Var)) (sim_PNil))) (sim_C fun _ _ => .int _))) (sim_Ret (sim_Lst (sim_Cons (sim_CB cs_Max (sim_PCons (sim_C fun _ _ => .int _) (sim_PCons (sim_Op os_Sub (sim_Var) (sim_Op os_Pow (sim_C fun _ _ => .int _) (sim_C fun _ _ => .int _))) (sim_PNil)))) (sim_Cons (sim_Op os_Add (sim_Op os_Mul (sim_Op os_Mod (sim_Var) (sim_Op os_Add (sim_Op os_Pow (sim_C fun _ _ => .int _) (sim_C fun _ _ => .int _)) (sim_C fun _ _ => .int _))) (sim_C fun _ _ => .int _)) (sim_Var)) (sim_Cons (sim_C fun _ _ => .int _) (sim_Nil))))))
def F_law_source : FT := runF 2 3 T_law_source
theorem fd_law_source {P : Program} {w : World} {K : PySem.W.Frag} {mg : Str → Option Value} {base : Heap} {A : Ads} (T : Tx P K mg A) : Fn P w K mg base 3 "_law_source" (spF (cz K A) F_law_source) := T.f_law_source.fn sc_law_source (fun hr => d_law_source T.G hr) (pur_F (z_law_source T))

def T_law_pick : TSd :=
  TSeq (TIfS (TB (TOp vGt (TOp vIx (TVar 0) (TC (.int 0))) (TC (.int 0)))) (TSeq (TAsg (TOp vMod (TOp vIx (TVar 0) (TC (.int 0))) (TVar 1)) 2) (TSeq (TSub (TVar 0) (TC (.int 0)) (TOp vDiv (TOp vIx (TVar 0) (TC (.int 0))) (TVar 1))) (TRet (TVar 2)))) (TNext)) (TSeq (TSub (TVar 0) (TC (.int 2)) (TOp vAdd (TOp vIx (TVar 0) (TC (.int 2))) (TC (.int 1)))) (TSeq (TAsg (TOp vMod (TOp vPow (TOp vAdd (TOp vIx (TVar 0) (TC (.int 1))) (TOp vMul (TC (.int 86028121)) (TOp vIx (TVar 0) (TC (.int 2))))) (TC (.int 3))) (TOp vAdd (TOp vPow (TC (.int 10)) (TC (.int 41))) (TC (.int 109)))) 3) (TSeq (TAsg (TOp vMod (TOp vPow (TOp vAdd (TVar 3) (TOp vMul (TC (.int 122949823)) (TOp vIx (TVar 0) (TC (.int 2))))) (TC (.int 5))) (TOp vAdd (TOp vPow (TC (.int 10)) (TC (.int 38))) (TC (.int 133)))) 3) (TRet (TOp vMod (TOp vDiv (TVar 3) (TC (.int 786433))) (TVar 1))))))
theorem z_law_pick {P : Program} {w : World} {K : PySem.W.Frag} {mg : Str → Option Value} {base : Heap} {A : Ads} (T : Tx P K mg A) : ∀ E, SimS (cz K A) E (t_law_pick P w K mg base A E) T_law_pick := by
  intro E
  unfold t_law_pick T_law_pick
  exact sim_Seq (sim_IfS (sim_Test (sim_Op os_Gt (sim_Op os_Ix (sim_Var) (sim_C fun _ _ => .int _)) (sim_C fun _ _ => .int _))) (sim_Seq (sim_Asg (sim_Op os_Mod (sim_Op os_Ix (sim_Var) (sim_C fun _ _ => .int _)) (sim_Var))) (sim_Seq (sim_Sub (sim_Var) (sim_C fun _ _ => .int _) (sim_Op os_Div (sim_Op os_Ix (sim_Var) (sim_C fun _ _ => .int _)) (sim_Var))) (sim_Ret (sim_Var)))) (sim_Next)) (sim_Seq (sim_Sub (sim_Var) (sim_C fun _ _ => .int _) (sim_Op os_Add (sim_Op os_Ix (sim_Var) (sim_C fun _ _ => .int _)) (sim_C fun _ _ => .int _))) (sim_Seq (sim_Asg (sim_Op os_Mod (sim_Op os_Pow (sim_Op os_Add (sim_Op os_Ix (sim_Var) (sim_C fun _ _ => .int _)) (sim_Op os_Mul (sim_C fun _ _ => .int _) (sim_Op os_Ix (sim_Var) (sim_C fun _ _ => .int _)))) (sim_C fun _ _ => .int _)) (sim_Op os_Add (sim_Op os_Pow (sim_C fun _ _ => .int _) (sim_C fun _ _ => .int _)) (sim_C fun _ _ => .int _)))) (sim_Seq (sim_Asg (sim_Op os_Mod (sim_Op os_Pow (sim_Op os_Add (sim_Var) (sim_Op os_Mul (sim_C fun _ _ => .int _) (sim_Op os_Ix (sim_Var) (sim_C fun _ _ => .int _)))) (sim_C fun _ _ => .int _)) (sim_Op os_Add (sim_Op os_Pow (sim_C fun _ _ => .int _) (sim_C fun _ _ => .int _)) (sim_C fun _ _ => .int _)))) (sim_Ret (sim_Op os_Mod (sim_Op os_Div (sim_Var) (sim_C fun _ _ => .int _)) (sim_Var))))))
def F_law_pick : FT := runF 2 4 T_law_pick
theorem fd_law_pick {P : Program} {w : World} {K : PySem.W.Frag} {mg : Str → Option Value} {base : Heap} {A : Ads} (T : Tx P K mg A) : Fn P w K mg base 3 "_law_pick" (spF (cz K A) F_law_pick) := T.f_law_pick.fn sc_law_pick (fun hr => d_law_pick T.G hr) (pur_F (z_law_pick T))

def T_law_shuffled : TSd :=
  TSeq (TAsg (TCB bList (PCons (TVar 1) (PNil))) 2) (TRet (TLc (IRng1 (TCons (TCB bLen (PCons (TVar 1) (PNil))) (TNil))) (GName 3) (TYes) (TBM mPopAt (TVar 2) (TCons (TFn F_law_pick (TCons (TVar 0) (TCons (TCB bLen (PCons (TVar 2) (PNil))) (TNil)))) (TNil))) [3]))
theorem z_law_shuffled {P : Program} {w : World} {K : PySem.W.Frag} {mg : Str → Option Value} {base : Heap} {A : Ads} (T : Tx P K mg A) : ∀ E, SimS (cz K A) E (t_law_shuffled P w K mg base A E) T_law_shuffled := by
  intro E
  unfold t_law_shuffled T_law_shuffled
  exact sim_Seq (sim_Asg (sim_CB cs_List (sim_PCons (sim_Var) (sim_PNil)))) (sim_Ret (sim_Lc rfl (sim_IRng1 (sim_Cons (sim_CB cs_Len (sim_PCons (sim_Var) (sim_PNil))) (sim_Nil))) (sim_GName) (sim_Yes) (sim_BM bm_popAt (sim_Var) (sim_Cons (sim_Fn (fd_law_pick T) (by decide) (sim_Cons (sim_Var) (sim_Cons (sim_CB cs_Len (sim_PCons (sim_Var) (sim_PNil))) (sim_Nil)))) (sim_Nil)))))
def F_law_shuffled : FT := runF 2 4 T_law_shuffled
theorem fd_law_shuffled {P : Program} {w : World} {K : PySem.W.Frag} {mg : Str → Option Value} {base : Heap} {A : Ads} (T : Tx P K mg A) : Fn P w K mg base 4 "_law_shuffled" (spF (cz K A) F_law_shuffled) := T.f_law_shuffled.fn sc_law_shuffled (fun hr => d_law_shuffled T.G hr) (pur_F (z_law_shuffled T))

def T_law_names : TSd :=
  TSeq (TAsg (TC (.str "abcdefghijklmnopqrstuvwxyz")) 2) (TSeq (TAsg (TFn F_law_pick (TCons (TVar 0) (TCons (TC (.int 3)) (TNil)))) 3) (TSeq (TAsg (TLst (TNil)) 4) (TSeq (TFor (IRng1 (TCons (TVar 1) (TNil))) (GName 5) (TSeq (TAsg (TIf (TB (TOp vLt (TVar 5) (TC (.int 26)))) (TOp vIx (TVar 2) (TVar 5)) (TOp vAdd (TOp vIx (TVar 2) (TOp vSub (TOp vDiv (TVar 5) (TC (.int 26))) (TC (.int 1)))) (TOp vIx (TVar 2) (TOp vMod (TVar 5) (TC (.int 26)))))) 6) (TSeq (TAsg (TOp vAdd (TOp vIx (TVar 2) (TOp vDiv (TVar 5) (TC (.int 26)))) (TOp vIx (TVar 2) (TOp vMod (TVar 5) (TC (.int 26))))) 7) (TDrop (TBM mAppend (TVar 4) (TCons (TOp vIx (TLst (TCons (TVar 6) (TCons (TVar 7) (TCons (TOp vAdd (TC (.str "abcdef")) (TVar 7)) (TNil))))) (TVar 3)) (TNil))))))) (TRet (TFn F_law_shuffled (TCons (TVar 0) (TCons (TVar 4) (TNil))))))))
theorem z_law_names {P : Program} {w : World} {K : PySem.W.Frag} {mg : Str → Option Value} {base : Heap} {A : Ads} (T : Tx P K mg A) : ∀ E, SimS (cz K A) E (t_law_names P w K mg base A E) T_law_names := by
  intro E
  unfold t_law_names T_law_names
  exact sim_Seq (sim_Asg (sim_C fun _ _ => .str _)) (sim_Seq (sim_Asg (sim_Fn (fd_law_pick T) (by decide) (sim_Cons (sim_Var) (sim_Cons (sim_C fun _ _ => .int _) (sim_Nil))))) (sim_Seq (sim_Asg (sim_Lst (sim_Nil))) (sim_Seq (sim_For (sim_IRng1 (sim_Cons (sim_Var) (sim_Nil))) (sim_GName) (sim_Seq (sim_Asg (sim_If (sim_Test (sim_Op os_Lt (sim_Var) (sim_C fun _ _ => .int _))) (sim_Op os_Ix (sim_Var) (sim_Var)) (sim_Op os_Add (sim_Op os_Ix (sim_Var) (sim_Op os_Sub (sim_Op os_Div (sim_Var) (sim_C fun _ _ => .int _)) (sim_C fun _ _ => .int _))) (sim_Op os_Ix (sim_Var) (sim_Op os_Mod (sim_Var) (sim_C fun _ _ => .int _)))))) (sim_Seq (sim_Asg (sim_Op os_Add (sim_Op os_Ix (sim_Var) (sim_Op os_Div (sim_Var) (sim_C fun _ _ => .int _))) (sim_Op os_Ix (sim_Var) (sim_Op os_Mod (sim_Var) (sim_C fun _ _ => .int _))))) (sim_Drop (sim_BM bm_append (sim_Var) (sim_Cons (sim_Op os_Ix (sim_Lst (sim_Cons (sim_Var) (sim_Cons (sim_Var) (sim_Cons (sim_Op os_Add (sim_C fun _ _ => .str _) (sim_Var)) (sim_Nil))))) (sim_Var)) (sim_Nil))))))) (sim_Ret (sim_Fn (fd_law_shuffled T) (by decide) (sim_Cons (sim_Var) (sim_Cons (sim_Var) (sim_Nil))))))))
def F_law_names : FT := runF 2 8 T_law_names
theorem fd_law_names {P : Program} {w : World} {K : PySem.W.Frag} {mg : Str → Option Value} {base : Heap} {A : Ads} (T : Tx P K mg A) : Fn P w K mg base 5 "_law_names" (spF (cz K A) F_law_names) := T.f_law_names.fn sc_law_names (fun hr => d_law_names T.G hr) (pur_F (z_law_names T))

def T_law_make : TSd :=
  TSeq (TIfS (TB (TOp vEq (TVar 0) (TC (.int 0)))) (TRet (TFn I_Inserted (TCons (TVar 1) (TCons (TVar 2) (TNil))))) (TNext)) (TSeq (TIfS (TB (TOp vEq (TVar 0) (TC (.int 1)))) (TRet (TFn I_Removed (TCons (TVar 1) (TCons (TVar 2) (TNil))))) (TNext)) (TRet (TIf (TB (TOp vEq (TVar 0) (TC (.int 2)))) (TFn I_Fronted (TCons (TVar 1) (TCons (TVar 2) (TNil)))) (TFn I_Record (TCons (TVar 1) (TCons (TVar 2) (TNil)))))))
theorem z_law_make {P : Program} {w : World} {K : PySem.W.Frag} {mg : Str → Option Value} {base : Heap} {A : Ads} (T : Tx P K mg A) : ∀ E, SimS (cz K A) E (t_law_make P w K mg base A E) T_law_make := by
  intro E
  unfold t_law_make T_law_make
  exact sim_Seq (sim_IfS (sim_Test (sim_Op os_Eq (sim_Var) (sim_C fun _ _ => .int _))) (sim_Ret (sim_Mkr (cn := 0) (mk_Inserted T) (by decide) (sim_Cons (sim_Var) (sim_Cons (sim_Var) (sim_Nil))))) (sim_Next)) (sim_Seq (sim_IfS (sim_Test (sim_Op os_Eq (sim_Var) (sim_C fun _ _ => .int _))) (sim_Ret (sim_Mkr (cn := 1) (mk_Removed T) (by decide) (sim_Cons (sim_Var) (sim_Cons (sim_Var) (sim_Nil))))) (sim_Next)) (sim_Ret (sim_If (sim_Test (sim_Op os_Eq (sim_Var) (sim_C fun _ _ => .int _))) (sim_Mkr (cn := 2) (mk_Fronted T) (by decide) (sim_Cons (sim_Var) (sim_Cons (sim_Var) (sim_Nil)))) (sim_Mkr (cn := 3) (mk_Record T) (by decide) (sim_Cons (sim_Var) (sim_Cons (sim_Var) (sim_Nil)))))))
def F_law_make : FT := runF 3 3 T_law_make
theorem fd_law_make {P : Program} {w : World} {K : PySem.W.Frag} {mg : Str → Option Value} {base : Heap} {A : Ads} (T : Tx P K mg A) : Fn P w K mg base 6 "_law_make" (spF (cz K A) F_law_make) := T.f_law_make.fn sc_law_make (fun hr => d_law_make T.G hr) (pur_F (z_law_make T))

def T_law_rows : TSd :=
  TRet (TLc (ILst (TVar 0)) (GTup 3 (GCons (GName 1) (GCons (GName 2) (GCons (GName 3) (GNil))))) (TYes) (TFn F_law_make (TCons (TVar 1) (TCons (TVar 2) (TCons (TVar 3) (TNil))))) [1, 2, 3])
theorem z_law_rows {P : Program} {w : World} {K : PySem.W.Frag} {mg : Str → Option Value} {base : Heap} {A : Ads} (T : Tx P K mg A) : ∀ E, SimS (cz K A) E (t_law_rows P w K mg base A E) T_law_rows := by
  intro E
  unfold t_law_rows T_law_rows
  exact sim_Ret (sim_Lc rfl (sim_ILst (sim_Var)) (sim_GTup (sim_GCons (sim_GName) (sim_GCons (sim_GName) (sim_GCons (sim_GName) (sim_GNil))))) (sim_Yes) (sim_Fn (fd_law_make T) (by decide) (sim_Cons (sim_Var) (sim_Cons (sim_Var) (sim_Cons (sim_Var) (sim_Nil))))))
def F_law_rows : FT := runF 1 4 T_law_rows
theorem fd_law_rows {P : Program} {w : World} {K : PySem.W.Frag} {mg : Str → Option Value} {base : Heap} {A : Ads} (T : Tx P K mg A) : Fn P w K mg base 7 "_law_rows" (spF (cz K A) F_law_rows) := T.f_law_rows.fn sc_law_rows (fun hr => d_law_rows T.G hr) (pur_F (z_law_rows T))

def T_law_log : TSd :=
  TSeq (TAsg (TOp vIx (TLst (TCons (TFn F_law_pick (TCons (TVar 0) (TCons (TC (.int 4)) (TNil)))) (TCons (TFn F_law_pick (TCons (TVar 0) (TCons (TOp vAdd (TVar 1) (TC (.int 1))) (TNil)))) (TCons (TVar 1) (TNil))))) (TFn F_law_pick (TCons (TVar 0) (TCons (TC (.int 3)) (TNil))))) 2) (TSeq (TPar [3, 4] (PCons (TFn F_law_pick (TCons (TVar 0) (TCons (TC (.int 3)) (TNil)))) (PCons (TOp vIx (TLst (TCons (TC (.int 1)) (TCons (TC (.int 5)) (TCons (TOp vAdd (TVar 2) (TC (.int 1))) (TCons (TC (.int 61)) (TNil)))))) (TFn F_law_pick (TCons (TVar 0) (TCons (TC (.int 4)) (TNil))))) (PNil)))) (TRet (TLc (ILst (TFn F_law_names (TCons (TVar 0) (TCons (TVar 2) (TNil))))) (GName 5) (TYes) (TTup (TCons (TVar 3) (TCons (TVar 5) (TCons (TFn F_law_pick (TCons (TVar 0) (TCons (TCB bMin (PCons (TVar 4) (PCons (TC (.int 61)) (PNil)))) (TNil)))) (TNil))))) [5])))
theorem z_law_log {P : Program} {w : World} {K : PySem.W.Frag} {mg : Str → Option Value} {base : Heap} {A : Ads} (T : Tx P K mg A) : ∀ E, SimS (cz K A) E (t_law_log P w K mg base A E) T_law_log := by
  intro E
  unfold t_law_log T_law_log
  exact sim_Seq (sim_Asg (sim_Op os_Ix (sim_Lst (sim_Cons (sim_Fn (fd_law_pick T) (by decide) (sim_Cons (sim_Var) (sim_Cons (sim_C fun _ _ => .int _) (sim_Nil)))) (sim_Cons (sim_Fn (fd_law_pick T) (by decide) (sim_Cons (sim_Var) (sim_Cons (sim_Op os_Add (sim_Var) (sim_C fun _ _ => .int _)) (sim_Nil)))) (sim_Cons (sim_Var) (sim_Nil))))) (sim_Fn (fd_law_pick T) (by decide) (sim_Cons (sim_Var) (sim_Cons (sim_C fun _ _ => .int _) (sim_Nil)))))) (sim_Seq (sim_ParT (sim_PCons (sim_Fn (fd_law_pick T) (by decide) (sim_Cons (sim_Var) (sim_Cons (sim_C fun _ _ => .int _) (sim_Nil)))) (sim_PCons (sim_Op os_Ix (sim_Lst (sim_Cons (sim_C fun _ _ => .int _) (sim_Cons (sim_C fun _ _ => .int _) (sim_Cons (sim_Op os_Add (sim_Var) (sim_C fun _ _ => .int _)) (sim_Cons (sim_C fun _ _ => .int _) (sim_Nil)))))) (sim_Fn (fd_law_pick T) (by decide) (sim_Cons (sim_Var) (sim_Cons (sim_C fun _ _ => .int _) (sim_Nil))))) (sim_PNil)))) (sim_Ret (sim_Lc rfl (sim_ILst (sim_Fn (fd_law_names T) (by decide) (sim_Cons (sim_Var) (sim_Cons (sim_Var) (sim_Nil))))) (sim_GName) (sim_Yes) (sim_Tup (sim_Cons (sim_Var) (sim_Cons (sim_Var) (sim_Cons (sim_Fn (fd_law_pick T) (by decide) (sim_Cons (sim_Var) (sim_Cons (sim_CB cs_Min (sim_PCons (sim_Var) (sim_PCons (sim_C fun _ _ => .int _) (sim_PNil)))) (sim_Nil)))) (sim_Nil))))))))
def F_law_log : FT := runF 2 6 T_law_log
theorem fd_law_log {P : Program} {w : World} {K : PySem.W.Frag} {mg : Str → Option Value} {base : Heap} {A : Ads} (T : Tx P K mg A) : Fn P w K mg base 6 "_law_log" (spF (cz K A) F_law_log) := T.f_law_log.fn sc_law_log (fun hr => d_law_log T.G hr) (pur_F (z_law_log T))

def T_law_things : TSd :=
  TSeq (TAsg (TLst (TCons (TC .non) (TCons (TC (.bl true)) (TCons (TC (.bl false)) (TCons (TC (.int 0)) (TCons (TC (.int 1)) (TCons (TC (.int 60)) (TCons (TC (.int 61)) (TCons (TUn vNeg (TC (.int 1))) (TCons (TOp vPow (TC (.int 10)) (TC (.int 59))) (TCons (TOp vSub (TC (.int 0)) (TOp vPow (TC (.int 10)) (TC (.int 59)))) (TCons (TC (.str "")) (TCons (TC (.str "a")) (TCons (TC (.str "abcdefgh")) (TCons (TC (.str "abcdefghi")) (TCons (TC (.str "A")) (TCons (TC (.str "aB")) (TNil)))))))))))))))))) 0) (TSeq (TAsg (TOp vAdd (TVar 0) (TLst (TCons (TC (.str "a b")) (TCons (TC (.str " a")) (TCons (TC (.str "a1")) (TCons (TC (.str "a_b")) (TCons (TC (.str "a\n")) (TCons (TC (.str "3")) (TCons (TC (.str "+a@3")) (TCons (TC (.str "zz")) (TCons (TLst (TNil)) (TCons (TLst (TCons (TC (.str "a")) (TNil))) (TCons (TLst (TCons (TC (.int 0)) (TNil))) (TCons (TTup (TNil)) (TCons (TTup (TCons (TC (.str "a")) (TNil))) (TCons (TTup (TCons (TC (.int 0)) (TNil))) (TCons (TDNew) (TCons (TDct1 (TC (.str "a")) (TC (.int 0))) (TNil))))))))))))))))))) 0) (TRet (TOp vAdd (TVar 0) (TLst (TCons (TLst (TCons (TLst (TCons (TLst (TCons (TLst (TCons (TLst (TNil)) (TNil))) (TNil))) (TNil))) (TNil))) (TCons (TLst (TCons (TC .non) (TNil))) (TCons (TFn I_Inserted (TCons (TC (.str "a")) (TCons (TC (.int 0)) (TNil)))) (TCons (TFn I_Record (TCons (TC (.str "b")) (TCons (TC (.int 3)) (TNil)))) (TCons (TLst (TCons (TFn I_Fronted (TCons (TC (.str "c")) (TCons (TC (.int 1)) (TNil)))) (TNil))) (TCons (TDct1 (TC (.str "a")) (TFn I_Removed (TCons (TC (.str "a")) (TCons (TC (.int 0)) (TNil))))) (TNil)))))))))))
theorem z_law_things {P : Program} {w : World} {K : PySem.W.Frag} {mg : Str → Option Value} {base : Heap} {A : Ads} (T : Tx P K mg A) : ∀ E, SimS (cz K A) E (t_law_things P w K mg base A E) T_law_things := by
  intro E
  unfold t_law_things T_law_things
  exact sim_Seq (sim_Asg (sim_Lst (sim_Cons (sim_C fun _ _ => .non) (sim_Cons (sim_C fun _ _ => .bl _) (sim_Cons (sim_C fun _ _ => .bl _) (sim_Cons (sim_C fun _ _ => .int _) (sim_Cons (sim_C fun _ _ => .int _) (sim_Cons (sim_C fun _ _ => .int _) (sim_Cons (sim_C fun _ _ => .int _) (sim_Cons (sim_Un us_Neg (sim_C fun _ _ => .int _)) (sim_Cons (sim_Op os_Pow (sim_C fun _ _ => .int _) (sim_C fun _ _ => .int _)) (sim_Cons (sim_Op os_Sub (sim_C fun _ _ => .int _) (sim_Op os_Pow (sim_C fun _ _ => .int _) (sim_C fun _ _ => .int _))) (sim_Cons (sim_C fun _ _ => .str _) (sim_Cons (sim_C fun _ _ => .str _) (sim_Cons (sim_C fun _ _ => .str _) (sim_Cons (sim_C fun _ _ => .str _) (sim_Cons (sim_C fun _ _ => .str _) (sim_Cons (sim_C fun _ _ => .str _) (sim_Nil))))))))))))))))))) (sim_Seq (sim_Asg (sim_Op os_Add (sim_Var) (sim_Lst (sim_Cons (sim_C fun _ _ => .str _) (sim_Cons (sim_C fun _ _ => .str _) (sim_Cons (sim_C fun _ _ => .str _) (sim_Cons (sim_C fun _ _ => .str _) (sim_Cons (sim_C fun _ _ => .str _) (sim_Cons (sim_C fun _ _ => .str _) (sim_Cons (sim_C fun _ _ => .str _) (sim_Cons (sim_C fun _ _ => .str _) (sim_Cons (sim_Lst (sim_Nil)) (sim_Cons (sim_Lst (sim_Cons (sim_C fun _ _ => .str _) (sim_Nil))) (sim_Cons (sim_Lst (sim_Cons (sim_C fun _ _ => .int _) (sim_Nil))) (sim_Cons (sim_Tup (sim_Nil)) (sim_Cons (sim_Tup (sim_Cons (sim_C fun _ _ => .str _) (sim_Nil))) (sim_Cons (sim_Tup (sim_Cons (sim_C fun _ _ => .int _) (sim_Nil))) (sim_Cons (sim_DNew) (sim_Cons (sim_Dct1 (sim_C fun _ _ => .str _) (sim_C fun _ _ => .int _)) (sim_Nil)))))))))))))))))))) (sim_Ret (sim_Op os_Add (sim_Var) (sim_Lst (sim_Cons (sim_Lst (sim_Cons (sim_Lst (sim_Cons (sim_Lst (sim_Cons (sim_Lst (sim_Cons (sim_Lst (sim_Nil)) (sim_Nil))) (sim_Nil))) (sim_Nil))) (sim_Nil))) (sim_Cons (sim_Lst (sim_Cons (sim_C fun _ _ => .non) (sim_Nil))) (sim_Cons (sim_Mkr (cn := 0) (mk_Inserted T) (by decide) (sim_Cons (sim_C fun _ _ => .str _) (sim_Cons (sim_C fun _ _ => .int _) (sim_Nil)))) (sim_Cons (sim_Mkr (cn := 3) (mk_Record T) (by decide) (sim_Cons (sim_C fun _ _ => .str _) (sim_Cons (sim_C fun _ _ => .int _) (sim_Nil)))) (sim_Cons (sim_Lst (sim_Cons (sim_Mkr (cn := 2) (mk_Fronted T) (by decide) (sim_Cons (sim_C fun _ _ => .str _) (sim_Cons (sim_C fun _ _ => .int _) (sim_Nil)))) (sim_Nil))) (sim_Cons (sim_Dct1 (sim_C fun _ _ => .str _) (sim_Mkr (cn := 1) (mk_Removed T) (by decide) (sim_Cons (sim_C fun _ _ => .str _) (sim_Cons (sim_C fun _ _ => .int _) (sim_Nil))))) (sim_Nil)))))))))))
def F_law_things : FT := runF 0 1 T_law_things
theorem fd_law_things {P : Program} {w : World} {K : PySem.W.Frag} {mg : Str → Option Value} {base : Heap} {A : Ads} (T : Tx P K mg A) : Fn P w K mg base 7 "_law_things" (spF (cz K A) F_law_things) := T.f_law_things.fn sc_law_things (fun hr => d_law_things T.G hr) (pur_F (z_law_things T))

def T_law_due : TSd :=
  TSeq (TIfS (TOr (TNot (TB (TCB (bIsi kn) (PCons (TVar 0) (PCons (TC (.ty "list")) (PNil)))))) (TB (TOp vGt (TCB bLen (PCons (TVar 0) (PNil))) (TC (.int 40))))) (TRet (TC (.bl false))) (TNext)) (TSeq (TIfS (TB (TOp vNe (TLc (ILst (TVar 0)) (GName 2) (TNot (TB (TCB (bIsiT kn) (PCons (TVar 2) (PCons (TTup (TCons (TC (.cl 0)) (TCons (TC (.cl 1)) (TCons (TC (.cl 2)) (TNil))))) (PNil)))))) (TC (.int 1)) [2]) (TLst (TNil)))) (TRet (TC (.bl false))) (TNext)) (TSeq (TAsg (TLc (ILst (TVar 0)) (GName 2) (TYes) (TSl slS (TGet gx_text (TVar 2)) (TNoP) (TPart (TC (.int 1)))) [2]) 1) (TRet (TAndV (TOp vEq (TVar 1) (TOp vMul (TSl slL (TVar 1) (TNoP) (TPart (TC (.int 1)))) (TCB bLen (PCons (TVar 1) (PNil))))) (TOp vEq (TLenSet (TLc (ILst (TVar 0)) (GName 2) (TYes) (TAtt at_item ct_item "item" (TVar 2)) [2])) (TCB bLen (PCons (TVar 0) (PNil))))))))
theorem z_law_due {P : Program} {w : World} {K : PySem.W.Frag} {mg : Str → Option Value} {base : Heap} {A : Ads} (T : Tx P K mg A) : ∀ E, SimS (cz K A) E (t_law_due P w K mg base A E) T_law_due := by
  intro E
  unfold t_law_due T_law_due
  exact sim_Seq (sim_IfS (sim_Or (sim_Not (sim_B (sim_CB (cs_Isi (kno T)) (sim_PCons (sim_Var) (sim_PCons (sim_C fun _ _ => .ty _) (sim_PNil)))))) (sim_Test (sim_Op os_Gt (sim_CB cs_Len (sim_PCons (sim_Var) (sim_PNil))) (sim_C fun _ _ => .int _)))) (sim_Ret (sim_C fun _ _ => .bl _)) (sim_Next)) (sim_Seq (sim_IfS (sim_Test (sim_Op os_Ne (sim_Lc rfl (sim_ILst (sim_Var)) (sim_GName) (sim_Not (sim_B (sim_CB (cs_IsiT (kno T)) (sim_PCons (sim_Var) (sim_PCons (sim_Tup (sim_Cons (sim_C fun _ _ => Tr.cl (c := cz K A) 0) (sim_Cons (sim_C fun _ _ => Tr.cl (c := cz K A) 1) (sim_Cons (sim_C fun _ _ => Tr.cl (c := cz K A) 2) (sim_Nil))))) (sim_PNil)))))) (sim_C fun _ _ => .int _)) (sim_Lst (sim_Nil)))) (sim_Ret (sim_C fun _ _ => .bl _)) (sim_Next)) (sim_Seq (sim_Asg (sim_Lc rfl (sim_ILst (sim_Var)) (sim_GName) (sim_Yes) (sim_Sl ss_S (sim_Get (go_text T (by decide)) (sim_Var)) (sim_NoP) (sim_Part (sim_C fun _ _ => .int _))))) (sim_Ret (sim_AndV (sim_Op os_Eq (sim_Var) (sim_Op os_Mul (sim_Sl ss_L (sim_Var) (sim_NoP) (sim_Part (sim_C fun _ _ => .int _))) (sim_CB cs_Len (sim_PCons (sim_Var) (sim_PNil))))) (sim_Op os_Eq (sim_LenSet (sim_Lc rfl (sim_ILst (sim_Var)) (sim_GName) (sim_Yes) (sim_Att (ao_item T) (sim_Var)))) (sim_CB cs_Len (sim_PCons (sim_Var) (sim_PNil))))))))
def F_law_due : FT := runF 1 3 T_law_due
theorem fd_law_due {P : Program} {w : World} {K : PySem.W.Frag} {mg : Str → Option Value} {base : Heap} {A : Ads} (T : Tx P K mg A) : Fn P w K mg base 7 "_law_due" (spF (cz K A) F_law_due) := T.f_law_due.fn sc_law_due (fun hr => d_law_due T.G hr) (pur_F (z_law_due T))

def T_law_right : TSd :=
  TSeq (TAsg (TFn F_law_due (TCons (TVar 0) (TNil))) 1) (TRet (TOp vEq (TCB bRepr (PCons (TLst (TCons (TFn F_is_log (TCons (TVar 0) (TNil))) (TCons (TFnK F_is_log 1 (pm0) (TCons (TVar 0) (TNil))) (TNil)))) (PNil))) (TCB bRepr (PCons (TLst (TCons (TVar 1) (TCons (TVar 1) (TNil)))) (PNil)))))
theorem z_law_right {P : Program} {w : World} {K : PySem.W.Frag} {mg : Str → Option Value} {base : Heap} {A : Ads} (T : Tx P K mg A) : ∀ E, SimS (cz K A) E (t_law_right P w K mg base A E) T_law_right := by
  intro E
  unfold t_law_right T_law_right
  exact sim_Seq (sim_Asg (sim_Fn (fd_law_due T) (by decide) (sim_Cons (sim_Var) (sim_Nil)))) (sim_Ret (sim_Op os_Eq (sim_CB cs_Repr (sim_PCons (sim_Lst (sim_Cons (sim_Fn (fd_is_log T) (by decide) (sim_Cons (sim_Var) (sim_Nil))) (sim_Cons (sim_FnK (fk_is_log_0 T) (fun t => pm0_tr t) (by decide) (sim_Cons (sim_Var) (sim_Nil))) (sim_Nil)))) (sim_PNil))) (sim_CB cs_Repr (sim_PCons (sim_Lst (sim_Cons (sim_Var) (sim_Cons (sim_Var) (sim_Nil)))) (sim_PNil)))))
def F_law_right : FT := runF 1 2 T_law_right
theorem fd_law_right {P : Program} {w : World} {K : PySem.W.Frag} {mg : Str → Option Value} {base : Heap} {A : Ads} (T : Tx P K mg A) : Fn P w K mg base 8 "_law_right" (spF (cz K A) F_law_right) := T.f_law_right.fn sc_law_right (fun hr => d_law_right T.G hr) (pur_F (z_law_right T))

def T_law_changed : TSd :=
  TSeq (TPar [3, 4] (PCons (TFn F_law_pick (TCons (TVar 0) (TCons (TOp vAdd (TCB bLen (PCons (TVar 1) (PNil))) (TC (.int 1))) (TNil)))) (PCons (TFn F_law_pick (TCons (TVar 0) (TCons (TC (.int 9)) (TNil)))) (PNil)))) (TSeq (TAsg (TLst (TCons (TC .non) (TCons (TC (.int 0)) (TCons (TC (.bl true)) (TCons (TC (.str "+a@0")) (TCons (TC (.str "a")) (TCons (TLst (TNil)) (TCons (TTup (TNil)) (TCons (TDNew) (TCons (TTup (TCons (TC (.str "a")) (TCons (TC (.int 0)) (TNil)))) (TCons (TLst (TCons (TC (.str "a")) (TCons (TC (.int 0)) (TNil)))) (TNil)))))))))))) 5) (TSeq (TAsg (TLst (TCons (TOp vIx (TVar 5) (TFn F_law_pick (TCons (TVar 0) (TCons (TC (.int 10)) (TNil))))) (TCons (TFn I_Record (TCons (TC (.str "zzz")) (TCons (TC (.int 0)) (TNil)))) (TCons (TFn I_Inserted (TCons (TC (.str "zzz")) (TCons (TC (.int 0)) (TNil)))) (TCons (TFn I_Removed (TCons (TC (.str "zzz")) (TCons (TC (.int 60)) (TNil)))) (TCons (TFn I_Fronted (TCons (TC (.str "zzz")) (TCons (TC (.int 1)) (TNil)))) (TNil))))))) 6) (TSeq (TAsg (TOp vAdd (TOp vAdd (TSl slL (TVar 1) (TNoP) (TPart (TVar 3))) (TLst (TCons (TOp vIx (TVar 6) (TOp vMod (TVar 4) (TC (.int 5)))) (TNil)))) (TSl slL (TVar 1) (TPart (TVar 3)) (TNoP))) 7) (TSeq (TIfS (TAnd (TB (TOp vGt (TVar 4) (TC (.int 5)))) (TB (TOp vNe (TVar 1) (TLst (TNil))))) (TSeq (TAsgG (TOp vIx (TVar 2) (TFn F_law_pick (TCons (TVar 0) (TCons (TCB bLen (PCons (TVar 2) (PNil))) (TNil))))) (GTup 3 (GCons (GName 8) (GCons (GName 9) (GCons (GName 10) (GNil)))))) (TAsg (TOp vAdd (TOp vAdd (TSl slL (TVar 1) (TNoP) (TPart (TVar 3))) (TLst (TCons (TOp vIx (TLst (TCons (TFn F_law_make (TCons (TVar 8) (TCons (TVar 9) (TCons (TOp vSub (TC (.int 60)) (TVar 10)) (TNil))))) (TCons (TOp vIx (TVar 1) (TC (.int 0))) (TCons (TOp vIx (TVar 1) (TUn vNeg (TC (.int 1)))) (TNil))))) (TOp vSub (TVar 4) (TC (.int 6)))) (TNil)))) (TSl slL (TVar 1) (TPart (TVar 3)) (TNoP))) 7)) (TNext)) (TRet (TVar 7))))))
theorem z_law_changed {P : Program} {w : World} {K : PySem.W.Frag} {mg : Str → Option Value} {base : Heap} {A : Ads} (T : Tx P K mg A) : ∀ E, SimS (cz K A) E (t_law_changed P w K mg base A E) T_law_changed := by
  intro E
  unfold t_law_changed T_law_changed
  exact sim_Seq (sim_Par (sim_PCons (sim_Fn (fd_law_pick T) (by decide) (sim_Cons (sim_Var) (sim_Cons (sim_Op os_Add (sim_CB cs_Len (sim_PCons (sim_Var) (sim_PNil))) (sim_C fun _ _ => .int _)) (sim_Nil)))) (sim_PCons (sim_Fn (fd_law_pick T) (by decide) (sim_Cons (sim_Var) (sim_Cons (sim_C fun _ _ => .int _) (sim_Nil)))) (sim_PNil)))) (sim_Seq (sim_Asg (sim_Lst (sim_Cons (sim_C fun _ _ => .non) (sim_Cons (sim_C fun _ _ => .int _) (sim_Cons (sim_C fun _ _ => .bl _) (sim_Cons (sim_C fun _ _ => .str _) (sim_Cons (sim_C fun _ _ => .str _) (sim_Cons (sim_Lst (sim_Nil)) (sim_Cons (sim_Tup (sim_Nil)) (sim_Cons (sim_DNew) (sim_Cons (sim_Tup (sim_Cons (sim_C fun _ _ => .str _) (sim_Cons (sim_C fun _ _ => .int _) (sim_Nil)))) (sim_Cons (sim_Lst (sim_Cons (sim_C fun _ _ => .str _) (sim_Cons (sim_C fun _ _ => .int _) (sim_Nil)))) (sim_Nil))))))))))))) (sim_Seq (sim_Asg (sim_Lst (sim_Cons (sim_Op os_Ix (sim_Var) (sim_Fn (fd_law_pick T) (by decide) (sim_Cons (sim_Var) (sim_Cons (sim_C fun _ _ => .int _) (sim_Nil))))) (sim_Cons (sim_Mkr (cn := 3) (mk_Record T) (by decide) (sim_Cons (sim_C fun _ _ => .str _) (sim_Cons (sim_C fun _ _ => .int _) (sim_Nil)))) (sim_Cons (sim_Mkr (cn := 0) (mk_Inserted T) (by decide) (sim_Cons (sim_C fun _ _ => .str _) (sim_Cons (sim_C fun _ _ => .int _) (sim_Nil)))) (sim_Cons (sim_Mkr (cn := 1) (mk_Removed T) (by decide) (sim_Cons (sim_C fun _ _ => .str _) (sim_Cons (sim_C fun _ _ => .int _) (sim_Nil)))) (sim_Cons (sim_Mkr (cn := 2) (mk_Fronted T) (by decide) (sim_Cons (sim_C fun _ _ => .str _) (sim_Cons (sim_C fun _ _ => .int _) (sim_Nil)))) (sim_Nil)))))))) (sim_Seq (sim_Asg (sim_Op os_Add (sim_Op os_Add (sim_Sl ss_L (sim_Var) (sim_NoP) (sim_Part (sim_Var))) (sim_Lst (sim_Cons (sim_Op os_Ix (sim_Var) (sim_Op os_Mod (sim_Var) (sim_C fun _ _ => .int _))) (sim_Nil)))) (sim_Sl ss_L (sim_Var) (sim_Part (sim_Var)) (sim_NoP)))) (sim_Seq (sim_IfS (sim_And (sim_Test (sim_Op os_Gt (sim_Var) (sim_C fun _ _ => .int _))) (sim_Test (sim_Op os_Ne (sim_Var) (sim_Lst (sim_Nil))))) (sim_Seq (sim_AsgG (sim_Op os_Ix (sim_Var) (sim_Fn (fd_law_pick T) (by decide) (sim_Cons (sim_Var) (sim_Cons (sim_CB cs_Len (sim_PCons (sim_Var) (sim_PNil))) (sim_Nil))))) (sim_GTup (sim_GCons (sim_GName) (sim_GCons (sim_GName) (sim_GCons (sim_GName) (sim_GNil)))))) (sim_Asg (sim_Op os_Add (sim_Op os_Add (sim_Sl ss_L (sim_Var) (sim_NoP) (sim_Part (sim_Var))) (sim_Lst (sim_Cons (sim_Op os_Ix (sim_Lst (sim_Cons (sim_Fn (fd_law_make T) (by decide) (sim_Cons (sim_Var) (sim_Cons (sim_Var) (sim_Cons (sim_Op os_Sub (sim_C fun _ _ => .int _) (sim_Var)) (sim_Nil))))) (sim_Cons (sim_Op os_Ix (sim_Var) (sim_C fun _ _ => .int _)) (sim_Cons (sim_Op os_Ix (sim_Var) (sim_Un us_Neg (sim_C fun _ _ => .int _))) (sim_Nil))))) (sim_Op os_Sub (sim_Var) (sim_C fun _ _ => .int _))) (sim_Nil)))) (sim_Sl ss_L (sim_Var) (sim_Part (sim_Var)) (sim_NoP))))) (sim_Next)) (sim_Ret (sim_Var))))))
def F_law_changed : FT := runF 3 11 T_law_changed
theorem fd_law_changed {P : Program} {w : World} {K : PySem.W.Frag} {mg : Str → Option Value} {base : Heap} {A : Ads} (T : Tx P K mg A) : Fn P w K mg base 7 "_law_changed" (spF (cz K A) F_law_changed) := T.f_law_changed.fn sc_law_changed (fun hr => d_law_changed T.G hr) (pur_F (z_law_changed T))

def T_law_texts : TSd :=
  TRet (TLc (ILst (TVar 0)) (GName 1) (TYes) (TGet gx_text (TVar 1)) [1])
theorem z_law_texts {P : Program} {w : World} {K : PySem.W.Frag} {mg : Str → Option Value} {base : Heap} {A : Ads} (T : Tx P K mg A) : ∀ E, SimS (cz K A) E (t_law_texts P w K mg base A E) T_law_texts := by
  intro E
  unfold t_law_texts T_law_texts
  exact sim_Ret (sim_Lc rfl (sim_ILst (sim_Var)) (sim_GName) (sim_Yes) (sim_Get (go_text T (by decide)) (sim_Var)))
def F_law_texts : FT := runF 1 2 T_law_texts
theorem fd_law_texts {P : Program} {w : World} {K : PySem.W.Frag} {mg : Str → Option Value} {base : Heap} {A : Ads} (T : Tx P K mg A) : Fn P w K mg base 7 "_law_texts" (spF (cz K A) F_law_texts) := T.f_law_texts.fn sc_law_texts (fun hr => d_law_texts T.G hr) (pur_F (z_law_texts T))

def T_law : TSd :=
  TSeq (TFor (IRng1 (TCons (TCB bMax (PCons (TC (.int 1)) (PCons (TCB bMin (PCons (TC (.int 8)) (PCons (TCB bLen (PCons (TVar 0) (PNil))) (PNil)))) (PNil)))) (TNil))) (GName 1) (TSeq (TAsg (TKeep (TFn F_law_source (TCons (TVar 0) (TCons (TVar 1) (TNil))))) 2) (TFor (IRng1 (TCons (TC (.int 10)) (TNil))) (GName 3) (TSeq (TAsg (TFn F_law_log (TCons (TVar 2) (TCons (TC (.int 41)) (TNil)))) 4) (TSeq (TAsg (TFn F_law_rows (TCons (TVar 4) (TNil))) 5) (TSeq (TAsg (TFn F_law_texts (TCons (TVar 5) (TNil))) 6) (TSeq (TAsg (TLst (TCons (TVar 5) (TCons (TRevL (TVar 5)) (TCons (TFn F_law_changed (TCons (TVar 2) (TCons (TVar 5) (TCons (TVar 4) (TNil))))) (TCons (TSl slL (TVar 5) (TNoP) (TPart (TC (.int 40)))) (TCons (TSl slL (TVar 5) (TPart (TC (.int 1))) (TNoP)) (TCons (TCB bTuple (PCons (TVar 5) (PNil))) (TCons (TLst (TCons (TVar 5) (TNil))) (TNil))))))))) 7) (TSeq (TAsg (TOp vAdd (TVar 7) (TLst (TCons (TOp vAdd (TVar 5) (TVar 5)) (TCons (TFn F_law_changed (TCons (TVar 2) (TCons (TSl slL (TVar 5) (TNoP) (TPart (TC (.int 39)))) (TCons (TSl slL (TVar 4) (TNoP) (TPart (TC (.int 39)))) (TNil))))) (TCons (TDct1 (TC (.str "a")) (TVar 5)) (TCons (TOp vAdd (TVar 5) (TLst (TCons (TC .non) (TNil)))) (TNil))))))) 7) (TIfS (TOr (TB (TOp vNe (TLc (ILst (TVar 7)) (GName 8) (TNot (TB (TFn F_law_right (TCons (TVar 8) (TNil))))) (TVar 8) [8]) (TLst (TNil)))) (TB (TOp vNe (TFn F_law_texts (TCons (TVar 5) (TNil))) (TVar 6)))) (TRet (TC (.bl false))) (TNext)))))))))) (TSeq (TAsg (TFn F_law_things (TNil)) 7) (TSeq (TIfS (TB (TOp vNe (TLc (ILst (TVar 7)) (GName 8) (TOr (TNot (TB (TFn F_law_right (TCons (TVar 8) (TNil))))) (TNot (TB (TFn F_law_right (TCons (TLst (TCons (TVar 8) (TNil))) (TNil)))))) (TVar 8) [8]) (TLst (TNil)))) (TRet (TC (.bl false))) (TNext)) (TRet (TAndV (TOp vIsB (TFn F_is_log (TCons (TLst (TNil)) (TNil))) (TC (.bl true))) (TOp vIsB (TFn F_is_log (TCons (TLst (TCons (TFn I_Inserted (TCons (TC (.str "x")) (TCons (TC (.int 1)) (TNil)))) (TCons (TFn I_Removed (TCons (TC (.str "y")) (TCons (TC (.int 0)) (TNil)))) (TNil)))) (TNil))) (TC (.bl false)))))))
theorem z_law {P : Program} {w : World} {K : PySem.W.Frag} {mg : Str → Option Value} {base : Heap} {A : Ads} (T : Tx P K mg A) : ∀ E, SimS (cz K A) E (t_law P w K mg base A E) T_law := by
  intro E
  unfold t_law T_law
  exact sim_Seq (sim_For (sim_IRng1 (sim_Cons (sim_CB cs_Max (sim_PCons (sim_C fun _ _ => .int _) (sim_PCons (sim_CB cs_Min (sim_PCons (sim_C fun _ _ => .int _) (sim_PCons (sim_CB cs_Len (sim_PCons (sim_Var) (sim_PNil))) (sim_PNil)))) (sim_PNil)))) (sim_Nil))) (sim_GName) (sim_Seq (sim_Asg (sim_Keep (sim_Fn (fd_law_source T) (by decide) (sim_Cons (sim_Var) (sim_Cons (sim_Var) (sim_Nil)))))) (sim_For (sim_IRng1 (sim_Cons (sim_C fun _ _ => .int _) (sim_Nil))) (sim_GName) (sim_Seq (sim_Asg (sim_Fn (fd_law_log T) (by decide) (sim_Cons (sim_Var) (sim_Cons (sim_C fun _ _ => .int _) (sim_Nil))))) (sim_Seq (sim_Asg (sim_Fn (fd_law_rows T) (by decide) (sim_Cons (sim_Var) (sim_Nil)))) (sim_Seq (sim_Asg (sim_Fn (fd_law_texts T) (by decide) (sim_Cons (sim_Var) (sim_Nil)))) (sim_Seq (sim_Asg (sim_Lst (sim_Cons (sim_Var) (sim_Cons (sim_RevL (sim_Var)) (sim_Cons (sim_Fn (fd_law_changed T) (by decide) (sim_Cons (sim_Var) (sim_Cons (sim_Var) (sim_Cons (sim_Var) (sim_Nil))))) (sim_Cons (sim_Sl ss_L (sim_Var) (sim_NoP) (sim_Part (sim_C fun _ _ => .int _))) (sim_Cons (sim_Sl ss_L (sim_Var) (sim_Part (sim_C fun _ _ => .int _)) (sim_NoP)) (sim_Cons (sim_CB cs_Tuple (sim_PCons (sim_Var) (sim_PNil))) (sim_Cons (sim_Lst (sim_Cons (sim_Var) (sim_Nil))) (sim_Nil)))))))))) (sim_Seq (sim_Asg (sim_Op os_Add (sim_Var) (sim_Lst (sim_Cons (sim_Op os_Add (sim_Var) (sim_Var)) (sim_Cons (sim_Fn (fd_law_changed T) (by decide) (sim_Cons (sim_Var) (sim_Cons (sim_Sl ss_L (sim_Var) (sim_NoP) (sim_Part (sim_C fun _ _ => .int _))) (sim_Cons (sim_Sl ss_L (sim_Var) (sim_NoP) (sim_Part (sim_C fun _ _ => .int _))) (sim_Nil))))) (sim_Cons (sim_Dct1 (sim_C fun _ _ => .str _) (sim_Var)) (sim_Cons (sim_Op os_Add (sim_Var) (sim_Lst (sim_Cons (sim_C fun _ _ => .non) (sim_Nil)))) (sim_Nil)))))))) (sim_IfS (sim_Or (sim_Test (sim_Op os_Ne (sim_Lc rfl (sim_ILst (sim_Var)) (sim_GName) (sim_Not (sim_B (sim_Fn (fd_law_right T) (by decide) (sim_Cons (sim_Var) (sim_Nil))))) (sim_Var)) (sim_Lst (sim_Nil)))) (sim_Test (sim_Op os_Ne (sim_Fn (fd_law_texts T) (by decide) (sim_Cons (sim_Var) (sim_Nil))) (sim_Var)))) (sim_Ret (sim_C fun _ _ => .bl _)) (sim_Next)))))))))) (sim_Seq (sim_Asg (sim_Fn (fd_law_things T) (by decide) (sim_Nil))) (sim_Seq (sim_IfS (sim_Test (sim_Op os_Ne (sim_Lc rfl (sim_ILst (sim_Var)) (sim_GName) (sim_Or (sim_Not (sim_B (sim_Fn (fd_law_right T) (by decide) (sim_Cons (sim_Var) (sim_Nil))))) (sim_Not (sim_B (sim_Fn (fd_law_right T) (by decide) (sim_Cons (sim_Lst (sim_Cons (sim_Var) (sim_Nil))) (sim_Nil)))))) (sim_Var)) (sim_Lst (sim_Nil)))) (sim_Ret (sim_C fun _ _ => .bl _)) (sim_Next)) (sim_Ret (sim_AndV (sim_Op os_IsB (sim_Fn (fd_is_log T) (by decide) (sim_Cons (sim_Lst (sim_Nil)) (sim_Nil))) (sim_C fun _ _ => .bl _)) (sim_Op os_IsB (sim_Fn (fd_is_log T) (by decide) (sim_Cons (sim_Lst (sim_Cons (sim_Mkr (cn := 0) (mk_Inserted T) (by decide) (sim_Cons (sim_C fun _ _ => .str _) (sim_Cons (sim_C fun _ _ => .int _) (sim_Nil)))) (sim_Cons (sim_Mkr (cn := 1) (mk_Removed T) (by decide) (sim_Cons (sim_C fun _ _ => .str _) (sim_Cons (sim_C fun _ _ => .int _) (sim_Nil)))) (sim_Nil)))) (sim_Nil))) (sim_C fun _ _ => .bl _))))))
def F_law : FT := runF 1 9 T_law
theorem fd_law {P : Program} {w : World} {K : PySem.W.Frag} {mg : Str → Option Value} {base : Heap} {A : Ads} (T : Tx P K mg A) : Fn P w K mg base 9 "law" (spF (cz K A) F_law) := T.f_law.fn sc_law (fun hr => d_law T.G hr) (pur_F (z_law T))

end
end K
namespace K
open PySem PySem.Spec PyProof.Rows L2 U ClX Z
local macro_rules | `(tactic| walk_at "zs") => `(tactic| simp only [wu_TGet, wp_getM, vIsB_bl, wp_reprM, wu_TReprM, lcC_scr, lcC_list, forC_scr, forC_list, wp_listC, wp_enC, wu_IEnumC, wu_ILstC, ws_TForC, wu_TEqO, wp_eqO, wu_TFmt, wu_TJs_nil, wu_TJs_cons, wp_jStr, endQ_nx, endQ_rt, tryX_f, tryX_t, tryQ_ct, tryQ_bk, tryQ_rt, tryQ_nx, tryQ_ex, ws_try, wu_TRaiseF, wu_TRaise, wu_TAttE, wu_TLenSet, wu_TDct1, wu_TC, wu_TOp, wu_TUn, wu_TB, wu_TNotV, wu_TAndV, wu_TOrV, wu_TIf, wu_TNot, wu_TAnd, wu_TOr, wu_TYes, wu_TChain, wu_TNil, wu_TCons, wu_TStar, wu_PNil, wu_PCons, wu_TLst, wu_TTup, wu_TCB, wu_TNext, wu_TBreak, wu_TCont, wu_TRet, wu_TRetN, wu_TDrop, wu_TIfS, wu_TAsg, wu_TPar, wu_ILst, wu_ITup, wu_IStr, wu_IRng1, wu_IRng2, wu_IEnum, wu_IZip, wu_TBM, wu_TBP, wu_TAug, wu_TSub, wu_TDPut, wu_TFld, wu_TFn, wu_TFnK, wu_TMth, wu_TMthK, wp_meth, wu_TAtt, wu_TNoP, wu_TPart, wu_TSl, wu_TRevL, wu_TDGet, wu_TDNew, wu_TIndex, wu_TAsgG, wu_TKeep, wu_TSup, GName, GTup, GCons, GNil,   ws_seq, ws_sb, ws_some, ws_nxt, ws_ite, ws_for, sqQ_nx, sqQ_rt, sqQ_bk, sqQ_ct, sqQ_ex, wp_bnd, wp_ret, wp_some, wp_opt, wp_pk, wp_pks_nil, wp_pks_cons, wp_ite, wp_call, wp_Var, varQ_s, varQ_o, wp_stab_v, wp_stab_fr, wp_stab_al, stabQ_o, stabQ_s, wp_asB_bl, res1_v, res1_fr, res1_al, res_nil, res_cons, asg_v, asg_fr, asgs_nil, asgs_cons, setV_eq,   Option.bind_eq_some_iff, Int.zero_add, and_assoc, exists_and_left, exists_const, Nat.reduceAdd, Nat.reduceLT, Nat.reduceLeDiff, Nat.reduceEqDiff, Int.reduceEq, Int.reduceLE, Int.reduceLT, Int.reduceNeg, Int.reduceToNat, Int.reduceAdd, Int.reduceSub, Int.cast_ofNat_Int, reduceIte, eq_self, fits, decide_eq_true_eq, Bool.not_eq_true', decide_eq_false_iff_not, Bool.and_eq_true, wp_mut_al, wp_mut_loc, mutQ_o, Prod.mk.injEq, Bool.and_true, Bool.true_and, Bool.and_false, Bool.false_and, Bool.or_true, Bool.true_or, Bool.or_false, Bool.false_or, Bool.and_self, Bool.or_self, peek_int, peek_str, peek_bl, peek_non, peek_ty, peek_cl, peek_list, peek_scr, peek_tup, peek_dict, peek_obj, peek_loc, peek_fr, peek_al, varP_o, varP_s, forQ_nx, forQ_ct, forQ_bk, forQ_rt, forQ_ex,   outQ_v, outQ_fr, outQ_nx, outQ_ex, outQ_al, outA_o, outA_s, outIQ_nx, outIQ_ex, vAdd_int, vAdd_str, vAdd_list, vSub_int, vMul_int, vDiv_int, vMod_int, vPow_int, vLt_int, vLe_int, vGt_int, vGe_int, vEq_int, vEq_str, vEq_bl, vNe_int, vNe_str, vNe_bl, vIs_non, vIs_int, vIs_str, vIs_list, vIs_tup, vIsNot_non, vIsNot_int, vIsNot_str, vIsNot_list, vIsNot_tup, vIx_list, vIx_scr, vIx_tup, vNeg_int, vIp_int, bLen_str, bLen_list, bLen_scr, bLen_tup, bAbs_int, bMax_int, bMin_int, bList_list, bList_scr, bList_tup, bInt_int, bInt_bl, slL_list, slS_str, isL_list, asI_int, itemsL_list, itemsL_scr, mAppend_eq, mExtend_eq, ite_some_eq, toKey, Bool.true_eq_false,   List.getElem?_cons_zero, List.getElem?_cons_succ, List.set_cons_zero, List.set_cons_succ, List.length_cons, List.length_nil, Option.some.injEq, exists_eq_left', exists_eq_left, exists_eq_right, exists_eq_right', and_true, true_and, Option.map_some, Option.bind_some, Rs.v.injEq, Rs.fr.injEq, D.int.injEq, D.str.injEq, D.bl.injEq, if_true, Bool.false_eq_true, if_false, Bool.not_true, Bool.not_false, decide_true, decide_false, wf_v, wf_fr, wipeE, restE, Option.isSome_some])
theorem isi_b {kn : Kin} {d : D} {t n : String} {b : Bool} (h1 : bty d = some t) (ho : ∀ k fs, d ≠ .obj k fs) (h2 : kitB t n = some b) : bIsi kn [d, .ty n] = some (.v (.bl b)) := by
  have e : isiA kn d (.ty n) = some b := by
    unfold isiA
    cases d with
    | obj k fs => exact absurd rfl (ho k fs)
    | exc k fs => cases h1
    | _ => simp only [h1, Option.bind_some]; exact h2
  show (isiA kn d (.ty n)).map _ = _
  rw [e]; rfl
theorem isi_ii {i : Int} : bIsi kn [.int i, .ty "int"] = some (.v (.bl true)) := isi_b rfl (fun _ _ h => by cases h) (by decide +kernel)
theorem isi_ib {i : Int} : bIsi kn [.int i, .ty "bool"] = some (.v (.bl false)) := isi_b rfl (fun _ _ h => by cases h) (by decide +kernel)
theorem w_is_integer {i lo hi : Int} {μ : List D} {Q : Rs → List D → Prop} {X : XF} (q : Q (.v (.bl (decide (lo ≤ i) && decide (i ≤ hi)))) μ) : Wf (F_is_integer [.int i, .int lo, .int hi] μ) Q X := by
  refine wf_run rfl ?_
  show Ws (T_is_integer ⟨[some (.s (.int i)), some (.s (.int lo)), some (.s (.int hi))], μ⟩) _
  unfold T_is_integer
  ((try walk_at "zs"); repeat (simp only [isi_ii, isi_ib]; (try walk_at "zs")))
  by_cases c : lo ≤ i
  · simpa [c] using q
  · simpa [c] using q
def letters : List Nat := ("abcdefghijklmnopqrstuvwxyz" : Str).cps.toList
def itemB (z : Str) : Bool := decide (1 ≤ z.length) && decide (z.length ≤ 8) && z.cps.toList.all fun k => decide (k ∈ letters)
theorem isi_ss {z : Str} : bIsi kn [.str z, .ty "str"] = some (.v (.bl true)) := isi_b rfl (fun _ _ h => by cases h) (by decide +kernel)
theorem all_map {α : Type} {p : α → Bool} {xs : List α} : bAll [.list (xs.map fun x => .bl (p x))] = some (.v (.bl (xs.all p))) := by
  unfold bAll
  have : (xs.map fun x => D.bl (p x)).mapM asBl = some (xs.map p) := by
    induction xs with
    | nil => rfl
    | cons x xs ih => rw [List.map_cons, List.mapM_cons, ih]; rfl
  simp only [this, Option.map_some]
  rw [List.all_map]
  rfl
theorem fm_some {α β : Type} {f : α → β} {xs : List α} : xs.filterMap (fun x => some (f x)) = xs.map f := by induction xs with | nil => rfl | cons x xs ih => simp
theorem vIn_ch {k : Nat} {z : Str} : vIn (.str ⟨#[k]⟩) (.str z) = some (.v (.bl (decide (k ∈ z.cps.toList)))) := rfl
def Itm (z : Str) : Prop := itemB z = true
theorem w_is_item {z : Str} {μ : List D} {Q : Rs → List D → Prop} {X : XF} (hz : z.length ≤ 1000) (q : Q (.v (.bl (itemB z))) μ) : Wf (F_is_item [.str z] μ) Q X := by
  refine wf_run rfl ?_
  show Ws (T_is_item ⟨[some (.s (.str z)), none], μ⟩) _
  unfold T_is_item
  ((try walk_at "zs"); repeat (simp only [isi_ss]; (try walk_at "zs")))
  refine ⟨by omega, ?_⟩
  by_cases c1 : 1 ≤ z.length
  · rw [if_pos (by omega)]
    by_cases c8 : z.length ≤ 8
    · rw [if_neg (by omega)]
      refine wp_Lc ?_
      walk_at "zs"
      refine ⟨by rw [List.length_map]; show z.length ≤ _; omega, lc_all (fun k => D.str ⟨#[k]⟩) (fun k => .bl (decide (k ∈ letters))) (fun k hk => ?_) ?_⟩
      · ((try walk_at "zs"); repeat (simp only [vIn_ch]; (try walk_at "zs")))
        rfl
      · rw [all_map]
        walk_at "zs"
        have e : itemB z = z.cps.toList.all fun k => decide (k ∈ letters) := by unfold itemB; rw [decide_eq_true c1, decide_eq_true c8]; simp
        rw [e] at q; exact q
    · rw [if_pos (by omega)]
      have e : itemB z = false := by unfold itemB; rw [decide_eq_false c8]; simp
      rw [e] at q; exact q
  · rw [if_neg (by omega)]
    have e : itemB z = false := by unfold itemB; rw [decide_eq_false c1]; simp
    rw [e] at q; exact q
theorem Itm.sz {z : Str} (h : Itm z) : z.length ≤ 1000 := by
  unfold Itm itemB at h
  simp only [Bool.and_eq_true, decide_eq_true_eq] at h
  omega
def rcD (k : Nat) (z : Str) (n : Int) : D := .obj k [("held_item", .str z), ("held_slot", .int n)]
theorem att_most : attD at_MOST ct_MOST "MOST" (.cl 3) = some (.int 60) := rfl
theorem w_init {k : Nat} {z : Str} {n : Int} {μ : List D} {Q : Rs → List D → Prop} {X : XF} (hk : k < 4) (hz : Itm z) (h0 : 0 ≤ n) (h1 : n ≤ 60) (q : Q (.fr (rcD k z n)) μ) : Wf (runI 3 3 k T_Record_init [.str z, .int n] μ) Q X := by
  refine wf_runI rfl ?_
  show Ws (T_Record_init ⟨[some (.o (.obj k [])), some (.s (.str z)), some (.s (.int n))], μ⟩) _
  unfold T_Record_init
  walk_at "zs"
  refine w_is_item hz.sz ?_
  rw [show itemB z = true from hz]
  walk_at "zs"
  refine ⟨_, att_most, w_is_integer ?_⟩
  rw [decide_eq_true h0, decide_eq_true h1]
  have o1 : ok_held_item k = true := by match k, hk with | 0, _ => rfl | 1, _ => rfl | 2, _ => rfl | 3, _ => rfl
  have o2 : ok_held_slot k = true := by match k, hk with | 0, _ => rfl | 1, _ => rfl | 2, _ => rfl | 3, _ => rfl
  ((try walk_at "zs"); repeat (simp only [o1, o2]; (try walk_at "zs")))
  exact ⟨(by show 1 < 1000; decide), q⟩
theorem bits_le {i : Int} {n : Nat} (h0 : 0 < n) (h : i.natAbs < 2 ^ n) : Builtin.Int.intBits i ≤ n := by
  have := PySem.Flt.log2_lt_of h0 h
  unfold Builtin.Int.intBits
  split <;> omega
/-- the tape stands at n in the store; at most c numbers were mixed -/
def Tape (μ : List D) (n : Nat) (c : Int) : Prop := ∃ n0 n1 n2 : Int, μ[n]? = some (.list [.int n0, .int n1, .int n2]) ∧ 0 ≤ n0 ∧ 0 ≤ n1 ∧ n1 < 2 ^ 200 ∧ 0 ≤ n2 ∧ n2 ≤ c
theorem Tape.mono {μ : List D} {n : Nat} {c d : Int} (t : Tape μ n c) (h : c ≤ d) : Tape μ n d := let ⟨n0, n1, n2, a, b, e, f, g, k⟩ := t; ⟨n0, n1, n2, a, b, e, f, g, by omega⟩
theorem Tape.lt {μ : List D} {n : Nat} {c : Int} (t : Tape μ n c) : n < μ.length := let ⟨_, _, _, a, _⟩ := t; (List.getElem?_eq_some_iff.mp a).1
theorem Tape.app {μ l : List D} {n : Nat} {c : Int} (t : Tape μ n c) : Tape (μ ++ l) n c := let ⟨n0, n1, n2, a, b⟩ := t; ⟨n0, n1, n2, by rw [List.getElem?_append_left t.lt]; exact a, b⟩
theorem Tape.other {μ : List D} {n m : Nat} {d : D} {c : Int} (t : Tape μ n c) (h : m ≠ n) : Tape (μ.set m d) n c := let ⟨n0, n1, n2, a, b⟩ := t; ⟨n0, n1, n2, by rw [List.getElem?_set_ne h]; exact a, b⟩
theorem at0 {a b c : D} : atI [a, b, c] 0 = some a := rfl
theorem at1 {a b c : D} : atI [a, b, c] 1 = some b := rfl
theorem at2 {a b c : D} : atI [a, b, c] 2 = some c := rfl
theorem ix30 : ixN 3 0 = some 0 := rfl
theorem ix32 : ixN 3 2 = some 2 := rfl
theorem w_pick {n : Nat} {sz c : Int} {μ : List D} {Q : Rs → List D → Prop} {X : XF} (t : Tape μ n c) (hc : c ≤ 1000000) (h0 : 0 < sz) (h1 : sz < 2 ^ 250)
    (q : ∀ r d, 0 ≤ r → r < sz → Tape (μ.set n d) n (c + 1) → Q (.v (.int r)) (μ.set n d)) : Wf (F_law_pick [.loc n, .int sz] μ) Q X := by
  have hn := t.lt
  obtain ⟨n0, n1, n2, e, a0, a1, a2, a3, a4⟩ := t
  have lg : sz.natAbs.log2 < 9000 := Nat.lt_of_lt_of_le (PySem.Flt.log2_lt_of (show 0 < 250 by decide) (show sz.natAbs < 2 ^ 250 by omega)) (by decide)
  refine wf_run rfl ?_
  show Ws (T_law_pick ⟨[some (.s (.loc n)), some (.s (.int sz)), none, none], μ⟩) _
  unfold T_law_pick
  ((try walk_at "zs"); repeat (simp only [e, at0, at1, at2, ix30, ix32, List.getElem?_set_self hn, List.set_set]; (try walk_at "zs")))
  by_cases c0 : 0 < n0
  · rw [if_pos c0]
    exact ⟨h0, h0, lg, q _ _ (Int.emod_nonneg _ (by omega)) (Int.emod_lt_of_pos _ h0) ⟨n0 / sz, n1, n2, List.getElem?_set_self hn, Int.ediv_nonneg a0 (by omega), a1, a2, a3, by omega⟩⟩
  · rw [if_neg c0]
    have b1 : Builtin.Int.intBits (n1 + 86028121 * (n2 + 1)) ≤ 201 := bits_le (by decide) (by omega)
    have m0 : 0 ≤ (n1 + 86028121 * (n2 + 1)) ^ 3 % (10 ^ 41 + 109) := Int.emod_nonneg _ (by decide)
    have m1 : (n1 + 86028121 * (n2 + 1)) ^ 3 % (10 ^ 41 + 109) < 10 ^ 41 + 109 := Int.emod_lt_of_pos _ (by decide)
    refine ⟨mulOk_l (by decide) (by decide), by omega, by decide, by decide, mulOk_l (by decide) (by decide), ?_⟩
    generalize (n1 + 86028121 * (n2 + 1)) ^ 3 % (10 ^ 41 + 109) = m at m0 m1
    have m2 : (10 : Int) ^ 41 + 109 < 2 ^ 150 := by decide
    have b2 : Builtin.Int.intBits (m + 122949823 * (n2 + 1)) ≤ 151 := bits_le (by decide) (by omega)
    exact ⟨by omega, by decide, by decide, by decide, h0, q _ _ (Int.emod_nonneg _ (by omega)) (Int.emod_lt_of_pos _ h0) ⟨n0, n1, n2 + 1, List.getElem?_set_self hn, a0, a1, a2, by omega, by omega⟩⟩
theorem w_source {ns : List Int} {k : Nat} {μ : List D} {Q : Rs → List D → Prop} {X : XF} (hk : k ≤ 100) (q : ∀ n0 n1 : Int, 0 ≤ n0 → 0 ≤ n1 → n1 < 2 ^ 200 → Q (.fr (.list [.int n0, .int n1, .int 0])) μ) : Wf (F_law_source [.scr (ns.map D.int), .int (k : Nat)] μ) Q X := by
  refine wf_run rfl ?_
  show Ws (T_law_source ⟨[some (.s (.scr (ns.map D.int))), some (.s (.int (k : Nat))), none], μ⟩) _
  unfold T_law_source
  have fin : ∀ x : Int, 0 ≤ x → (Builtin.Int.intBits 10 : Int) * 18 ≤ 2 ^ 27 ∧ (Builtin.Int.intBits 10 : Int) * 39 ≤ 2 ^ 27 ∧ (0 : Int) < 10 ^ 39 + 153 ∧ mulOk (x % (10 ^ 39 + 153)) 64 = true ∧ Q (.fr (.list [.int (if x - 10 ^ 18 > 0 then x - 10 ^ 18 else 0), .int (x % (10 ^ 39 + 153) * 64 + (k : Int)), .int 0])) μ := by
    intro x hx
    have m0 : 0 ≤ x % (10 ^ 39 + 153) := Int.emod_nonneg _ (by decide)
    have m1 : x % (10 ^ 39 + 153) < 10 ^ 39 + 153 := Int.emod_lt_of_pos _ (by decide)
    have m2 : (10 : Int) ^ 39 + 153 < 2 ^ 150 := by decide
    refine ⟨by decide, by decide, by decide, mulOk_r (by decide) (by decide), q _ _ ?_ ?_ ?_⟩
    · split <;> omega
    · omega
    · omega
  by_cases c : k < ns.length
  · have hc : ((k : Int) < ((ns.map D.int).length : Int)) = True := by simp [c]
    have e : atI (ns.map D.int) (k : Int) = some (.int ns[k]) := by rw [atI_nat (by simpa using c)]; simp
    ((try walk_at "zs"); repeat (simp only [hc, e]; (try walk_at "zs")))
    exact fin _ (by split <;> omega)
  · have hc : ((k : Int) < ((ns.map D.int).length : Int)) = False := by simp [c]
    ((try walk_at "zs"); repeat (simp only [hc]; (try walk_at "zs")))
    exact fin 0 (by decide)
theorem len_pos {α : Type} {l : List α} {k n : Nat} (h : l.length + k = n) (hk : k < n) : 0 < l.length := by omega
theorem erase_perm {α : Type} : ∀ {l : List α} {k : Nat} (h : k < l.length), (l[k] :: l.eraseIdx k).Perm l
  | x :: l, 0, _ => .refl _
  | x :: l, k + 1, h => (List.Perm.swap x _ _).trans (.cons x (erase_perm (l := l) (k := k) (by simpa using h)))
theorem rng_len {n : Nat} : (rngD 0 (n : Int).toNat).length = n := by simp [rngD]
theorem pop_ok {xs : List D} {r : Int} (h0 : 0 ≤ r) (h1 : r < xs.length) (hl : xs.length ≤ 1000 := by omega) : ∃ y ys, mPopAt [.int r] (.list xs) = some (y, .list ys) ∧ (y :: ys).Perm xs ∧ ys.length + 1 = xs.length := by
  obtain ⟨k, rfl⟩ : ∃ k : Nat, r = k := ⟨r.toNat, by omega⟩
  have hk : k < xs.length := by omega
  refine ⟨xs[k], xs.eraseIdx k, ?_, ?_, ?_⟩
  · unfold mPopAt
    simp only
    rw [if_pos (by simp; omega)]
    have : seqIndex? (k : Int) xs.length = some k := by unfold seqIndex?; simp; omega
    rw [this, Option.bind_some, List.getElem?_eq_getElem hk]
    rfl
  · exact erase_perm hk
  · rw [List.length_eraseIdx_of_lt hk]; omega
theorem erase_map {α β : Type} {f : α → β} : ∀ {xs : List α} {j : Nat}, (xs.eraseIdx j).map f = (xs.map f).eraseIdx j
  | [], _ => by simp
  | x :: xs, 0 => rfl
  | x :: xs, j + 1 => by rw [List.eraseIdx_cons_succ, List.map_cons, List.map_cons, List.eraseIdx_cons_succ, erase_map]
theorem pop_okM {α : Type} {f : α → D} {xs : List α} {r : Int} (h0 : 0 ≤ r) (h1 : r < xs.length) (hl : xs.length ≤ 1000 := by omega) : ∃ y ys, mPopAt [.int r] (.list (xs.map f)) = some (f y, .list (ys.map f)) ∧ (y :: ys).Perm xs ∧ ys.length + 1 = xs.length := by
  obtain ⟨k, rfl⟩ : ∃ k : Nat, r = k := ⟨r.toNat, by omega⟩
  have hk : k < xs.length := by omega
  refine ⟨xs[k], xs.eraseIdx k, ?_, erase_perm hk, ?_⟩
  · unfold mPopAt
    simp only
    rw [if_pos (by simp; omega)]
    have : seqIndex? (k : Int) (xs.map f).length = some k := by unfold seqIndex?; simp; omega
    rw [this, Option.bind_some, List.getElem?_map, List.getElem?_eq_getElem hk, ← erase_map]
    rfl
  · rw [List.length_eraseIdx_of_lt hk]; omega
theorem w_shuf {n : Nat} {ds : List D} {c : Int} {μ : List D} {Q : Rs → List D → Prop} {X : XF} (t : Tape μ n c) (hl : ds.length ≤ 1000) (hc : c ≤ 900000)
    (q : ∀ es μ', es.Perm ds → Tape μ' n (c + ds.length) → Q (.fr (.list es)) μ') : Wf (F_law_shuffled [.loc n, .list ds] μ) Q X := by
  refine wf_run rfl ?_
  show Ws (T_law_shuffled ⟨[some (.s (.loc n)), some (.s (.list ds)), none, none], μ⟩) _
  unfold T_law_shuffled
  walk_at "zs"
  refine wp_Lc ?_
  walk_at "zs"
  refine ⟨by simp [smallI]; omega, by simp [rngD]; omega, ?_⟩
  refine lc_inv (fun k acc s => ∃ (left : List D) (μ' : List D), s = ⟨[some (.s (.loc n)), some (.s (.list ds)), some (.o (.list left)), none], μ'⟩ ∧ Tape μ' n (c + k) ∧ (acc ++ left).Perm ds ∧ left.length + k = ds.length) ⟨ds, μ, rfl, by simpa using t, by simp, rfl⟩ ?_ ?_
  · rintro k d acc s hd ⟨left, μ', rfl, tp, pm, hk⟩
    obtain ⟨rfl, hk2⟩ := rng_get hd
    have hk2 : k < ds.length := by simpa using hk2
    walk_at "zs"
    refine w_pick tp (by omega) (by omega) (by omega) fun r d1 r0 r1 t1 => ?_
    obtain ⟨y, ys, he, hp, hy⟩ := pop_ok (xs := left) r0 r1
    ((try walk_at "zs"); repeat (simp only [he]; (try walk_at "zs")))
    exact ⟨ys, _, rfl, by rw [show c + ((k + 1 : Nat) : Int) = c + k + 1 by omega]; exact t1, by rw [List.append_assoc]; exact ((List.Perm.append_left acc hp).trans pm), by omega⟩
  · rintro acc s ⟨left, μ', rfl, tp, pm, hk⟩
    rw [rng_len] at hk tp
    have : left = [] := List.eq_nil_of_length_eq_zero (by omega)
    subst this
    exact q _ _ (by simpa using pm) tp
def chs (z : Str) : List Str := z.cps.toList.map fun k => ⟨#[k]⟩
end K
namespace K
open PySem PySem.Spec PyProof.Rows L2 U ClX Z
local macro_rules | `(tactic| walk_at "zs") => `(tactic| simp only [wu_TGet, wp_getM, vIsB_bl, wp_reprM, wu_TReprM, lcC_scr, lcC_list, forC_scr, forC_list, wp_listC, wp_enC, wu_IEnumC, wu_ILstC, ws_TForC, wu_TEqO, wp_eqO, wu_TFmt, wu_TJs_nil, wu_TJs_cons, wp_jStr, endQ_nx, endQ_rt, tryX_f, tryX_t, tryQ_ct, tryQ_bk, tryQ_rt, tryQ_nx, tryQ_ex, ws_try, wu_TRaiseF, wu_TRaise, wu_TAttE, wu_TLenSet, wu_TDct1, wu_TC, wu_TOp, wu_TUn, wu_TB, wu_TNotV, wu_TAndV, wu_TOrV, wu_TIf, wu_TNot, wu_TAnd, wu_TOr, wu_TYes, wu_TChain, wu_TNil, wu_TCons, wu_TStar, wu_PNil, wu_PCons, wu_TLst, wu_TTup, wu_TCB, wu_TNext, wu_TBreak, wu_TCont, wu_TRet, wu_TRetN, wu_TDrop, wu_TIfS, wu_TAsg, wu_TPar, wu_ILst, wu_ITup, wu_IStr, wu_IRng1, wu_IRng2, wu_IEnum, wu_IZip, wu_TBM, wu_TBP, wu_TAug, wu_TSub, wu_TDPut, wu_TFld, wu_TFn, wu_TFnK, wu_TMth, wu_TMthK, wp_meth, wu_TAtt, wu_TNoP, wu_TPart, wu_TSl, wu_TRevL, wu_TDGet, wu_TDNew, wu_TIndex, wu_TAsgG, wu_TKeep, wu_TSup, GName, GTup, GCons, GNil,   ws_seq, ws_sb, ws_some, ws_nxt, ws_ite, ws_for, sqQ_nx, sqQ_rt, sqQ_bk, sqQ_ct, sqQ_ex, wp_bnd, wp_ret, wp_some, wp_opt, wp_pk, wp_pks_nil, wp_pks_cons, wp_ite, wp_call, wp_Var, varQ_s, varQ_o, wp_stab_v, wp_stab_fr, wp_stab_al, stabQ_o, stabQ_s, wp_asB_bl, res1_v, res1_fr, res1_al, res_nil, res_cons, asg_v, asg_fr, asgs_nil, asgs_cons, setV_eq,   Option.bind_eq_some_iff, Int.zero_add, and_assoc, exists_and_left, exists_const, Nat.reduceAdd, Nat.reduceLT, Nat.reduceLeDiff, Nat.reduceEqDiff, Int.reduceEq, Int.reduceLE, Int.reduceLT, Int.reduceNeg, Int.reduceToNat, Int.reduceAdd, Int.reduceSub, Int.cast_ofNat_Int, reduceIte, eq_self, fits, decide_eq_true_eq, Bool.not_eq_true', decide_eq_false_iff_not, Bool.and_eq_true, wp_mut_al, wp_mut_loc, mutQ_o, Prod.mk.injEq, Bool.and_true, Bool.true_and, Bool.and_false, Bool.false_and, Bool.or_true, Bool.true_or, Bool.or_false, Bool.false_or, Bool.and_self, Bool.or_self, peek_int, peek_str, peek_bl, peek_non, peek_ty, peek_cl, peek_list, peek_scr, peek_tup, peek_dict, peek_obj, peek_loc, peek_fr, peek_al, varP_o, varP_s, forQ_nx, forQ_ct, forQ_bk, forQ_rt, forQ_ex,   outQ_v, outQ_fr, outQ_nx, outQ_ex, outQ_al, outA_o, outA_s, outIQ_nx, outIQ_ex, vAdd_int, vAdd_str, vAdd_list, vSub_int, vMul_int, vDiv_int, vMod_int, vPow_int, vLt_int, vLe_int, vGt_int, vGe_int, vEq_int, vEq_str, vEq_bl, vNe_int, vNe_str, vNe_bl, vIs_non, vIs_int, vIs_str, vIs_list, vIs_tup, vIsNot_non, vIsNot_int, vIsNot_str, vIsNot_list, vIsNot_tup, vIx_list, vIx_scr, vIx_tup, vNeg_int, vIp_int, bLen_str, bLen_list, bLen_scr, bLen_tup, bAbs_int, bMax_int, bMin_int, bList_list, bList_scr, bList_tup, bInt_int, bInt_bl, slL_list, slS_str, isL_list, asI_int, itemsL_list, itemsL_scr, mAppend_eq, mExtend_eq, ite_some_eq, toKey, Bool.true_eq_false,   List.getElem?_cons_zero, List.getElem?_cons_succ, List.set_cons_zero, List.set_cons_succ, List.length_cons, List.length_nil, Option.some.injEq, exists_eq_left', exists_eq_left, exists_eq_right, exists_eq_right', and_true, true_and, Option.map_some, Option.bind_some, Rs.v.injEq, Rs.fr.injEq, D.int.injEq, D.str.injEq, D.bl.injEq, if_true, Bool.false_eq_true, if_false, Bool.not_true, Bool.not_false, decide_true, decide_false, wf_v, wf_fr, wipeE, restE, Option.isSome_some])
theorem peek_rc {s : S} {k : Nat} {z : Str} {n : Int} : peek s (.v (rcD k z n)) = some (rcD k z n) := rfl
theorem look_i {z : Str} {v : Int} : List.lookup ("held_item" : Str) [(("held_item" : Str), D.str z), ("held_slot", D.int v)] = some (.str z) := by
  have : (("held_item" : Str) == "held_item") = true := by decide +kernel
  simp [List.lookup, this]
theorem look_s {z : Str} {v : Int} : List.lookup ("held_slot" : Str) [(("held_item" : Str), D.str z), ("held_slot", D.int v)] = some (.int v) := by
  have : (("held_slot" : Str) == "held_item") = false := by decide +kernel
  simp [List.lookup, this]
theorem att_item {k : Nat} (hk : k < 3) {z : Str} {v : Int} : attD at_item ct_item "item" (rcD k z v) = some (.str z) := by
  match k, hk with
  | 0, _ => exact look_i (v := v)
  | 1, _ => exact look_i (v := v)
  | 2, _ => exact look_i (v := v)
theorem map_perm {α : Type} {f : α → D} {xs : List α} {es : List D} (h : es.Perm (xs.map f)) : ∃ ys : List α, es = ys.map f ∧ ys.Perm xs := by
  generalize e : xs.map f = zs at h
  induction h generalizing xs with
  | nil => exact ⟨[], rfl, by rw [List.map_eq_nil_iff.mp e]⟩
  | cons x _ ih =>
    obtain ⟨y, ys, rfl, rfl, e2⟩ := List.map_eq_cons_iff.mp e
    obtain ⟨zs, rfl, hp⟩ := ih e2
    exact ⟨y :: zs, rfl, .cons y hp⟩
  | swap x y l =>
    obtain ⟨a, ys, rfl, rfl, e2⟩ := List.map_eq_cons_iff.mp e
    obtain ⟨b, ys, rfl, rfl, e3⟩ := List.map_eq_cons_iff.mp e2
    exact ⟨b :: a :: ys, by rw [← e3]; rfl, .swap _ _ _⟩
  | trans _ _ ih1 ih2 =>
    obtain ⟨ys, e1, p1⟩ := ih2 e
    obtain ⟨zs, e2, p2⟩ := ih1 e1.symm
    exact ⟨zs, e2, p2.trans p1⟩
def sg : Nat → Str | 0 => "+" | 1 => "-" | _ => "^"
theorem sg_ne {k : Nat} (hk : k < 3) : ¬ sg k = Str.ofString "" := by
  match k, hk with
  | 0, _ => decide +kernel
  | 1, _ => decide +kernel
  | 2, _ => decide +kernel
theorem look_n {z : Str} {v : Int} {m : Str} (h : (m == ("held_item" : Str)) = false) (h' : (m == ("held_slot" : Str)) = false) : List.lookup m [(("held_item" : Str), D.str z), ("held_slot", D.int v)] = none := by
  simp [List.lookup, h, h']
theorem att_sign {k : Nat} (hk : k < 3) {z : Str} {v : Int} : attD at_SIGN ct_SIGN "SIGN" (rcD k z v) = some (.str (sg k)) := by
  have e : (List.lookup ("SIGN" : Str) [(("held_item" : Str), D.str z), ("held_slot", D.int v)]).isNone = true := by rw [look_n (by decide +kernel) (by decide +kernel)]; rfl
  match k, hk with
  | 0, _ => exact @if_pos _ _ e _ _ none
  | 1, _ => exact @if_pos _ _ e _ _ none
  | 2, _ => exact @if_pos _ _ e _ _ none
theorem isi_ll {ds : List D} : bIsi kn [.list ds, .ty "list"] = some (.v (.bl true)) := isi_b rfl (fun _ _ h => by cases h) (by decide +kernel)
theorem ne_nil {xs : List D} : vNe (.list xs) (.list []) = some (.v (.bl (!decide (xs = [])))) := by cases xs <;> rfl
theorem lk_hit {f : Str} {d : D} {r : List (Str × D)} : List.lookup f ((f, d) :: r) = some d := by simp [List.lookup]
theorem lk_miss {f g : Str} {d : D} {r : List (Str × D)} (h : (f == g) = false) : List.lookup f ((g, d) :: r) = List.lookup f r := by simp [List.lookup, h]
def tldB (z : Str) (i : Int) : Str := ((Str.empty ++ z) ++ "@") ++ Str.ofString (toString i)
theorem dig_len : ∀ n : Nat, n < 61 → (Str.ofString (toString (n : Int))).length ≤ 2 := by decide +kernel
theorem num_len {i : Int} (h0 : 0 ≤ i) (h1 : i ≤ 60) : (Str.ofString (toString i)).length ≤ 2 := by
  obtain ⟨n, rfl⟩ : ∃ n : Nat, i = n := ⟨i.toNat, by omega⟩
  exact dig_len n (by omega)
theorem log_sm {i : Int} (h0 : 0 ≤ i) (h1 : i ≤ 60) : i.natAbs.log2 < 1920 := Nat.lt_of_lt_of_le (PySem.Flt.log2_lt_of (show 0 < 7 by decide) (show i.natAbs < 2 ^ 7 by omega)) (by decide)
theorem itm8 {z : Str} (h : Itm z) : z.length ≤ 8 := by
  unfold Itm itemB at h
  simp only [Bool.and_eq_true, decide_eq_true_eq] at h
  exact h.1.2
theorem fits_sm {n : Nat} (h : n ≤ 1000) : fits n = true := decide_eq_true (by omega)
theorem tld_len {z : Str} {i : Int} (hz : Itm z) (h0 : 0 ≤ i) (h1 : i ≤ 60) : (tldB z i).length ≤ 20 := by
  unfold tldB
  rw [Str.length_append, Str.length_append, Str.length_append]
  have := itm8 hz
  have := num_len h0 h1
  have : Str.empty.length = 0 := rfl
  have : (Str.ofString "@").length = 1 := rfl
  omega
theorem att_hi {k : Nat} (hk : k < 3) {z : Str} {v : Int} : attD at_held_item ct_held_item "held_item" (rcD k z v) = some (.str z) := by
  match k, hk with
  | 0, _ => exact look_i (v := v)
  | 1, _ => exact look_i (v := v)
  | 2, _ => exact look_i (v := v)
theorem att_hs {k : Nat} (hk : k < 3) {z : Str} {v : Int} : attD at_held_slot ct_held_slot "held_slot" (rcD k z v) = some (.int v) := by
  match k, hk with
  | 0, _ => exact look_s (z := z)
  | 1, _ => exact look_s (z := z)
  | 2, _ => exact look_s (z := z)
theorem w_rtold {d : D} {k : Nat} {z : Str} {i : Int} {μ : List D} {Q : Rs → List D → Prop} {X : XF} (pk : ∀ env, peek ⟨env, μ⟩ (.v d) = some (rcD k z i)) (hk : k < 3) (hz : Itm z) (h0 : 0 ≤ i) (h1 : i ≤ 60) (q : Q (.v (.str (tldB z i))) μ) : Wf (F_Record_told [d] μ) Q X := by
  refine wf_run rfl ?_
  show Ws (T_Record_told ⟨[some (.s d)], μ⟩) _
  unfold T_Record_told
  have l0 := itm8 hz
  have l1 := tld_len hz h0 h1
  unfold tldB at l1 q
  have e0 : Str.empty.length = 0 := rfl
  have e1 : (Str.ofString "@").length = 1 := rfl
  have f1 : fits (Str.empty ++ z).length = true := fits_sm (by rw [Str.length_append]; omega)
  have f2 : fits ((Str.empty ++ z) ++ Str.ofString "@").length = true := fits_sm (by rw [Str.length_append, Str.length_append]; omega)
  have f3 : fits (((Str.empty ++ z) ++ Str.ofString "@") ++ Str.ofString (toString i)).length = true := fits_sm (by omega)
  ((try walk_at "zs"); repeat (simp only [pk, att_hi hk, att_hs hk, fmtD_str (show z.length ≤ 1000 by omega), fmtD_str (show (Str.ofString "@").length ≤ 1000 by decide), fmtD_int (log_sm h0 h1)]; (try walk_at "zs")))
  exact ⟨of_decide_eq_true f1, of_decide_eq_true f2, of_decide_eq_true f3, q⟩
def tld (k : Nat) (z : Str) (i : Int) : Str := sg k ++ tldB z i
theorem m_told {k : Nat} (hk : k < 3) : ∃ F, mt_told k = some F ∧ ∀ (d : D) (z : Str) (i : Int) (μ : List D) (Q : Rs → List D → Prop) (X : XF), (∀ env, peek ⟨env, μ⟩ (.v d) = some (rcD k z i)) → Itm z → 0 ≤ i → i ≤ 60 → Q (.v (.str (tld k z i))) μ → Wf (F [d] μ) Q X := by
  have key : ∀ (F : FT) (c : Nat) (T : TSd), c < 3 → F = runF 1 2 T → T = TRet (TOp vAdd (TAtt at_SIGN ct_SIGN (Str.ofString "SIGN") (TVar 0)) (TSup c F_Record_told TNil)) → ∀ (d : D) (z : Str) (i : Int) (μ : List D) (Q : Rs → List D → Prop) (X : XF), (∀ env, peek ⟨env, μ⟩ (.v d) = some (rcD c z i)) → Itm z → 0 ≤ i → i ≤ 60 → Q (.v (.str (tld c z i))) μ → Wf (F [d] μ) Q X := by
    rintro F c T hc rfl rfl d z i μ Q X pk hz h0 h1 q
    refine wf_run rfl ?_
    show Ws (TRet (TOp vAdd (TAtt at_SIGN ct_SIGN (Str.ofString "SIGN") (TVar 0)) (TSup c F_Record_told TNil)) ⟨[some (.s d), none], μ⟩) _
    have rt := fun (Q' : Rs → List D → Prop) (X' : XF) => w_rtold (Q := Q') (X := X') pk hc hz h0 h1
    have as := att_sign hc (z := z) (v := i)
    have l := tld_len hz h0 h1
    have ls : (sg c).length ≤ 1 := by match c, hc with | 0, _ => decide | 1, _ => decide | 2, _ => decide
    unfold rcD at pk as
    ((try walk_at "zs"); repeat (simp only [pk, as]; (try walk_at "zs")))
    refine rt _ _ ?_
    walk_at "zs"
    exact ⟨by omega, q⟩
  match k, hk with
  | 0, _ => exact ⟨_, rfl, key _ 0 _ (by decide) rfl rfl⟩
  | 1, _ => exact ⟨_, rfl, key _ 1 _ (by decide) rfl rfl⟩
  | 2, _ => exact ⟨_, rfl, key _ 2 _ (by decide) rfl rfl⟩
theorem n_told {z : Str} {i : Int} : List.lookup (Str.ofString "told") [(("held_item" : Str), D.str z), ("held_slot", D.int i)] = none := by
  rw [lk_miss (by decide +kernel), lk_miss (by decide +kernel)]; rfl
theorem att_sign3 {z : Str} {v : Int} : attD at_SIGN ct_SIGN "SIGN" (rcD 3 z v) = some (.str "") := by
  show (if (List.lookup ("SIGN" : Str) [(("held_item" : Str), D.str z), ("held_slot", D.int v)]).isNone = true then some (D.str "") else none) = _
  rw [look_n (by decide +kernel) (by decide +kernel)]; rfl
theorem m_text {k : Nat} (hk : k < 3) : gx_text k = some F_Record_text := by
  match k, hk with
  | 0, _ => rfl
  | 1, _ => rfl
  | 2, _ => rfl
theorem w_text {d : D} {k : Nat} {z : Str} {i : Int} {μ : List D} {Q : Rs → List D → Prop} {X : XF} (pk : ∀ env, peek ⟨env, μ⟩ (.v d) = some (rcD k z i)) (hk : k < 3) (hz : Itm z) (h0 : 0 ≤ i) (h1 : i ≤ 60) (q : Q (.v (.str (tld k z i))) μ) : Wf (F_Record_text [d] μ) Q X := by
  refine wf_run rfl ?_
  show Ws (T_Record_text ⟨[some (.s d)], μ⟩) _
  unfold T_Record_text
  obtain ⟨F, mF, wF⟩ := m_told hk
  have w1 := fun Q' X' => wF d z i μ Q' X' pk hz h0 h1
  unfold rcD at pk
  ((try walk_at "zs"); repeat (simp only [pk, mF, n_told]; (try walk_at "zs")))
  refine w1 _ _ ?_
  walk_at "zs"
  exact q
/-! ### names -/
def abcZ : Str := "abcdefghijklmnopqrstuvwxyz"
def abcS : List Str := chs abcZ
def lt (j : Nat) : Str := (abcS[j]?).getD ""
theorem abc_len : abcZ.cps.toList.length = 26 := by decide +kernel
theorem ix_abc {j : Nat} (h : j < 26) : vIx (.str "abcdefghijklmnopqrstuvwxyz") (.int (j : Int)) = some (.v (.str (lt j))) := by
  have hl : j < abcZ.cps.toList.length := by rw [abc_len]; exact h
  have e : atI abcZ.cps.toList (j : Int) = some abcZ.cps.toList[j] := atI_nat hl
  have e2 : lt j = ⟨#[abcZ.cps.toList[j]]⟩ := by
    unfold lt abcS chs
    rw [List.getElem?_map, List.getElem?_eq_getElem hl]; rfl
  rw [e2]
  show (if fits abcZ.length = true then (atI abcZ.cps.toList (j : Int)).map fun c => Rs.v (.str ⟨#[c]⟩) else none) = _
  rw [if_pos (by decide +kernel), e]; rfl
theorem lt_len {j : Nat} : (lt j).length ≤ 1 := by
  unfold lt
  by_cases h : j < abcS.length
  · rw [List.getElem?_eq_getElem h]
    have : ∀ z ∈ abcS, z.length ≤ 1 := by decide +kernel
    exact this _ (List.getElem_mem h)
  · rw [List.getElem?_eq_none (by omega)]; decide
def nmF (st j : Nat) : Str := if st = 0 then (if j < 26 then lt j else lt (j / 26 - 1) ++ lt (j % 26)) else if st = 1 then lt (j / 26) ++ lt (j % 26) else "abcdef" ++ (lt (j / 26) ++ lt (j % 26))
def names (st m : Nat) : List Str := (List.range m).map (nmF st)
theorem names_nd : ∀ st, st < 3 → (names st 41).Nodup := by decide +kernel
theorem names_itm : ∀ st, st < 3 → ∀ z ∈ names st 41, itemB z = true := by decide +kernel
theorem names_take {st m : Nat} (h : m ≤ 41) : names st m = (names st 41).take m := by
  unfold names
  rw [← List.map_take, List.take_range, Nat.min_eq_left h]
theorem w_names {n m : Nat} {c : Int} {μ : List D} {Q : Rs → List D → Prop} {X : XF} (t : Tape μ n c) (hm : m ≤ 41) (hc : c ≤ 800000)
    (q : ∀ (zs : List Str) μ', zs.Nodup → (∀ z ∈ zs, Itm z) → zs.length = m → Tape μ' n (c + 50) → Q (.fr (.list (zs.map D.str))) μ') : Wf (F_law_names [.loc n, .int (m : Nat)] μ) Q X := by
  refine wf_run rfl ?_
  show Ws (T_law_names ⟨[some (.s (.loc n)), some (.s (.int (m : Nat))), none, none, none, none, none, none], μ⟩) _
  unfold T_law_names
  walk_at "zs"
  refine w_pick t (by omega) (by omega) (by omega) fun r d0 r0 r1 t1 => ?_
  generalize μ.set n d0 = μ1 at t1
  obtain ⟨st, rfl⟩ : ∃ w' : Nat, r = w' := ⟨r.toNat, by omega⟩
  have hst : st < 3 := by omega
  walk_at "zs"
  refine ⟨by simp [smallI]; omega, ?_⟩
  refine for_inv (fun j s => ∃ (v5 v6 v7 : Option A), s = ⟨[some (.s (.loc n)), some (.s (.int (m : Nat))), some (.s (.str "abcdefghijklmnopqrstuvwxyz")), some (.s (.int (st : Nat))), some (.o (.list ((names st j).map D.str))), v5, v6, v7], μ1⟩) ⟨_, _, _, rfl⟩ ?_ ?_
  · rintro j d s hd ⟨v5, v6, v7, rfl⟩
    obtain ⟨rfl, hj⟩ := rng_get hd
    have hj : j < m := by simpa using hj
    have e1 : (0 : Int) + (j : Int) = (j : Nat) := by omega
    have e2 : ((j : Nat) : Int) / 26 = ((j / 26 : Nat) : Int) := by omega
    have e3 : ((j : Nat) : Int) % 26 = ((j % 26 : Nat) : Int) := by omega
    have x2 := ix_abc (j := j / 26) (by omega)
    have x3 := ix_abc (j := j % 26) (by omega)
    have l1 := lt_len (j := j)
    have l2 := lt_len (j := j / 26)
    have l3 := lt_len (j := j % 26)
    have l4 := lt_len (j := j / 26 - 1)
    have tk : (names st (j + 1)).map D.str = (names st j).map D.str ++ [.str (nmF st j)] := by
      unfold names
      rw [List.range_succ, List.map_append, List.map_append]; rfl
    have pick3 : ∀ a : Str, a = (if j < 26 then lt j else lt (j / 26 - 1) ++ lt (j % 26)) → atI [D.str a, D.str (lt (j / 26) ++ lt (j % 26)), D.str (Str.ofString "abcdef" ++ (lt (j / 26) ++ lt (j % 26)))] ((st : Nat) : Int) = some (.str (nmF st j)) := by
      rintro a rfl
      unfold nmF
      match st, hst with
      | 0, _ => rfl
      | 1, _ => rfl
      | 2, _ => rfl
    have l6 : (Str.ofString "abcdef").length + (lt (j / 26) ++ lt (j % 26)).length ≤ 16777216 := by
      have : (Str.ofString "abcdef").length = 6 := rfl
      rw [Str.length_append]; omega
    have nl : ((names st j).map D.str).length ≤ 41 := by unfold names; rw [List.length_map, List.length_map, List.length_range]; omega
    by_cases c : j < 26
    · have c' : ((j : Nat) : Int) < 26 := by omega
      have x1 := ix_abc c
      have p3 := pick3 (lt j) (by rw [if_pos c])
      rw [tk]
      ((try walk_at "zs"); repeat (simp only [c', x1, e2, e3, x2, x3, p3]; (try walk_at "zs")))
      exact ⟨by decide, by omega, l6, by omega, _, _, _, rfl⟩
    · have c' : ¬ ((j : Nat) : Int) < 26 := by omega
      have e4 : ((j / 26 : Nat) : Int) - 1 = ((j / 26 - 1 : Nat) : Int) := by omega
      have x4 := ix_abc (j := j / 26 - 1) (by omega)
      have p3 := pick3 (lt (j / 26 - 1) ++ lt (j % 26)) (by rw [if_neg c])
      rw [tk]
      ((try walk_at "zs"); repeat (simp only [c', e2, e3, e4, x2, x3, x4, p3]; (try walk_at "zs")))
      exact ⟨by decide, by omega, by decide, by omega, l6, by omega, _, _, _, rfl⟩
  · rintro s ⟨v5, v6, v7, rfl⟩
    rw [rng_len]
    walk_at "zs"
    refine w_shuf t1 (by unfold names; simp; omega) (by omega) fun es μ2 pm t2 => ?_
    obtain ⟨ys, rfl, pq⟩ := map_perm pm
    walk_at "zs"
    have nd : (names st m).Nodup := by rw [names_take hm]; exact (names_nd st hst).sublist (List.take_sublist _ _)
    have it : ∀ z ∈ names st m, Itm z := fun z hz => by rw [names_take hm] at hz; exact names_itm st hst z (List.mem_of_mem_take hz)
    have nlen : (names st m).length = m := by unfold names; simp
    refine q ys _ (pq.nodup_iff.mpr nd) (fun z hz => it z (pq.mem_iff.mp hz)) (by rw [pq.length_eq, nlen]) (t2.mono (by rw [List.length_map, nlen]; omega))
end K
namespace K
open PySem PySem.Spec PyProof.Rows L2 U ClX Z
local macro_rules | `(tactic| walk_at "zs") => `(tactic| simp only [wu_TGet, wp_getM, vIsB_bl, wp_reprM, wu_TReprM, lcC_scr, lcC_list, forC_scr, forC_list, wp_listC, wp_enC, wu_IEnumC, wu_ILstC, ws_TForC, wu_TEqO, wp_eqO, wu_TFmt, wu_TJs_nil, wu_TJs_cons, wp_jStr, endQ_nx, endQ_rt, tryX_f, tryX_t, tryQ_ct, tryQ_bk, tryQ_rt, tryQ_nx, tryQ_ex, ws_try, wu_TRaiseF, wu_TRaise, wu_TAttE, wu_TLenSet, wu_TDct1, wu_TC, wu_TOp, wu_TUn, wu_TB, wu_TNotV, wu_TAndV, wu_TOrV, wu_TIf, wu_TNot, wu_TAnd, wu_TOr, wu_TYes, wu_TChain, wu_TNil, wu_TCons, wu_TStar, wu_PNil, wu_PCons, wu_TLst, wu_TTup, wu_TCB, wu_TNext, wu_TBreak, wu_TCont, wu_TRet, wu_TRetN, wu_TDrop, wu_TIfS, wu_TAsg, wu_TPar, wu_ILst, wu_ITup, wu_IStr, wu_IRng1, wu_IRng2, wu_IEnum, wu_IZip, wu_TBM, wu_TBP, wu_TAug, wu_TSub, wu_TDPut, wu_TFld, wu_TFn, wu_TFnK, wu_TMth, wu_TMthK, wp_meth, wu_TAtt, wu_TNoP, wu_TPart, wu_TSl, wu_TRevL, wu_TDGet, wu_TDNew, wu_TIndex, wu_TAsgG, wu_TKeep, wu_TSup, GName, GTup, GCons, GNil,   ws_seq, ws_sb, ws_some, ws_nxt, ws_ite, ws_for, sqQ_nx, sqQ_rt, sqQ_bk, sqQ_ct, sqQ_ex, wp_bnd, wp_ret, wp_some, wp_opt, wp_pk, wp_pks_nil, wp_pks_cons, wp_ite, wp_call, wp_Var, varQ_s, varQ_o, wp_stab_v, wp_stab_fr, wp_stab_al, stabQ_o, stabQ_s, wp_asB_bl, res1_v, res1_fr, res1_al, res_nil, res_cons, asg_v, asg_fr, asgs_nil, asgs_cons, setV_eq,   Option.bind_eq_some_iff, Int.zero_add, and_assoc, exists_and_left, exists_const, Nat.reduceAdd, Nat.reduceLT, Nat.reduceLeDiff, Nat.reduceEqDiff, Int.reduceEq, Int.reduceLE, Int.reduceLT, Int.reduceNeg, Int.reduceToNat, Int.reduceAdd, Int.reduceSub, Int.cast_ofNat_Int, reduceIte, eq_self, fits, decide_eq_true_eq, Bool.not_eq_true', decide_eq_false_iff_not, Bool.and_eq_true, wp_mut_al, wp_mut_loc, mutQ_o, Prod.mk.injEq, Bool.and_true, Bool.true_and, Bool.and_false, Bool.false_and, Bool.or_true, Bool.true_or, Bool.or_false, Bool.false_or, Bool.and_self, Bool.or_self, peek_int, peek_str, peek_bl, peek_non, peek_ty, peek_cl, peek_list, peek_scr, peek_tup, peek_dict, peek_obj, peek_loc, peek_fr, peek_al, varP_o, varP_s, forQ_nx, forQ_ct, forQ_bk, forQ_rt, forQ_ex,   outQ_v, outQ_fr, outQ_nx, outQ_ex, outQ_al, outA_o, outA_s, outIQ_nx, outIQ_ex, vAdd_int, vAdd_str, vAdd_list, vSub_int, vMul_int, vDiv_int, vMod_int, vPow_int, vLt_int, vLe_int, vGt_int, vGe_int, vEq_int, vEq_str, vEq_bl, vNe_int, vNe_str, vNe_bl, vIs_non, vIs_int, vIs_str, vIs_list, vIs_tup, vIsNot_non, vIsNot_int, vIsNot_str, vIsNot_list, vIsNot_tup, vIx_list, vIx_scr, vIx_tup, vNeg_int, vIp_int, bLen_str, bLen_list, bLen_scr, bLen_tup, bAbs_int, bMax_int, bMin_int, bList_list, bList_scr, bList_tup, bInt_int, bInt_bl, slL_list, slS_str, isL_list, asI_int, itemsL_list, itemsL_scr, mAppend_eq, mExtend_eq, ite_some_eq, toKey, Bool.true_eq_false,   List.getElem?_cons_zero, List.getElem?_cons_succ, List.set_cons_zero, List.set_cons_succ, List.length_cons, List.length_nil, Option.some.injEq, exists_eq_left', exists_eq_left, exists_eq_right, exists_eq_right', and_true, true_and, Option.map_some, Option.bind_some, Rs.v.injEq, Rs.fr.injEq, D.int.injEq, D.str.injEq, D.bl.injEq, if_true, Bool.false_eq_true, if_false, Bool.not_true, Bool.not_false, decide_true, decide_false, wf_v, wf_fr, wipeE, restE, Option.isSome_some])
/-! ### elements -/
abbrev Pt := Nat × Str × Int
def rc (p : Pt) : D := rcD p.1 p.2.1 p.2.2
def ptD (p : Pt) : D := .tup [.int (p.1 : Nat), .str p.2.1, .int p.2.2]
/-- plain data -/
def plB : D → Bool
  | .non => true
  | .bl _ => true
  | .int _ => true
  | .str _ => true
  | .list _ => true
  | .tup _ => true
  | .dict _ => true
  | _ => false
def Ok (p : Pt) : Prop := p.1 < 4 ∧ Itm p.2.1 ∧ 0 ≤ p.2.2 ∧ p.2.2 ≤ 60
def El (d : D) : Prop := plB d = true ∨ ∃ p, Ok p ∧ d = rc p
theorem isi_rr {k j : Nat} (hk : k < 4) (hj : j < 4) {z : Str} {v : Int} : isiA kn (rcD k z v) (.cl j) = some (decide (k = j ∨ j = 3)) := by
  match k, hk, j, hj with
  | 0, _, 0, _ => rfl
  | 0, _, 1, _ => rfl
  | 0, _, 2, _ => rfl
  | 0, _, 3, _ => rfl
  | 1, _, 0, _ => rfl
  | 1, _, 1, _ => rfl
  | 1, _, 2, _ => rfl
  | 1, _, 3, _ => rfl
  | 2, _, 0, _ => rfl
  | 2, _, 1, _ => rfl
  | 2, _, 2, _ => rfl
  | 2, _, 3, _ => rfl
  | 3, _, 0, _ => rfl
  | 3, _, 1, _ => rfl
  | 3, _, 2, _ => rfl
  | 3, _, 3, _ => rfl
theorem isi_pl {d : D} (h : plB d = true) {j : Nat} (hj : j < 4) : isiA kn d (.cl j) = some false := by
  match j, hj with
  | 0, _ => cases d <;> first | rfl | cases h
  | 1, _ => cases d <;> first | rfl | cases h
  | 2, _ => cases d <;> first | rfl | cases h
  | 3, _ => cases d <;> first | rfl | cases h
theorem peek_pl {d : D} (h : plB d = true) {s : S} : peek s (.v d) = some d := by
  cases d <;> first | rfl | cases h
theorem peek_r {p : Pt} {s : S} : peek s (.v (rc p)) = some (rc p) := rfl
/-- the kinds -/
def kdB : D → Bool
  | .obj k _ => decide (k < 3)
  | _ => false
theorem kd_pl {d : D} (h : plB d = true) : kdB d = false := by
  cases d <;> first | rfl | cases h
theorem vNe_s {a b : Str} : vNe (.str a) (.str b) = some (.v (.bl (!decide (a = b)))) := by
  show some (Rs.v (.bl (!(a == b)))) = _
  rw [show (a == b) = decide (a = b) from by rw [Bool.eq_iff_iff]; simp]
theorem isl {d : D} (h : El d) (hn : ∀ ds, d ≠ .list ds) : bIsi kn [d, .ty "list"] = some (.v (.bl false)) := by
  rcases h with h | ⟨p, hp, rfl⟩
  · cases d <;> first | rfl | (cases h; done) | exact absurd rfl (hn _)
  · show (isiA kn (rcD p.1 p.2.1 p.2.2) (.ty "list")).map _ = _
    have : isiA kn (rcD p.1 p.2.1 p.2.2) (.ty "list") = some false := by
      obtain ⟨k, z, v⟩ := p
      match k, hp.1 with
      | 0, _ => rfl
      | 1, _ => rfl
      | 2, _ => rfl
      | 3, _ => rfl
    rw [this]; rfl
theorem w_are_records {ds : List D} {μ : List D} {Q : Rs → List D → Prop} {X : XF} (he : ∀ d ∈ ds, El d) (hl : ds.length ≤ 1000) (q : Q (.v (.bl (decide (ds.length ≤ 40) && ds.all kdB))) μ) : Wf (F_are_records [.list ds, .int 40] μ) Q X := by
  refine wf_run rfl ?_
  show Ws (T_are_records ⟨[some (.s (.list ds)), some (.s (.int 40)), none], μ⟩) _
  unfold T_are_records
  ((try walk_at "zs"); repeat (simp only [isi_ll]; (try walk_at "zs")))
  by_cases c : (ds.length : Int) > 40
  · rw [if_pos c]
    have : ¬ ds.length ≤ 40 := by omega
    rw [decide_eq_false this] at q
    exact q
  · rw [if_neg c]
    refine wp_Lc ?_
    walk_at "zs"
    have : ds.length ≤ 40 := by omega
    rw [decide_eq_true this] at q
    have idm : ds.map id = ds := List.map_id ds
    have main : ∀ (KK : List D → S → Prop) (XX : XQ), KK (ds.map fun d => .bl (kdB d)) ⟨[some (.s (.list ds)), some (.s (.int 40)), none], μ⟩ → Wp (lcD (GName 2) (TYes) (TAndV (TCB (bIsi kn) (PCons (TVar 2) (PCons (TC (.cl 3)) (PNil)))) (TOp vNe (TAtt at_SIGN ct_SIGN "SIGN" (TVar 2)) (TC (.str "")))) [2] (ds.map id) [] ⟨[some (.s (.list ds)), some (.s (.int 40)), none], μ⟩) KK XX := by
      intro KK XX fin
      refine lc_all id (fun d => .bl (kdB d)) (fun d hd => ?_) fin
      rcases he d hd with h | ⟨p, hp, rfl⟩
      · have i3 : bIsi kn [d, .cl 3] = some (.v (.bl false)) := by
          show (isiA kn d (.cl 3)).map _ = _
          rw [isi_pl h (by decide)]; rfl
        ((try walk_at "zs"); repeat (simp only [id, peek_pl h, i3, kd_pl h]; (try walk_at "zs")))
      · have i3 : bIsi kn [rc p, .cl 3] = some (.v (.bl true)) := by
          show (isiA kn (rcD p.1 p.2.1 p.2.2) (.cl 3)).map _ = _
          rw [isi_rr hp.1 (by decide)]; simp
        by_cases k3 : p.1 < 3
        · have as : attD at_SIGN ct_SIGN "SIGN" (rc p) = some (.str (sg p.1)) := att_sign k3
          have kd : kdB (rc p) = true := decide_eq_true k3
          ((try walk_at "zs"); repeat (simp only [id, peek_r, i3, as, vNe_s, sg_ne k3, kd]; (try walk_at "zs")))
          exact fun h => h
        · have e3 : p.1 = 3 := by have := hp.1; omega
          have as : attD at_SIGN ct_SIGN "SIGN" (rc p) = some (.str "") := by
            unfold rc
            rw [e3]; exact att_sign3
          have kd : kdB (rc p) = false := decide_eq_false k3
          ((try walk_at "zs"); repeat (simp only [id, peek_r, i3, as, vNe_s, kd]; (try walk_at "zs")))
    rw [idm] at main
    refine ⟨by omega, main _ _ ?_⟩
    ((try walk_at "zs"); repeat (simp only [all_map]; (try walk_at "zs")))
    exact q
theorem kd_list : ∀ {ds : List D}, (∀ d ∈ ds, El d) → ds.all kdB = true → ∃ ps : List Pt, ds = ps.map rc ∧ ∀ p ∈ ps, Ok p ∧ p.1 < 3
  | [], _, _ => ⟨[], rfl, fun p h => absurd h List.not_mem_nil⟩
  | d :: ds, he, ha => by
    rw [List.all_cons, Bool.and_eq_true] at ha
    obtain ⟨ps, rfl, hp⟩ := kd_list (fun d hd => he d (List.mem_cons_of_mem _ hd)) ha.2
    rcases he d (List.mem_cons_self ..) with h | ⟨p, hp2, rfl⟩
    · rw [kd_pl h] at ha; cases ha.1
    · exact ⟨p :: ps, rfl, fun q hq => by
        rcases List.mem_cons.mp hq with rfl | hq
        · exact ⟨hp2, of_decide_eq_true ha.1⟩
        · exact hp q hq⟩
theorem lenSet_gen {zs : List Str} (hl : zs.length ≤ 1000) : lenSet (.list (zs.map D.str)) = some (.v (.int (dd zs).length)) := by
  unfold lenSet
  have : (zs.map D.str).mapM asS = some zs := by
    clear hl
    induction zs with
    | nil => rfl
    | cons x xs ih => rw [List.map_cons, List.mapM_cons, ih]; rfl
  simp only [this, Option.bind_some]
  rw [if_pos hl]
def sgL (ps : List Pt) : List Str := ps.map fun p => sg p.1
def itL (ps : List Pt) : List Str := ps.map fun p => p.2.1
theorem w_items_of {ps : List Pt} {μ : List D} {Q : Rs → List D → Prop} {X : XF} (hp : ∀ p ∈ ps, Ok p ∧ p.1 < 3) (hl : ps.length ≤ 40) (q : Q (.fr (.list ((itL ps).map D.str))) μ) : Wf (F_items_of [.list (ps.map rc)] μ) Q X := by
  refine wf_run rfl ?_
  show Ws (T_items_of ⟨[some (.s (.list (ps.map rc))), none], μ⟩) _
  unfold T_items_of
  walk_at "zs"
  refine wp_Lc ?_
  walk_at "zs"
  refine ⟨by rw [List.length_map]; omega, lc_all rc (fun p => .str p.2.1) (fun p hp' => ?_) ?_⟩
  · have ai : attD at_item ct_item "item" (rc p) = some (.str p.2.1) := att_item (hp p hp').2
    ((try walk_at "zs"); repeat (simp only [peek_r, ai]; (try walk_at "zs")))
  · walk_at "zs"
    unfold itL at q
    rw [List.map_map] at q
    exact q
def lgB (ps : List Pt) : Bool := decide ((dd (sgL ps)).length ≤ 1) && decide ((dd (itL ps)).length = ps.length)
theorem w_is_log {ds : List D} {μ : List D} {Q : Rs → List D → Prop} {X : XF} (he : ∀ d ∈ ds, El d) (hl : ds.length ≤ 1000) (qn : (decide (ds.length ≤ 40) && ds.all kdB) = false → Q (.v (.bl false)) μ)
    (qy : ∀ ps : List Pt, ds = ps.map rc → (∀ p ∈ ps, Ok p ∧ p.1 < 3) → ps.length ≤ 40 → Q (.v (.bl (lgB ps))) μ) : Wf (F_is_log [.list ds] μ) Q X := by
  refine wf_run rfl ?_
  show Ws (T_is_log ⟨[some (.s (.list ds)), none], μ⟩) _
  unfold T_is_log
  walk_at "zs"
  refine w_are_records he hl ?_
  cases c : decide (ds.length ≤ 40) && ds.all kdB with
  | false =>
    walk_at "zs"
    exact qn c
  | true =>
    rw [Bool.and_eq_true] at c
    obtain ⟨ps, rfl, hp⟩ := kd_list he c.2
    have l40 : ps.length ≤ 40 := by have := of_decide_eq_true c.1; rwa [List.length_map] at this
    have qy := qy ps rfl hp l40
    walk_at "zs"
    refine wp_Lc ?_
    walk_at "zs"
    refine ⟨by rw [List.length_map]; omega, lc_all rc (fun p => .str (sg p.1)) (fun p hp' => ?_) ?_⟩
    · have as : attD at_SIGN ct_SIGN "SIGN" (rc p) = some (.str (sg p.1)) := att_sign (hp p hp').2
      ((try walk_at "zs"); repeat (simp only [peek_r, as]; (try walk_at "zs")))
    · have e1 : (ps.map fun p => D.str (sg p.1)) = (sgL ps).map D.str := by unfold sgL; rw [List.map_map]; rfl
      have l1 : (sgL ps).length ≤ 1000 := by unfold sgL; rw [List.length_map]; omega
      have l2 : (itL ps).length ≤ 1000 := by unfold itL; rw [List.length_map]; omega
      rw [e1]
      ((try walk_at "zs"); repeat (simp only [lenSet_gen l1]; (try walk_at "zs")))
      unfold lgB at qy
      by_cases c1 : (dd (sgL ps)).length ≤ 1
      · have c1' : (((dd (sgL ps)).length : Nat) : Int) ≤ 1 := by omega
        rw [decide_eq_true c1] at qy
        ((try walk_at "zs"); repeat (simp only [c1']; (try walk_at "zs")))
        refine w_items_of hp l40 ?_
        ((try walk_at "zs"); repeat (simp only [lenSet_gen l2]; (try walk_at "zs")))
        rw [List.length_map, show decide (((dd (itL ps)).length : Int) = (ps.length : Int)) = decide ((dd (itL ps)).length = ps.length) from decide_eq_decide.mpr Int.ofNat_inj]
        exact qy
      · have c1' : ¬ (((dd (sgL ps)).length : Nat) : Int) ≤ 1 := by omega
        rw [decide_eq_false c1] at qy
        ((try walk_at "zs"); repeat (simp only [c1']; (try walk_at "zs")))
        exact qy
end K
namespace K
open PySem PySem.Spec PyProof.Rows L2 U ClX Z
local macro_rules | `(tactic| walk_at "zs") => `(tactic| simp only [wu_TGet, wp_getM, vIsB_bl, wp_reprM, wu_TReprM, lcC_scr, lcC_list, forC_scr, forC_list, wp_listC, wp_enC, wu_IEnumC, wu_ILstC, ws_TForC, wu_TEqO, wp_eqO, wu_TFmt, wu_TJs_nil, wu_TJs_cons, wp_jStr, endQ_nx, endQ_rt, tryX_f, tryX_t, tryQ_ct, tryQ_bk, tryQ_rt, tryQ_nx, tryQ_ex, ws_try, wu_TRaiseF, wu_TRaise, wu_TAttE, wu_TLenSet, wu_TDct1, wu_TC, wu_TOp, wu_TUn, wu_TB, wu_TNotV, wu_TAndV, wu_TOrV, wu_TIf, wu_TNot, wu_TAnd, wu_TOr, wu_TYes, wu_TChain, wu_TNil, wu_TCons, wu_TStar, wu_PNil, wu_PCons, wu_TLst, wu_TTup, wu_TCB, wu_TNext, wu_TBreak, wu_TCont, wu_TRet, wu_TRetN, wu_TDrop, wu_TIfS, wu_TAsg, wu_TPar, wu_ILst, wu_ITup, wu_IStr, wu_IRng1, wu_IRng2, wu_IEnum, wu_IZip, wu_TBM, wu_TBP, wu_TAug, wu_TSub, wu_TDPut, wu_TFld, wu_TFn, wu_TFnK, wu_TMth, wu_TMthK, wp_meth, wu_TAtt, wu_TNoP, wu_TPart, wu_TSl, wu_TRevL, wu_TDGet, wu_TDNew, wu_TIndex, wu_TAsgG, wu_TKeep, wu_TSup, GName, GTup, GCons, GNil,   ws_seq, ws_sb, ws_some, ws_nxt, ws_ite, ws_for, sqQ_nx, sqQ_rt, sqQ_bk, sqQ_ct, sqQ_ex, wp_bnd, wp_ret, wp_some, wp_opt, wp_pk, wp_pks_nil, wp_pks_cons, wp_ite, wp_call, wp_Var, varQ_s, varQ_o, wp_stab_v, wp_stab_fr, wp_stab_al, stabQ_o, stabQ_s, wp_asB_bl, res1_v, res1_fr, res1_al, res_nil, res_cons, asg_v, asg_fr, asgs_nil, asgs_cons, setV_eq,   Option.bind_eq_some_iff, Int.zero_add, and_assoc, exists_and_left, exists_const, Nat.reduceAdd, Nat.reduceLT, Nat.reduceLeDiff, Nat.reduceEqDiff, Int.reduceEq, Int.reduceLE, Int.reduceLT, Int.reduceNeg, Int.reduceToNat, Int.reduceAdd, Int.reduceSub, Int.cast_ofNat_Int, reduceIte, eq_self, fits, decide_eq_true_eq, Bool.not_eq_true', decide_eq_false_iff_not, Bool.and_eq_true, wp_mut_al, wp_mut_loc, mutQ_o, Prod.mk.injEq, Bool.and_true, Bool.true_and, Bool.and_false, Bool.false_and, Bool.or_true, Bool.true_or, Bool.or_false, Bool.false_or, Bool.and_self, Bool.or_self, peek_int, peek_str, peek_bl, peek_non, peek_ty, peek_cl, peek_list, peek_scr, peek_tup, peek_dict, peek_obj, peek_loc, peek_fr, peek_al, varP_o, varP_s, forQ_nx, forQ_ct, forQ_bk, forQ_rt, forQ_ex,   outQ_v, outQ_fr, outQ_nx, outQ_ex, outQ_al, outA_o, outA_s, outIQ_nx, outIQ_ex, vAdd_int, vAdd_str, vAdd_list, vSub_int, vMul_int, vDiv_int, vMod_int, vPow_int, vLt_int, vLe_int, vGt_int, vGe_int, vEq_int, vEq_str, vEq_bl, vNe_int, vNe_str, vNe_bl, vIs_non, vIs_int, vIs_str, vIs_list, vIs_tup, vIsNot_non, vIsNot_int, vIsNot_str, vIsNot_list, vIsNot_tup, vIx_list, vIx_scr, vIx_tup, vNeg_int, vIp_int, bLen_str, bLen_list, bLen_scr, bLen_tup, bAbs_int, bMax_int, bMin_int, bList_list, bList_scr, bList_tup, bInt_int, bInt_bl, slL_list, slS_str, isL_list, asI_int, itemsL_list, itemsL_scr, mAppend_eq, mExtend_eq, ite_some_eq, toKey, Bool.true_eq_false,   List.getElem?_cons_zero, List.getElem?_cons_succ, List.set_cons_zero, List.set_cons_succ, List.length_cons, List.length_nil, Option.some.injEq, exists_eq_left', exists_eq_left, exists_eq_right, exists_eq_right', and_true, true_and, Option.map_some, Option.bind_some, Rs.v.injEq, Rs.fr.injEq, D.int.injEq, D.str.injEq, D.bl.injEq, if_true, Bool.false_eq_true, if_false, Bool.not_true, Bool.not_false, decide_true, decide_false, wf_v, wf_fr, wipeE, restE, Option.isSome_some])
/-! ### the law's own judgement -/
theorem dd_step {x : Str} {acc : List Str} : x ∈ ddS acc x := by
  unfold ddS
  split
  · rename_i h; simpa using h
  · simp
theorem dd_mono {l acc : List Str} {x : Str} (h : x ∈ acc) : x ∈ l.foldl ddS acc := by
  induction l generalizing acc with
  | nil => exact h
  | cons y l ih =>
    refine ih ?_
    unfold ddS
    split
    · exact h
    · simp [h]
theorem dd_mem {xs : List Str} {x : Str} (h : x ∈ xs) : x ∈ dd xs := by
  unfold dd
  suffices q : ∀ (l acc : List Str), x ∈ l → x ∈ l.foldl ddS acc from q xs [] h
  intro l
  induction l with
  | nil => intro _ h; cases h
  | cons y l ih =>
    intro acc h
    rcases List.mem_cons.mp h with rfl | h
    · exact (dd_mono dd_step : _ ∈ l.foldl ddS (ddS acc _))
    · exact ih _ h
theorem one_sign {xs : List Str} : (dd xs).length ≤ 1 ↔ xs = (List.replicate xs.length (xs.take 1)).flatten := by
  cases xs with
  | nil => simp [dd]
  | cons a r =>
    have fl : ∀ n, (List.replicate n ((a :: r).take 1)).flatten = List.replicate n a := by
      intro n
      induction n with
      | zero => rfl
      | succ n ih => rw [List.replicate_succ, List.flatten_cons, ih]; rfl
    rw [fl]
    constructor
    · intro h
      refine List.eq_replicate_iff.mpr ⟨rfl, fun x hx => ?_⟩
      have m1 := dd_mem hx
      have m2 := dd_mem (List.mem_cons_self (a := a) (l := r))
      generalize dd (a :: r) = l at h m1 m2
      match l, h, m1, m2 with
      | [y], _, m1, m2 => rw [List.mem_singleton.mp m1, List.mem_singleton.mp m2]
      | [], _, m1, _ => cases m1
      | _ :: _ :: _, h, _, _ => simp at h
    · intro h
      exact dd_const fun x hx => (List.eq_replicate_iff.mp h).2 x hx
theorem sg_ok (k : Nat) : PyData.strOk (sg k) = true := by
  match k with
  | 0 => decide +kernel
  | 1 => decide +kernel
  | _ + 2 => show PyData.strOk "^" = true; decide +kernel
theorem eqv_ss : ∀ r s : List Str, PyData.eqvAll (r.map .str) (s.map .str) = decide (r = s)
  | [], [] => rfl
  | [], _ :: _ => rfl
  | _ :: _, [] => rfl
  | i :: r, j :: s => by
    show (PyData.eqv (.str i) (.str j) && PyData.eqvAll (r.map .str) (s.map .str)) = _
    rw [eqv_ss r s]
    have e1 : PyData.eqv (.str i) (.str j) = decide (i = j) := by
      show (i == j) = _
      rw [Bool.eq_iff_iff]; simp
    rw [e1, Bool.eq_iff_iff]; simp
theorem toPs_ss : ∀ {xs : List Str}, toPs (xs.map D.str) = some (xs.map .str)
  | [] => by rw [List.map_nil, toPs]; rfl
  | x :: xs => by
    rw [List.map_cons, toPs, toP, toPs_ss]; rfl
theorem okD_ss {zs : List Str} (h : ∀ z ∈ zs, PyData.strOk z = true) : okD 1 (.list (zs.map .str)) := okD.list (n := 0) fun d hd => by
  obtain ⟨p, hp, rfl⟩ := List.mem_map.mp hd
  exact okD.str (h p hp)
theorem eq_ss {xs ys : List Str} (hx : ∀ z ∈ xs, PyData.strOk z = true) (hy : ∀ z ∈ ys, PyData.strOk z = true) : vEq (.list (xs.map D.str)) (.list (ys.map D.str)) = some (.v (.bl (decide (xs = ys)))) := by
  have e : eqA (.list (xs.map D.str)) (.list (ys.map D.str)) = some (decide (xs = ys)) := by
    show (if (xs.map D.str).length = (ys.map D.str).length then eqD (.list (xs.map D.str)) (.list (ys.map D.str)) else some false) = _
    by_cases l : (xs.map D.str).length = (ys.map D.str).length
    · rw [if_pos l]
      unfold eqD
      rw [toP, toPs_ss, toP, toPs_ss]
      simp only [Option.map_some]
      rw [if_pos (by rw [(okD_ss hx).shaped (by decide), (okD_ss hy).shaped (by decide)]; rfl)]
      congr 1
      exact eqv_ss xs ys
    · rw [if_neg l]
      have : xs ≠ ys := fun z => l (by rw [z])
      simp [this]
  show (eqA _ _).map _ = _
  rw [e]; rfl
theorem fm_kd : ∀ {ds : List D}, ds.filterMap (fun d => if kdB d = true then none else some (D.int 1)) = (ds.filter fun d => !kdB d).map fun _ => .int 1
  | [] => rfl
  | d :: ds => by
    have ih := fm_kd (ds := ds)
    by_cases k : kdB d = true
    · rw [List.filterMap_cons_none (by rw [if_pos k]), List.filter_cons_of_neg (by simp [k])]; exact ih
    · rw [List.filterMap_cons_some (b := .int 1) (by rw [if_neg k]), List.filter_cons_of_pos (by simp [k]), List.map_cons, ih]
/-- isinstance of one of the kinds -/
theorem isT_pl {d : D} (h : plB d = true) : bIsiT kn [d, .tup [.cl 0, .cl 1, .cl 2]] = some (.v (.bl false)) := by
  have e : isiT kn d [.cl 0, .cl 1, .cl 2] = some false := by
    unfold isiT
    rw [isi_pl h (by decide), Option.bind_some, if_neg (by decide)]
    unfold isiT
    rw [isi_pl h (by decide), Option.bind_some, if_neg (by decide)]
    unfold isiT
    rw [isi_pl h (by decide), Option.bind_some, if_neg (by decide)]; rfl
  unfold bIsiT
  simp only
  rw [if_pos ⟨by simp, rfl⟩, e]; rfl
theorem isT_rc {p : Pt} (h : p.1 < 4) : bIsiT kn [rc p, .tup [.cl 0, .cl 1, .cl 2]] = some (.v (.bl (decide (p.1 < 3)))) := by
  obtain ⟨k, z, v⟩ := p
  match k, h with
  | 0, _ => rfl
  | 1, _ => rfl
  | 2, _ => rfl
  | 3, _ => rfl
theorem wp_getR {tab : Nat → Option FT} {d : D} {p : Pt} {s : S} {Q : Rs → S → Prop} {X : XQ} : Wp (getM tab d (rc p) s) Q X = ∃ F, tab p.1 = some F ∧ Wf (F [d] s.μ) (fun r μ => Q r ⟨s.env, μ⟩) fun _ _ => False := wp_getM
theorem vMul_l {xs : List D} {n : Nat} (h : xs.length * n ≤ 1000) (hn : n ≤ 1000) : vMul (.list xs) (.int (n : Nat)) = some (.fr (.list (List.replicate n xs).flatten)) := by
  unfold vMul
  simp only
  rw [if_pos]
  · rw [Int.toNat_natCast]
  · rw [Int.toNat_natCast]
    simp only [Bool.and_eq_true, decide_eq_true_eq, fits]
    exact ⟨⟨by omega, by omega⟩, by omega⟩
theorem sg_one {k : Nat} (hk : k < 3) : ∃ x, sg k = ⟨#[x]⟩ := by
  match k, hk with
  | 0, _ => exact ⟨43, by decide +kernel⟩
  | 1, _ => exact ⟨45, by decide +kernel⟩
  | 2, _ => exact ⟨94, by decide +kernel⟩
theorem cut1 {k : Nat} (hk : k < 3) {z : Str} {i : Int} : cutS (tld k z i) none (some 1) = sg k := by
  unfold tld
  generalize tldB z i = t
  obtain ⟨c⟩ := t
  obtain ⟨x, hx⟩ := sg_one hk
  rw [hx]
  have hn : ((⟨#[x]⟩ : Str) ++ ⟨c⟩).length = 1 + c.size := Str.length_append ..
  unfold cutS
  rw [HT.sIx_none, show (some (1 : Int)) = some ((1 : Nat) : Int) from rfl, HT.sIx_nat, hn, Nat.min_eq_left (by omega)]
  show (⟨(((#[x] ++ c).toList.drop 0).take 1).toArray⟩ : Str) = _
  rw [Array.toList_append]; rfl
theorem w_due {ds : List D} {μ : List D} {Q : Rs → List D → Prop} {X : XF} (he : ∀ d ∈ ds, El d) (hl : ds.length ≤ 1000) (qn : (decide (ds.length ≤ 40) && ds.all kdB) = false → Q (.v (.bl false)) μ)
    (qy : ∀ ps : List Pt, ds = ps.map rc → (∀ p ∈ ps, Ok p ∧ p.1 < 3) → ps.length ≤ 40 → Q (.v (.bl (lgB ps))) μ) : Wf (F_law_due [.list ds] μ) Q X := by
  refine wf_run rfl ?_
  show Ws (T_law_due ⟨[some (.s (.list ds)), none, none], μ⟩) _
  unfold T_law_due
  ((try walk_at "zs"); repeat (simp only [isi_ll]; (try walk_at "zs")))
  by_cases c : (ds.length : Int) > 40
  · rw [if_pos c]
    have : ¬ ds.length ≤ 40 := by omega
    exact qn (by rw [decide_eq_false this]; rfl)
  rw [if_neg c]
  have l40 : ds.length ≤ 40 := by omega
  refine wp_Lc ?_
  walk_at "zs"
  have main : ∀ (KK : List D → S → Prop) (XX : XQ), KK ((ds.filter fun d => !kdB d).map fun _ => .int 1) ⟨[some (.s (.list ds)), none, none], μ⟩ → Wp (lcD (GName 2) (TNot (TB (TCB (bIsiT kn) (PCons (TVar 2) (PCons (TTup (TCons (TC (.cl 0)) (TCons (TC (.cl 1)) (TCons (TC (.cl 2)) (TNil))))) (PNil)))))) (TC (.int 1)) [2] (ds.map id) [] ⟨[some (.s (.list ds)), none, none], μ⟩) KK XX := by
    intro KK XX fin
    rw [← fm_kd] at fin
    refine lc_each id (fun d => if kdB d = true then none else some (.int 1)) (fun d hd => ?_) fin
    rcases he d hd with h | ⟨p, hp, rfl⟩
    · ((try walk_at "zs"); repeat (simp only [id, peek_pl h, isT_pl h, kd_pl h]; (try walk_at "zs")))
    · have kd : kdB (rc p) = decide (p.1 < 3) := rfl
      ((try walk_at "zs"); repeat (simp only [id, peek_r, isT_rc hp.1]; (try walk_at "zs")))
      rw [kd]
      by_cases k3 : p.1 < 3
      · simp [k3]
      · simp [k3]
  have idm : ds.map id = ds := List.map_id ds
  rw [idm] at main
  refine ⟨by omega, main _ _ ?_⟩
  ((try walk_at "zs"); repeat (simp only [ne_nil]; (try walk_at "zs")))
  cases ca : ds.all kdB with
  | false =>
    have ne : ¬ ((ds.filter fun d => !kdB d).map fun _ => D.int 1) = [] := by
      intro h
      rw [List.map_eq_nil_iff, List.filter_eq_nil_iff] at h
      have : ds.all kdB = true := List.all_eq_true.mpr fun d hd => by simpa using h d hd
      rw [ca] at this; cases this
    rw [if_pos ne]
    exact qn (by rw [ca]; simp)
  | true =>
    have ne : ¬ ¬ ((ds.filter fun d => !kdB d).map fun _ => D.int 1) = [] := by
      intro h
      refine h ?_
      rw [List.map_eq_nil_iff, List.filter_eq_nil_iff]
      intro d hd
      have := List.all_eq_true.mp ca d hd
      simp [this]
    rw [if_neg ne]
    obtain ⟨ps, rfl, hp⟩ := kd_list he ca
    have l40' : ps.length ≤ 40 := by rwa [List.length_map] at l40
    have qy := qy ps rfl hp l40'
    clear main idm ne
    refine wp_Lc ?_
    walk_at "zs"
    refine ⟨by rw [List.length_map]; omega, lc_all rc (fun p => .str (sg p.1)) (fun p hp' => ?_) ?_⟩
    · obtain ⟨⟨_, a1, a2, a3⟩, k3⟩ := hp p hp'
      ((try walk_at "zs"); repeat (simp only [peek_r, wp_getR, m_text k3]; (try walk_at "zs")))
      refine w_text (fun _ => rfl) k3 a1 a2 a3 ?_
      have tl := tld_len a1 a2 a3
      have sl1 : (sg p.1).length ≤ 1 := by match p.1, k3 with | 0, _ => decide | 1, _ => decide | 2, _ => decide
      have tl2 : (tld p.1 p.2.1 p.2.2).length ≤ 1000 := by unfold tld; rw [Str.length_append]; omega
      ((try walk_at "zs"); repeat (simp only [slS_str, fits_sm tl2, cut1 k3]; (try walk_at "zs")))
      omega
    · have e1 : (ps.map fun p => D.str (sg p.1)) = (sgL ps).map D.str := by unfold sgL; rw [List.map_map]; rfl
      have l1 : (sgL ps).length ≤ 40 := by unfold sgL; rw [List.length_map]; omega
      have l2 : (itL ps).length ≤ 1000 := by unfold itL; rw [List.length_map]; omega
      rw [e1]
      have s1 : cutL ((sgL ps).map D.str) none (some 1) = ((sgL ps).take 1).map D.str := by
        rw [cutL_map]
        exact congrArg _ (cutL_to (i := 1))
      have fl : (List.replicate (sgL ps).length (((sgL ps).take 1).map D.str)).flatten = ((List.replicate (sgL ps).length ((sgL ps).take 1)).flatten).map D.str := by
        rw [List.map_flatten, List.map_replicate]
      have vm := vMul_l (xs := ((sgL ps).take 1).map D.str) (n := (sgL ps).length) (by rw [List.length_map, List.length_take]; have : min 1 (sgL ps).length * (sgL ps).length ≤ 1 * (sgL ps).length := Nat.mul_le_mul_right _ (Nat.min_le_left _ _); omega) (by omega)
      rw [fl] at vm
      have so : ∀ z ∈ sgL ps, PyData.strOk z = true := fun z hz => by obtain ⟨p, _, rfl⟩ := List.mem_map.mp hz; exact sg_ok _
      have so2 : ∀ z ∈ (List.replicate (sgL ps).length ((sgL ps).take 1)).flatten, PyData.strOk z = true := fun z hz => by
        obtain ⟨l, hl, hz⟩ := List.mem_flatten.mp hz
        rw [(List.mem_replicate.mp hl).2] at hz
        exact so z (List.mem_of_mem_take hz)
      have es := eq_ss so so2
      ((try walk_at "zs"); repeat (simp only [slL_list, s1, List.length_map, vm, es]; (try walk_at "zs")))
      unfold lgB at qy
      by_cases c1 : (dd (sgL ps)).length ≤ 1
      · rw [decide_eq_true c1] at qy
        rw [if_pos (one_sign.mp c1)]
        refine wp_Lc ?_
        walk_at "zs"
        refine ⟨by rw [List.length_map]; omega, lc_all rc (fun p => .str p.2.1) (fun p hp' => ?_) ?_⟩
        · have ai : attD at_item ct_item "item" (rc p) = some (.str p.2.1) := att_item (hp p hp').2
          ((try walk_at "zs"); repeat (simp only [peek_r, ai]; (try walk_at "zs")))
        · have e2 : (ps.map fun p => D.str p.2.1) = (itL ps).map D.str := by unfold itL; rw [List.map_map]; rfl
          rw [e2]
          ((try walk_at "zs"); repeat (simp only [lenSet_gen l2]; (try walk_at "zs")))
          rw [List.length_map, show decide (((dd (itL ps)).length : Int) = (ps.length : Int)) = decide ((dd (itL ps)).length = ps.length) from decide_eq_decide.mpr Int.ofNat_inj]
          exact qy
      · rw [decide_eq_false c1] at qy
        rw [if_neg (fun h => c1 (one_sign.mpr h))]
        exact qy
/-! ### both agree -/
def Good (d : D) : Prop := El d ∧ ∀ ds, d = .list ds → (∀ e ∈ ds, El e) ∧ ds.length ≤ 1000
theorem rp2 (b : Bool) : ∃ t, bRepr [.list [.bl b, .bl b]] = some (.v (.str t)) := by cases b <;> exact ⟨_, rfl⟩
theorem peek_el {d : D} (h : El d) {s : S} : peek s (.v d) = some d := by
  rcases h with h | ⟨p, _, rfl⟩
  · exact peek_pl h
  · rfl
theorem c_true {ds : List D} {ps : List Pt} (e : ds = ps.map rc) (hp : ∀ p ∈ ps, Ok p ∧ p.1 < 3) (h : ps.length ≤ 40) : (decide (ds.length ≤ 40) && ds.all kdB) = true := by
  subst e
  rw [List.length_map, decide_eq_true h, Bool.true_and, List.all_eq_true]
  intro d hd
  obtain ⟨p, hp', rfl⟩ := List.mem_map.mp hd
  exact decide_eq_true (hp p hp').2
theorem rc_map : ∀ {ps qs : List Pt}, ps.map rc = qs.map rc → ps = qs
  | [], [], _ => rfl
  | [], _ :: _, h => by cases h
  | _ :: _, [], h => by cases h
  | (k, z, v) :: ps, (k', z', v') :: qs, h => by
    rw [List.map_cons, List.map_cons, List.cons.injEq] at h
    have h1 : D.obj k [("held_item", .str z), ("held_slot", .int v)] = D.obj k' [("held_item", .str z'), ("held_slot", .int v')] := h.1
    injection h1 with a b
    rw [List.cons.injEq, List.cons.injEq, Prod.mk.injEq, Prod.mk.injEq] at b
    obtain ⟨⟨_, b1⟩, ⟨_, b2⟩, _⟩ := b
    injection b1 with b1
    injection b2 with b2
    rw [a, b1, b2, rc_map h.2]
theorem w_right {d : D} {μ : List D} {Q : Rs → List D → Prop} {X : XF} (g : Good d) (q : Q (.v (.bl true)) μ) : Wf (F_law_right [d] μ) Q X := by
  refine wf_run rfl ?_
  show Ws (T_law_right ⟨[some (.s d), none], μ⟩) _
  unfold T_law_right
  have fin : ∀ b : Bool, (∀ (Q' : Rs → List D → Prop) (X' : XF), Q' (.v (.bl b)) μ → Wf (F_law_due [d] μ) Q' X') → (∀ (Q' : Rs → List D → Prop) (X' : XF), Q' (.v (.bl b)) μ → Wf (F_is_log [d] μ) Q' X') → Ws (TSeq (TAsg (TFn F_law_due (TCons (TVar 0) (TNil))) 1) (TRet (TOp vEq (TCB bRepr (PCons (TLst (TCons (TFn F_is_log (TCons (TVar 0) (TNil))) (TCons (TFnK F_is_log 1 (pm0) (TCons (TVar 0) (TNil))) (TNil)))) (PNil))) (TCB bRepr (PCons (TLst (TCons (TVar 1) (TCons (TVar 1) (TNil)))) (PNil))))) ⟨[some (.s d), none], μ⟩) (outQ Q X) := by
    intro b w1 w2
    obtain ⟨t, et⟩ := rp2 b
    have pm : pm0 [d] = [d] := rfl
    walk_at "zs"
    refine w1 _ _ ?_
    walk_at "zs"
    refine w2 _ _ ?_
    ((try walk_at "zs"); repeat (simp only [pm]; (try walk_at "zs")))
    refine w2 _ _ ?_
    ((try walk_at "zs"); repeat (simp only [et]; (try walk_at "zs")))
    exact q
  by_cases hl : ∃ ds, d = .list ds
  · obtain ⟨ds, rfl⟩ := hl
    obtain ⟨he, l1⟩ := g.2 ds rfl
    cases c : decide (ds.length ≤ 40) && ds.all kdB with
    | false => exact fin false (fun Q' X' q' => w_due he l1 (fun _ => q') fun ps e hp h40 => by rw [c_true e hp h40] at c; cases c) (fun Q' X' q' => w_is_log he l1 (fun _ => q') fun ps e hp h40 => by rw [c_true e hp h40] at c; cases c)
    | true =>
      rw [Bool.and_eq_true] at c
      obtain ⟨ps0, e0, hp0⟩ := kd_list he c.2
      have ct : (decide (ds.length ≤ 40) && ds.all kdB) = true := by rw [c.1, c.2]; rfl
      exact fin (lgB ps0) (fun Q' X' q' => w_due he l1 (fun h => by rw [ct] at h; cases h) fun ps e hp h40 => by rw [rc_map (e.symm.trans e0)]; exact q') (fun Q' X' q' => w_is_log he l1 (fun h => by rw [ct] at h; cases h) fun ps e hp h40 => by rw [rc_map (e.symm.trans e0)]; exact q')
  · have hn : ∀ ds, d ≠ .list ds := fun ds e => hl ⟨ds, e⟩
    have il := isl g.1 hn
    have pd := fun s : S => peek_el g.1 (s := s)
    refine fin false (fun Q' X' q' => ?_) (fun Q' X' q' => ?_)
    · refine wf_run rfl ?_
      show Ws (T_law_due ⟨[some (.s d), none, none], μ⟩) _
      unfold T_law_due
      ((try walk_at "zs"); repeat (simp only [pd, il]; (try walk_at "zs")))
      exact q'
    · refine wf_run rfl ?_
      show Ws (T_is_log ⟨[some (.s d), none], μ⟩) _
      unfold T_is_log
      walk_at "zs"
      refine wf_run rfl ?_
      show Ws (T_are_records ⟨[some (.s d), some (.s (.int 40)), none], μ⟩) _
      unfold T_are_records
      ((try walk_at "zs"); repeat (simp only [pd, il]; (try walk_at "zs")))
      exact q'
end K
namespace K
open PySem PySem.Spec PyProof.Rows L2 U ClX Z
local macro_rules | `(tactic| walk_at "zs") => `(tactic| simp only [wu_TGet, wp_getM, vIsB_bl, wp_reprM, wu_TReprM, lcC_scr, lcC_list, forC_scr, forC_list, wp_listC, wp_enC, wu_IEnumC, wu_ILstC, ws_TForC, wu_TEqO, wp_eqO, wu_TFmt, wu_TJs_nil, wu_TJs_cons, wp_jStr, endQ_nx, endQ_rt, tryX_f, tryX_t, tryQ_ct, tryQ_bk, tryQ_rt, tryQ_nx, tryQ_ex, ws_try, wu_TRaiseF, wu_TRaise, wu_TAttE, wu_TLenSet, wu_TDct1, wu_TC, wu_TOp, wu_TUn, wu_TB, wu_TNotV, wu_TAndV, wu_TOrV, wu_TIf, wu_TNot, wu_TAnd, wu_TOr, wu_TYes, wu_TChain, wu_TNil, wu_TCons, wu_TStar, wu_PNil, wu_PCons, wu_TLst, wu_TTup, wu_TCB, wu_TNext, wu_TBreak, wu_TCont, wu_TRet, wu_TRetN, wu_TDrop, wu_TIfS, wu_TAsg, wu_TPar, wu_ILst, wu_ITup, wu_IStr, wu_IRng1, wu_IRng2, wu_IEnum, wu_IZip, wu_TBM, wu_TBP, wu_TAug, wu_TSub, wu_TDPut, wu_TFld, wu_TFn, wu_TFnK, wu_TMth, wu_TMthK, wp_meth, wu_TAtt, wu_TNoP, wu_TPart, wu_TSl, wu_TRevL, wu_TDGet, wu_TDNew, wu_TIndex, wu_TAsgG, wu_TKeep, wu_TSup, GName, GTup, GCons, GNil,   ws_seq, ws_sb, ws_some, ws_nxt, ws_ite, ws_for, sqQ_nx, sqQ_rt, sqQ_bk, sqQ_ct, sqQ_ex, wp_bnd, wp_ret, wp_some, wp_opt, wp_pk, wp_pks_nil, wp_pks_cons, wp_ite, wp_call, wp_Var, varQ_s, varQ_o, wp_stab_v, wp_stab_fr, wp_stab_al, stabQ_o, stabQ_s, wp_asB_bl, res1_v, res1_fr, res1_al, res_nil, res_cons, asg_v, asg_fr, asgs_nil, asgs_cons, setV_eq,   Option.bind_eq_some_iff, Int.zero_add, and_assoc, exists_and_left, exists_const, Nat.reduceAdd, Nat.reduceLT, Nat.reduceLeDiff, Nat.reduceEqDiff, Int.reduceEq, Int.reduceLE, Int.reduceLT, Int.reduceNeg, Int.reduceToNat, Int.reduceAdd, Int.reduceSub, Int.cast_ofNat_Int, reduceIte, eq_self, fits, decide_eq_true_eq, Bool.not_eq_true', decide_eq_false_iff_not, Bool.and_eq_true, wp_mut_al, wp_mut_loc, mutQ_o, Prod.mk.injEq, Bool.and_true, Bool.true_and, Bool.and_false, Bool.false_and, Bool.or_true, Bool.true_or, Bool.or_false, Bool.false_or, Bool.and_self, Bool.or_self, peek_int, peek_str, peek_bl, peek_non, peek_ty, peek_cl, peek_list, peek_scr, peek_tup, peek_dict, peek_obj, peek_loc, peek_fr, peek_al, varP_o, varP_s, forQ_nx, forQ_ct, forQ_bk, forQ_rt, forQ_ex,   outQ_v, outQ_fr, outQ_nx, outQ_ex, outQ_al, outA_o, outA_s, outIQ_nx, outIQ_ex, vAdd_int, vAdd_str, vAdd_list, vSub_int, vMul_int, vDiv_int, vMod_int, vPow_int, vLt_int, vLe_int, vGt_int, vGe_int, vEq_int, vEq_str, vEq_bl, vNe_int, vNe_str, vNe_bl, vIs_non, vIs_int, vIs_str, vIs_list, vIs_tup, vIsNot_non, vIsNot_int, vIsNot_str, vIsNot_list, vIsNot_tup, vIx_list, vIx_scr, vIx_tup, vNeg_int, vIp_int, bLen_str, bLen_list, bLen_scr, bLen_tup, bAbs_int, bMax_int, bMin_int, bList_list, bList_scr, bList_tup, bInt_int, bInt_bl, slL_list, slS_str, isL_list, asI_int, itemsL_list, itemsL_scr, mAppend_eq, mExtend_eq, ite_some_eq, toKey, Bool.true_eq_false,   List.getElem?_cons_zero, List.getElem?_cons_succ, List.set_cons_zero, List.set_cons_succ, List.length_cons, List.length_nil, Option.some.injEq, exists_eq_left', exists_eq_left, exists_eq_right, exists_eq_right', and_true, true_and, Option.map_some, Option.bind_some, Rs.v.injEq, Rs.fr.injEq, D.int.injEq, D.str.injEq, D.bl.injEq, if_true, Bool.false_eq_true, if_false, Bool.not_true, Bool.not_false, decide_true, decide_false, wf_v, wf_fr, wipeE, restE, Option.isSome_some])
/-! ### what is built -/
theorem w_make {k : Nat} {z : Str} {n : Int} {μ : List D} {Q : Rs → List D → Prop} {X : XF} (hk : k < 4) (hz : Itm z) (h0 : 0 ≤ n) (h1 : n ≤ 60) (q : Q (.fr (rcD k z n)) μ) : Wf (F_law_make [.int (k : Nat), .str z, .int n] μ) Q X := by
  refine wf_run rfl ?_
  match k, hk, q with
  | 0, hk, q =>
    show Ws (T_law_make ⟨[some (.s (.int 0)), some (.s (.str z)), some (.s (.int n))], μ⟩) _
    unfold T_law_make
    walk_at "zs"
    exact w_init (by decide) hz h0 h1 q
  | 1, hk, q =>
    show Ws (T_law_make ⟨[some (.s (.int 1)), some (.s (.str z)), some (.s (.int n))], μ⟩) _
    unfold T_law_make
    walk_at "zs"
    exact w_init (by decide) hz h0 h1 q
  | 2, hk, q =>
    show Ws (T_law_make ⟨[some (.s (.int 2)), some (.s (.str z)), some (.s (.int n))], μ⟩) _
    unfold T_law_make
    walk_at "zs"
    exact w_init (by decide) hz h0 h1 q
  | 3, hk, q =>
    show Ws (T_law_make ⟨[some (.s (.int 3)), some (.s (.str z)), some (.s (.int n))], μ⟩) _
    unfold T_law_make
    walk_at "zs"
    exact w_init (by decide) hz h0 h1 q
theorem w_rows {ps : List Pt} {μ : List D} {Q : Rs → List D → Prop} {X : XF} (hp : ∀ p ∈ ps, Ok p) (hl : ps.length ≤ 1000) (q : Q (.fr (.list (ps.map rc))) μ) : Wf (F_law_rows [.list (ps.map ptD)] μ) Q X := by
  refine wf_run rfl ?_
  show Ws (T_law_rows ⟨[some (.s (.list (ps.map ptD))), none, none, none], μ⟩) _
  unfold T_law_rows
  walk_at "zs"
  refine wp_Lc ?_
  walk_at "zs"
  refine ⟨by rw [List.length_map]; omega, lc_all ptD rc (fun p hp' => ?_) ?_⟩
  · obtain ⟨a0, a1, a2, a3⟩ := hp p hp'
    unfold ptD
    walk_at "zs"
    refine w_make a0 a1 a2 a3 ?_
    walk_at "zs"
    rfl
  · walk_at "zs"
    exact q
theorem w_texts {ps : List Pt} {μ : List D} {Q : Rs → List D → Prop} {X : XF} (hp : ∀ p ∈ ps, Ok p ∧ p.1 < 3) (hl : ps.length ≤ 1000) (q : Q (.fr (.list ((ps.map fun p => tld p.1 p.2.1 p.2.2).map D.str))) μ) : Wf (F_law_texts [.list (ps.map rc)] μ) Q X := by
  refine wf_run rfl ?_
  show Ws (T_law_texts ⟨[some (.s (.list (ps.map rc))), none], μ⟩) _
  unfold T_law_texts
  walk_at "zs"
  refine wp_Lc ?_
  walk_at "zs"
  refine ⟨by rw [List.length_map]; omega, lc_all rc (fun p => .str (tld p.1 p.2.1 p.2.2)) (fun p hp' => ?_) ?_⟩
  · obtain ⟨⟨_, a1, a2, a3⟩, k3⟩ := hp p hp'
    ((try walk_at "zs"); repeat (simp only [peek_r, wp_getR, m_text k3]; (try walk_at "zs")))
    refine w_text (fun _ => rfl) k3 a1 a2 a3 ?_
    walk_at "zs"
  · walk_at "zs"
    rw [List.map_map] at q
    exact q
theorem at3i {a b c r : Int} (h0 : 0 ≤ r) (h1 : r < 3) {P : Int → Prop} (pa : P a) (pb : P b) (pc : P c) : ∃ p, atI [D.int a, D.int b, D.int c] r = some (.int p) ∧ P p := by
  have : r = 0 ∨ r = 1 ∨ r = 2 := by omega
  rcases this with rfl | rfl | rfl
  · exact ⟨a, rfl, pa⟩
  · exact ⟨b, rfl, pb⟩
  · exact ⟨c, rfl, pc⟩
theorem at4i {a b c d r : Int} (h0 : 0 ≤ r) (h1 : r < 4) {P : Int → Prop} (pa : P a) (pb : P b) (pc : P c) (pd : P d) : ∃ p, atI [D.int a, D.int b, D.int c, D.int d] r = some (.int p) ∧ P p := by
  have : r = 0 ∨ r = 1 ∨ r = 2 ∨ r = 3 := by omega
  rcases this with rfl | rfl | rfl | rfl
  · exact ⟨a, rfl, pa⟩
  · exact ⟨b, rfl, pb⟩
  · exact ⟨c, rfl, pc⟩
  · exact ⟨d, rfl, pd⟩
theorem w_log {n : Nat} {c : Int} {μ : List D} {Q : Rs → List D → Prop} {X : XF} (t : Tape μ n c) (hc : c ≤ 700000)
    (q : ∀ (ps : List Pt) μ', (∀ p ∈ ps, Ok p ∧ p.1 < 3) → ps.length ≤ 41 → Tape μ' n (c + 100) → Q (.fr (.list (ps.map ptD))) μ') : Wf (F_law_log [.loc n, .int 41] μ) Q X := by
  refine wf_run rfl ?_
  show Ws (T_law_log ⟨[some (.s (.loc n)), some (.s (.int 41)), none, none, none, none], μ⟩) _
  unfold T_law_log
  walk_at "zs"
  refine w_pick t (by omega) (by omega) (by omega) fun r1 d1 r10 r11 t1 => ?_
  generalize μ.set n d1 = μ1 at t1
  walk_at "zs"
  refine w_pick t1 (by omega) (by omega) (by omega) fun r2 d2 r20 r21 t2 => ?_
  generalize μ1.set n d2 = μ2 at t2
  walk_at "zs"
  refine w_pick t2 (by omega) (by omega) (by omega) fun r3 d3 r30 r31 t3 => ?_
  generalize μ2.set n d3 = μ3 at t3
  obtain ⟨m, em, m0, m1⟩ := at3i (a := r1) (b := r2) (c := 41) r30 r31 (P := fun i => 0 ≤ i ∧ i ≤ 41) ⟨by omega, by omega⟩ ⟨by omega, by omega⟩ ⟨by omega, by omega⟩
  obtain ⟨m, rfl⟩ : ∃ w' : Nat, m = w' := ⟨m.toNat, by omega⟩
  ((try walk_at "zs"); repeat (simp only [em]; (try walk_at "zs")))
  refine w_pick t3 (by omega) (by omega) (by omega) fun r4 d4 r40 r41 t4 => ?_
  generalize μ3.set n d4 = μ4 at t4
  obtain ⟨k, rfl⟩ : ∃ w' : Nat, r4 = w' := ⟨r4.toNat, by omega⟩
  walk_at "zs"
  refine w_pick t4 (by omega) (by omega) (by omega) fun r5 d5 r50 r51 t5 => ?_
  generalize μ4.set n d5 = μ5 at t5
  obtain ⟨hg, eh, h0, h1⟩ := at4i (a := 1) (b := 5) (c := (m : Int) + 1) (d := 61) r50 r51 (P := fun i => 1 ≤ i ∧ i ≤ 61) ⟨by omega, by omega⟩ ⟨by omega, by omega⟩ ⟨by omega, by omega⟩ ⟨by omega, by omega⟩
  ((try walk_at "zs"); repeat (simp only [eh]; (try walk_at "zs")))
  refine wp_Lc ?_
  walk_at "zs"
  refine w_names t5 (by omega) (by omega) fun zs μ6 nd it zl t6 => ?_
  walk_at "zs"
  refine ⟨by rw [List.length_map]; omega, ?_⟩
  refine lc_inv (fun i acc s => ∃ (ps : List Pt) (μ' : List D), s = ⟨[some (.s (.loc n)), some (.s (.int 41)), some (.s (.int (m : Nat))), some (.s (.int (k : Nat))), some (.s (.int hg)), none], μ'⟩ ∧ acc = ps.map ptD ∧ (∀ p ∈ ps, Ok p ∧ p.1 < 3) ∧ ps.length = i ∧ Tape μ' n (c + 55 + i)) ⟨[], μ6, rfl, rfl, fun p h => absurd h List.not_mem_nil, rfl, t6.mono (by omega)⟩ ?_ ?_
  · rintro i d acc s hd ⟨ps, μ', rfl, rfl, hp, hl, tp⟩
    rw [List.getElem?_map] at hd
    obtain ⟨z, hz, rfl⟩ := Option.map_eq_some_iff.mp hd
    have hi := (List.getElem?_eq_some_iff.mp hz).1
    have em' : (if (61 : Int) < hg then 61 else hg) = hg := by split <;> omega
    walk_at "zs"
    rw [em']
    refine w_pick tp (by omega) (by omega) (by omega) fun r6 d6 r60 r61 t7 => ?_
    walk_at "zs"
    refine ⟨ps ++ [(k, z, r6)], _, rfl, by rw [List.map_append]; rfl, fun p hp' => ?_, by rw [List.length_append, hl]; rfl, t7.mono (by omega)⟩
    rcases List.mem_append.mp hp' with h | h
    · exact hp p h
    · rw [List.mem_singleton.mp h]
      exact ⟨⟨show k < 4 by omega, it z (List.mem_of_getElem? hz), r60, show r6 ≤ 60 by omega⟩, show k < 3 by omega⟩
  · rintro acc s ⟨ps, μ', rfl, rfl, hp, hl, tp⟩
    rw [List.length_map] at hl tp
    walk_at "zs"
    exact q ps _ hp (by omega) (tp.mono (by omega))
theorem at_mem {xs : List D} {r : Int} (h0 : 0 ≤ r) (h1 : r < xs.length) : ∃ d ∈ xs, atI xs r = some d := by
  obtain ⟨j, rfl⟩ : ∃ j : Nat, r = j := ⟨r.toNat, by omega⟩
  have hj : j < xs.length := by omega
  exact ⟨xs[j], List.getElem_mem hj, atI_nat hj⟩
theorem at_last {xs : List D} (h : xs ≠ []) : ∃ d ∈ xs, atI xs (-1) = some d := by
  have hl : 0 < xs.length := List.length_pos_iff.mpr h
  have e : atI xs (-1) = xs[xs.length - 1]? := by
    unfold atI ixN
    rw [if_neg (by decide), if_pos (by omega), Option.bind_some]
    congr 1
    omega
  exact ⟨xs[xs.length - 1], List.getElem_mem (by omega), by rw [e, List.getElem?_eq_getElem]⟩
theorem itm_zzz : Itm "zzz" := by unfold Itm; decide +kernel
theorem el_rc {p : Pt} (h : Ok p) : El (rc p) := .inr ⟨p, h, rfl⟩
theorem w_changed {n : Nat} {ps : List Pt} {c : Int} {μ : List D} {Q : Rs → List D → Prop} {X : XF} (t : Tape μ n c) (hc : c ≤ 700000) (hp : ∀ p ∈ ps, Ok p ∧ p.1 < 3) (hl : ps.length ≤ 41)
    (q : ∀ ds μ', (∀ d ∈ ds, El d) → ds.length ≤ 100 → Tape μ' n (c + 10) → Q (.fr (.list ds)) μ') : Wf (F_law_changed [.loc n, .list (ps.map rc), .list (ps.map ptD)] μ) Q X := by
  refine wf_run rfl ?_
  show Ws (T_law_changed ⟨[some (.s (.loc n)), some (.s (.list (ps.map rc))), some (.s (.list (ps.map ptD))), none, none, none, none, none, none, none, none], μ⟩) _
  unfold T_law_changed
  walk_at "zs"
  refine w_pick t (by omega) (by rw [List.length_map]; omega) (by rw [List.length_map]; omega) fun r1 d1 r10 r11 t1 => ?_
  rw [List.length_map] at r11
  generalize μ.set n d1 = μ1 at t1
  walk_at "zs"
  refine w_pick t1 (by omega) (by omega) (by omega) fun r2 d2 r20 r21 t2 => ?_
  generalize μ1.set n d2 = μ2 at t2
  obtain ⟨sp, rfl⟩ : ∃ w' : Nat, r1 = w' := ⟨r1.toNat, by omega⟩
  walk_at "zs"
  refine w_pick t2 (by omega) (by omega) (by omega) fun r3 d3 r30 r31 t3 => ?_
  generalize μ2.set n d3 = μ3 at t3
  obtain ⟨o1, ho1, eo1⟩ := at_mem (xs := [D.non, D.int 0, D.bl true, D.str (Str.ofString "+a@0"), D.str (Str.ofString "a"), D.list [], D.tup [], D.dict [], D.tup [D.str (Str.ofString "a"), D.int 0], D.list [D.str (Str.ofString "a"), D.int 0]]) r30 (by simpa using r31)
  have el1 : El o1 := .inl (by
    have : ([D.non, D.int 0, D.bl true, D.str (Str.ofString "+a@0"), D.str (Str.ofString "a"), D.list [], D.tup [], D.dict [], D.tup [D.str (Str.ofString "a"), D.int 0], D.list [D.str (Str.ofString "a"), D.int 0]]).all plB = true := rfl
    exact List.all_eq_true.mp this o1 ho1)
  ((try walk_at "zs"); repeat (simp only [eo1]; (try walk_at "zs")))
  refine w_init (k := 3) (by decide) itm_zzz (by decide) (by decide) ?_
  walk_at "zs"
  refine w_init (k := 0) (by decide) itm_zzz (by decide) (by decide) ?_
  walk_at "zs"
  refine w_init (k := 1) (by decide) itm_zzz (by decide) (by decide) ?_
  walk_at "zs"
  refine w_init (k := 2) (by decide) itm_zzz (by decide) (by decide) ?_
  have e5 : 0 ≤ r2 % 5 ∧ r2 % 5 < 5 := ⟨by omega, by omega⟩
  have ok5 : ∀ (k : Nat) (v : Int), k < 4 → 0 ≤ v → v ≤ 60 → El (rcD k "zzz" v) := fun k v h h0 h1 => el_rc (p := (k, "zzz", v)) ⟨h, itm_zzz, h0, h1⟩
  obtain ⟨o2, ho2, eo2⟩ := at_mem (xs := [o1, rcD 3 "zzz" 0, rcD 0 "zzz" 0, rcD 1 "zzz" 60, rcD 2 "zzz" 1]) (r := r2 % 5) e5.1 (by simpa using e5.2)
  have el2 : El o2 := by
    simp only [List.mem_cons, List.not_mem_nil, or_false] at ho2
    rcases ho2 with rfl | rfl | rfl | rfl | rfl
    · exact el1
    · exact ok5 3 0 (by decide) (by decide) (by decide)
    · exact ok5 0 0 (by decide) (by decide) (by decide)
    · exact ok5 1 60 (by decide) (by decide) (by decide)
    · exact ok5 2 1 (by decide) (by decide) (by decide)
  have c1 : cutL (ps.map rc) none (some (sp : Int)) = (ps.take sp).map rc := by rw [cutL_to, List.map_take]
  have c2 : cutL (ps.map rc) (some (sp : Int)) none = (ps.drop sp).map rc := by rw [cutL_from, List.map_drop]
  have ein : ∀ x, El x → ∀ d ∈ (ps.take sp).map rc ++ [x] ++ (ps.drop sp).map rc, El d := fun x hx d hd => by
    rcases List.mem_append.mp hd with hd | hd
    · rcases List.mem_append.mp hd with hd | hd
      · obtain ⟨p, hp', rfl⟩ := List.mem_map.mp hd
        exact el_rc (hp p (List.mem_of_mem_take hp')).1
      · rw [List.mem_singleton.mp hd]; exact hx
    · obtain ⟨p, hp', rfl⟩ := List.mem_map.mp hd
      exact el_rc (hp p (List.mem_of_mem_drop hp')).1
  have lin : ∀ x : D, ((ps.take sp).map rc ++ [x] ++ (ps.drop sp).map rc).length ≤ 100 := fun x => by
    rw [List.length_append, List.length_append, List.length_map, List.length_map, List.length_take, List.length_drop, List.length_singleton]; omega
  have l3 : ((ps.take sp).map rc).length ≤ 41 := by rw [List.length_map, List.length_take]; omega
  have l4 : ((ps.drop sp).map rc).length ≤ 41 := by rw [List.length_map, List.length_drop]; omega
  ((try walk_at "zs"); repeat (simp only [slL_list, c1, c2, eo2, ne_nil]; (try walk_at "zs")))
  refine ⟨by omega, by rw [List.length_append, List.length_singleton]; omega, ?_⟩
  have t3' : Tape μ3 n (c + 10) := t3.mono (by omega)
  by_cases c5 : 5 < r2
  · rw [if_pos c5]
    by_cases ne : ps = []
    · subst ne
      rw [if_neg (fun h => h rfl)]
      exact q _ _ (ein o2 el2) (lin o2) t3'
    · have pl : 0 < ps.length := List.length_pos_iff.mpr ne
      rw [if_pos (fun h => ne (List.map_eq_nil_iff.mp h))]
      refine w_pick t3 (by omega) (by rw [List.length_map]; omega) (by rw [List.length_map]; omega) fun r6 d6 r60 r61 t4 => ?_
      generalize μ3.set n d6 = μ4 at t4
      have t4' : Tape μ4 n (c + 10) := t4.mono (by omega)
      obtain ⟨x6, hx6, e6⟩ := at_mem (xs := ps.map ptD) r60 r61
      obtain ⟨p6, hp6, rfl⟩ := List.mem_map.mp hx6
      obtain ⟨⟨a0, a1, a2, a3⟩, _⟩ := hp p6 hp6
      obtain ⟨x7, hx7, e7⟩ := at_mem (xs := ps.map rc) (r := 0) (by decide) (by rw [List.length_map]; omega)
      obtain ⟨x8, hx8, e8⟩ := at_last (xs := ps.map rc) (fun h => ne (List.map_eq_nil_iff.mp h))
      have er : ∀ x ∈ ps.map rc, El x := fun x hx => by
        obtain ⟨p, hp', rfl⟩ := List.mem_map.mp hx
        exact el_rc (hp p hp').1
      have ep : ptD p6 = .tup [.int (p6.1 : Nat), .str p6.2.1, .int p6.2.2] := rfl
      rw [ep] at e6
      ((try walk_at "zs"); repeat (simp only [e6]; (try walk_at "zs")))
      refine w_make a0 a1 (by omega) (by omega) ?_
      obtain ⟨o3, ho3, eo3⟩ := at_mem (xs := [rcD p6.1 p6.2.1 (60 - p6.2.2), x7, x8]) (r := r2 - 6) (by omega) (by show r2 - 6 < 3; omega)
      have el3 : El o3 := by
        simp only [List.mem_cons, List.not_mem_nil, or_false] at ho3
        rcases ho3 with rfl | rfl | rfl
        · exact el_rc (p := (p6.1, p6.2.1, 60 - p6.2.2)) ⟨a0, a1, by show 0 ≤ 60 - p6.2.2; omega, by show 60 - p6.2.2 ≤ 60; omega⟩
        · exact er _ hx7
        · exact er _ hx8
      ((try walk_at "zs"); repeat (simp only [e7, e8, eo3, slL_list, c1, c2]; (try walk_at "zs")))
      exact ⟨by omega, by rw [List.length_append, List.length_singleton]; omega, q _ _ (ein o3 el3) (lin o3) t4'⟩
  · rw [if_neg c5]
    exact q _ _ (ein o2 el2) (lin o2) t3'
end K
namespace K
open PySem PySem.Spec PyProof.Rows L2 U ClX Z
local macro_rules | `(tactic| walk_at "zs") => `(tactic| simp only [wu_TGet, wp_getM, vIsB_bl, wp_reprM, wu_TReprM, lcC_scr, lcC_list, forC_scr, forC_list, wp_listC, wp_enC, wu_IEnumC, wu_ILstC, ws_TForC, wu_TEqO, wp_eqO, wu_TFmt, wu_TJs_nil, wu_TJs_cons, wp_jStr, endQ_nx, endQ_rt, tryX_f, tryX_t, tryQ_ct, tryQ_bk, tryQ_rt, tryQ_nx, tryQ_ex, ws_try, wu_TRaiseF, wu_TRaise, wu_TAttE, wu_TLenSet, wu_TDct1, wu_TC, wu_TOp, wu_TUn, wu_TB, wu_TNotV, wu_TAndV, wu_TOrV, wu_TIf, wu_TNot, wu_TAnd, wu_TOr, wu_TYes, wu_TChain, wu_TNil, wu_TCons, wu_TStar, wu_PNil, wu_PCons, wu_TLst, wu_TTup, wu_TCB, wu_TNext, wu_TBreak, wu_TCont, wu_TRet, wu_TRetN, wu_TDrop, wu_TIfS, wu_TAsg, wu_TPar, wu_ILst, wu_ITup, wu_IStr, wu_IRng1, wu_IRng2, wu_IEnum, wu_IZip, wu_TBM, wu_TBP, wu_TAug, wu_TSub, wu_TDPut, wu_TFld, wu_TFn, wu_TFnK, wu_TMth, wu_TMthK, wp_meth, wu_TAtt, wu_TNoP, wu_TPart, wu_TSl, wu_TRevL, wu_TDGet, wu_TDNew, wu_TIndex, wu_TAsgG, wu_TKeep, wu_TSup, GName, GTup, GCons, GNil,   ws_seq, ws_sb, ws_some, ws_nxt, ws_ite, ws_for, sqQ_nx, sqQ_rt, sqQ_bk, sqQ_ct, sqQ_ex, wp_bnd, wp_ret, wp_some, wp_opt, wp_pk, wp_pks_nil, wp_pks_cons, wp_ite, wp_call, wp_Var, varQ_s, varQ_o, wp_stab_v, wp_stab_fr, wp_stab_al, stabQ_o, stabQ_s, wp_asB_bl, res1_v, res1_fr, res1_al, res_nil, res_cons, asg_v, asg_fr, asgs_nil, asgs_cons, setV_eq,   Option.bind_eq_some_iff, Int.zero_add, and_assoc, exists_and_left, exists_const, Nat.reduceAdd, Nat.reduceLT, Nat.reduceLeDiff, Nat.reduceEqDiff, Int.reduceEq, Int.reduceLE, Int.reduceLT, Int.reduceNeg, Int.reduceToNat, Int.reduceAdd, Int.reduceSub, Int.cast_ofNat_Int, reduceIte, eq_self, fits, decide_eq_true_eq, Bool.not_eq_true', decide_eq_false_iff_not, Bool.and_eq_true, wp_mut_al, wp_mut_loc, mutQ_o, Prod.mk.injEq, Bool.and_true, Bool.true_and, Bool.and_false, Bool.false_and, Bool.or_true, Bool.true_or, Bool.or_false, Bool.false_or, Bool.and_self, Bool.or_self, peek_int, peek_str, peek_bl, peek_non, peek_ty, peek_cl, peek_list, peek_scr, peek_tup, peek_dict, peek_obj, peek_loc, peek_fr, peek_al, varP_o, varP_s, forQ_nx, forQ_ct, forQ_bk, forQ_rt, forQ_ex,   outQ_v, outQ_fr, outQ_nx, outQ_ex, outQ_al, outA_o, outA_s, outIQ_nx, outIQ_ex, vAdd_int, vAdd_str, vAdd_list, vSub_int, vMul_int, vDiv_int, vMod_int, vPow_int, vLt_int, vLe_int, vGt_int, vGe_int, vEq_int, vEq_str, vEq_bl, vNe_int, vNe_str, vNe_bl, vIs_non, vIs_int, vIs_str, vIs_list, vIs_tup, vIsNot_non, vIsNot_int, vIsNot_str, vIsNot_list, vIsNot_tup, vIx_list, vIx_scr, vIx_tup, vNeg_int, vIp_int, bLen_str, bLen_list, bLen_scr, bLen_tup, bAbs_int, bMax_int, bMin_int, bList_list, bList_scr, bList_tup, bInt_int, bInt_bl, slL_list, slS_str, isL_list, asI_int, itemsL_list, itemsL_scr, mAppend_eq, mExtend_eq, ite_some_eq, toKey, Bool.true_eq_false,   List.getElem?_cons_zero, List.getElem?_cons_succ, List.set_cons_zero, List.set_cons_succ, List.length_cons, List.length_nil, Option.some.injEq, exists_eq_left', exists_eq_left, exists_eq_right, exists_eq_right', and_true, true_and, Option.map_some, Option.bind_some, Rs.v.injEq, Rs.fr.injEq, D.int.injEq, D.str.injEq, D.bl.injEq, if_true, Bool.false_eq_true, if_false, Bool.not_true, Bool.not_false, decide_true, decide_false, wf_v, wf_fr, wipeE, restE, Option.isSome_some])
/-! ### all things -/
def elB : D → Bool
  | .obj k [(a, .str z), (b, .int v)] => decide (k < 4) && decide (a = "held_item") && decide (b = "held_slot") && itemB z && decide (0 ≤ v) && decide (v ≤ 60)
  | d => plB d
def goodB : D → Bool
  | .list ds => ds.all elB && decide (ds.length ≤ 1000)
  | d => elB d
theorem el_of {d : D} (h : elB d = true) : El d := by
  unfold elB at h
  split at h
  · rename_i k a z b v
    simp only [Bool.and_eq_true, decide_eq_true_eq] at h
    obtain ⟨⟨⟨⟨⟨h1, rfl⟩, rfl⟩, h4⟩, h5⟩, h6⟩ := h
    exact .inr ⟨(k, z, v), ⟨h1, h4, h5, h6⟩, rfl⟩
  · exact .inl h
theorem good_of {d : D} (h : goodB d = true) : Good d := by
  unfold goodB at h
  split at h
  · rename_i ds
    rw [Bool.and_eq_true] at h
    exact ⟨.inl rfl, fun ds' e => by cases e; exact ⟨fun e he => el_of (List.all_eq_true.mp h.1 e he), of_decide_eq_true h.2⟩⟩
  · rename_i hn
    exact ⟨el_of h, fun ds e => absurd e (by rintro rfl; exact hn _ rfl)⟩
theorem good_one {d : D} (h : El d) : Good (.list [d]) := ⟨.inl rfl, fun ds e => by cases e; exact ⟨fun e he => by rw [List.mem_singleton.mp he]; exact h, by rw [List.length_singleton]; decide⟩⟩
theorem good_list {ds : List D} (h : ∀ d ∈ ds, El d) (hl : ds.length ≤ 1000) : Good (.list ds) := ⟨.inl rfl, fun ds' e => by cases e; exact ⟨h, hl⟩⟩
theorem good_pl {d : D} (h : plB d = true) (hn : ∀ ds, d ≠ .list ds) : Good d := ⟨.inl h, fun ds e => absurd e (hn ds)⟩
theorem w_things {μ : List D} {Q : Rs → List D → Prop} {X : XF} (q : ∀ ds, (∀ d ∈ ds, Good d) → ds.length ≤ 100 → Q (.fr (.list ds)) μ) : Wf (F_law_things [] μ) Q X := by
  refine wf_run rfl ?_
  show Ws (T_law_things ⟨[none], μ⟩) _
  unfold T_law_things
  have ia : Itm "a" := by unfold Itm; decide +kernel
  have ib : Itm "b" := by unfold Itm; decide +kernel
  have ic : Itm "c" := by unfold Itm; decide +kernel
  walk_at "zs"
  refine ⟨by decide, by decide, ?_⟩
  refine w_init (k := 0) (by decide) ia (by decide) (by decide) ?_
  walk_at "zs"
  refine w_init (k := 3) (by decide) ib (by decide) (by decide) ?_
  walk_at "zs"
  refine w_init (k := 2) (by decide) ic (by decide) (by decide) ?_
  walk_at "zs"
  refine w_init (k := 1) (by decide) ia (by decide) (by decide) ?_
  walk_at "zs"
  refine ⟨by decide, q _ (fun d hd => good_of ?_) ?_⟩
  · revert d
    exact (List.all_eq_true (p := goodB)).mp (by decide +kernel)
  · decide
end K
namespace K
open PySem PySem.Spec PyProof.Rows L2 U ClX Z
local macro_rules | `(tactic| walk_at "zs") => `(tactic| simp only [wu_TGet, wp_getM, vIsB_bl, wp_reprM, wu_TReprM, lcC_scr, lcC_list, forC_scr, forC_list, wp_listC, wp_enC, wu_IEnumC, wu_ILstC, ws_TForC, wu_TEqO, wp_eqO, wu_TFmt, wu_TJs_nil, wu_TJs_cons, wp_jStr, endQ_nx, endQ_rt, tryX_f, tryX_t, tryQ_ct, tryQ_bk, tryQ_rt, tryQ_nx, tryQ_ex, ws_try, wu_TRaiseF, wu_TRaise, wu_TAttE, wu_TLenSet, wu_TDct1, wu_TC, wu_TOp, wu_TUn, wu_TB, wu_TNotV, wu_TAndV, wu_TOrV, wu_TIf, wu_TNot, wu_TAnd, wu_TOr, wu_TYes, wu_TChain, wu_TNil, wu_TCons, wu_TStar, wu_PNil, wu_PCons, wu_TLst, wu_TTup, wu_TCB, wu_TNext, wu_TBreak, wu_TCont, wu_TRet, wu_TRetN, wu_TDrop, wu_TIfS, wu_TAsg, wu_TPar, wu_ILst, wu_ITup, wu_IStr, wu_IRng1, wu_IRng2, wu_IEnum, wu_IZip, wu_TBM, wu_TBP, wu_TAug, wu_TSub, wu_TDPut, wu_TFld, wu_TFn, wu_TFnK, wu_TMth, wu_TMthK, wp_meth, wu_TAtt, wu_TNoP, wu_TPart, wu_TSl, wu_TRevL, wu_TDGet, wu_TDNew, wu_TIndex, wu_TAsgG, wu_TKeep, wu_TSup, GName, GTup, GCons, GNil,   ws_seq, ws_sb, ws_some, ws_nxt, ws_ite, ws_for, sqQ_nx, sqQ_rt, sqQ_bk, sqQ_ct, sqQ_ex, wp_bnd, wp_ret, wp_some, wp_opt, wp_pk, wp_pks_nil, wp_pks_cons, wp_ite, wp_call, wp_Var, varQ_s, varQ_o, wp_stab_v, wp_stab_fr, wp_stab_al, stabQ_o, stabQ_s, wp_asB_bl, res1_v, res1_fr, res1_al, res_nil, res_cons, asg_v, asg_fr, asgs_nil, asgs_cons, setV_eq,   Option.bind_eq_some_iff, Int.zero_add, and_assoc, exists_and_left, exists_const, Nat.reduceAdd, Nat.reduceLT, Nat.reduceLeDiff, Nat.reduceEqDiff, Int.reduceEq, Int.reduceLE, Int.reduceLT, Int.reduceNeg, Int.reduceToNat, Int.reduceAdd, Int.reduceSub, Int.cast_ofNat_Int, reduceIte, eq_self, fits, decide_eq_true_eq, Bool.not_eq_true', decide_eq_false_iff_not, Bool.and_eq_true, wp_mut_al, wp_mut_loc, mutQ_o, Prod.mk.injEq, Bool.and_true, Bool.true_and, Bool.and_false, Bool.false_and, Bool.or_true, Bool.true_or, Bool.or_false, Bool.false_or, Bool.and_self, Bool.or_self, peek_int, peek_str, peek_bl, peek_non, peek_ty, peek_cl, peek_list, peek_scr, peek_tup, peek_dict, peek_obj, peek_loc, peek_fr, peek_al, varP_o, varP_s, forQ_nx, forQ_ct, forQ_bk, forQ_rt, forQ_ex,   outQ_v, outQ_fr, outQ_nx, outQ_ex, outQ_al, outA_o, outA_s, outIQ_nx, outIQ_ex, vAdd_int, vAdd_str, vAdd_list, vSub_int, vMul_int, vDiv_int, vMod_int, vPow_int, vLt_int, vLe_int, vGt_int, vGe_int, vEq_int, vEq_str, vEq_bl, vNe_int, vNe_str, vNe_bl, vIs_non, vIs_int, vIs_str, vIs_list, vIs_tup, vIsNot_non, vIsNot_int, vIsNot_str, vIsNot_list, vIsNot_tup, vIx_list, vIx_scr, vIx_tup, vNeg_int, vIp_int, bLen_str, bLen_list, bLen_scr, bLen_tup, bAbs_int, bMax_int, bMin_int, bList_list, bList_scr, bList_tup, bInt_int, bInt_bl, slL_list, slS_str, isL_list, asI_int, itemsL_list, itemsL_scr, mAppend_eq, mExtend_eq, ite_some_eq, toKey, Bool.true_eq_false,   List.getElem?_cons_zero, List.getElem?_cons_succ, List.set_cons_zero, List.set_cons_succ, List.length_cons, List.length_nil, Option.some.injEq, exists_eq_left', exists_eq_left, exists_eq_right, exists_eq_right', and_true, true_and, Option.map_some, Option.bind_some, Rs.v.injEq, Rs.fr.injEq, D.int.injEq, D.str.injEq, D.bl.injEq, if_true, Bool.false_eq_true, if_false, Bool.not_true, Bool.not_false, decide_true, decide_false, wf_v, wf_fr, wipeE, restE, Option.isSome_some])
theorem lt_low : ∀ k ∈ letters, 97 ≤ k ∧ k ≤ 122 := by decide +kernel
theorem itm_ok {z : Str} (h : Itm z) : PyData.strOk z = true := by
  unfold Itm itemB at h
  simp only [Bool.and_eq_true, List.all_eq_true, decide_eq_true_eq] at h
  unfold PyData.strOk
  rw [← Array.all_toList, List.all_eq_true]
  intro c hc
  have := lt_low c (h.2 c hc)
  exact decide_eq_true (by omega)
theorem ok_app {a b : Str} (ha : PyData.strOk a = true) (hb : PyData.strOk b = true) : PyData.strOk (a ++ b) = true := by
  unfold PyData.strOk at *
  show (a.cps ++ b.cps).all _ = true
  rw [Array.all_append, ha, hb]; rfl
theorem dig_ok : ∀ n : Nat, n < 61 → PyData.strOk (Str.ofString (toString (n : Int))) = true := by decide +kernel
theorem tld_ok {k : Nat} {z : Str} {i : Int} (hz : Itm z) (h0 : 0 ≤ i) (h1 : i ≤ 60) : PyData.strOk (tld k z i) = true := by
  obtain ⟨n, rfl⟩ : ∃ n : Nat, i = n := ⟨i.toNat, by omega⟩
  unfold tld tldB
  exact ok_app (sg_ok k) (ok_app (ok_app (ok_app (by decide +kernel) (itm_ok hz)) (by decide +kernel)) (dig_ok n (by omega)))
theorem txt_self {ps : List Pt} (hp : ∀ p ∈ ps, Ok p ∧ p.1 < 3) : vNe (.list ((ps.map fun p => tld p.1 p.2.1 p.2.2).map D.str)) (.list ((ps.map fun p => tld p.1 p.2.1 p.2.2).map D.str)) = some (.v (.bl false)) := by
  have ok : ∀ z ∈ ps.map fun p => tld p.1 p.2.1 p.2.2, PyData.strOk z = true := fun z hz => by
    obtain ⟨p, hp', rfl⟩ := List.mem_map.mp hz
    obtain ⟨⟨_, a1, a2, a3⟩, _⟩ := hp p hp'
    exact tld_ok a1 a2 a3
  generalize (ps.map fun p => tld p.1 p.2.1 p.2.2) = xs at ok
  have e : eqA (.list (xs.map D.str)) (.list (xs.map D.str)) = some true := by
    show (if (xs.map D.str).length = (xs.map D.str).length then eqD (.list (xs.map D.str)) (.list (xs.map D.str)) else some false) = _
    rw [if_pos rfl]
    unfold eqD
    rw [toP, toPs_ss]
    simp only [Option.map_some]
    rw [if_pos (by rw [(okD_ss ok).shaped (by decide)]; rfl), SeqAt.eqv_refl _ (okD_ss ok).1]
  show (eqA _ _).map _ = _
  rw [e]; rfl
theorem law_true (ns : List Int) (hl : ns.length ≤ 63) : ∃ μ, F_law [.scr (ns.map D.int)] [] = some (.ok (.v (.bl true)), μ) := by
  refine wf_eq (wf_run rfl ?_)
  show Ws (T_law ⟨[some (.s (.scr (ns.map D.int))), none, none, none, none, none, none, none, none], []⟩) _
  unfold T_law
  walk_at "zs"
  have hm : ∃ m : Int, (if (if ((ns.map D.int).length : Int) < 8 then ((ns.map D.int).length : Int) else 8) > 1 then (if ((ns.map D.int).length : Int) < 8 then ((ns.map D.int).length : Int) else 8) else 1) = m ∧ 1 ≤ m ∧ m ≤ 8 := ⟨_, rfl, by split <;> omega, by split <;> (try split) <;> omega⟩
  obtain ⟨m, em, m1, m6⟩ := hm
  rw [em]
  refine ⟨by simp [smallI]; omega, ?_⟩
  refine for_inv (fun k s => ∃ (v1 v2 v3 v4 v5 v6 v7 : Option A) (μ : List D), s = ⟨[some (.s (.scr (ns.map D.int))), v1, v2, v3, v4, v5, v6, v7, none], μ⟩) ⟨_, _, _, _, _, _, _, _, rfl⟩ ?_ ?_
  · rintro k d s hd ⟨v1, v2, v3, v4, v5, v6, v7, μ, rfl⟩
    obtain ⟨rfl, hk⟩ := rng_get hd
    walk_at "zs"
    refine w_source (by omega) fun n0 n1 h0 h1 h2 => ?_
    walk_at "zs"
    refine ⟨by decide, ?_⟩
    have t0 : Tape (μ ++ [D.list [.int n0, .int n1, .int 0]]) μ.length 0 := ⟨n0, n1, 0, by simp, h0, h1, h2, by omega, by omega⟩
    generalize μ ++ [D.list [.int n0, .int n1, .int 0]] = μ0 at t0
    generalize μ.length = n at t0
    refine for_inv (fun j s => ∃ (v3 v4 v5 v6 v7 : Option A) (μ' : List D), s = ⟨[some (.s (.scr (ns.map D.int))), some (.s (.int (k : Int))), some (.s (.loc n)), v3, v4, v5, v6, v7, none], μ'⟩ ∧ Tape μ' n (1000 * (j : Nat))) ⟨_, _, _, _, _, _, rfl, t0.mono (by omega)⟩ ?_ ?_
    · rintro j d s hd ⟨v3, v4, v5, v6, v7, μ1, rfl, t1⟩
      obtain ⟨rfl, hj⟩ := rng_get hd
      have hj : j < 10 := hj
      walk_at "zs"
      refine w_log t1 (by omega) fun ps μ2 hp pl t2 => ?_
      have hp0 : ∀ p ∈ ps, Ok p := fun p h => (hp p h).1
      walk_at "zs"
      refine w_rows hp0 (by omega) ?_
      walk_at "zs"
      refine w_texts hp (by omega) ?_
      have er : ∀ x ∈ ps.map rc, El x := fun x hx => by
        obtain ⟨p, hp', rfl⟩ := List.mem_map.mp hx
        exact el_rc (hp p hp').1
      have rv : revL (.list (ps.map rc)) = some (.fr (.list (ps.reverse.map rc))) := by rw [List.map_reverse]; rfl
      ((try walk_at "zs"); repeat (simp only [rv]; (try walk_at "zs")))
      refine w_changed t2 (by omega) hp pl fun ds1 μ3 h1 l1 t3 => ?_
      have c40 : cutL (ps.map rc) none (some 40) = (ps.take 40).map rc := by
        rw [cutL_map]; exact congrArg _ (cutL_to (i := 40))
      have c39 : cutL (ps.map rc) none (some 39) = (ps.take 39).map rc := by
        rw [cutL_map]; exact congrArg _ (cutL_to (i := 39))
      have d39 : cutL (ps.map ptD) none (some 39) = (ps.take 39).map ptD := by
        rw [cutL_map]; exact congrArg _ (cutL_to (i := 39))
      have c1 : cutL (ps.map rc) (some 1) none = (ps.drop 1).map rc := by
        rw [cutL_map]; exact congrArg _ (cutL_from (i := 1))
      have bt : bTuple [.list (ps.map rc)] = some (.fr (.tup (ps.map rc))) := rfl
      have rl : (ps.map rc).length ≤ 41 := by rw [List.length_map]; exact pl
      ((try walk_at "zs"); repeat (simp only [slL_list, c40, c1, bt, c39, d39]; (try walk_at "zs")))
      have hp39 : ∀ p ∈ ps.take 39, Ok p ∧ p.1 < 3 := fun p h => hp p (List.mem_of_mem_take h)
      refine ⟨by omega, ?_⟩
      refine w_changed t3 (by omega) hp39 (by rw [List.length_take]; omega) fun ds2 μ4 h2 l2 t4 => ?_
      walk_at "zs"
      have ecat : ∀ d ∈ ps.map rc ++ ps.map rc, El d := fun d hd => (List.mem_append.mp hd).elim (er d) (er d)
      have enon : ∀ d ∈ ps.map rc ++ [D.non], El d := fun d hd => (List.mem_append.mp hd).elim (er d) fun h => by rw [List.mem_singleton.mp h]; exact .inl rfl
      have esub : ∀ qs : List Pt, (∀ p ∈ qs, p ∈ ps) → ∀ d ∈ qs.map rc, El d := fun qs hq d hd => by
        obtain ⟨p, hp', rfl⟩ := List.mem_map.mp hd
        exact el_rc (hp0 p (hq p hp'))
      have gs : ∀ d ∈ [D.list (ps.map rc), D.list (ps.reverse.map rc), D.list ds1, D.list ((ps.take 40).map rc), D.list ((ps.drop 1).map rc), D.tup (ps.map rc), D.list [D.list (ps.map rc)]] ++ [D.list (ps.map rc ++ ps.map rc), D.list ds2, D.dict [(Sum.inr (Str.ofString "a"), D.list (ps.map rc))], D.list (ps.map rc ++ [D.non])], Good d := fun d hd => by
        simp only [List.mem_append, List.mem_cons, List.not_mem_nil, or_false] at hd
        rcases hd with (rfl | rfl | rfl | rfl | rfl | rfl | rfl) | rfl | rfl | rfl | rfl
        · exact good_list er (by omega)
        · exact good_list (esub _ fun p h => List.mem_reverse.mp h) (by rw [List.length_map, List.length_reverse]; omega)
        · exact good_list h1 (by omega)
        · exact good_list (esub _ fun p h => List.mem_of_mem_take h) (by rw [List.length_map, List.length_take]; omega)
        · exact good_list (esub _ fun p h => List.mem_of_mem_drop h) (by rw [List.length_map, List.length_drop]; omega)
        · exact good_pl rfl fun _ e => by cases e
        · exact good_one (.inl rfl)
        · exact good_list ecat (by rw [List.length_append]; omega)
        · exact good_list h2 (by omega)
        · exact good_pl rfl fun _ e => by cases e
        · exact good_list enon (by rw [List.length_append, List.length_singleton]; omega)
      have gl : ([D.list (ps.map rc), D.list (ps.reverse.map rc), D.list ds1, D.list ((ps.take 40).map rc), D.list ((ps.drop 1).map rc), D.tup (ps.map rc), D.list [D.list (ps.map rc)]] ++ [D.list (ps.map rc ++ ps.map rc), D.list ds2, D.dict [(Sum.inr (Str.ofString "a"), D.list (ps.map rc))], D.list (ps.map rc ++ [D.non])]).length = 11 := rfl
      refine ⟨by omega, ?_⟩
      generalize [D.list (ps.map rc), D.list (ps.reverse.map rc), D.list ds1, D.list ((ps.take 40).map rc), D.list ((ps.drop 1).map rc), D.tup (ps.map rc), D.list [D.list (ps.map rc)]] ++ [D.list (ps.map rc ++ ps.map rc), D.list ds2, D.dict [(Sum.inr (Str.ofString "a"), D.list (ps.map rc))], D.list (ps.map rc ++ [D.non])] = L at gs gl
      refine wp_Lc ?_
      walk_at "zs"
      have main : ∀ (a6 : A) (KK : List D → S → Prop) (XX : XQ), KK (L.filter fun _ => false) ⟨[some (.s (.scr (ns.map D.int))), some (.s (.int (k : Int))), some (.s (.loc n)), some (.s (.int (j : Int))), some (.s (.list (ps.map ptD))), some (.s (.list (ps.map rc))), some a6, some (.s (.list L)), none], μ4⟩ → Wp (lcD (GName 8) (TNot (TB (TFn F_law_right (TCons (TVar 8) TNil)))) (TVar 8) [8] (L.map id) [] ⟨[some (.s (.scr (ns.map D.int))), some (.s (.int (k : Int))), some (.s (.loc n)), some (.s (.int (j : Int))), some (.s (.list (ps.map ptD))), some (.s (.list (ps.map rc))), some a6, some (.s (.list L)), none], μ4⟩) KK XX := by
        intro a6 KK XX fin
        refine lc_filter id (fun _ => false) (fun d hd => ?_) (by rw [List.map_id]; exact fin)
        have g := gs d hd
        ((try walk_at "zs"); repeat (simp only [id]; (try walk_at "zs")))
        refine w_right g ?_
        walk_at "zs"
      rw [List.map_id] at main
      refine ⟨by omega, main _ _ _ ?_⟩
      have ef : (L.filter fun _ => false) = [] := by simp
      rw [ef]
      ((try walk_at "zs"); repeat (simp only [ne_nil]; (try walk_at "zs")))
      refine w_texts hp (by omega) ?_
      ((try walk_at "zs"); repeat (simp only [txt_self hp]; (try walk_at "zs")))
      exact ⟨_, _, _, _, _, _, rfl, t4.mono (by omega)⟩
    · rintro s ⟨v3, v4, v5, v6, v7, μ', rfl, tp⟩
      walk_at "zs"
      exact ⟨_, _, _, _, _, _, _, _, rfl⟩
  · rintro s ⟨v1, v2, v3, v4, v5, v6, v7, μ, rfl⟩
    walk_at "zs"
    refine w_things fun ds hds dl => ?_
    walk_at "zs"
    refine wp_Lc ?_
    walk_at "zs"
    have main : ∀ (KK : List D → S → Prop) (XX : XQ), KK (ds.filter fun _ => false) ⟨[some (.s (.scr (ns.map D.int))), v1, v2, v3, v4, v5, v6, some (.s (.list ds)), none], μ⟩ → Wp (lcD (GName 8) (TOr (TNot (TB (TFn F_law_right (TCons (TVar 8) TNil)))) (TNot (TB (TFn F_law_right (TCons (TLst (TCons (TVar 8) TNil)) TNil))))) (TVar 8) [8] (ds.map id) [] ⟨[some (.s (.scr (ns.map D.int))), v1, v2, v3, v4, v5, v6, some (.s (.list ds)), none], μ⟩) KK XX := by
      intro KK XX fin
      refine lc_filter id (fun _ => false) (fun d hd => ?_) (by rw [List.map_id]; exact fin)
      have g := hds d hd
      ((try walk_at "zs"); repeat (simp only [id]; (try walk_at "zs")))
      refine w_right g ?_
      walk_at "zs"
      refine w_right (good_one g.1) ?_
      walk_at "zs"
    rw [List.map_id] at main
    refine ⟨by omega, main _ _ ?_⟩
    have ef : (ds.filter fun _ => false) = [] := by simp
    rw [ef]
    ((try walk_at "zs"); repeat (simp only [ne_nil]; (try walk_at "zs")))
    have e0 : ∀ d ∈ ([] : List D), El d := fun d h => absurd h List.not_mem_nil
    refine w_is_log e0 (by decide) (fun h => by simp at h) fun ps e hp h40 => ?_
    obtain rfl : ps = [] := List.map_eq_nil_iff.mp e.symm
    have l0 : lgB [] = true := rfl
    rw [l0]
    have ix' : Itm "x" := by unfold Itm; decide +kernel
    have iy : Itm "y" := by unfold Itm; decide +kernel
    walk_at "zs"
    refine w_init (k := 0) (by decide) ix' (by decide) (by decide) ?_
    walk_at "zs"
    refine w_init (k := 1) (by decide) iy (by decide) (by decide) ?_
    walk_at "zs"
    have e2 : ∀ d ∈ [rcD 0 "x" 1, rcD 1 "y" 0], El d := fun d hd => by
      simp only [List.mem_cons, List.not_mem_nil, or_false] at hd
      rcases hd with rfl | rfl
      · exact el_rc (p := (0, "x", 1)) ⟨by decide, ix', by decide, by decide⟩
      · exact el_rc (p := (1, "y", 0)) ⟨by decide, iy, by decide, by decide⟩
    refine w_is_log e2 (by decide) (fun h => by cases h) fun ps e hp h40 => ?_
    have hps : ps = ([(0, "x", 1), (1, "y", 0)] : List Pt) := rc_map (qs := ([(0, "x", 1), (1, "y", 0)] : List Pt)) e.symm
    subst hps
    have l0 : lgB [(0, "x", 1), (1, "y", 0)] = false := by decide +kernel
    rw [l0]
    walk_at "zs"
end K
namespace K
open PySem PySem.Spec PyProof.Rows L2 U ClX Z
def sp_law (K : PySem.W.Frag) : Sp := fun vs H Q _ => ∃ (a : Addr) (ns : List Int), vs = [.ref a] ∧ SqL K H a (ns.map V.int) ∧ ns.length ≤ 63 ∧ ∀ H', Q (.bl true) H'
theorem p_law {P : Program} {w : World} {K : PySem.W.Frag} {mg : Str → Option Value} {base : Heap} {A : Ads} (T : Tx P K mg A) : Pur N_law ps_law (fun E => t_law P w K mg base A fun _ => E) (sp_law K) := fun vs H Q E ⟨a, ns, e, hs, hl, q⟩ => pur_F (z_law T) vs H Q E (by subst e; exact law_sp (cad := cadA A) (F := F_law) hs (law_true ns hl) q)
theorem all_mk {l : PySem.W.OpenLaw} {w : World} {K : PySem.W.Frag} {h : Heap} {mg : Str → Option Value} {fa C0 C1 C2 C3 C4 C5 C6 : Addr} (X : K.In h) (G : h.Ns mainGlobals mg) (hfa : mg "law" = some (.ref fa))
    {oc0 kV0 dc0 pm0 cd0 ct0 : Value} {od0 an0 : Option Addr} {sl0 : Array (Option Value)} {f0 : Addr} {oc1 kV1 dc1 pm1 cd1 ct1 : Value} {od1 an1 : Option Addr} {sl1 : Array (Option Value)} {f1 : Addr} {oc2 kV2 dc2 pm2 cd2 ct2 : Value} {od2 an2 : Option Addr} {sl2 : Array (Option Value)} {f2 : Addr} {oc3 kV3 dc3 pm3 cd3 ct3 : Value} {od3 an3 : Option Addr} {sl3 : Array (Option Value)} {f3 : Addr} {oc4 kV4 dc4 pm4 cd4 ct4 : Value} {od4 an4 : Option Addr} {sl4 : Array (Option Value)} {f4 : Addr} {oc5 kV5 dc5 pm5 cd5 ct5 : Value} {od5 an5 : Option Addr} {sl5 : Array (Option Value)} {f5 : Addr} {oc6 kV6 dc6 pm6 cd6 ct6 : Value} {od6 an6 : Option Addr} {sl6 : Array (Option Value)} {f6 : Addr} {oc7 kV7 dc7 pm7 cd7 ct7 : Value} {od7 an7 : Option Addr} {sl7 : Array (Option Value)} {f7 : Addr} {oc8 kV8 dc8 pm8 cd8 ct8 : Value} {od8 an8 : Option Addr} {sl8 : Array (Option Value)} {f8 : Addr} {oc9 kV9 dc9 pm9 cd9 ct9 : Value} {od9 an9 : Option Addr} {sl9 : Array (Option Value)} {f9 : Addr} {oc10 kV10 dc10 pm10 cd10 ct10 : Value} {od10 an10 : Option Addr} {sl10 : Array (Option Value)} {f10 : Addr} {oc11 kV11 dc11 pm11 cd11 ct11 : Value} {od11 an11 : Option Addr} {sl11 : Array (Option Value)} {f11 : Addr} {oc12 kV12 dc12 pm12 cd12 ct12 : Value} {od12 an12 : Option Addr} {sl12 : Array (Option Value)} {f12 : Addr} {oc13 kV13 dc13 pm13 cd13 ct13 : Value} {od13 an13 : Option Addr} {sl13 : Array (Option Value)} {f13 : Addr} {oc14 kV14 dc14 pm14 cd14 ct14 : Value} {od14 an14 : Option Addr} {sl14 : Array (Option Value)} {f14 : Addr} {oc15 kV15 dc15 pm15 cd15 ct15 : Value} {od15 an15 : Option Addr} {sl15 : Array (Option Value)} {f15 : Addr} {oc16 kV16 dc16 pm16 cd16 ct16 : Value} {od16 an16 : Option Addr} {sl16 : Array (Option Value)} {f16 : Addr} {oc17 kV17 dc17 pm17 cd17 ct17 : Value} {od17 an17 : Option Addr} {sl17 : Array (Option Value)} {f17 : Addr} {tkC0_SIGN : Tok} {tkC1_SIGN : Tok} {tkC2_SIGN : Tok} {tkC3_SIGN : Tok} {tvC3_MOST : Tok} {pP0 : Addr} {rsP0 : List Value} {ocP0 kVP0 dcP0 pmP0 cdP0 ctP0 : Value} {odP0 anP0 : Option Addr} {slP0 : Array (Option Value)} {fP0 : Addr} {pP1 : Addr} {rsP1 : List Value} {ocP1 kVP1 dcP1 pmP1 cdP1 ctP1 : Value} {odP1 anP1 : Option Addr} {slP1 : Array (Option Value)} {fP1 : Addr} {pP2 : Addr} {rsP2 : List Value} {ocP2 kVP2 dcP2 pmP2 cdP2 ctP2 : Value} {odP2 anP2 : Option Addr} {slP2 : Array (Option Value)} {fP2 : Addr} {ocI0 kVI0 dcI0 pmI0 cdI0 ctI0 : Value} {odI0 anI0 : Option Addr} {slI0 : Array (Option Value)} {fI0 : Addr} {ocM0 kVM0 dcM0 pmM0 ctM0 cclM0 clvM0 : Value} {odM0 anM0 cddM0 cldM0 : Option Addr} {slM0 ccsM0 cslM0 : Array (Option Value)} {fM0 cdaM0 ccM0 fBM0 : Addr} {vsM0 : Array Value} {tfM0 : Tok} {fileM0 : Str} {cdDM0 : ClassData} {ocBM0 kVBM0 dcBM0 pmBM0 cdBM0 ctBM0 : Value} {odBM0 anBM0 : Option Addr} {slBM0 : Array (Option Value)} {ocM1 kVM1 dcM1 pmM1 ctM1 cclM1 clvM1 : Value} {odM1 anM1 cddM1 cldM1 : Option Addr} {slM1 ccsM1 cslM1 : Array (Option Value)} {fM1 cdaM1 ccM1 fBM1 : Addr} {vsM1 : Array Value} {tfM1 : Tok} {fileM1 : Str} {cdDM1 : ClassData} {ocBM1 kVBM1 dcBM1 pmBM1 cdBM1 ctBM1 : Value} {odBM1 anBM1 : Option Addr} {slBM1 : Array (Option Value)} {ocM2 kVM2 dcM2 pmM2 ctM2 cclM2 clvM2 : Value} {odM2 anM2 cddM2 cldM2 : Option Addr} {slM2 ccsM2 cslM2 : Array (Option Value)} {fM2 cdaM2 ccM2 fBM2 : Addr} {vsM2 : Array Value} {tfM2 : Tok} {fileM2 : Str} {cdDM2 : ClassData} {ocBM2 kVBM2 dcBM2 pmBM2 cdBM2 ctBM2 : Value} {odBM2 anBM2 : Option Addr} {slBM2 : Array (Option Value)} {ocM3 kVM3 dcM3 pmM3 cdM3 ctM3 : Value} {odM3 anM3 : Option Addr} {slM3 : Array (Option Value)} {fM3 : Addr} {tk_AT : Tok} {tk_LETTERS : Tok} {tk_MOST_LETTERS : Tok} {tk_MOST_LOG : Tok}
    (a0 : PySem.W.nsIn K mainGlobals "is_integer" = some (some (.ref f0)))
    (l0 : K.lookup f0 = some ⟨oc0, od0, .func (PySem.W.fnOf "is_integer" "is_integer" (defArgs s_is_integer) (defBody s_is_integer) (defScope s_is_integer) .none kV0 dc0 pm0 an0 cd0 ct0), sl0⟩)
    (c0 : PySem.W.codeIn K cd0 "is_integer" = true)
    (k0 : PySem.W.keepIn K (.ref f0) = true)
    (a1 : PySem.W.nsIn K mainGlobals "is_item" = some (some (.ref f1)))
    (l1 : K.lookup f1 = some ⟨oc1, od1, .func (PySem.W.fnOf "is_item" "is_item" (defArgs s_is_item) (defBody s_is_item) (defScope s_is_item) .none kV1 dc1 pm1 an1 cd1 ct1), sl1⟩)
    (c1 : PySem.W.codeIn K cd1 "is_item" = true)
    (k1 : PySem.W.keepIn K (.ref f1) = true)
    (a2 : PySem.W.nsIn K mainGlobals "are_records" = some (some (.ref f2)))
    (l2 : K.lookup f2 = some ⟨oc2, od2, .func (PySem.W.fnOf "are_records" "are_records" (defArgs s_are_records) (defBody s_are_records) (defScope s_are_records) .none kV2 dc2 pm2 an2 cd2 ct2), sl2⟩)
    (c2 : PySem.W.codeIn K cd2 "are_records" = true)
    (k2 : PySem.W.keepIn K (.ref f2) = true)
    (a3 : PySem.W.nsIn K mainGlobals "items_of" = some (some (.ref f3)))
    (l3 : K.lookup f3 = some ⟨oc3, od3, .func (PySem.W.fnOf "items_of" "items_of" (defArgs s_items_of) (defBody s_items_of) (defScope s_items_of) .none kV3 dc3 pm3 an3 cd3 ct3), sl3⟩)
    (c3 : PySem.W.codeIn K cd3 "items_of" = true)
    (k3 : PySem.W.keepIn K (.ref f3) = true)
    (a4 : PySem.W.nsIn K mainGlobals "is_log" = some (some (.ref f4)))
    (l4 : K.lookup f4 = some ⟨oc4, od4, .func (PySem.W.fnOf "is_log" "is_log" (defArgs s_is_log) (defBody s_is_log) (defScope s_is_log) .none kV4 dc4 pm4 an4 cd4 ct4), sl4⟩)
    (c4 : PySem.W.codeIn K cd4 "is_log" = true)
    (k4 : PySem.W.keepIn K (.ref f4) = true)
    (a5 : PySem.W.nsIn K mainGlobals "_law_source" = some (some (.ref f5)))
    (l5 : K.lookup f5 = some ⟨oc5, od5, .func (PySem.W.fnOf "_law_source" "_law_source" (defArgs s_law_source) (defBody s_law_source) (defScope s_law_source) .none kV5 dc5 pm5 an5 cd5 ct5), sl5⟩)
    (c5 : PySem.W.codeIn K cd5 "_law_source" = true)
    (k5 : PySem.W.keepIn K (.ref f5) = true)
    (a6 : PySem.W.nsIn K mainGlobals "_law_pick" = some (some (.ref f6)))
    (l6 : K.lookup f6 = some ⟨oc6, od6, .func (PySem.W.fnOf "_law_pick" "_law_pick" (defArgs s_law_pick) (defBody s_law_pick) (defScope s_law_pick) .none kV6 dc6 pm6 an6 cd6 ct6), sl6⟩)
    (c6 : PySem.W.codeIn K cd6 "_law_pick" = true)
    (k6 : PySem.W.keepIn K (.ref f6) = true)
    (a7 : PySem.W.nsIn K mainGlobals "_law_shuffled" = some (some (.ref f7)))
    (l7 : K.lookup f7 = some ⟨oc7, od7, .func (PySem.W.fnOf "_law_shuffled" "_law_shuffled" (defArgs s_law_shuffled) (defBody s_law_shuffled) (defScope s_law_shuffled) .none kV7 dc7 pm7 an7 cd7 ct7), sl7⟩)
    (c7 : PySem.W.codeIn K cd7 "_law_shuffled" = true)
    (k7 : PySem.W.keepIn K (.ref f7) = true)
    (a8 : PySem.W.nsIn K mainGlobals "_law_names" = some (some (.ref f8)))
    (l8 : K.lookup f8 = some ⟨oc8, od8, .func (PySem.W.fnOf "_law_names" "_law_names" (defArgs s_law_names) (defBody s_law_names) (defScope s_law_names) .none kV8 dc8 pm8 an8 cd8 ct8), sl8⟩)
    (c8 : PySem.W.codeIn K cd8 "_law_names" = true)
    (k8 : PySem.W.keepIn K (.ref f8) = true)
    (a9 : PySem.W.nsIn K mainGlobals "_law_make" = some (some (.ref f9)))
    (l9 : K.lookup f9 = some ⟨oc9, od9, .func (PySem.W.fnOf "_law_make" "_law_make" (defArgs s_law_make) (defBody s_law_make) (defScope s_law_make) .none kV9 dc9 pm9 an9 cd9 ct9), sl9⟩)
    (c9 : PySem.W.codeIn K cd9 "_law_make" = true)
    (k9 : PySem.W.keepIn K (.ref f9) = true)
    (a10 : PySem.W.nsIn K mainGlobals "_law_rows" = some (some (.ref f10)))
    (l10 : K.lookup f10 = some ⟨oc10, od10, .func (PySem.W.fnOf "_law_rows" "_law_rows" (defArgs s_law_rows) (defBody s_law_rows) (defScope s_law_rows) .none kV10 dc10 pm10 an10 cd10 ct10), sl10⟩)
    (c10 : PySem.W.codeIn K cd10 "_law_rows" = true)
    (k10 : PySem.W.keepIn K (.ref f10) = true)
    (a11 : PySem.W.nsIn K mainGlobals "_law_log" = some (some (.ref f11)))
    (l11 : K.lookup f11 = some ⟨oc11, od11, .func (PySem.W.fnOf "_law_log" "_law_log" (defArgs s_law_log) (defBody s_law_log) (defScope s_law_log) .none kV11 dc11 pm11 an11 cd11 ct11), sl11⟩)
    (c11 : PySem.W.codeIn K cd11 "_law_log" = true)
    (k11 : PySem.W.keepIn K (.ref f11) = true)
    (a12 : PySem.W.nsIn K mainGlobals "_law_things" = some (some (.ref f12)))
    (l12 : K.lookup f12 = some ⟨oc12, od12, .func (PySem.W.fnOf "_law_things" "_law_things" (defArgs s_law_things) (defBody s_law_things) (defScope s_law_things) .none kV12 dc12 pm12 an12 cd12 ct12), sl12⟩)
    (c12 : PySem.W.codeIn K cd12 "_law_things" = true)
    (k12 : PySem.W.keepIn K (.ref f12) = true)
    (a13 : PySem.W.nsIn K mainGlobals "_law_due" = some (some (.ref f13)))
    (l13 : K.lookup f13 = some ⟨oc13, od13, .func (PySem.W.fnOf "_law_due" "_law_due" (defArgs s_law_due) (defBody s_law_due) (defScope s_law_due) .none kV13 dc13 pm13 an13 cd13 ct13), sl13⟩)
    (c13 : PySem.W.codeIn K cd13 "_law_due" = true)
    (k13 : PySem.W.keepIn K (.ref f13) = true)
    (a14 : PySem.W.nsIn K mainGlobals "_law_right" = some (some (.ref f14)))
    (l14 : K.lookup f14 = some ⟨oc14, od14, .func (PySem.W.fnOf "_law_right" "_law_right" (defArgs s_law_right) (defBody s_law_right) (defScope s_law_right) .none kV14 dc14 pm14 an14 cd14 ct14), sl14⟩)
    (c14 : PySem.W.codeIn K cd14 "_law_right" = true)
    (k14 : PySem.W.keepIn K (.ref f14) = true)
    (a15 : PySem.W.nsIn K mainGlobals "_law_changed" = some (some (.ref f15)))
    (l15 : K.lookup f15 = some ⟨oc15, od15, .func (PySem.W.fnOf "_law_changed" "_law_changed" (defArgs s_law_changed) (defBody s_law_changed) (defScope s_law_changed) .none kV15 dc15 pm15 an15 cd15 ct15), sl15⟩)
    (c15 : PySem.W.codeIn K cd15 "_law_changed" = true)
    (k15 : PySem.W.keepIn K (.ref f15) = true)
    (a16 : PySem.W.nsIn K mainGlobals "_law_texts" = some (some (.ref f16)))
    (l16 : K.lookup f16 = some ⟨oc16, od16, .func (PySem.W.fnOf "_law_texts" "_law_texts" (defArgs s_law_texts) (defBody s_law_texts) (defScope s_law_texts) .none kV16 dc16 pm16 an16 cd16 ct16), sl16⟩)
    (c16 : PySem.W.codeIn K cd16 "_law_texts" = true)
    (k16 : PySem.W.keepIn K (.ref f16) = true)
    (a17 : PySem.W.nsIn K mainGlobals "law" = some (some (.ref f17)))
    (l17 : K.lookup f17 = some ⟨oc17, od17, .func (PySem.W.fnOf "law" "law" (defArgs s_law) (defBody s_law) (defScope s_law) .none kV17 dc17 pm17 an17 cd17 ct17), sl17⟩)
    (c17 : PySem.W.codeIn K cd17 "law" = true)
    (k17 : PySem.W.keepIn K (.ref f17) = true)
    (ocg : PySem.W.specialIn K (.builtin "object.__class__") "__get__" = some (some (.builtin "getset_descriptor.__get__")))
    (oct : PySem.W.takesIn K (.builtin "object.__class__") = some true)
    (nC0 : PySem.W.nsIn K mainGlobals "Inserted" = some (some (.ref C0)))
    (pgC0 : PySem.W.plainGet K C0 Str.empty = true)
    (hdC0 : PySem.W.hasDictIn K C0 = true)
    (poC0 : PySem.W.plainOver K C0 = true)
    (saC0 : PySem.W.findIn K (.ref C0) "__setattr__" = some (some (.builtin "object.__setattr__")))
    (ocC0 : PySem.W.findIn K (.ref C0) "__class__" = some (some (.builtin "object.__class__")))
    (moC0 : PySem.W.mroIn K C0 (.type "object") = some true)
    (mkC0 : PySem.W.makesIn K C0 = true)
    (kcC0 : PySem.W.keepIn K (.ref C0) = true)
    (inC0 : PySem.W.findIn K (.ref C0) "__init__" = some (some (.ref fI0)))
    (nfC0_held_item : PySem.W.findIn K (.ref C0) "held_item" = some none)
    (nfC0_held_slot : PySem.W.findIn K (.ref C0) "held_slot" = some none)
    (csC0_SIGN : PySem.W.findIn K (.ref C0) "SIGN" = some (some (.str "+" tkC0_SIGN)))
    (cgC0_SIGN : PySem.W.specialIn K (.str "+" tkC0_SIGN) "__get__" = some none)
    (prC0_item : PySem.W.findIn K (.ref C0) "item" = some (some (.ref pP0)))
    (prC0_slot : PySem.W.findIn K (.ref C0) "slot" = some (some (.ref pP1)))
    (prC0_text : PySem.W.findIn K (.ref C0) "text" = some (some (.ref pP2)))
    (meC0_told : PySem.W.findIn K (.ref C0) "told" = some (some (.ref fM0)))
    (nC1 : PySem.W.nsIn K mainGlobals "Removed" = some (some (.ref C1)))
    (pgC1 : PySem.W.plainGet K C1 Str.empty = true)
    (hdC1 : PySem.W.hasDictIn K C1 = true)
    (poC1 : PySem.W.plainOver K C1 = true)
    (saC1 : PySem.W.findIn K (.ref C1) "__setattr__" = some (some (.builtin "object.__setattr__")))
    (ocC1 : PySem.W.findIn K (.ref C1) "__class__" = some (some (.builtin "object.__class__")))
    (moC1 : PySem.W.mroIn K C1 (.type "object") = some true)
    (mkC1 : PySem.W.makesIn K C1 = true)
    (kcC1 : PySem.W.keepIn K (.ref C1) = true)
    (inC1 : PySem.W.findIn K (.ref C1) "__init__" = some (some (.ref fI0)))
    (nfC1_held_item : PySem.W.findIn K (.ref C1) "held_item" = some none)
    (nfC1_held_slot : PySem.W.findIn K (.ref C1) "held_slot" = some none)
    (csC1_SIGN : PySem.W.findIn K (.ref C1) "SIGN" = some (some (.str "-" tkC1_SIGN)))
    (cgC1_SIGN : PySem.W.specialIn K (.str "-" tkC1_SIGN) "__get__" = some none)
    (prC1_item : PySem.W.findIn K (.ref C1) "item" = some (some (.ref pP0)))
    (prC1_slot : PySem.W.findIn K (.ref C1) "slot" = some (some (.ref pP1)))
    (prC1_text : PySem.W.findIn K (.ref C1) "text" = some (some (.ref pP2)))
    (meC1_told : PySem.W.findIn K (.ref C1) "told" = some (some (.ref fM1)))
    (nC2 : PySem.W.nsIn K mainGlobals "Fronted" = some (some (.ref C2)))
    (pgC2 : PySem.W.plainGet K C2 Str.empty = true)
    (hdC2 : PySem.W.hasDictIn K C2 = true)
    (poC2 : PySem.W.plainOver K C2 = true)
    (saC2 : PySem.W.findIn K (.ref C2) "__setattr__" = some (some (.builtin "object.__setattr__")))
    (ocC2 : PySem.W.findIn K (.ref C2) "__class__" = some (some (.builtin "object.__class__")))
    (moC2 : PySem.W.mroIn K C2 (.type "object") = some true)
    (mkC2 : PySem.W.makesIn K C2 = true)
    (kcC2 : PySem.W.keepIn K (.ref C2) = true)
    (inC2 : PySem.W.findIn K (.ref C2) "__init__" = some (some (.ref fI0)))
    (nfC2_held_item : PySem.W.findIn K (.ref C2) "held_item" = some none)
    (nfC2_held_slot : PySem.W.findIn K (.ref C2) "held_slot" = some none)
    (csC2_SIGN : PySem.W.findIn K (.ref C2) "SIGN" = some (some (.str "^" tkC2_SIGN)))
    (cgC2_SIGN : PySem.W.specialIn K (.str "^" tkC2_SIGN) "__get__" = some none)
    (prC2_item : PySem.W.findIn K (.ref C2) "item" = some (some (.ref pP0)))
    (prC2_slot : PySem.W.findIn K (.ref C2) "slot" = some (some (.ref pP1)))
    (prC2_text : PySem.W.findIn K (.ref C2) "text" = some (some (.ref pP2)))
    (meC2_told : PySem.W.findIn K (.ref C2) "told" = some (some (.ref fM2)))
    (nC3 : PySem.W.nsIn K mainGlobals "Record" = some (some (.ref C3)))
    (pgC3 : PySem.W.plainGet K C3 Str.empty = true)
    (hdC3 : PySem.W.hasDictIn K C3 = true)
    (poC3 : PySem.W.plainOver K C3 = true)
    (saC3 : PySem.W.findIn K (.ref C3) "__setattr__" = some (some (.builtin "object.__setattr__")))
    (ocC3 : PySem.W.findIn K (.ref C3) "__class__" = some (some (.builtin "object.__class__")))
    (moC3 : PySem.W.mroIn K C3 (.type "object") = some true)
    (mkC3 : PySem.W.makesIn K C3 = true)
    (kcC3 : PySem.W.keepIn K (.ref C3) = true)
    (inC3 : PySem.W.findIn K (.ref C3) "__init__" = some (some (.ref fI0)))
    (nfC3_held_item : PySem.W.findIn K (.ref C3) "held_item" = some none)
    (nfC3_held_slot : PySem.W.findIn K (.ref C3) "held_slot" = some none)
    (csC3_SIGN : PySem.W.findIn K (.ref C3) "SIGN" = some (some (.str "" tkC3_SIGN)))
    (cgC3_SIGN : PySem.W.specialIn K (.str "" tkC3_SIGN) "__get__" = some none)
    (prC3_item : PySem.W.findIn K (.ref C3) "item" = some (some (.ref pP0)))
    (prC3_slot : PySem.W.findIn K (.ref C3) "slot" = some (some (.ref pP1)))
    (prC3_text : PySem.W.findIn K (.ref C3) "text" = some (some (.ref pP2)))
    (meC3_told : PySem.W.findIn K (.ref C3) "told" = some (some (.ref fM3)))
    (rdC3 : PySem.W.readsIn K C3 (.type "type") = true)
    (gaC3 : PySem.W.specialIn K (.ref C3) "__getattribute__" = some (some (.builtin "type.__getattribute__")))
    (cvC3_MOST : PySem.W.findCls K (.ref C3) (.type "type") "MOST" = some (.val (.int 60 tvC3_MOST)))
    (nC4 : PySem.W.nsIn K mainGlobals "NoItem" = some (some (.ref C4)))
    (nC5 : PySem.W.nsIn K mainGlobals "NoIndex" = some (some (.ref C5)))
    (nC6 : PySem.W.nsIn K mainGlobals "LogError" = some (some (.ref C6)))
    (gtP0 : PySem.W.specialIn K (.ref pP0) "__get__" = some (some (.builtin "property.__get__")))
    (tpP0 : PySem.W.takesIn K (.ref pP0) = some true)
    (rcP0 : PySem.W.recIn K pP0 "property" = some (.ref fP0 :: rsP0))
    (lP0 : K.lookup fP0 = some ⟨ocP0, odP0, .func (PySem.W.fnOf "item" "Record.item" (defArgs s_Record_item) (defBody s_Record_item) (defScope s_Record_item) .none kVP0 dcP0 pmP0 anP0 cdP0 ctP0), slP0⟩)
    (cP0 : PySem.W.codeIn K cdP0 "Record.item" = true)
    (kP0 : PySem.W.keepIn K (.ref fP0) = true)
    (gtP1 : PySem.W.specialIn K (.ref pP1) "__get__" = some (some (.builtin "property.__get__")))
    (tpP1 : PySem.W.takesIn K (.ref pP1) = some true)
    (rcP1 : PySem.W.recIn K pP1 "property" = some (.ref fP1 :: rsP1))
    (lP1 : K.lookup fP1 = some ⟨ocP1, odP1, .func (PySem.W.fnOf "slot" "Record.slot" (defArgs s_Record_slot) (defBody s_Record_slot) (defScope s_Record_slot) .none kVP1 dcP1 pmP1 anP1 cdP1 ctP1), slP1⟩)
    (cP1 : PySem.W.codeIn K cdP1 "Record.slot" = true)
    (kP1 : PySem.W.keepIn K (.ref fP1) = true)
    (gtP2 : PySem.W.specialIn K (.ref pP2) "__get__" = some (some (.builtin "property.__get__")))
    (tpP2 : PySem.W.takesIn K (.ref pP2) = some true)
    (rcP2 : PySem.W.recIn K pP2 "property" = some (.ref fP2 :: rsP2))
    (lP2 : K.lookup fP2 = some ⟨ocP2, odP2, .func (PySem.W.fnOf "text" "Record.text" (defArgs s_Record_text) (defBody s_Record_text) (defScope s_Record_text) .none kVP2 dcP2 pmP2 anP2 cdP2 ctP2), slP2⟩)
    (cP2 : PySem.W.codeIn K cdP2 "Record.text" = true)
    (kP2 : PySem.W.keepIn K (.ref fP2) = true)
    (lI0 : K.lookup fI0 = some ⟨ocI0, odI0, .func (PySem.W.fnOf "__init__" "Record.__init__" (defArgs s_Record_init) (defBody s_Record_init) (defScope s_Record_init) .none kVI0 dcI0 pmI0 anI0 cdI0 ctI0), slI0⟩)
    (cI0 : PySem.W.codeIn K cdI0 "Record.__init__" = true)
    (kI0 : PySem.W.keepIn K (.ref fI0) = true)
    (ifI0 : PySem.W.isFn K (.ref fI0) = true)
    (xsC5 : PySem.W.subIn K (.ref C5) (.type "BaseException") = some true)
    (xyC5 : PySem.W.typeIn K (.ref C5) = some (.type "type"))
    (xhC5 : PySem.W.hasDictIn K C5 = true)
    (xsC4 : PySem.W.subIn K (.ref C4) (.type "BaseException") = some true)
    (xyC4 : PySem.W.typeIn K (.ref C4) = some (.type "type"))
    (xhC4 : PySem.W.hasDictIn K C4 = true)
    (xsC6 : PySem.W.subIn K (.ref C6) (.type "BaseException") = some true)
    (xyC6 : PySem.W.typeIn K (.ref C6) = some (.type "type"))
    (xhC6 : PySem.W.hasDictIn K C6 = true)
    (xpC5 : PySem.W.keepIn K (.ref C5) = true)
    (xgC5 : PySem.W.findIn K (.ref C5) "__getattribute__" = some (some (.builtin "BaseException.__getattribute__")))
    (xtC5 : PySem.W.findIn K (.ref C5) "__getattr__" = some none)
    (xoC5 : PySem.W.findIn K (.ref C5) "__class__" = some (some (.builtin "object.__class__")))
    (xrC5 : PySem.W.mroIn K C5 (.type "object") = some true)
    (xeC5 : PySem.W.excIn K C5 [.type "ValueError", .type "Exception", .type "BaseException", .type "object"] "ValueError.__new__" = true)
    (xpC4 : PySem.W.keepIn K (.ref C4) = true)
    (xgC4 : PySem.W.findIn K (.ref C4) "__getattribute__" = some (some (.builtin "BaseException.__getattribute__")))
    (xtC4 : PySem.W.findIn K (.ref C4) "__getattr__" = some none)
    (xoC4 : PySem.W.findIn K (.ref C4) "__class__" = some (some (.builtin "object.__class__")))
    (xrC4 : PySem.W.mroIn K C4 (.type "object") = some true)
    (xeC4 : PySem.W.excIn K C4 [.type "ValueError", .type "Exception", .type "BaseException", .type "object"] "ValueError.__new__" = true)
    (htop : (l.prog.main.scope.names.lookup ("super" : Str)).isSome = false)
    (hopq : PySem.W.nsIn K cStatics "thirdparty.any" = some none)
    (b_super : PySem.W.nsIn K mainGlobals "super" = some none)
    (lM0 : K.lookup fM0 = some ⟨ocM0, odM0, .func (PySem.W.fnX "told" "Inserted.told" (defArgs s_Inserted_told) (defBody s_Inserted_told) (defScope s_Inserted_told) [("__class__", ccM0)] .none kVM0 dcM0 pmM0 anM0 (.ref cdaM0) ctM0), slM0⟩)
    (cM0 : PySem.W.codeIn K (.ref cdaM0) "Inserted.told" = true)
    (ceM0 : K.lookup ccM0 = some ⟨clvM0, cldM0, .cell (some (.ref C0)), cslM0⟩)
    (lcM0 : K.lookup cdaM0 = some ⟨cclM0, cddM0, .fields vsM0, ccsM0⟩)
    (hvM0 : vsM0[2]? = some (.str fileM0 tfM0))
    (hfM0 : ((l.prog.main.file : Str) == fileM0) = true)
    (hcM0 : PySem.W.clsIn K C0 = some cdDM0)
    (kM0 : PySem.W.keepIn K (.ref fM0) = true)
    (smM0 : PySem.W.mroIn K C0 (.ref C0) = some true)
    (saM0 : PySem.W.ks_superIn K C0 C0 "told" = some (some (.ref fBM0)))
    (stM0 : PySem.W.typeIn K (.ref fBM0) = some (.type "function"))
    (sfM0 : PySem.W.fnIn K fBM0 = true)
    (lBM0 : K.lookup fBM0 = some ⟨ocBM0, odBM0, .func (PySem.W.fnOf "told" "Record.told" (defArgs s_Record_told) (defBody s_Record_told) (defScope s_Record_told) .none kVBM0 dcBM0 pmBM0 anBM0 cdBM0 ctBM0), slBM0⟩)
    (cBM0 : PySem.W.codeIn K cdBM0 "Record.told" = true)
    (kBM0 : PySem.W.keepIn K (.ref fBM0) = true)
    (ifM0 : PySem.W.isFn K (.ref fM0) = true)
    (lM1 : K.lookup fM1 = some ⟨ocM1, odM1, .func (PySem.W.fnX "told" "Removed.told" (defArgs s_Removed_told) (defBody s_Removed_told) (defScope s_Removed_told) [("__class__", ccM1)] .none kVM1 dcM1 pmM1 anM1 (.ref cdaM1) ctM1), slM1⟩)
    (cM1 : PySem.W.codeIn K (.ref cdaM1) "Removed.told" = true)
    (ceM1 : K.lookup ccM1 = some ⟨clvM1, cldM1, .cell (some (.ref C1)), cslM1⟩)
    (lcM1 : K.lookup cdaM1 = some ⟨cclM1, cddM1, .fields vsM1, ccsM1⟩)
    (hvM1 : vsM1[2]? = some (.str fileM1 tfM1))
    (hfM1 : ((l.prog.main.file : Str) == fileM1) = true)
    (hcM1 : PySem.W.clsIn K C1 = some cdDM1)
    (kM1 : PySem.W.keepIn K (.ref fM1) = true)
    (smM1 : PySem.W.mroIn K C1 (.ref C1) = some true)
    (saM1 : PySem.W.ks_superIn K C1 C1 "told" = some (some (.ref fBM1)))
    (stM1 : PySem.W.typeIn K (.ref fBM1) = some (.type "function"))
    (sfM1 : PySem.W.fnIn K fBM1 = true)
    (lBM1 : K.lookup fBM1 = some ⟨ocBM1, odBM1, .func (PySem.W.fnOf "told" "Record.told" (defArgs s_Record_told) (defBody s_Record_told) (defScope s_Record_told) .none kVBM1 dcBM1 pmBM1 anBM1 cdBM1 ctBM1), slBM1⟩)
    (cBM1 : PySem.W.codeIn K cdBM1 "Record.told" = true)
    (kBM1 : PySem.W.keepIn K (.ref fBM1) = true)
    (ifM1 : PySem.W.isFn K (.ref fM1) = true)
    (lM2 : K.lookup fM2 = some ⟨ocM2, odM2, .func (PySem.W.fnX "told" "Fronted.told" (defArgs s_Fronted_told) (defBody s_Fronted_told) (defScope s_Fronted_told) [("__class__", ccM2)] .none kVM2 dcM2 pmM2 anM2 (.ref cdaM2) ctM2), slM2⟩)
    (cM2 : PySem.W.codeIn K (.ref cdaM2) "Fronted.told" = true)
    (ceM2 : K.lookup ccM2 = some ⟨clvM2, cldM2, .cell (some (.ref C2)), cslM2⟩)
    (lcM2 : K.lookup cdaM2 = some ⟨cclM2, cddM2, .fields vsM2, ccsM2⟩)
    (hvM2 : vsM2[2]? = some (.str fileM2 tfM2))
    (hfM2 : ((l.prog.main.file : Str) == fileM2) = true)
    (hcM2 : PySem.W.clsIn K C2 = some cdDM2)
    (kM2 : PySem.W.keepIn K (.ref fM2) = true)
    (smM2 : PySem.W.mroIn K C2 (.ref C2) = some true)
    (saM2 : PySem.W.ks_superIn K C2 C2 "told" = some (some (.ref fBM2)))
    (stM2 : PySem.W.typeIn K (.ref fBM2) = some (.type "function"))
    (sfM2 : PySem.W.fnIn K fBM2 = true)
    (lBM2 : K.lookup fBM2 = some ⟨ocBM2, odBM2, .func (PySem.W.fnOf "told" "Record.told" (defArgs s_Record_told) (defBody s_Record_told) (defScope s_Record_told) .none kVBM2 dcBM2 pmBM2 anBM2 cdBM2 ctBM2), slBM2⟩)
    (cBM2 : PySem.W.codeIn K cdBM2 "Record.told" = true)
    (kBM2 : PySem.W.keepIn K (.ref fBM2) = true)
    (ifM2 : PySem.W.isFn K (.ref fM2) = true)
    (lM3 : K.lookup fM3 = some ⟨ocM3, odM3, .func (PySem.W.fnOf "told" "Record.told" (defArgs s_Record_told) (defBody s_Record_told) (defScope s_Record_told) .none kVM3 dcM3 pmM3 anM3 cdM3 ctM3), slM3⟩)
    (cM3 : PySem.W.codeIn K cdM3 "Record.told" = true)
    (kM3 : PySem.W.keepIn K (.ref fM3) = true)
    (ifM3 : PySem.W.isFn K (.ref fM3) = true)
    (suC0_C0 : PySem.W.subIn K (.ref C0) (.ref C0) = some true)
    (suC0_C1 : PySem.W.subIn K (.ref C0) (.ref C1) = some false)
    (suC0_C2 : PySem.W.subIn K (.ref C0) (.ref C2) = some false)
    (suC0_C3 : PySem.W.subIn K (.ref C0) (.ref C3) = some true)
    (suC1_C0 : PySem.W.subIn K (.ref C1) (.ref C0) = some false)
    (suC1_C1 : PySem.W.subIn K (.ref C1) (.ref C1) = some true)
    (suC1_C2 : PySem.W.subIn K (.ref C1) (.ref C2) = some false)
    (suC1_C3 : PySem.W.subIn K (.ref C1) (.ref C3) = some true)
    (suC2_C0 : PySem.W.subIn K (.ref C2) (.ref C0) = some false)
    (suC2_C1 : PySem.W.subIn K (.ref C2) (.ref C1) = some false)
    (suC2_C2 : PySem.W.subIn K (.ref C2) (.ref C2) = some true)
    (suC2_C3 : PySem.W.subIn K (.ref C2) (.ref C3) = some true)
    (suC3_C0 : PySem.W.subIn K (.ref C3) (.ref C0) = some false)
    (suC3_C1 : PySem.W.subIn K (.ref C3) (.ref C1) = some false)
    (suC3_C2 : PySem.W.subIn K (.ref C3) (.ref C2) = some false)
    (suC3_C3 : PySem.W.subIn K (.ref C3) (.ref C3) = some true)
    (icC2 : PySem.W.isClsIn K C2 = true)
    (tcC2 : PySem.W.typeIn K (.ref C2) = some (.type "type"))
    (icC0 : PySem.W.isClsIn K C0 = true)
    (tcC0 : PySem.W.typeIn K (.ref C0) = some (.type "type"))
    (icC3 : PySem.W.isClsIn K C3 = true)
    (tcC3 : PySem.W.typeIn K (.ref C3) = some (.type "type"))
    (icC1 : PySem.W.isClsIn K C1 = true)
    (tcC1 : PySem.W.typeIn K (.ref C1) = some (.type "type"))
    (soC0_list : PySem.W.subIn K (.ref C0) (.type "list") = some false)
    (soC1_list : PySem.W.subIn K (.ref C1) (.type "list") = some false)
    (soC2_list : PySem.W.subIn K (.ref C2) (.type "list") = some false)
    (soC3_list : PySem.W.subIn K (.ref C3) (.type "list") = some false)
    (boNoneType_C0 : PySem.W.subIn K (.type "NoneType") (.ref C0) = some false)
    (boNoneType_C1 : PySem.W.subIn K (.type "NoneType") (.ref C1) = some false)
    (boNoneType_C2 : PySem.W.subIn K (.type "NoneType") (.ref C2) = some false)
    (boNoneType_C3 : PySem.W.subIn K (.type "NoneType") (.ref C3) = some false)
    (bobool_C0 : PySem.W.subIn K (.type "bool") (.ref C0) = some false)
    (bobool_C1 : PySem.W.subIn K (.type "bool") (.ref C1) = some false)
    (bobool_C2 : PySem.W.subIn K (.type "bool") (.ref C2) = some false)
    (bobool_C3 : PySem.W.subIn K (.type "bool") (.ref C3) = some false)
    (boint_C0 : PySem.W.subIn K (.type "int") (.ref C0) = some false)
    (boint_C1 : PySem.W.subIn K (.type "int") (.ref C1) = some false)
    (boint_C2 : PySem.W.subIn K (.type "int") (.ref C2) = some false)
    (boint_C3 : PySem.W.subIn K (.type "int") (.ref C3) = some false)
    (bostr_C0 : PySem.W.subIn K (.type "str") (.ref C0) = some false)
    (bostr_C1 : PySem.W.subIn K (.type "str") (.ref C1) = some false)
    (bostr_C2 : PySem.W.subIn K (.type "str") (.ref C2) = some false)
    (bostr_C3 : PySem.W.subIn K (.type "str") (.ref C3) = some false)
    (bolist_C0 : PySem.W.subIn K (.type "list") (.ref C0) = some false)
    (bolist_C1 : PySem.W.subIn K (.type "list") (.ref C1) = some false)
    (bolist_C2 : PySem.W.subIn K (.type "list") (.ref C2) = some false)
    (bolist_C3 : PySem.W.subIn K (.type "list") (.ref C3) = some false)
    (botuple_C0 : PySem.W.subIn K (.type "tuple") (.ref C0) = some false)
    (botuple_C1 : PySem.W.subIn K (.type "tuple") (.ref C1) = some false)
    (botuple_C2 : PySem.W.subIn K (.type "tuple") (.ref C2) = some false)
    (botuple_C3 : PySem.W.subIn K (.type "tuple") (.ref C3) = some false)
    (bodict_C0 : PySem.W.subIn K (.type "dict") (.ref C0) = some false)
    (bodict_C1 : PySem.W.subIn K (.type "dict") (.ref C1) = some false)
    (bodict_C2 : PySem.W.subIn K (.type "dict") (.ref C2) = some false)
    (bodict_C3 : PySem.W.subIn K (.type "dict") (.ref C3) = some false)
    (b_abs : PySem.W.nsIn K mainGlobals "abs" = some none)
    (b_all : PySem.W.nsIn K mainGlobals "all" = some none)
    (b_bool : PySem.W.nsIn K mainGlobals "bool" = some none)
    (b_int : PySem.W.nsIn K mainGlobals "int" = some none)
    (b_isinstance : PySem.W.nsIn K mainGlobals "isinstance" = some none)
    (b_len : PySem.W.nsIn K mainGlobals "len" = some none)
    (b_list : PySem.W.nsIn K mainGlobals "list" = some none)
    (b_max : PySem.W.nsIn K mainGlobals "max" = some none)
    (b_min : PySem.W.nsIn K mainGlobals "min" = some none)
    (b_range : PySem.W.nsIn K mainGlobals "range" = some none)
    (b_repr : PySem.W.nsIn K mainGlobals "repr" = some none)
    (b_set : PySem.W.nsIn K mainGlobals "set" = some none)
    (b_str : PySem.W.nsIn K mainGlobals "str" = some none)
    (b_tuple : PySem.W.nsIn K mainGlobals "tuple" = some none)
    (v_AT : PySem.W.nsIn K mainGlobals "AT" = some (some (.str "@" tk_AT)))
    (v_LETTERS : PySem.W.nsIn K mainGlobals "LETTERS" = some (some (.str "abcdefghijklmnopqrstuvwxyz" tk_LETTERS)))
    (v_MOST_LETTERS : PySem.W.nsIn K mainGlobals "MOST_LETTERS" = some (some (.int 8 tk_MOST_LETTERS)))
    (v_MOST_LOG : PySem.W.nsIn K mainGlobals "MOST_LOG" = some (some (.int 40 tk_MOST_LOG))) :
    ∃ fd : FuncData, (∀ (s : Shared) (v : Value), BindsTo s fd ⟨[v], []⟩ [("_law_script", v)]) ∧ ∀ base : Heap, K.In base → base.Ns mainGlobals mg → FnG l.prog w K mg base 9 fa fd ["_law_script"] (sp_law K) := by
  have e := hfa.symm.trans (PySem.W.mg_of X G a17)
  cases e
  have F0 := fun_mk (st := s_is_integer) l0 c0 k0
  have B0 := F0.binds (ps := ["thing", "least", "most"]) fun _ _ _ _ _ _ us hl => match us, hl with | [_, _, _], _ => rfl
  have D0 : Df K mg "is_integer" s_is_integer ["thing", "least", "most"] := ⟨_, _, F0, PySem.W.mg_of X G a0, B0⟩
  have F1 := fun_mk (st := s_is_item) l1 c1 k1
  have B1 := F1.binds (ps := ["thing"]) fun _ _ _ _ _ _ us hl => match us, hl with | [_], _ => rfl
  have D1 : Df K mg "is_item" s_is_item ["thing"] := ⟨_, _, F1, PySem.W.mg_of X G a1, B1⟩
  have F2 := fun_mk (st := s_are_records) l2 c2 k2
  have B2 := F2.binds (ps := ["thing", "most"]) fun _ _ _ _ _ _ us hl => match us, hl with | [_, _], _ => rfl
  have D2 : Df K mg "are_records" s_are_records ["thing", "most"] := ⟨_, _, F2, PySem.W.mg_of X G a2, B2⟩
  have F3 := fun_mk (st := s_items_of) l3 c3 k3
  have B3 := F3.binds (ps := ["log"]) fun _ _ _ _ _ _ us hl => match us, hl with | [_], _ => rfl
  have D3 : Df K mg "items_of" s_items_of ["log"] := ⟨_, _, F3, PySem.W.mg_of X G a3, B3⟩
  have F4 := fun_mk (st := s_is_log) l4 c4 k4
  have B4 := F4.binds (ps := ["thing"]) fun _ _ _ _ _ _ us hl => match us, hl with | [_], _ => rfl
  have D4 : Df K mg "is_log" s_is_log ["thing"] := ⟨_, _, F4, PySem.W.mg_of X G a4, B4⟩
  have F5 := fun_mk (st := s_law_source) l5 c5 k5
  have B5 := F5.binds (ps := ["_law_script", "_law_k"]) fun _ _ _ _ _ _ us hl => match us, hl with | [_, _], _ => rfl
  have D5 : Df K mg "_law_source" s_law_source ["_law_script", "_law_k"] := ⟨_, _, F5, PySem.W.mg_of X G a5, B5⟩
  have F6 := fun_mk (st := s_law_pick) l6 c6 k6
  have B6 := F6.binds (ps := ["_law_source_here", "_law_size"]) fun _ _ _ _ _ _ us hl => match us, hl with | [_, _], _ => rfl
  have D6 : Df K mg "_law_pick" s_law_pick ["_law_source_here", "_law_size"] := ⟨_, _, F6, PySem.W.mg_of X G a6, B6⟩
  have F7 := fun_mk (st := s_law_shuffled) l7 c7 k7
  have B7 := F7.binds (ps := ["_law_source_here", "_law_row"]) fun _ _ _ _ _ _ us hl => match us, hl with | [_, _], _ => rfl
  have D7 : Df K mg "_law_shuffled" s_law_shuffled ["_law_source_here", "_law_row"] := ⟨_, _, F7, PySem.W.mg_of X G a7, B7⟩
  have F8 := fun_mk (st := s_law_names) l8 c8 k8
  have B8 := F8.binds (ps := ["_law_source_here", "_law_many"]) fun _ _ _ _ _ _ us hl => match us, hl with | [_, _], _ => rfl
  have D8 : Df K mg "_law_names" s_law_names ["_law_source_here", "_law_many"] := ⟨_, _, F8, PySem.W.mg_of X G a8, B8⟩
  have F9 := fun_mk (st := s_law_make) l9 c9 k9
  have B9 := F9.binds (ps := ["_law_way", "_law_name", "_law_place"]) fun _ _ _ _ _ _ us hl => match us, hl with | [_, _, _], _ => rfl
  have D9 : Df K mg "_law_make" s_law_make ["_law_way", "_law_name", "_law_place"] := ⟨_, _, F9, PySem.W.mg_of X G a9, B9⟩
  have F10 := fun_mk (st := s_law_rows) l10 c10 k10
  have B10 := F10.binds (ps := ["_law_parts"]) fun _ _ _ _ _ _ us hl => match us, hl with | [_], _ => rfl
  have D10 : Df K mg "_law_rows" s_law_rows ["_law_parts"] := ⟨_, _, F10, PySem.W.mg_of X G a10, B10⟩
  have F11 := fun_mk (st := s_law_log) l11 c11 k11
  have B11 := F11.binds (ps := ["_law_source_here", "_law_most"]) fun _ _ _ _ _ _ us hl => match us, hl with | [_, _], _ => rfl
  have D11 : Df K mg "_law_log" s_law_log ["_law_source_here", "_law_most"] := ⟨_, _, F11, PySem.W.mg_of X G a11, B11⟩
  have F12 := fun_mk (st := s_law_things) l12 c12 k12
  have B12 := F12.binds (ps := []) fun _ _ _ _ _ _ us hl => match us, hl with | [], _ => rfl
  have D12 : Df K mg "_law_things" s_law_things [] := ⟨_, _, F12, PySem.W.mg_of X G a12, B12⟩
  have F13 := fun_mk (st := s_law_due) l13 c13 k13
  have B13 := F13.binds (ps := ["_law_case"]) fun _ _ _ _ _ _ us hl => match us, hl with | [_], _ => rfl
  have D13 : Df K mg "_law_due" s_law_due ["_law_case"] := ⟨_, _, F13, PySem.W.mg_of X G a13, B13⟩
  have F14 := fun_mk (st := s_law_right) l14 c14 k14
  have B14 := F14.binds (ps := ["_law_case"]) fun _ _ _ _ _ _ us hl => match us, hl with | [_], _ => rfl
  have D14 : Df K mg "_law_right" s_law_right ["_law_case"] := ⟨_, _, F14, PySem.W.mg_of X G a14, B14⟩
  have F15 := fun_mk (st := s_law_changed) l15 c15 k15
  have B15 := F15.binds (ps := ["_law_source_here", "_law_rows_here", "_law_parts"]) fun _ _ _ _ _ _ us hl => match us, hl with | [_, _, _], _ => rfl
  have D15 : Df K mg "_law_changed" s_law_changed ["_law_source_here", "_law_rows_here", "_law_parts"] := ⟨_, _, F15, PySem.W.mg_of X G a15, B15⟩
  have F16 := fun_mk (st := s_law_texts) l16 c16 k16
  have B16 := F16.binds (ps := ["_law_rows_here"]) fun _ _ _ _ _ _ us hl => match us, hl with | [_], _ => rfl
  have D16 : Df K mg "_law_texts" s_law_texts ["_law_rows_here"] := ⟨_, _, F16, PySem.W.mg_of X G a16, B16⟩
  have F17 := fun_mk (st := s_law) l17 c17 k17
  have B17 := F17.binds (ps := ["_law_script"]) fun _ _ _ _ _ _ us hl => match us, hl with | [_], _ => rfl
  have D17 : Df K mg "law" s_law ["_law_script"] := ⟨_, _, F17, PySem.W.mg_of X G a17, B17⟩
  have FI0 := fun_mk (st := s_Record_init) lI0 cI0 kI0
  have BI0 := FI0.binds (ps := ["self", "item", "slot"]) fun _ _ _ _ _ _ us hl => match us, hl with | [_, _, _], _ => rfl
  have FP0 := fun_mk (st := s_Record_item) lP0 cP0 kP0
  have BP0 := FP0.binds (ps := ["self"]) fun _ _ _ _ _ _ us hl => match us, hl with | [_], _ => rfl
  have FP1 := fun_mk (st := s_Record_slot) lP1 cP1 kP1
  have BP1 := FP1.binds (ps := ["self"]) fun _ _ _ _ _ _ us hl => match us, hl with | [_], _ => rfl
  have FP2 := fun_mk (st := s_Record_text) lP2 cP2 kP2
  have BP2 := FP2.binds (ps := ["self"]) fun _ _ _ _ _ _ us hl => match us, hl with | [_], _ => rfl
  have FM3 := fun_mk (st := s_Record_told) lM3 cM3 kM3
  have BM3 := FM3.binds (ps := ["self"]) fun _ _ _ _ _ _ us hl => match us, hl with | [_], _ => rfl
  let A : Ads := { cInserted := C0, cRemoved := C1, cFronted := C2, cRecord := C3, cNoItem := C4, cNoIndex := C5, cLogError := C6 }
  have GG : Gm l.prog K mg A := { g_abs := PySem.W.mg_none_of X G b_abs, g_all := PySem.W.mg_none_of X G b_all, g_bool := PySem.W.mg_none_of X G b_bool, g_int := PySem.W.mg_none_of X G b_int, g_isinstance := PySem.W.mg_none_of X G b_isinstance, g_len := PySem.W.mg_none_of X G b_len, g_list := PySem.W.mg_none_of X G b_list, g_max := PySem.W.mg_none_of X G b_max, g_min := PySem.W.mg_none_of X G b_min, g_range := PySem.W.mg_none_of X G b_range, g_repr := PySem.W.mg_none_of X G b_repr, g_set := PySem.W.mg_none_of X G b_set, g_str := PySem.W.mg_none_of X G b_str, g_tuple := PySem.W.mg_none_of X G b_tuple, g_AT := ⟨_, PySem.W.mg_of X G v_AT, ⟨_, rfl⟩⟩, g_LETTERS := ⟨_, PySem.W.mg_of X G v_LETTERS, ⟨_, rfl⟩⟩, g_MOST_LETTERS := ⟨_, PySem.W.mg_of X G v_MOST_LETTERS, ⟨_, rfl⟩⟩, g_MOST_LOG := ⟨_, PySem.W.mg_of X G v_MOST_LOG, ⟨_, rfl⟩⟩, cInserted := PySem.W.mg_of X G nC0, cRemoved := PySem.W.mg_of X G nC1, cFronted := PySem.W.mg_of X G nC2, cRecord := PySem.W.mg_of X G nC3, cNoItem := PySem.W.mg_of X G nC4, cNoIndex := PySem.W.mg_of X G nC5, cLogError := PySem.W.mg_of X G nC6, x_NoIndex := ⟨xeC5, PySem.W.mg_of X G nC5, xpC5, xsC5, xyC5⟩, x_NoItem := ⟨xeC4, PySem.W.mg_of X G nC4, xpC4, xsC4, xyC4⟩ }
  have T : Tx l.prog K mg A := { G := GG, cls_Inserted := ⟨pgC0, hdC0, poC0, saC0⟩, ty_Inserted := ⟨ocC0, ocg, oct, moC0⟩, made_Inserted := ⟨_, _, FI0, ⟨mkC0, inC0, ifI0, kcC0⟩, PySem.W.mg_of X G nC0, BI0⟩, n_Inserted_held_item := nfC0_held_item, n_Inserted_held_slot := nfC0_held_slot, con_Inserted_SIGN := ⟨_, csC0_SIGN, ⟨_, rfl⟩, cgC0_SIGN, by decide +kernel⟩, prop_Inserted_item := ⟨_, _, _, ⟨prC0_item, gtP0, tpP0, _, rcP0⟩, FP0, BP0⟩, prop_Inserted_slot := ⟨_, _, _, ⟨prC0_slot, gtP1, tpP1, _, rcP1⟩, FP1, BP1⟩, prop_Inserted_text := ⟨_, _, _, ⟨prC0_text, gtP2, tpP2, _, rcP2⟩, FP2, BP2⟩, m_Inserted_told := ⟨⟨pgC0, hdC0, poC0, saC0⟩, ⟨_, _, _, _, _, _, _, _, _, _, _, _, _, _, _, _, _, _, _, _, _, _, _, lM0, cM0, ceM0, lcM0, hvM0, hfM0, hcM0, ⟨meC0_told, ifM0, kM0⟩, ⟨smM0, saM0, stM0, sfM0⟩, fun_mk (st := s_Record_told) lBM0 cBM0 kBM0, (fun_mk (st := s_Record_told) lBM0 cBM0 kBM0).binds (ps := ["self"]) fun _ _ _ _ _ _ us hl => match us, hl with | [_], _ => rfl⟩, PySem.W.mg_none_of X G b_super, htop, hopq⟩, cls_Removed := ⟨pgC1, hdC1, poC1, saC1⟩, ty_Removed := ⟨ocC1, ocg, oct, moC1⟩, made_Removed := ⟨_, _, FI0, ⟨mkC1, inC1, ifI0, kcC1⟩, PySem.W.mg_of X G nC1, BI0⟩, n_Removed_held_item := nfC1_held_item, n_Removed_held_slot := nfC1_held_slot, con_Removed_SIGN := ⟨_, csC1_SIGN, ⟨_, rfl⟩, cgC1_SIGN, by decide +kernel⟩, prop_Removed_item := ⟨_, _, _, ⟨prC1_item, gtP0, tpP0, _, rcP0⟩, FP0, BP0⟩, prop_Removed_slot := ⟨_, _, _, ⟨prC1_slot, gtP1, tpP1, _, rcP1⟩, FP1, BP1⟩, prop_Removed_text := ⟨_, _, _, ⟨prC1_text, gtP2, tpP2, _, rcP2⟩, FP2, BP2⟩, m_Removed_told := ⟨⟨pgC1, hdC1, poC1, saC1⟩, ⟨_, _, _, _, _, _, _, _, _, _, _, _, _, _, _, _, _, _, _, _, _, _, _, lM1, cM1, ceM1, lcM1, hvM1, hfM1, hcM1, ⟨meC1_told, ifM1, kM1⟩, ⟨smM1, saM1, stM1, sfM1⟩, fun_mk (st := s_Record_told) lBM1 cBM1 kBM1, (fun_mk (st := s_Record_told) lBM1 cBM1 kBM1).binds (ps := ["self"]) fun _ _ _ _ _ _ us hl => match us, hl with | [_], _ => rfl⟩, PySem.W.mg_none_of X G b_super, htop, hopq⟩, cls_Fronted := ⟨pgC2, hdC2, poC2, saC2⟩, ty_Fronted := ⟨ocC2, ocg, oct, moC2⟩, made_Fronted := ⟨_, _, FI0, ⟨mkC2, inC2, ifI0, kcC2⟩, PySem.W.mg_of X G nC2, BI0⟩, n_Fronted_held_item := nfC2_held_item, n_Fronted_held_slot := nfC2_held_slot, con_Fronted_SIGN := ⟨_, csC2_SIGN, ⟨_, rfl⟩, cgC2_SIGN, by decide +kernel⟩, prop_Fronted_item := ⟨_, _, _, ⟨prC2_item, gtP0, tpP0, _, rcP0⟩, FP0, BP0⟩, prop_Fronted_slot := ⟨_, _, _, ⟨prC2_slot, gtP1, tpP1, _, rcP1⟩, FP1, BP1⟩, prop_Fronted_text := ⟨_, _, _, ⟨prC2_text, gtP2, tpP2, _, rcP2⟩, FP2, BP2⟩, m_Fronted_told := ⟨⟨pgC2, hdC2, poC2, saC2⟩, ⟨_, _, _, _, _, _, _, _, _, _, _, _, _, _, _, _, _, _, _, _, _, _, _, lM2, cM2, ceM2, lcM2, hvM2, hfM2, hcM2, ⟨meC2_told, ifM2, kM2⟩, ⟨smM2, saM2, stM2, sfM2⟩, fun_mk (st := s_Record_told) lBM2 cBM2 kBM2, (fun_mk (st := s_Record_told) lBM2 cBM2 kBM2).binds (ps := ["self"]) fun _ _ _ _ _ _ us hl => match us, hl with | [_], _ => rfl⟩, PySem.W.mg_none_of X G b_super, htop, hopq⟩, cls_Record := ⟨pgC3, hdC3, poC3, saC3⟩, ty_Record := ⟨ocC3, ocg, oct, moC3⟩, made_Record := ⟨_, _, FI0, ⟨mkC3, inC3, ifI0, kcC3⟩, PySem.W.mg_of X G nC3, BI0⟩, n_Record_held_item := nfC3_held_item, n_Record_held_slot := nfC3_held_slot, con_Record_SIGN := ⟨_, csC3_SIGN, ⟨_, rfl⟩, cgC3_SIGN, by decide +kernel⟩, prop_Record_item := ⟨_, _, _, ⟨prC3_item, gtP0, tpP0, _, rcP0⟩, FP0, BP0⟩, prop_Record_slot := ⟨_, _, _, ⟨prC3_slot, gtP1, tpP1, _, rcP1⟩, FP1, BP1⟩, prop_Record_text := ⟨_, _, _, ⟨prC3_text, gtP2, tpP2, _, rcP2⟩, FP2, BP2⟩, m_Record_told := ⟨⟨pgC3, hdC3, poC3, saC3⟩, _, _, FM3, ⟨meC3_told, ifM3, kM3⟩, BM3⟩, cv_Record_MOST := ⟨_, _, ⟨rdC3, gaC3⟩, ⟨cvC3_MOST, ⟨_, rfl⟩⟩⟩, k_Inserted_Inserted := kit_mk icC0 tcC0 suC0_C0 suC0_C0, k_Inserted_Removed := kit_mk icC1 tcC1 suC0_C1 suC1_C1, k_Inserted_Fronted := kit_mk icC2 tcC2 suC0_C2 suC2_C2, k_Inserted_Record := kit_mk icC3 tcC3 suC0_C3 suC3_C3, k_Removed_Inserted := kit_mk icC0 tcC0 suC1_C0 suC0_C0, k_Removed_Removed := kit_mk icC1 tcC1 suC1_C1 suC1_C1, k_Removed_Fronted := kit_mk icC2 tcC2 suC1_C2 suC2_C2, k_Removed_Record := kit_mk icC3 tcC3 suC1_C3 suC3_C3, k_Fronted_Inserted := kit_mk icC0 tcC0 suC2_C0 suC0_C0, k_Fronted_Removed := kit_mk icC1 tcC1 suC2_C1 suC1_C1, k_Fronted_Fronted := kit_mk icC2 tcC2 suC2_C2 suC2_C2, k_Fronted_Record := kit_mk icC3 tcC3 suC2_C3 suC3_C3, k_Record_Inserted := kit_mk icC0 tcC0 suC3_C0 suC0_C0, k_Record_Removed := kit_mk icC1 tcC1 suC3_C1 suC1_C1, k_Record_Fronted := kit_mk icC2 tcC2 suC3_C2 suC2_C2, k_Record_Record := kit_mk icC3 tcC3 suC3_C3 suC3_C3, so_Inserted_list := kit_mkS (by decide +kernel) soC0_list, so_Removed_list := kit_mkS (by decide +kernel) soC1_list, so_Fronted_list := kit_mkS (by decide +kernel) soC2_list, so_Record_list := kit_mkS (by decide +kernel) soC3_list, bo_NoneType_Inserted := kit_mkB icC0 tcC0 boNoneType_C0, bo_NoneType_Removed := kit_mkB icC1 tcC1 boNoneType_C1, bo_NoneType_Fronted := kit_mkB icC2 tcC2 boNoneType_C2, bo_NoneType_Record := kit_mkB icC3 tcC3 boNoneType_C3, bo_bool_Inserted := kit_mkB icC0 tcC0 bobool_C0, bo_bool_Removed := kit_mkB icC1 tcC1 bobool_C1, bo_bool_Fronted := kit_mkB icC2 tcC2 bobool_C2, bo_bool_Record := kit_mkB icC3 tcC3 bobool_C3, bo_int_Inserted := kit_mkB icC0 tcC0 boint_C0, bo_int_Removed := kit_mkB icC1 tcC1 boint_C1, bo_int_Fronted := kit_mkB icC2 tcC2 boint_C2, bo_int_Record := kit_mkB icC3 tcC3 boint_C3, bo_str_Inserted := kit_mkB icC0 tcC0 bostr_C0, bo_str_Removed := kit_mkB icC1 tcC1 bostr_C1, bo_str_Fronted := kit_mkB icC2 tcC2 bostr_C2, bo_str_Record := kit_mkB icC3 tcC3 bostr_C3, bo_list_Inserted := kit_mkB icC0 tcC0 bolist_C0, bo_list_Removed := kit_mkB icC1 tcC1 bolist_C1, bo_list_Fronted := kit_mkB icC2 tcC2 bolist_C2, bo_list_Record := kit_mkB icC3 tcC3 bolist_C3, bo_tuple_Inserted := kit_mkB icC0 tcC0 botuple_C0, bo_tuple_Removed := kit_mkB icC1 tcC1 botuple_C1, bo_tuple_Fronted := kit_mkB icC2 tcC2 botuple_C2, bo_tuple_Record := kit_mkB icC3 tcC3 botuple_C3, bo_dict_Inserted := kit_mkB icC0 tcC0 bodict_C0, bo_dict_Removed := kit_mkB icC1 tcC1 bodict_C1, bo_dict_Fronted := kit_mkB icC2 tcC2 bodict_C2, bo_dict_Record := kit_mkB icC3 tcC3 bodict_C3, xc_NoIndex := ⟨xgC5, xtC5, xsC5, xhC5, xoC5, ocg, oct, xrC5⟩, xc_NoItem := ⟨xgC4, xtC4, xsC4, xhC4, xoC4, ocg, oct, xrC4⟩, f_is_integer := D0, f_is_item := D1, f_are_records := D2, f_items_of := D3, f_is_log := D4, f_law_source := D5, f_law_pick := D6, f_law_shuffled := D7, f_law_names := D8, f_law_make := D9, f_law_rows := D10, f_law_log := D11, f_law_things := D12, f_law_due := D13, f_law_right := D14, f_law_changed := D15, f_law_texts := D16, f_law := D17 }
  exact ⟨_, fun s v => .of_eq rfl, fun base _ _ => fnok_of F17 sc_law (fun hr => d_law T.G hr) (p_law T)⟩
theorem walk {l : PySem.W.OpenLaw} {q : Program} {loose : List Str} {XP : (Str → Option Value) → Heap → Prop} {YP : World → Heap → Prop} {d : DefRec} {K : Params → PySem.W.Frag} (hn : l.most = some 63) (hdf : d.params.defaults = [])
    (hY : ∀ (w : World) (h : Heap), YP w h → (K w.params).In h)
    (F : ∀ (w : World) (mg : Str → Option Value) (fa : Addr) (h : Heap), (K w.params).In h → h.Ns mainGlobals mg → mg d.name = some (.ref fa) →
      ∃ fd : FuncData, (∀ (s : Shared) (u : Value), BindsTo s fd ⟨[u], []⟩ [("_law_script", u)]) ∧ ∀ base : Heap, (K w.params).In base → base.Ns mainGlobals mg → FnG l.prog w (K w.params) mg base 9 fa fd ["_law_script"] (sp_law (K w.params))) :
    PySem.W.WalkO q loose XP YP l.row.toRowW d [] (fun f vs => PySem.call f vs) :=
  walk_g (n := 63) (k := 9) (x := "_law_script") (sp := sp_law) hn (by decide) hdf ⟨rfl, by decide, by decide⟩ hY F fun _ _ a ns hl hS => ⟨a, ns, rfl, hS, hl, fun _ => rfl⟩
end K
open PySem PySem.W PyProof.Rows
set_option maxRecDepth 100000 in
set_option maxHeartbeats 0 in
theorem PySem.Challenge.cw_indexlogs_k08_logs_recognized_holds : PySem.Challenge.rw_indexlogs_k08_logs_recognized.Holds := by
  w_on; o_law; k_head; (case hw => w_witness2)
  k_fill
  refine K.walk (l := PySem.Challenge.rw_indexlogs_k08_logs_recognized) rfl rfl (fun w h Y => PySem.W.kIn_of Y) ?F
  case F =>
    intro w mg fa h KX G hmg
    refine' K.all_mk KX G hmg ?a0 ?l0 ?c0 ?k0 ?a1 ?l1 ?c1 ?k1 ?a2 ?l2 ?c2 ?k2 ?a3 ?l3 ?c3 ?k3 ?a4 ?l4 ?c4 ?k4 ?a5 ?l5 ?c5 ?k5 ?a6 ?l6 ?c6 ?k6 ?a7 ?l7 ?c7 ?k7 ?a8 ?l8 ?c8 ?k8 ?a9 ?l9 ?c9 ?k9 ?a10 ?l10 ?c10 ?k10 ?a11 ?l11 ?c11 ?k11 ?a12 ?l12 ?c12 ?k12 ?a13 ?l13 ?c13 ?k13 ?a14 ?l14 ?c14 ?k14 ?a15 ?l15 ?c15 ?k15 ?a16 ?l16 ?c16 ?k16 ?a17 ?l17 ?c17 ?k17 ?ocg ?oct ?nC0 ?pgC0 ?hdC0 ?poC0 ?saC0 ?ocC0 ?moC0 ?mkC0 ?kcC0 ?inC0 ?nfC0_held_item ?nfC0_held_slot ?csC0_SIGN ?cgC0_SIGN ?prC0_item ?prC0_slot ?prC0_text ?meC0_told ?nC1 ?pgC1 ?hdC1 ?poC1 ?saC1 ?ocC1 ?moC1 ?mkC1 ?kcC1 ?inC1 ?nfC1_held_item ?nfC1_held_slot ?csC1_SIGN ?cgC1_SIGN ?prC1_item ?prC1_slot ?prC1_text ?meC1_told ?nC2 ?pgC2 ?hdC2 ?poC2 ?saC2 ?ocC2 ?moC2 ?mkC2 ?kcC2 ?inC2 ?nfC2_held_item ?nfC2_held_slot ?csC2_SIGN ?cgC2_SIGN ?prC2_item ?prC2_slot ?prC2_text ?meC2_told ?nC3 ?pgC3 ?hdC3 ?poC3 ?saC3 ?ocC3 ?moC3 ?mkC3 ?kcC3 ?inC3 ?nfC3_held_item ?nfC3_held_slot ?csC3_SIGN ?cgC3_SIGN ?prC3_item ?prC3_slot ?prC3_text ?meC3_told ?rdC3 ?gaC3 ?cvC3_MOST ?nC4 ?nC5 ?nC6 ?gtP0 ?tpP0 ?rcP0 ?lP0 ?cP0 ?kP0 ?gtP1 ?tpP1 ?rcP1 ?lP1 ?cP1 ?kP1 ?gtP2 ?tpP2 ?rcP2 ?lP2 ?cP2 ?kP2 ?lI0 ?cI0 ?kI0 ?ifI0 ?xsC5 ?xyC5 ?xhC5 ?xsC4 ?xyC4 ?xhC4 ?xsC6 ?xyC6 ?xhC6 ?xpC5 ?xgC5 ?xtC5 ?xoC5 ?xrC5 ?xeC5 ?xpC4 ?xgC4 ?xtC4 ?xoC4 ?xrC4 ?xeC4 ?htop ?hopq ?b_super ?lM0 ?cM0 ?ceM0 ?lcM0 ?hvM0 ?hfM0 ?hcM0 ?kM0 ?smM0 ?saM0 ?stM0 ?sfM0 ?lBM0 ?cBM0 ?kBM0 ?ifM0 ?lM1 ?cM1 ?ceM1 ?lcM1 ?hvM1 ?hfM1 ?hcM1 ?kM1 ?smM1 ?saM1 ?stM1 ?sfM1 ?lBM1 ?cBM1 ?kBM1 ?ifM1 ?lM2 ?cM2 ?ceM2 ?lcM2 ?hvM2 ?hfM2 ?hcM2 ?kM2 ?smM2 ?saM2 ?stM2 ?sfM2 ?lBM2 ?cBM2 ?kBM2 ?ifM2 ?lM3 ?cM3 ?kM3 ?ifM3 ?suC0_C0 ?suC0_C1 ?suC0_C2 ?suC0_C3 ?suC1_C0 ?suC1_C1 ?suC1_C2 ?suC1_C3 ?suC2_C0 ?suC2_C1 ?suC2_C2 ?suC2_C3 ?suC3_C0 ?suC3_C1 ?suC3_C2 ?suC3_C3 ?icC2 ?tcC2 ?icC0 ?tcC0 ?icC3 ?tcC3 ?icC1 ?tcC1 ?soC0_list ?soC1_list ?soC2_list ?soC3_list ?boNoneType_C0 ?boNoneType_C1 ?boNoneType_C2 ?boNoneType_C3 ?bobool_C0 ?bobool_C1 ?bobool_C2 ?bobool_C3 ?boint_C0 ?boint_C1 ?boint_C2 ?boint_C3 ?bostr_C0 ?bostr_C1 ?bostr_C2 ?bostr_C3 ?bolist_C0 ?bolist_C1 ?bolist_C2 ?bolist_C3 ?botuple_C0 ?botuple_C1 ?botuple_C2 ?botuple_C3 ?bodict_C0 ?bodict_C1 ?bodict_C2 ?bodict_C3 ?b_abs ?b_all ?b_bool ?b_int ?b_isinstance ?b_len ?b_list ?b_max ?b_min ?b_range ?b_repr ?b_set ?b_str ?b_tuple ?v_AT ?v_LETTERS ?v_MOST_LETTERS ?v_MOST_LOG
    (case a0 => k_is)
    (case l0 => k_is)
    (case c0 => k_is)
    (case k0 => k_is)
    (case a1 => k_is)
    (case l1 => k_is)
    (case c1 => k_is)
    (case k1 => k_is)
    (case a2 => k_is)
    (case l2 => k_is)
    (case c2 => k_is)
    (case k2 => k_is)
    (case a3 => k_is)
    (case l3 => k_is)
    (case c3 => k_is)
    (case k3 => k_is)
    (case a4 => k_is)
    (case l4 => k_is)
    (case c4 => k_is)
    (case k4 => k_is)
    (case a5 => k_is)
    (case l5 => k_is)
    (case c5 => k_is)
    (case k5 => k_is)
    (case a6 => k_is)
    (case l6 => k_is)
    (case c6 => k_is)
    (case k6 => k_is)
    (case a7 => k_is)
    (case l7 => k_is)
    (case c7 => k_is)
    (case k7 => k_is)
    (case a8 => k_is)
    (case l8 => k_is)
    (case c8 => k_is)
    (case k8 => k_is)
    (case a9 => k_is)
    (case l9 => k_is)
    (case c9 => k_is)
    (case k9 => k_is)
    (case a10 => k_is)
    (case l10 => k_is)
    (case c10 => k_is)
    (case k10 => k_is)
    (case a11 => k_is)
    (case l11 => k_is)
    (case c11 => k_is)
    (case k11 => k_is)
    (case a12 => k_is)
    (case l12 => k_is)
    (case c12 => k_is)
    (case k12 => k_is)
    (case a13 => k_is)
    (case l13 => k_is)
    (case c13 => k_is)
    (case k13 => k_is)
    (case a14 => k_is)
    (case l14 => k_is)
    (case c14 => k_is)
    (case k14 => k_is)
    (case a15 => k_is)
    (case l15 => k_is)
    (case c15 => k_is)
    (case k15 => k_is)
    (case a16 => k_is)
    (case l16 => k_is)
    (case c16 => k_is)
    (case k16 => k_is)
    (case a17 => k_is)
    (case l17 => k_is)
    (case c17 => k_is)
    (case k17 => k_is)
    (case ocg => k_is)
    (case oct => k_is)
    (case nC0 => k_is)
    (case pgC0 => k_is)
    (case hdC0 => k_is)
    (case poC0 => k_is)
    (case saC0 => k_is)
    (case ocC0 => k_is)
    (case moC0 => k_is)
    (case mkC0 => k_is)
    (case kcC0 => k_is)
    (case inC0 => k_is)
    (case nfC0_held_item => k_is)
    (case nfC0_held_slot => k_is)
    (case csC0_SIGN => k_is)
    (case cgC0_SIGN => k_is)
    (case prC0_item => k_is)
    (case prC0_slot => k_is)
    (case prC0_text => k_is)
    (case meC0_told => k_is)
    (case nC1 => k_is)
    (case pgC1 => k_is)
    (case hdC1 => k_is)
    (case poC1 => k_is)
    (case saC1 => k_is)
    (case ocC1 => k_is)
    (case moC1 => k_is)
    (case mkC1 => k_is)
    (case kcC1 => k_is)
    (case inC1 => k_is)
    (case nfC1_held_item => k_is)
    (case nfC1_held_slot => k_is)
    (case csC1_SIGN => k_is)
    (case cgC1_SIGN => k_is)
    (case prC1_item => k_is)
    (case prC1_slot => k_is)
    (case prC1_text => k_is)
    (case meC1_told => k_is)
    (case nC2 => k_is)
    (case pgC2 => k_is)
    (case hdC2 => k_is)
    (case poC2 => k_is)
    (case saC2 => k_is)
    (case ocC2 => k_is)
    (case moC2 => k_is)
    (case mkC2 => k_is)
    (case kcC2 => k_is)
    (case inC2 => k_is)
    (case nfC2_held_item => k_is)
    (case nfC2_held_slot => k_is)
    (case csC2_SIGN => k_is)
    (case cgC2_SIGN => k_is)
    (case prC2_item => k_is)
    (case prC2_slot => k_is)
    (case prC2_text => k_is)
    (case meC2_told => k_is)
    (case nC3 => k_is)
    (case pgC3 => k_is)
    (case hdC3 => k_is)
    (case poC3 => k_is)
    (case saC3 => k_is)
    (case ocC3 => k_is)
    (case moC3 => k_is)
    (case mkC3 => k_is)
    (case kcC3 => k_is)
    (case inC3 => k_is)
    (case nfC3_held_item => k_is)
    (case nfC3_held_slot => k_is)
    (case csC3_SIGN => k_is)
    (case cgC3_SIGN => k_is)
    (case prC3_item => k_is)
    (case prC3_slot => k_is)
    (case prC3_text => k_is)
    (case meC3_told => k_is)
    (case rdC3 => k_is)
    (case gaC3 => k_is)
    (case cvC3_MOST => k_is)
    (case nC4 => k_is)
    (case nC5 => k_is)
    (case nC6 => k_is)
    (case gtP0 => k_is)
    (case tpP0 => k_is)
    (case rcP0 => k_is)
    (case lP0 => k_is)
    (case cP0 => k_is)
    (case kP0 => k_is)
    (case gtP1 => k_is)
    (case tpP1 => k_is)
    (case rcP1 => k_is)
    (case lP1 => k_is)
    (case cP1 => k_is)
    (case kP1 => k_is)
    (case gtP2 => k_is)
    (case tpP2 => k_is)
    (case rcP2 => k_is)
    (case lP2 => k_is)
    (case cP2 => k_is)
    (case kP2 => k_is)
    (case lI0 => k_is)
    (case cI0 => k_is)
    (case kI0 => k_is)
    (case ifI0 => k_is)
    (case xsC5 => k_is)
    (case xyC5 => k_is)
    (case xhC5 => k_is)
    (case xsC4 => k_is)
    (case xyC4 => k_is)
    (case xhC4 => k_is)
    (case xsC6 => k_is)
    (case xyC6 => k_is)
    (case xhC6 => k_is)
    (case xpC5 => k_is)
    (case xgC5 => k_is)
    (case xtC5 => k_is)
    (case xoC5 => k_is)
    (case xrC5 => k_is)
    (case xeC5 => k_exc)
    (case xpC4 => k_is)
    (case xgC4 => k_is)
    (case xtC4 => k_is)
    (case xoC4 => k_is)
    (case xrC4 => k_is)
    (case xeC4 => k_exc)
    (case htop => first | rfl | decide +kernel)
    (case hopq => k_is)
    (case b_super => k_is)
    (case lM0 => k_is)
    (case cM0 => k_is)
    (case ceM0 => k_is)
    (case lcM0 => k_is)
    (case hvM0 => first | rfl | decide +kernel)
    (case hfM0 => first | rfl | decide +kernel)
    (case hcM0 => k_is)
    (case kM0 => k_is)
    (case smM0 => k_is)
    (case saM0 => ks_is)
    (case stM0 => k_is)
    (case sfM0 => k_is)
    (case lBM0 => k_is)
    (case cBM0 => k_is)
    (case kBM0 => k_is)
    (case ifM0 => k_is)
    (case lM1 => k_is)
    (case cM1 => k_is)
    (case ceM1 => k_is)
    (case lcM1 => k_is)
    (case hvM1 => first | rfl | decide +kernel)
    (case hfM1 => first | rfl | decide +kernel)
    (case hcM1 => k_is)
    (case kM1 => k_is)
    (case smM1 => k_is)
    (case saM1 => ks_is)
    (case stM1 => k_is)
    (case sfM1 => k_is)
    (case lBM1 => k_is)
    (case cBM1 => k_is)
    (case kBM1 => k_is)
    (case ifM1 => k_is)
    (case lM2 => k_is)
    (case cM2 => k_is)
    (case ceM2 => k_is)
    (case lcM2 => k_is)
    (case hvM2 => first | rfl | decide +kernel)
    (case hfM2 => first | rfl | decide +kernel)
    (case hcM2 => k_is)
    (case kM2 => k_is)
    (case smM2 => k_is)
    (case saM2 => ks_is)
    (case stM2 => k_is)
    (case sfM2 => k_is)
    (case lBM2 => k_is)
    (case cBM2 => k_is)
    (case kBM2 => k_is)
    (case ifM2 => k_is)
    (case lM3 => k_is)
    (case cM3 => k_is)
    (case kM3 => k_is)
    (case ifM3 => k_is)
    (case suC0_C0 => k_is)
    (case suC0_C1 => k_is)
    (case suC0_C2 => k_is)
    (case suC0_C3 => k_is)
    (case suC1_C0 => k_is)
    (case suC1_C1 => k_is)
    (case suC1_C2 => k_is)
    (case suC1_C3 => k_is)
    (case suC2_C0 => k_is)
    (case suC2_C1 => k_is)
    (case suC2_C2 => k_is)
    (case suC2_C3 => k_is)
    (case suC3_C0 => k_is)
    (case suC3_C1 => k_is)
    (case suC3_C2 => k_is)
    (case suC3_C3 => k_is)
    (case icC2 => k_is)
    (case tcC2 => k_is)
    (case icC0 => k_is)
    (case tcC0 => k_is)
    (case icC3 => k_is)
    (case tcC3 => k_is)
    (case icC1 => k_is)
    (case tcC1 => k_is)
    (case soC0_list => k_is)
    (case soC1_list => k_is)
    (case soC2_list => k_is)
    (case soC3_list => k_is)
    (case boNoneType_C0 => k_is)
    (case boNoneType_C1 => k_is)
    (case boNoneType_C2 => k_is)
    (case boNoneType_C3 => k_is)
    (case bobool_C0 => k_is)
    (case bobool_C1 => k_is)
    (case bobool_C2 => k_is)
    (case bobool_C3 => k_is)
    (case boint_C0 => k_is)
    (case boint_C1 => k_is)
    (case boint_C2 => k_is)
    (case boint_C3 => k_is)
    (case bostr_C0 => k_is)
    (case bostr_C1 => k_is)
    (case bostr_C2 => k_is)
    (case bostr_C3 => k_is)
    (case bolist_C0 => k_is)
    (case bolist_C1 => k_is)
    (case bolist_C2 => k_is)
    (case bolist_C3 => k_is)
    (case botuple_C0 => k_is)
    (case botuple_C1 => k_is)
    (case botuple_C2 => k_is)
    (case botuple_C3 => k_is)
    (case bodict_C0 => k_is)
    (case bodict_C1 => k_is)
    (case bodict_C2 => k_is)
    (case bodict_C3 => k_is)
    (case b_abs => k_is)
    (case b_all => k_is)
    (case b_bool => k_is)
    (case b_int => k_is)
    (case b_isinstance => k_is)
    (case b_len => k_is)
    (case b_list => k_is)
    (case b_max => k_is)
    (case b_min => k_is)
    (case b_range => k_is)
    (case b_repr => k_is)
    (case b_set => k_is)
    (case b_str => k_is)
    (case b_tuple => k_is)
    (case v_AT => k_is)
    (case v_LETTERS => k_is)
    (case v_MOST_LETTERS => k_is)
    (case v_MOST_LOG => k_is)
