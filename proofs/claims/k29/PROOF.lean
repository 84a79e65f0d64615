import PyProof.Rows.All
import Wide.All
import OpenK.AllK
import Wide.FinOn
import HandS.ForMost
import HandS.Strs
import HandS.Exc
import HandS.WordsExc
import HandS.ExcOwn
import HandS.Property
import HandS.Ends
import HandS.Defaults
import HandS.IsInst
import HandS.ClsMeth
import HandS.Wide
import HandS.SortInts
import HandS.RaiseMore
import HandS.Deep
import HandS.More
import HandS.Conv
import HandS.Iter
import HandS.DictComp
import HandS.Style
import KE.DatumIndex
import PyProof.ReprReads
import PySem.Challenge.RW_indexlogs_k29_ranges_of_indices
set_option Elab.async false
set_option linter.all false
set_option maxRecDepth 100000
set_option maxHeartbeats 4000000
/-! len(set(xs)), xs a list of texts of any length below some thousands -/
namespace U
open PySem PySem.Spec PyProof.Rows L2

/-- the texts of a list, each once -/
def ddS (acc : List Str) (x : Str) : List Str := if acc.any (· == x) = true then acc else acc ++ [x]
def dd (xs : List Str) : List Str := xs.foldl ddS []
theorem ddS_any (acc : List Str) (x k : Str) : (ddS acc x).any (· == k) = (acc.any (· == k) || decide (k = x)) := by
  unfold ddS
  by_cases c : acc.any (· == x) = true
  · rw [if_pos c]
    by_cases q : k = x
    · subst q; rw [c]; simp
    · simp [q]
  · rw [if_neg c, List.any_append]
    by_cases q : k = x
    · subst q; simp
    · have z : (x == k) = false := by
        rw [beq_eq_false_iff_ne]; exact fun e => q e.symm
      simp [z, q]
theorem ddS_len (acc : List Str) (x : Str) : (ddS acc x).length = if acc.any (· == x) = true then acc.length else acc.length + 1 := by
  unfold ddS; split <;> simp
theorem dd_take {xs : List Str} {i : Nat} (h : i < xs.length) : dd (xs.take (i + 1)) = ddS (dd (xs.take i)) (xs.getD i Str.empty) := by
  unfold dd
  have e : xs.take (i + 1) = xs.take i ++ [xs.getD i Str.empty] := by
    rw [List.take_add_one, List.getElem?_eq_getElem h]; simp [List.getD, h]
  rw [e, List.foldl_append]; rfl
theorem dd_le (xs : List Str) : (dd xs).length ≤ xs.length := by
  unfold dd
  suffices h : ∀ (l acc : List Str), (l.foldl ddS acc).length ≤ acc.length + l.length by simpa using h xs []
  intro l
  induction l with
  | nil => intro acc; simp
  | cons x l ih =>
    intro acc
    have h1 := ih (ddS acc x)
    have h2 : (ddS acc x).length ≤ acc.length + 1 := by rw [ddS_len]; split <;> omega
    simp only [List.foldl_cons, List.length_cons]
    omega

section
variable {prog : Program} {w : World} {A : Around} {R : Result → Shared → Prop} {I : Addr} {fp wr : List Addr} {G : Array GenState → Array GenState → Prop} {n : Nat} {P : Nat → Value → Prop} {St : Nat → Shared → Prop}
abbrev HasT (prog : Program) (w : World) (h : Heap) (S : Addr) (l : List Str) : Prop := h.SetOf (PySem.strKind prog w) S (fun k => l.any (· == k)) l.length
theorem HasT.moved {h h' : Heap} {S : Addr} {l : List Str} (x : HasT prog w h S l) (k : ∀ o, h.get? S = some o → h'.get? S = some o) : HasT prog w h' S l := by
  obtain ⟨o, es, ep, t, q, r⟩ := x
  exact ⟨o, es, ep, t, k o q, r⟩
theorem loopT (W : WalksS prog w A.in1 I fp wr G n P St) {S : Addr} (hS : S ∉ fp) {xs : List Str} (hl : xs.length = n) (hb : n + 1 < scanBound) (hv : ∀ i v, P i v → ∃ t, v = .str (xs.getD i Str.empty) t) :
    ∀ (m i : Nat) (s : Shared), m = n - i → i ≤ n → St i s → HasT prog w s.heap S (dd (xs.take i)) →
      (∀ s', Moved (S :: wr) G s s' → HasT prog w s'.heap S (dd xs) → R (.ok (.ret .none)) s') → codeAny (model prog w) A (.builtin "set.update.loop" ⟨[.ref S, .ref I], []⟩) R s := by
  have nw : S ∉ wr := fun z => hS (W.sub _ z)
  have up : ∀ b ∈ wr, b ∈ S :: wr := fun b z => List.mem_cons_of_mem _ z
  intro m
  induction m with
  | zero =>
    intro i s hm hi st x fin
    obtain rfl : i = n := by omega
    refine codeAny_builtin PyProof.Rows.F.entry_set_update_loop ?_
    rw [Around.under_plainId PyProof.Rows.F.plain_set_update_loop _]
    refine (show wpAny _ A.in1 (pyNext (.ref I) >>= _) _ _ s from wpAny_bind (W.done s _ _ st fun s' mv => ?_))
    refine (show wpAny _ A.in1 (ret Value.none) _ _ s' from wpAny_pure (fin s' (mv.mono up) ?_))
    have y := HasT.moved x fun o q => mv.heap S _ nw q
    rwa [← hl, List.take_length] at y
  | succ m ih =>
    intro i s hm hi st x fin
    have lt : i < n := by omega
    refine codeAny_builtin PyProof.Rows.F.entry_set_update_loop ?_
    rw [Around.under_plainId PyProof.Rows.F.plain_set_update_loop _]
    refine (show wpAny _ A.in1 (pyNext (.ref I) >>= _) _ _ s from wpAny_bind (W.item i s _ _ lt st fun v s' pv st' mv => ?_))
    obtain ⟨t, rfl⟩ := hv i v pv
    have y := HasT.moved x fun o q => mv.heap S _ nw q
    refine (show wpAny _ A.in1 (holding [Value.str (xs.getD i Str.empty) t] (setAdd S (.str (xs.getD i Str.empty) t)) >>= _) _ _ s' from wpAny_bind (wpAny_holding ?_))
    unfold setAdd
    refine wpAny_holding (wpAny_bind ((PySem.strKind prog w).pyHash (k := xs.getD i Str.empty) (strKind_is _ _ _ _) ?_))
    have few : (dd (xs.take i)).length + 1 < scanBound := by
      have := dd_le (xs.take i)
      rw [List.length_take] at this
      omega
    refine wpAny_setAddHashed_of (knd := PySem.strKind prog w) (s := { s' with toks := s'.toks + 1 }) (strKind_is _ _ _ _) rfl y few fun h' sb z => ?_
    have z' : HasT prog w h' S (dd (xs.take (i + 1))) := by
      have e := dd_take (xs := xs) (i := i) (by omega)
      exact SetOf_congr z (fun k => by rw [e, ddS_any]) (by rw [e, ddS_len])
    refine wpAny_pure ⟨plainId_quiet PyProof.Rows.F.plain_set_update_loop _, ih (i + 1) _ (by omega) lt (W.frame _ s' _ _ st' (Nat.le_succ _) fun b hb o e => ?_) z' fun s2 mv2 z2 => ?_⟩
    · rw [sb.2 b fun q : b = S => hS (q ▸ hb)]
      exact e
    · refine fin s2 (Moved.trans W.gtrans ((mv.mono up).then_heap (Nat.le_succ _) fun b o hb e => ?_) mv2) z2
      rw [sb.2 b fun q : b = S => hb (q ▸ List.mem_cons_self)]
      exact e
end

section
variable {prog : Program} {w : World} {A : Around} {E : Value → Shared → Prop} {s : Shared}
abbrev nilSet (led : Bool) : Obj := { cls := .type "set", dict := none, data := .set #[] 0 (.fresh 0 0 led) }
set_option maxHeartbeats 6400000 in
theorem set_of_texts {l : Addr} {items : Array Value} {xs : List Str} {Q : Value → Shared → Prop} (calm : A.handled = none) (hl : s.heap.IsList l items) (hi : StrsAre items.toList xs) (hb : xs.length + 1 < scanBound)
    (h : ∀ (h' : Heap) (tk : Nat), HasT prog w h' s.heap.objs.size (dd xs) → (∀ b o, b < s.heap.objs.size → s.heap.get? b = some o → h'.get? b = some o) → Q (.ref s.heap.objs.size) { s with heap := h', toks := tk }) :
    wpAny (model prog w) A (call (.type "set") [.ref l]) Q E s := by
  obtain ⟨c, tl, hmro⟩ := PySem.F.called_set.mro
  have hmade := PySem.F.called_set.made; have hsub := PySem.F.called_set.sub
  refine wpAny_call (codeAny_of_tree (show wpAny _ _ (callAny (.type "set") _) _ _ _ from wpAny_pure ⟨Code.quiet_builtin _ (by decide +kernel), codeAny_builtin PySem.F.entry_type_call ?_⟩))
  rw [Around.under_plain (weight_type_call_type "set" [.ref l] []) rfl]
  have g1 := PySem.F.called_set.notType; have g2 := PySem.F.called_set.canCreate; have g3 := PySem.F.typeCall_set_1 (.ref l)
  repeat (any_goals (first | assumption | wp_step))
  refine codeAny_mono (code_set_new_1 (.ref l) (E := E) (Q₁ := fun obj s₁ => ∃ led : Bool, obj = .ref s.heap.objs.size ∧ s₁ = { s with heap := s.heap.push (nilSet led) }) fun led => ⟨led, rfl, rfl⟩) fun r s₁ hr => ?_
  match r, hr with
  | .error e, hr => exact hr
  | .ok (.ret obj), hr =>
    obtain ⟨led, rfl, rfl⟩ := hr
    have here : (s.heap.push (nilSet led)).get? s.heap.objs.size = some (nilSet led) := Heap.get?_push_size _ rfl
    have ty : Shared.TypeIs { s with heap := s.heap.push (nilSet led) } (.ref s.heap.objs.size) "set" := ⟨_, here, rfl⟩
    have q1 := PySem.F.called_set.init.lookup; have q2 := PySem.F.called_set.init.bind (.ref s.heap.objs.size)
    repeat (any_goals (first | assumption | wp_step))
    refine codeAny_mono (codeAny_call_builtin (R := wants (fun r s₂ => r = .none ∧ ∃ h' tk, s₂ = { s with heap := h', toks := tk } ∧ HasT prog w h' s.heap.objs.size (dd xs) ∧ (∀ b o, b < s.heap.objs.size → s.heap.get? b = some o → h'.get? b = some o)) E)
      PySem.F.called_set.init.plain PySem.F.entry_set_init (check_set_init_1 ty ?_)) fun r₂ s₂ hr₂ => ?_
    · obtain ⟨ol, hol, hcl, nl, hdl⟩ := hl
      obtain ⟨ocls, odict, odata, oslots⟩ := ol
      simp only at hcl hdl
      subst hcl; subst hdl
      have hol' : (s.heap.push (nilSet led)).get? l = some { cls := .type "list", dict := odict, data := .seq items nl, slots := oslots } := Heap.get?_push_of_some _ hol
      have w1 := PySem.F.sub_list_set; have w2 := PySem.F.sub_list_frozenset
      have w3 : (Value.type "list" == Value.type "dict") = false := by decide
      have il : (s.heap.push (nilSet led)).IsList l items := ⟨_, hol', rfl, nl, rfl⟩
      unfold Builtin.«set.__init__» noKeywords Builtin.Frozenset.updateFrom
      generalize hPI : pyIter = PI
      wp_walk
      subst hPI
      refine wpAny_pyIter_list il (wpAny_bind (wpAny_runValue ?_))
      have ll : l < s.heap.objs.size := Heap.lt_size hol
      have c3 : A.in1.in1.in1.handled = none := by simp [calm]
      have ne : l ≠ (s.heap.push (nilSet led)).objs.size := by rw [Heap.size_push]; exact Nat.ne_of_lt (Nat.lt_succ_of_lt ll)
      have nf : s.heap.objs.size ∉ [(s.heap.push (nilSet led)).objs.size, l] := by
        rw [Heap.size_push]
        simp only [List.mem_cons, List.not_mem_nil, or_false, not_or]
        exact ⟨Nat.ne_of_lt (Nat.lt_succ_self _), Nat.ne_of_gt ll⟩
      have sz : xs.length = items.size := by rw [← StrsAre.len_eq hi, Array.length_toList]
      have vl : ∀ (i : Nat) (v : Value), items[i]? = some v → ∃ t, v = .str (xs.getD i Str.empty) t := fun i v hv => SS.strs_at hi i v (by rw [Array.getElem?_toList]; exact hv)
      refine loopT (Walks.list c3 _ l ne items).toS nf sz (by rw [← sz]; exact hb) vl (items.size - 0) 0 _ rfl (Nat.zero_le _) ⟨⟨_, Heap.get?_push_size _ rfl, rfl, rfl⟩, il.push _⟩ ?b0 ?b1
      case b0 =>
        have hget : ((s.heap.push (nilSet led)).push { cls := .type "list_iterator", data := .fields #[.ref l, .int 0 0] }).get? s.heap.objs.size = some (nilSet led) := Heap.get?_push_of_some _ here
        exact SetOf_congr ((setObjOf_fresh (knd := PySem.strKind prog w) led).setOf hget (by unfold scanBound; omega)) (fun _ => rfl) rfl
      case b1 =>
        intro s' mv z
        obtain ⟨h', g', d', tk', os'⟩ := s'
        obtain rfl : g' = s.gens := mv.gens
        obtain rfl : d' = s.drawn := mv.drawn
        obtain rfl : os' = s.os := mv.os
        refine (show wpAny _ _ _ _ _ _ from wpAny_pure (show wpAny _ _ (ret Value.none) _ _ _ from wpAny_pure ⟨rfl, h', tk', rfl, z, fun b o hb e => ?_⟩))
        refine mv.heap b o ?_ (Heap.get?_push_of_some _ (Heap.get?_push_of_some _ e))
        rw [Heap.size_push]
        simp only [List.mem_cons, List.not_mem_nil, or_false, not_or]
        exact ⟨Nat.ne_of_lt hb, Nat.ne_of_lt (Nat.lt_succ_of_lt hb)⟩
    · match r₂, hr₂ with
      | .error e, hr₂ => exact hr₂
      | .ok (.ret r), hr₂ =>
        obtain ⟨rfl, h', tk, rfl, z, k⟩ := hr₂
        repeat (any_goals (first | assumption | wp_step))
        exact h _ _ z k
end

section
variable {X : Cx}
/-- len(set(xs)): how many different texts -/
def tLenSetT (K : PySem.W.Frag) (ta : TE) : TE := fun σ H Q => ta σ H fun x H1 => ∃ l, ∃ xs : List Str, x = .ref l ∧ SqL K H1 l (xs.map V.str) ∧ xs.length ≤ 1000 ∧ Q (.int (dd xs).length) H1
theorem pe_lenSetT {a : Expr} {ta : TE} {p p2 q pos : Pos} (hg : Gl X "len") (hm : X.mg "len" = none) (hg2 : Gl X "set") (hm2 : X.mg "set" = none) (ha : PE X a ta) (hc : X.calm = true := by rfl)
    (na : starEach [a] X.env = (false, eval a X.env) :: starEach [] X.env := by rfl) : PE X (.Call (.Name "len" p) [.Call (.Name "set" p2) [a] [] q] [] pos) (tLenSetT X.K ta) := by
  refine ⟨fun pins s σ H Q I h => Call_ (ld_blt I hg hm boot_len (PyProof.Rows.callWith_builtin1 (PyProof.Rows.args_cons ?_ rfl) rfl rfl))⟩
  refine Call_ (ld_blt I hg2 hm2 boot_set (PyProof.Rows.callWith_type1 (PyProof.Rows.args_cons (thn (ha.run pins s σ H _ I h) fun v s1 ⟨x, H1, I1, r1, q1⟩ => PyProof.Rows.args_nil ?_) na) na rfl))
  obtain ⟨l, xs, rfl, hq, few, q1⟩ := q1
  cases r1
  obtain ⟨its, r, pl, hz⟩ := I1.list hq
  refine set_of_texts (I1.ok.hd hc) pl.isList (by simpa using strsAre_of r) (by unfold scanBound; omega) fun h' tk x k => PyProof.Rows.args_nil ?_
  obtain ⟨o, es, ep, t, ho, hex, hd, _, _, _, hf, hn⟩ := x
  have I2 : Inv X pins σ H1 { s1 with heap := h', toks := tk } := I1.kept fun b o e => k b o (Heap.lt_size e) e
  have dl := dd_le xs
  exact call_len_set ho hex hd hf (by rw [hn] <;> omega) ⟨.int (dd xs).length, H1, I2.tok _, ⟨_, by rw [hn]⟩, q1⟩
end
end U
/-! promises of defs that are called where nothing is being shown (no guard stands): repr of data may be asked within -/
namespace U
open PySem PySem.Spec PyProof.Rows L2
/-- no repr is under way -/
abbrev Quiet (B : Around) : Prop := B.guards = some []
structure FnG (P : Program) (w : World) (K : PySem.W.Frag) (mg : Str → Option Value) (base : Heap) (k : Nat) (f : Addr) (fd : FuncData) (ps : List Str) (sp : Sp) : Prop where
  len : ∀ vs H Q E, sp vs H Q E → vs.length = ps.length
  run : ∀ (B : Around) (outs : List Env) (t : Shared) (H : Hp) (gv : Args) (us : List Value) (vs : List V) (Q : VK) (E : XK), Room k B → Quiet B → Env0 P w K mg base B outs t H →
    BindsTo t fd gv (ps.zip us) → Vals vs us → sp vs H Q E → codeAny (model P w) B (.call (.ref f) gv) (CR (L2.CX P w) outs P w H t Q E) t
section
variable {P : Program} {w : World} {K : PySem.W.Frag} {mg : Str → Option Value} {base : Heap}
theorem FnG.of {k : Nat} {f : Addr} {fd : FuncData} {ps : List Str} {sp : Sp} (F : FnOk P w K mg base (L2.CX P w) k f fd ps sp) : FnG P w K mg base k f fd ps sp :=
  ⟨F.len, fun B outs t H gv us vs Q E r _ => F.run B outs t H gv us vs Q E r⟩
/-- a def by its body, read where no repr is under way -/
theorem fnG_body {k : Nat} {f : Addr} {nm ql : Str} {pr : Arguments} {bd : List Stmt} {sc : Scope} {dV kV doc pm cdv ct oc : Value} {an od : Option Addr} {osl : Array (Option Value)} {N ps : List Str} {sp : Sp}
    (at_ : K.lookup f = some ⟨oc, od, .func (PySem.W.fnOf nm ql pr bd sc dV kV doc pm an cdv ct), osl⟩) (cd : PySem.W.codeIn K cdv ql = true) (S : FnScope N ps sc) (ln : ∀ vs H Q E, sp vs H Q E → vs.length = ps.length)
    (body : ∀ (B : Around) (outs : List Env) (t : Shared) (H : Hp) (vs : List V) (Q : VK) (E : XK), Room k (B.deeper (envOfC ql sc t.heap.objs.size f cdv)) → Quiet (B.deeper (envOfC ql sc t.heap.objs.size f cdv)) → sp vs H Q E →
      ∃ T, PSs (cxOf (L2.CX P w) P w K mg base N ql sc f cdv B outs t H E) bd T ∧ T { nx := fun _ G => Q .non G, rt := Q } (start N vs) H) :
    FnG P w K mg base (k + 1) f (PySem.W.fnOf nm ql pr bd sc dV kV doc pm an cdv ct) ps sp where
  len := ln
  run := fun B outs t H gv us vs Q E rm qt e0 bi rv want => by
    have kin : K.In t.heap := e0.mod.kin.keeps fun b o z => (e0.bs b o z).1
    have unl : t.heap.NoLimit := e0.mod.nolimit.keeps fun b o z => (e0.bs b o z).1
    have kinds : ∀ z ∈ ps.zip us, sc.names.lookup z.1 = some .local ∨ (sc.names.lookup z.1 = some .cell ∧ ((cellsFrom (t.heap.objs.size + 1) sc.names []).lookup z.1).isSome = true) := fun z hz =>
      (S.par z.1 (List.of_mem_zip (a := z.1) (b := z.2) hz).1).imp id fun c => ⟨c, PySem.W.cellsFrom_some _ _ _ (.inl c)⟩
    refine codeAny_call_function rm.depth (kin _ _ at_) rfl S.co S.gen rfl (PySem.W.codeRec_of kin cd) (bi _ _ _ _ (wpAny_newFunctionEnv_cells S.kind kinds ?_))
    intro env ee t1 ic
    cases ee
    refine ⟨unl.keeps ic.toInCall.keep, codeAny_func ?_⟩
    obtain ⟨T, d, hT⟩ := body B outs t H vs Q E (rm.deeper _) qt want
    refine wpAny_mono (d.run [] t1 (start N vs) H _ (inv_start S rm.hd e0 (ln _ _ _ _ want) rv ic) hT) (fun fl t2 z => ?_) fun _ _ z => z
    match fl, z with
    | .ret u, ⟨v, _, G, J, ru, q⟩ => exact ⟨v, G, J.os, J.bare, J.base, J.hok, ru, q⟩
    | .next, ⟨_, G, J, q⟩ => exact ⟨V.non, G, J.os, J.bare, J.base, J.hok, rfl, q⟩
    | .brk, ⟨_, _, _, q⟩ => exact q.elim
    | .cont, ⟨_, _, _, q⟩ => exact q.elim
end
section
variable {X : Cx} {k : Nat} {f C : Addr} {fd : FuncData} {ps : List Str} {sp : Sp} {dvs : List V} {ds : List Value} {E : XK}
def Back (X : Cx) (pins : List (Addr × Obj)) (σ : L2.St) (Q : VK) : Result → Shared → Prop
  | .ok (.ret u), t => EP X pins σ Q u t
  | .ok _, _ => False
  | .error e, t => X.xe e t
theorem back_of {pins : List (Addr × Obj)} {σ : L2.St} {H : Hp} {s s' : Shared} {Q : VK} {r : Result} (I : Inv X pins σ H s) (hx : Passes (L2.CX X.prog X.w) X E) (h : CR (L2.CX X.prog X.w) X.stack X.prog X.w H s Q E r s') :
    Back X pins σ Q r s' := by
  match r, h with
  | .error e, h => exact hx pins σ H s e s' I h
  | .ok (.ret u), h => exact I.after h
  | .ok .next, h => exact h
  | .ok .brk, h => exact h
  | .ok .cont, h => exact h
theorem run_g {pins : List (Addr × Obj)} {σ : L2.St} {H : Hp} {s : Shared} {Q : VK} {us ws : List Value} {kw : List (Str × Value)} {vs : List V} (F : FnG X.prog X.w X.K X.mg X.base k f fd ps sp) (rm : Room k X.A) (qt : Quiet X.A) (hx : Passes (L2.CX X.prog X.w) X E)
    (I : Inv X pins σ H s) (b : BindsTo s fd ⟨us, kw⟩ (ps.zip ws)) (r : Vals vs ws) (h : sp vs H Q E) : wpAny (model X.prog X.w) X.A (call (.ref f) us kw) (EP X pins σ Q) X.xe s := by
  refine wpAny_call (codeAny_mono (F.run X.A X.stack s H _ ws vs Q E rm qt I.env0 b r h) fun r t z => ?_)
  have y := back_of I hx z
  clear z
  match r, y with
  | .error _, y => exact y
  | .ok (.ret _), y => exact y
theorem run_gb {pins : List (Addr × Obj)} {σ : L2.St} {H : Hp} {s : Shared} {Q : VK} {us : List Value} {vs : List V} (F : FnG X.prog X.w X.K X.mg X.base k f fd ps sp) (rm : Room k X.A) (qt : Quiet X.A) (hb : Binds X.K fd ps ds) (hd : Vals dvs ds) (hx : Passes (L2.CX X.prog X.w) X E)
    (I : Inv X pins σ H s) (r : Vals vs us) (h : sp (vs ++ dvs) H Q E) : wpAny (model X.prog X.w) X.A (call (.ref f) us) (EP X pins σ Q) X.xe s := by
  have r2 := r.append hd
  exact run_g F rm qt hx I (hb s us I.kIn (r2.length.symm.trans (F.len _ _ _ _ h))) r2 h
theorem quiet_make {B : Around} (q : Quiet B) (C : Addr) (us : List Value) (kw : List (Str × Value)) : Quiet (B.under (.builtin "type.__call__" ⟨.ref C :: us, kw⟩)) := by
  first | exact q | (simpa [Around.under, Code.guards, Code.isGuard, pushGuards] using q)
theorem run_mkG {pins : List (Addr × Obj)} {σ : L2.St} {H : Hp} {s : Shared} {Q : VK} {us : List Value} {vs : List V} (M : Mk X.K C f) (F : FnG X.prog X.w X.K X.mg X.base k f fd ps sp) (rm : Room (k + 1) X.A) (qt : Quiet X.A) (hb : Binds X.K fd ps []) (hx : Passes (L2.CX X.prog X.w) X E)
    (I : Inv X pins σ H s) (r : Vals vs us) (h : ∀ p dx, H p = none → H dx = none → dx ≠ p → sp (.ref p :: vs) (upd (upd H dx (.own p)) p (.ins C dx [])) (fun v G => v = .non ∧ Q (.ref p) G) E) :
    wpAny (model X.prog X.w) X.A (call (.ref C) us) (EP X pins σ Q) X.xe s := by
  have J := Inv.made (C := C) I
  have want := h _ _ (I.hok.fresh (Nat.le_succ _)) (I.hok.fresh (Nat.le_refl _)) (Nat.ne_of_lt (Nat.lt_succ_self _))
  have r2 : Vals (V.ref (s.heap.objs.size + 1) :: vs) (Value.ref (s.heap.objs.size + 1) :: us) := .cons rfl r
  have bi := hb { s with heap := (s.heap.push PySem.W.emptyDict).push (PySem.W.instObj C s.heap.objs.size) } (Value.ref (s.heap.objs.size + 1) :: us) J.kIn (by rw [List.append_nil, ← r2.length]; exact F.len _ _ _ _ want)
  rw [List.append_nil] at bi
  refine wpAny_call (make_map (f := f) I.kIn M.makes M.init (beq_iff_eq.mp M.fn) (codeAny_mono (F.run _ X.stack _ _ _ _ _ _ E (rm.make C us []) (quiet_make qt C us []) (J.env0.make C us []) bi r2 want) fun r t z => ?_))
  have y := back_of J hx z
  clear z
  match r, y with
  | .error _, y => exact y
  | .ok (.ret u), y =>
    obtain ⟨v, G, J2, ru, ev, q⟩ := y
    subst ev
    exact ⟨ru, V.ref (s.heap.objs.size + 1), G, J2, rfl, q⟩
end
/-- the head: the law's def is called where no repr is under way -/
theorem law_callG {P : Program} {w : World} {K : PySem.W.Frag} {mg mb : Str → Option Value} {k : Nat} {fa a : Addr} {fd : FuncData} {x : Str} {sp : Sp} {t : Shared} {vs : List Value} {ns : List Int}
    (kin : K.In t.heap) (gN : t.heap.Ns mainGlobals mg) (bN : t.heap.Ns builtinsNs mb) (bB : ∀ x : Str, x ≠ "__name__" → mb x = bootBuiltins x) (nl : t.heap.NoLimit) (gz : t.gens = #[])
    (ob : t.heap.get? a = some { cls := .type "list", data := .seq vs.toArray }) (inz : IntsAre vs ns) (fits : ns.length ≤ sizeLine) (rm : Room k callerA)
    (F : ∀ base : Heap, K.In base → base.Ns mainGlobals mg → FnG P w K mg base k fa fd [x] sp) (bi : ∀ (s : Shared) (u : Value), BindsTo s fd ⟨[u], []⟩ [(x, u)])
    (want : ∀ H : Hp, SqL K H a (ns.map V.int) → sp [.ref a] H (fun v _ => v = .bl true) fun _ _ _ => False) :
    codeAny (model P w) callerA (.call (.ref fa) ⟨[.ref a], []⟩) (fun r s' => r = .ok (.ret (.bool true)) ∧ OldK t.heap s'.heap ∧ s'.os = t.os ∧ AllBare s'.gens) t := by
  have vals := vals_ints inz
  have len := inz.length
  suffices go : ∀ H : Hp, (∀ b u, H b = some u → b = a ∧ K.lookup a = none ∧ u = .frz { cls := .type "list", data := .seq vs.toArray } (.lst (ns.map V.int))) → SqL K H a (ns.map V.int) → HOk P w H t.heap →
      codeAny (model P w) callerA (.call (.ref fa) ⟨[.ref a], []⟩) (fun r s' => r = .ok (.ret (.bool true)) ∧ OldK t.heap s'.heap ∧ s'.os = t.os ∧ AllBare s'.gens) t by
    cases lk : K.lookup a with
    | some o =>
      have z := kin a o lk
      rw [ob] at z
      cases z
      exact go (fun _ => none) (fun b u z => nomatch z) (.inr ⟨_, vs.toArray, _, lk, rfl, rfl, rfl, by rw [List.size_toArray, len]; exact fits, by simpa using vals⟩) fun b u z => nomatch z
    | none =>
      have at_ : ∀ b u, (if b = a then some (HO.frz { cls := .type "list", data := .seq vs.toArray } (.lst (ns.map V.int))) else none) = some u → b = a ∧ u = .frz { cls := .type "list", data := .seq vs.toArray } (.lst (ns.map V.int)) := fun b u z => by
        split at z
        · rename_i e; cases z; exact ⟨e, rfl⟩
        · cases z
      refine go (fun b => if b = a then some (.frz { cls := .type "list", data := .seq vs.toArray } (.lst (ns.map V.int))) else none) (fun b u z => ⟨(at_ b u z).1, lk, (at_ b u z).2⟩) (.inl (.inr ⟨_, if_pos rfl⟩)) fun b u z => ?_
      obtain ⟨rfl, rfl⟩ := at_ b u z
      exact ⟨ob, by rw [List.length_map]; exact fits, vs, _, vals, ob⟩
  intro H only sq hok
  have free : ∀ {b : Addr} {o : Obj}, t.heap.get? b = some o → o.data ≠ .seq vs.toArray → H b = none := fun {b o} z ne => by
    cases e : H b with
    | none => rfl
    | some u => obtain ⟨rfl, _⟩ := only b u e; rw [ob] at z; cases z; exact absurd rfl ne
  have names : ∀ {b : Addr} {m : Str → Option Value}, t.heap.Ns b m → (hidT t.heap H).Ns b m := fun {b m} ⟨o, es, ep, z, d, r⟩ => ⟨o, es, ep, hidT_get z (free z (by rw [d]; exact fun z => nomatch z)), d, r⟩
  have kin2 : K.In (hidT t.heap H) := fun b o z => hidT_get (kin b o z) (by
    cases e : H b with
    | none => rfl
    | some u => obtain ⟨rfl, z2, _⟩ := only b u e; rw [z2] at z; cases z)
  have md : Mod K mg (hidT t.heap H) := ⟨kin2, names gN, ⟨mb, names bN, bB⟩, let ⟨mc, z1, z2⟩ := nl; ⟨mc, names z1, z2⟩⟩
  have e0 : Env0 P w K mg (hidT t.heap H) callerA [] t H := ⟨rfl, md, fun b o z => of_hidT z, Nat.le_of_eq (hidT_size _ _), trivial, fun b z => absurd (show b ∈ ([] : List Addr) from z) (by simp), hok, .of_eq gz⟩
  refine codeAny_mono ((F _ kin2 (names gN)).run callerA [] t H ⟨[.ref a], []⟩ [.ref a] [.ref a] _ _ rm rfl e0 (bi t (.ref a)) (.cons rfl .nil) (want H sq)) fun r s' z => ?_
  match r, z with
  | .error e, z => obtain ⟨_, _, _, _, _, _, _, _, _, _, _, _, z⟩ := z; exact z.elim
  | .ok (.ret u), ⟨v, G, os, bare, un, hok', ru, q⟩ =>
    have q : v = .bl true := q
    subst q
    obtain rfl : u = Value.bool true := ru
    refine ⟨rfl, OldK.of_keep fun b o z => ?_, os, bare⟩
    cases e : H b with
    | none => exact un.keep b o z e (by intro y; exact absurd (show b ∈ ([] : List Addr) from y) (by simp)) (by simp)
    | some u =>
      obtain ⟨rfl, _, rfl⟩ := only b u e
      obtain ⟨z2, _⟩ := hok' _ _ (un.frzs _ _ _ e)
      rw [ob] at z
      cases z
      exact z2
theorem walk_g {l : PySem.W.OpenLaw} {n k : Nat} {q : Program} {loose : List Str} {XP : (Str → Option Value) → Heap → Prop} {YP : World → Heap → Prop} {d : DefRec} {K : Params → PySem.W.Frag} {sp : PySem.W.Frag → Sp} {x : Str}
    (hn : l.most = some n) (hn2 : n ≤ sizeLine) (hdf : d.params.defaults = []) (rm : Room k callerA) (hY : ∀ (w : World) (h : Heap), YP w h → (K w.params).In h)
    (F : ∀ (w : World) (mg : Str → Option Value) (fa : Addr) (h : Heap), (K w.params).In h → h.Ns mainGlobals mg → mg d.name = some (.ref fa) →
      ∃ fd : FuncData, (∀ (s : Shared) (u : Value), BindsTo s fd ⟨[u], []⟩ [(x, u)]) ∧ ∀ base : Heap, (K w.params).In base → base.Ns mainGlobals mg → FnG l.prog w (K w.params) mg base k fa fd [x] (sp (K w.params)))
    (want : ∀ (K : PySem.W.Frag) (H : Hp) (a : Addr) (ns : List Int), ns.length ≤ n → SqL K H a (ns.map V.int) → sp K [.ref a] H (fun v _ => v = .bl true) fun _ _ _ => False) :
    PySem.W.WalkO q loose XP YP l.row.toRowW d [] (fun f vs => PySem.call f vs) := by
  refine Att.attach_call hn hdf fun w s₀ t mg mb fa o pm cd doc a vs ns G Y ho hd hcd hmg ob inz hl gz => ?_
  obtain ⟨fd, bi, hF⟩ := F w mg fa _ (hY w _ Y) G.T.g hmg
  exact law_callG (hY w _ Y) G.T.g G.T.b G.T.builtins G.T.nolimit gz ob inz (Nat.le_trans hl hn2) rm hF bi fun H sq => want _ H a ns hl sq
end U
/-! rules by the construct alone: what is asked is found by the values -/
namespace U
open PySem PySem.Spec PyProof.Rows L2 ClX

/-! ### defs, classes, methods as they may be called; what they may raise goes to E -/
structure Fn (P : Program) (w : World) (K : PySem.W.Frag) (mg : Str → Option Value) (base : Heap) (k : Nat) (x : Str) (sp : Sp) : Prop where
  ex : ∃ (f : Addr) (fd : FuncData) (ps : List Str) (ds : List Value) (dvs : List V) (sp' : Sp), FnG P w K mg base k f fd ps sp' ∧ mg x = some (.ref f) ∧ PySem.W.keepIn K (.ref f) = true ∧ Binds K fd ps ds ∧ Vals dvs ds ∧ ∀ vs H Q E, sp vs H Q E → sp' (vs ++ dvs) H Q E
structure Mkr (P : Program) (w : World) (K : PySem.W.Frag) (mg : Str → Option Value) (base : Heap) (k : Nat) (x : Str) (C : Addr) (sp : Sp) : Prop where
  ex : ∃ (f : Addr) (fd : FuncData) (ps : List Str), Mk K C f ∧ FnG P w K mg base k f fd ps sp ∧ mg x = some (.ref C) ∧ Binds K fd ps []
structure Mth (P : Program) (w : World) (K : PySem.W.Frag) (mg : Str → Option Value) (base : Heap) (k : Nat) (C : Addr) (m : Str) (sp : Sp) : Prop where
  ex : ∃ (f : Addr) (fd : FuncData) (ps : List Str), Cls K C ∧ Meth K C m f ∧ FnG P w K mg base k f fd ps sp ∧ Binds K fd ps []

/-- where a call stands: the level at hand and what becomes of an exception (E); in a comprehension's block E is E0 -/
structure At (X : Cx) (j : Nat) (E : XK) : Prop where
  hr : Room j X.A
  hx : Passes (L2.CX X.prog X.w) X E
  qt : Quiet X.A
theorem At.e0 {X : Cx} {j : Nat} (hr : Room j X.A) (qt : Quiet X.A) : At X j E0 := ⟨hr, passL, qt⟩
theorem At.of {X : Cx} {j : Nat} {E : XK} (hr : Room j X.A) (qt : Quiet X.A) (tk : Takes X (fun cls d _ H => E cls d H)) : At X j E := ⟨hr, passes_call tk fun _ _ _ _ h => h, qt⟩

def tFn (P : Program) (w : World) (K : PySem.W.Frag) (mg : Str → Option Value) (base : Heap) (x : Str) (j : Nat) (E : XK) (t : TA) : TE := fun σ H Q => ∃ k sp, Fn P w K mg base k x sp ∧ k ≤ j ∧ t σ H fun vs H1 => sp vs H1 Q E
def tMkr (P : Program) (w : World) (K : PySem.W.Frag) (mg : Str → Option Value) (base : Heap) (x : Str) (j : Nat) (E : XK) (t : TA) : TE := fun σ H Q => ∃ k C sp, Mkr P w K mg base k x C sp ∧ k + 1 ≤ j ∧ t σ H fun vs H1 =>
  ∀ p dx, H1 p = none → H1 dx = none → dx ≠ p → sp (.ref p :: vs) (upd (upd H1 dx (.own p)) p (.ins C dx [])) (fun v H' => v = .non ∧ Q (.ref p) H') E
def tMth (P : Program) (w : World) (K : PySem.W.Frag) (mg : Str → Option Value) (base : Heap) (m : Str) (j : Nat) (E : XK) (ta : TE) (t : TA) : TE := fun σ H Q => ta σ H fun x H1 => ∃ a C dx fs k sp, x = .ref a ∧ H1 a = some (.ins C dx fs) ∧ Mth P w K mg base k C m sp ∧ k ≤ j ∧ fs.lookup m = none ∧
  t σ H1 fun vs H2 => sp (.ref a :: vs) H2 Q E

section
variable {X : Cx} {j : Nat} {E : XK} {x m : Str} {e o : Expr} {es : List Expr} {t : TA} {ta tb te : TE} {p pos apos : Pos}
theorem pe_fn (a : At X j E) (hg : Gl X x) (ha : PA X (e :: es) t)
    (hdb : (x == ("__debug__" : Str)) = false := by decide) (he : starEach (e :: es) X.env = (false, eval e X.env) :: starEach es X.env := by rfl) (hpl : (backTo pos (starEach es X.env)).any (·.1) = false := by rfl) :
    PE X (.Call (.Name x p) (e :: es) [] pos) (tFn X.prog X.w X.K X.mg X.base x j E t) := by
  refine ⟨fun pins s σ H Q I h => ?_⟩
  obtain ⟨k, sp, F, hk, h⟩ := h
  obtain ⟨f, fd, ps, ds, dvs, sp', F, hm, kp, b, rd, im⟩ := F.ex
  refine wpAny_Call_Name_kw (ld_glob I hg hm (PySem.W.callWith_K (h₀ := X.base) I.ok.mod.kin kp (thn (ha.run pos pins s σ H _ I h) fun us s1 ⟨vs, H1, I1, r, q⟩ => ⟨I1.kIn, ?_⟩) he hpl) hdb)
  exact run_gb F (a.hr.mono hk) a.qt b rd a.hx I1 r (im _ _ _ _ q)
theorem pe_fn0 (a : At X j E) (hg : Gl X x) (hdb : (x == ("__debug__" : Str)) = false := by decide) : PE X (.Call (.Name x p) [] [] pos) (tFn X.prog X.w X.K X.mg X.base x j E tNil) := by
  refine ⟨fun pins s σ H Q I h => ?_⟩
  obtain ⟨k, sp, F, hk, h⟩ := h
  obtain ⟨f, fd, ps, ds, dvs, sp', F, hm, kp, b, rd, im⟩ := F.ex
  exact wpAny_Call_Name_kw (ld_glob I hg hm (PySem.W.callWith_K0 I.kIn kp (run_gb (us := []) F (a.hr.mono hk) a.qt b rd a.hx I .nil (im _ _ _ _ h))) hdb)
theorem pe_mkr (a : At X j E) (hg : Gl X x) (ha : PA X (e :: es) t)
    (hdb : (x == ("__debug__" : Str)) = false := by decide) (he : starEach (e :: es) X.env = (false, eval e X.env) :: starEach es X.env := by rfl) (hpl : (backTo pos (starEach es X.env)).any (·.1) = false := by rfl) :
    PE X (.Call (.Name x p) (e :: es) [] pos) (tMkr X.prog X.w X.K X.mg X.base x j E t) := by
  refine ⟨fun pins s σ H Q I h => ?_⟩
  obtain ⟨k, C, sp, F, hk, h⟩ := h
  obtain ⟨f, fd, ps, M, F, hm, b⟩ := F.ex
  refine wpAny_Call_Name_kw (ld_glob I hg hm (PySem.W.callWith_K (h₀ := X.base) I.ok.mod.kin M.kp (thn (ha.run pos pins s σ H _ I h) fun us s1 ⟨vs, H1, I1, r, q⟩ => ⟨I1.kIn, ?_⟩) he hpl) hdb)
  exact run_mkG M F (a.hr.mono hk) a.qt b a.hx I1 r q
theorem pe_mkr0 (a : At X j E) (hg : Gl X x) (hdb : (x == ("__debug__" : Str)) = false := by decide) : PE X (.Call (.Name x p) [] [] pos) (tMkr X.prog X.w X.K X.mg X.base x j E tNil) := by
  refine ⟨fun pins s σ H Q I h => ?_⟩
  obtain ⟨k, C, sp, F, hk, h⟩ := h
  obtain ⟨f, fd, ps, M, F, hm, b⟩ := F.ex
  exact wpAny_Call_Name_kw (ld_glob I hg hm (PySem.W.callWith_K0 I.kIn M.kp (run_mkG (us := []) M F (a.hr.mono hk) a.qt b a.hx I .nil h)) hdb)
theorem pe_mth {pl : Sem Bool} (a : At X j E) (ho : PE X o ta) (ha : PA X (e :: es) t)
    (hst : starEach (e :: es) X.env = (false, eval e X.env) :: starEach es X.env := by rfl) (hpl : (backTo pos (starEach es X.env)).any (·.1) = false := by rfl)
    (ht : eval (.Call (.Attribute o m apos) (e :: es) [] pos) X.env = (do
      let ov ← eval o X.env
      standAt apos.atName
      let (f, first) ← holding [ov] (getMethod ov m pl)
      callWith pos f first (backTo pos (starEach (e :: es) X.env)) (backToKw pos (keywordEach [] X.env))) := by rfl) :
    PE X (.Call (.Attribute o m apos) (e :: es) [] pos) (tMth X.prog X.w X.K X.mg X.base m j E ta t) := by
  refine ⟨fun pins s σ H Q I h => PySem.W.methodCall_KW (pl := pl) (thn (ho.run pins s σ H _ I h) fun u s1 ⟨x, H1, I1, rx, y, C, dx, fs, k, sp, ex, ea, M, hk, l, q⟩ => ?_) ht⟩
  subst ex
  obtain rfl : u = Value.ref y := rx
  obtain ⟨f, fd, ps, c, hm, F, b⟩ := M.ex
  refine getmeth_ok I1 ea c hm l (PySem.W.callWith_K (first := [.ref y]) (h₀ := X.base) I.ok.mod.kin hm.kp (thn (ha.run pos pins s1 σ H1 _ I1 q) fun us s2 ⟨vs, H2, I2, r, q2⟩ => ⟨I2.kIn, ?_⟩) hst hpl)
  exact run_gb (us := .ref y :: us) (vs := .ref y :: vs) F (a.hr.mono hk) a.qt b .nil a.hx I2 (.cons rfl r) (by rw [List.append_nil]; exact q2)
theorem pe_mth0 {pl : Sem Bool} (a : At X j E) (ho : PE X o ta)
    (ht : eval (.Call (.Attribute o m apos) [] [] pos) X.env = (do
      let ov ← eval o X.env
      standAt apos.atName
      let (f, first) ← holding [ov] (getMethod ov m pl)
      callWith pos f first (backTo pos (starEach [] X.env)) (backToKw pos (keywordEach [] X.env))) := by rfl) :
    PE X (.Call (.Attribute o m apos) [] [] pos) (tMth X.prog X.w X.K X.mg X.base m j E ta tNil) := by
  refine ⟨fun pins s σ H Q I h => PySem.W.methodCall_KW (pl := pl) (thn (ho.run pins s σ H _ I h) fun u s1 ⟨x, H1, I1, rx, y, C, dx, fs, k, sp, ex, ea, M, hk, l, q⟩ => ?_) ht⟩
  subst ex
  obtain rfl : u = Value.ref y := rx
  obtain ⟨f, fd, ps, c, hm, F, b⟩ := M.ex
  exact getmeth_ok I1 ea c hm l (PySem.W.callWith_K0 (first := [.ref y]) I1.kIn hm.kp (run_gb (us := [.ref y]) (vs := [.ref y]) F (a.hr.mono hk) a.qt b .nil a.hx I1 (.cons rfl .nil) q))

/-! ### attributes -/
/-- reading the attribute f of what stands at a gives v -/
inductive Att (P : Program) (w : World) (K : PySem.W.Frag) (mg : Str → Option Value) (base : Heap) (H : Hp) (a : Addr) (f : Str) (v : V) : Prop where
  | fld {C dx : Addr} {fs : List (Str × V)} (h : H a = some (.ins C dx fs)) (c : Cls K C) (n : NoAttr K C f) (l : fs.lookup f = some v)
  | con {C dx : Addr} {fs : List (Str × V)} {u : Value} (h : H a = some (.ins C dx fs)) (c : Cls K C) (k : Con K C f v u) (l : fs.lookup f = none)
  | prop {C dx p g : Addr} {fs : List (Str × V)} {f' : Str} {fd : FuncData} (h : H a = some (.ins C dx fs)) (c : Cls K C) (pr : PropOf K C f p g) (F : FnOk P w K mg base (L2.CX P w) 1 g fd ["self"] (getSp C f')) (b : Binds K fd ["self"] []) (l : fs.lookup f' = some v)
  | cls {mc u : Value} (r : CRead K a mc) (k : CVal K a mc f v u)
def tAtt (P : Program) (w : World) (K : PySem.W.Frag) (mg : Str → Option Value) (base : Heap) (f : Str) (ta : TE) : TE := fun σ H Q => ta σ H fun x H1 => ∃ a v, x = .ref a ∧ Att P w K mg base H1 a f v ∧ Q v H1
theorem pe_att {f : Str} (hr : Room j X.A) (he : PE X e ta) (hj : 2 ≤ j := by decide) (hab : attributeBase e f X.env (eval e X.env) = eval e X.env := by rfl) : PE X (.Attribute e f pos) (tAtt X.prog X.w X.K X.mg X.base f ta) := by
  refine ⟨fun pins s σ H Q I h => attr_of hab (thn (he.run pins s σ H _ I h) fun u s1 ⟨x, H1, I1, rx, a, v, ex, at_, q⟩ => ?_)⟩
  subst ex
  obtain rfl : u = Value.ref a := rx
  cases at_ with
  | fld h c n l => exact getattr_ok I1 h c n l fun u' s2 I2 ru => ⟨v, H1, I2, ru, q⟩
  | con h c k l => exact getcon_ok I1 h c k l fun s2 I2 => ⟨v, H1, I2, k.rel, q⟩
  | prop h c pr F b l => exact getprop_ok (E := E0) (dvs := []) I1 h c pr F (hr.mono hj) b .nil passL ⟨a, _, _, v, rfl, h, l, q⟩
  | cls r k => exact getcval_ok I1 r k fun s2 I2 => ⟨v, H1, I2, k.rel, q⟩

/-! ### operators by the values -/
def uAdd : R2 := fun x y H Q => match x, y with
  | .int i, .int j => Q (.int (i + j)) H
  | .str a, .str b => a.length + b.length ≤ sizeLine ∧ Q (.str (a ++ b)) H
  | .ref l, .ref b => ∃ xs zs, H l = some (.lst xs) ∧ H b = some (.lst zs) ∧ xs.length + zs.length ≤ sizeLine ∧ ∀ p, H p = none → Q (.ref p) (upd H p (.lst (xs ++ zs)))
  | _, _ => False
theorem op_uAdd : OpR X (binaryOp .Add) uAdd := by
  intro pins s σ H x y v u Q I rx ry h
  match x, y, h with
  | .int i, .int j, h => exact op_add pins s σ H _ _ v u Q I rx ry ⟨i, j, rfl, rfl, h⟩
  | .str a, .str b, h => exact op_add_str pins s σ H _ _ v u Q I rx ry ⟨a, b, rfl, rfl, h⟩
  | .ref l, .ref b, h =>
    obtain ⟨xs, zs, h⟩ := h
    exact op_cat pins s σ H _ _ v u Q I rx ry ⟨l, b, xs, zs, rfl, rfl, h⟩
def uSub : R2 := fun x y H Q => match x, y with
  | .int i, .int j => Q (.int (i - j)) H
  | _, _ => False
theorem op_uSub : OpR X (binaryOp .Sub) uSub := by
  intro pins s σ H x y v u Q I rx ry h
  match x, y, h with
  | .int i, .int j, h => exact op_sub pins s σ H _ _ v u Q I rx ry ⟨i, j, rfl, rfl, h⟩
def uMul : R2 := fun x y H Q => match x, y with
  | .int i, .int j => CMul i j ∧ Q (.int (i * j)) H
  | .ref l, .int k => ∃ xs, H l = some (.lst xs) ∧ -(2 ^ 63) ≤ k ∧ k < 2 ^ 63 ∧ xs.length * k.toNat ≤ sizeLine ∧ ∀ p, H p = none → Q (.ref p) (upd H p (.lst (List.replicate k.toNat xs).flatten))
  | _, _ => False
theorem op_uMul : OpR X (binaryOp .Mult) uMul := by
  intro pins s σ H x y v u Q I rx ry h
  match x, y, h with
  | .int i, .int j, h => exact op_mul pins s σ H _ _ v u Q I rx ry ⟨i, j, rfl, rfl, h⟩
  | .ref l, .int k, h =>
    obtain ⟨xs, h⟩ := h
    exact op_rep pins s σ H _ _ v u Q I rx ry ⟨l, k, xs, rfl, rfl, h⟩
def uDiv : R2 := fun x y H Q => match x, y with
  | .int i, .int j => (0 < j ∧ j.natAbs.log2 < 9000) ∧ Q (.int (i / j)) H
  | _, _ => False
theorem op_uDiv : OpR X (binaryOp .FloorDiv) uDiv := by
  intro pins s σ H x y v u Q I rx ry h
  match x, y, h with
  | .int i, .int j, h => exact op_fdivW pins s σ H _ _ v u Q I rx ry ⟨i, j, rfl, rfl, h⟩
def uMod : R2 := fun x y H Q => match x, y with
  | .int i, .int j => 0 < j ∧ Q (.int (i % j)) H
  | _, _ => False
theorem op_uMod : OpR X (binaryOp .Mod) uMod := by
  intro pins s σ H x y v u Q I rx ry h
  match x, y, h with
  | .int i, .int j, h => exact op_mod pins s σ H _ _ v u Q I rx ry ⟨i, j, rfl, rfl, h⟩
def uPow : R2 := fun x y H Q => match x, y with
  | .int i, .int j => (0 ≤ j ∧ (Builtin.Int.intBits i : Int) * j ≤ 2 ^ 27) ∧ Q (.int (i ^ j.toNat)) H
  | _, _ => False
theorem op_uPow : OpR X (binaryOp .Pow) uPow := by
  intro pins s σ H x y v u Q I rx ry h
  match x, y, h with
  | .int i, .int j, h =>
    exact opI (C := fun i j => 0 ≤ j ∧ (Builtin.Int.intBits i : Int) * j ≤ 2 ^ 27) (g := fun i j => i ^ j.toNat) (fun _ _ _ _ _ _ _ hc q => pow_int hc.1 hc.2 q) pins s σ H _ _ v u Q I rx ry ⟨i, j, rfl, rfl, h⟩
def uCmp (g : Int → Int → Bool) (gs : List Nat → List Nat → Bool) : R2 := fun x y H Q => match x, y with
  | .int i, .int j => Q (.bl (g i j)) H
  | .str a, .str b => Q (.bl (gs a.cps.toList b.cps.toList)) H
  | _, _ => False
def uLt : R2 := uCmp (fun i j => decide (i < j)) (fun a b => decide (a < b))
def uLe : R2 := uCmp (fun i j => decide (i ≤ j)) (fun a b => !decide (b < a))
def uGt : R2 := uCmp (fun i j => decide (j < i)) (fun a b => decide (b < a))
def uGe : R2 := uCmp (fun i j => decide (j ≤ i)) (fun a b => !decide (a < b))
theorem op_uLt : OpR X (compareOp .Lt) uLt := by
  intro pins s σ H x y v u Q I rx ry h
  match x, y, h with
  | .int i, .int j, h => exact op_lt pins s σ H _ _ v u Q I rx ry ⟨i, j, rfl, rfl, h⟩
  | .str i, .str j, h => exact op_lt_str pins s σ H _ _ v u Q I rx ry ⟨i, j, rfl, rfl, h⟩
theorem op_uLe : OpR X (compareOp .LtE) uLe := by
  intro pins s σ H x y v u Q I rx ry h
  match x, y, h with
  | .int i, .int j, h => exact op_le pins s σ H _ _ v u Q I rx ry ⟨i, j, rfl, rfl, h⟩
  | .str i, .str j, h => exact op_le_str pins s σ H _ _ v u Q I rx ry ⟨i, j, rfl, rfl, h⟩
theorem op_uGt : OpR X (compareOp .Gt) uGt := by
  intro pins s σ H x y v u Q I rx ry h
  match x, y, h with
  | .int i, .int j, h => exact op_gt pins s σ H _ _ v u Q I rx ry ⟨i, j, rfl, rfl, h⟩
  | .str i, .str j, h => exact op_gt_str pins s σ H _ _ v u Q I rx ry ⟨i, j, rfl, rfl, h⟩
theorem op_uGe : OpR X (compareOp .GtE) uGe := by
  intro pins s σ H x y v u Q I rx ry h
  match x, y, h with
  | .int i, .int j, h => exact op_ge pins s σ H _ _ v u Q I rx ry ⟨i, j, rfl, rfl, h⟩
  | .str i, .str j, h => exact op_ge_str pins s σ H _ _ v u Q I rx ry ⟨i, j, rfl, rfl, h⟩
/-- x == y: scalars; else data of any depth, or two lists of unlike lengths -/
def uEqB (K : PySem.W.Frag) (neg : Bool) : R2 := fun x y H Q =>
  (∃ d e, Dp K H x d ∧ Dp K H y e ∧ SeqAt.shaped d = true ∧ SeqAt.shaped e = true ∧ Q (.bl (if neg = true then !PyData.eqv d e else PyData.eqv d e)) H) ∨
  (∃ p q xs ys, x = .ref p ∧ y = .ref q ∧ SqL K H p xs ∧ SqL K H q ys ∧ xs.length ≠ ys.length ∧ Q (.bl neg) H)
def uEq (K : PySem.W.Frag) : R2 := fun x y H Q => if scal x y = true then Q (.bl (decide (x = y))) H else uEqB K false x y H Q
def uNe (K : PySem.W.Frag) : R2 := fun x y H Q => if scal x y = true then Q (.bl (!decide (x = y))) H else uEqB K true x y H Q
theorem len_ne {p q : Addr} {xs ys : List V} {pins : List (Addr × Obj)} {s : Shared} {σ : L2.St} {H : Hp} (I : Inv X pins σ H s) (h1 : SqL X.K H p xs) (h2 : SqL X.K H q ys) (hn : xs.length ≠ ys.length) :
    ∃ its its2 : Array Value, s.heap.IsList p its ∧ s.heap.IsList q its2 ∧ (its.size != its2.size) = true := by
  obtain ⟨its, r, pl, _⟩ := I.list h1
  obtain ⟨its2, r2, pl2, _⟩ := I.list h2
  refine ⟨_, _, pl.isList, pl2.isList, ?_⟩
  have e1 := r.length
  have e2 := r2.length
  simp only [List.size_toArray, bne_iff_ne, ne_eq]
  omega
theorem op_uEq (hr : Room j X.A) : OpR X (compareOp .Eq) (uEq X.K) := by
  intro pins s σ H x y v u Q I rx ry h
  unfold uEq at h
  split at h
  · rename_i c; exact op_eq pins s σ H _ _ v u Q I rx ry ⟨c, h⟩
  · rcases h with h | ⟨p, q, xs, ys, rfl, rfl, h1, h2, hn, h⟩
    · exact op_eqD hr.units pins s σ H _ _ v u Q I rx ry h
    · cases rx
      cases ry
      obtain ⟨its, its2, l1, l2, ne⟩ := len_ne I h1 h2 hn
      exact SeqAt.RcAt.lists_lengths l1 l2 ne hr.units0 X.prog X.w _ _ ⟨.bl false, H, I, rfl, h⟩
theorem op_uNe (hr : Room j X.A) : OpR X (compareOp .NotEq) (uNe X.K) := by
  intro pins s σ H x y v u Q I rx ry h
  unfold uNe at h
  split at h
  · rename_i c; exact op_ne pins s σ H _ _ v u Q I rx ry ⟨c, h⟩
  · rcases h with h | ⟨p, q, xs, ys, rfl, rfl, h1, h2, hn, h⟩
    · exact op_neD hr.units pins s σ H _ _ v u Q I rx ry h
    · cases rx
      cases ry
      obtain ⟨its, its2, l1, l2, ne⟩ := len_ne I h1 h2 hn
      exact SeqAt.RcNeAt.lists_lengths l1 l2 ne hr.units0 X.prog X.w _ _ ⟨.bl true, H, I, rfl, h⟩
/-- in, not in: a sign in a text, a flat value in a list or tuple -/
def uIn (K : PySem.W.Frag) (neg : Bool) : R2 := fun x y H Q => match y with
  | .str z => ∃ c : Nat, x = .str ⟨#[c]⟩ ∧ Q (.bl (if neg = true then !decide (c ∈ z.cps.toList) else decide (c ∈ z.cps.toList))) H
  | .ref p => (∃ xs, (SqL K H p xs ∨ SqT K H p xs) ∧ flatV x = true ∧ xs.all flatV = true ∧ Q (.bl (if neg = true then !inV x xs else inV x xs)) H) ∨
    (∃ d ds, Dp K H x d ∧ Dp K H (.ref p) (.list ds) ∧ SeqAt.shaped d = true ∧ SeqAt.shaped (.list ds) = true ∧ Q (.bl (if neg = true then !ds.any fun z => PyData.eqv z d else ds.any fun z => PyData.eqv z d)) H) ∨
    ∃ o, DGet H p x o ∧ Q (.bl (if neg = true then !o.isSome else o.isSome)) H
  | _ => False
theorem units65 (hr : Room j X.A) : X.A.units + 65 < cLine := by
  have := hr.un
  omega
theorem op_uIn (hr : Room j X.A) : OpR X (compareOp .In) (uIn X.K false) := by
  intro pins s σ H x y v u Q I rx ry h
  match y, h with
  | .str z, h => obtain ⟨c, e, h⟩ := h; exact op_in_sign pins s σ H _ _ v u Q I rx ry ⟨c, z, e, rfl, h⟩
  | .ref p, .inl h => obtain ⟨xs, h1, h2, h3, h⟩ := h; exact op_in_seq pins s σ H _ _ v u Q I rx ry ⟨p, xs, rfl, h1, h2, h3, h⟩
  | .ref p, .inr (.inl h) => exact op_inD (units65 hr) pins s σ H _ _ v u Q I rx ry h
  | .ref p, .inr (.inr h) =>
    obtain ⟨o, g, q⟩ := h
    obtain rfl : u = Value.ref p := ry
    exact d_in (hu_of hr) I g rx fun s3 I3 => ⟨.bl o.isSome, H, I3, rfl, q⟩
theorem op_uNotIn (hr : Room j X.A) : OpR X (compareOp .NotIn) (uIn X.K true) := by
  intro pins s σ H x y v u Q I rx ry h
  match y, h with
  | .str z, h => obtain ⟨c, e, h⟩ := h; exact op_notIn_sign pins s σ H _ _ v u Q I rx ry ⟨c, z, e, rfl, h⟩
  | .ref p, .inl h => obtain ⟨xs, h1, h2, h3, h⟩ := h; exact op_notIn_seq pins s σ H _ _ v u Q I rx ry ⟨p, xs, rfl, h1, h2, h3, h⟩
  | .ref p, .inr (.inl h) => exact op_notInD (units65 hr) pins s σ H _ _ v u Q I rx ry h
  | .ref p, .inr (.inr h) =>
    obtain ⟨o, g, q⟩ := h
    obtain rfl : u = Value.ref p := ry
    exact d_notIn (hu_of hr) I g rx fun s3 I3 => ⟨.bl (!o.isSome), H, I3, rfl, q⟩
/-- x is None -/
def uIs : R2 := fun x y H Q => y = .non ∧ Q (.bl (decide (x = .non))) H
def uIsNot : R2 := fun x y H Q => y = .non ∧ Q (.bl (!decide (x = .non))) H
theorem op_uIs : OpR X (compareOp .Is) uIs := op_isN
theorem op_uIsNot : OpR X (compareOp .IsNot) uIsNot := op_notN
/-- x[i] -/
def uIx (K : PySem.W.Frag) : R2 := fun x y H Q => match x, y with
  | .ref p, .int i => ∃ xs v, (SqL K H p xs ∨ SqT K H p xs) ∧ atI xs i = some v ∧ Q v H
  | .str z, .int i => ∃ c, z.length ≤ sizeLine ∧ atI z.cps.toList i = some c ∧ Q (.str ⟨#[c]⟩) H
  | _, _ => False
theorem ix_u : IxR X (uIx X.K) := by
  intro value slice pins s σ H x y v u Q I rx ry h hs
  match x, y, h with
  | .ref p, .int i, h =>
    obtain ⟨xs, v, h1, h2, h⟩ := h
    exact ix_seq value slice pins s σ H _ _ _ u Q I rx ry (h1.elim (fun z => .inl ⟨p, xs, i, v, rfl, rfl, z, h2, h⟩) fun z => .inr (.inl ⟨p, xs, i, v, rfl, rfl, z, h2, h⟩)) hs
  | .str z, .int i, h =>
    obtain ⟨c, h1, h2, h⟩ := h
    exact ix_seq value slice pins s σ H _ _ _ u Q I rx ry (.inr (.inr ⟨z, i, c, rfl, rfl, h1, h2, h⟩)) hs
/-- -x -/
def uNeg : V → Hp → VK → Prop := fun x H Q => match x with
  | .int i => Q (.int (-i)) H
  | _ => False
theorem un_uNeg : UnR X (unaryOp .USub) uNeg := by
  intro pins s σ H x v Q I rx h
  match x, h with
  | .int i, h => exact un_neg pins s σ H _ v Q I rx ⟨i, rfl, h⟩

/-! ### calls of builtins by the values -/
def cLen (K : PySem.W.Frag) : List V → Hp → VK → Prop := fun xs H Q => match xs with
  | [.ref p] => ∃ ys, (SqL K H p ys ∨ SqT K H p ys) ∧ Q (.int ys.length) H
  | [.str z] => z.length ≤ sizeLine ∧ Q (.int z.length) H
  | _ => False
theorem call_cLen : CallR X (.builtin "len") (cLen X.K) := by
  intro pins s σ H xs us Q I r h
  match xs, h with
  | [.ref p], h => obtain ⟨ys, h⟩ := h; exact call_len_seq pins s σ H _ us Q I r ⟨p, ys, rfl, h⟩
  | [.str z], h => exact call_len_str pins s σ H _ us Q I r ⟨z, rfl, h⟩
def cAbs : List V → Hp → VK → Prop := fun xs H Q => match xs with
  | [.int i] => Q (.int (if i < 0 then -i else i)) H
  | _ => False
theorem call_cAbs : CallR X (.builtin "abs") cAbs := by
  intro pins s σ H xs us Q I r h
  match xs, h with
  | [.int i], h => exact call_abs pins s σ H _ us Q I r ⟨i, rfl, h⟩
def cMax (K : PySem.W.Frag) : List V → Hp → VK → Prop := fun xs H Q => match xs with
  | [.int i, .int j] => Q (.int (if j > i then j else i)) H
  | [.ref p] => ∃ ns : List Int, SqL K H p (ns.map V.int) ∧ 0 < ns.length ∧ ∀ m, m ∈ ns → (∀ y ∈ ns, y ≤ m) → Q (.int m) H
  | _ => False
theorem call_cMax (hc : X.calm = true) : CallR X (.builtin "max") (cMax X.K) := by
  intro pins s σ H xs us Q I r h
  match xs, h with
  | [.int i, .int j], h => exact call_max2 hc pins s σ H _ us Q I r ⟨i, j, rfl, h⟩
  | [.ref p], h => obtain ⟨ns, h1, h2, h⟩ := h; exact cr_max hc pins s σ H _ us Q I r ⟨p, ns, rfl, h1, h2, h⟩
def cMin (K : PySem.W.Frag) : List V → Hp → VK → Prop := fun xs H Q => match xs with
  | [.int i, .int j] => Q (.int (if j < i then j else i)) H
  | _ => False
theorem call_cMin (hc : X.calm = true) : CallR X (.builtin "min") (cMin X.K) := by
  intro pins s σ H xs us Q I r h
  match xs, h with
  | [.int i, .int j], h => exact call_min2 hc pins s σ H _ us Q I r ⟨i, j, rfl, h⟩
def cAll (K : PySem.W.Frag) : List V → Hp → VK → Prop := fun xs H Q => match xs with
  | [.ref p] => ∃ bs : List Bool, SqL K H p (bs.map V.bl) ∧ Q (.bl (bs.all id)) H
  | _ => False
theorem call_cAll (hc : X.calm = true) : CallR X (.builtin "all") (cAll X.K) := by
  intro pins s σ H xs us Q I r h
  match xs, h with
  | [.ref p], h => obtain ⟨bs, h⟩ := h; exact cr_all hc pins s σ H _ us Q I r ⟨p, bs, rfl, h⟩
def cList (K : PySem.W.Frag) : List V → Hp → VK → Prop := fun xs H Q => match xs with
  | [.ref p] => ∃ ys, (SqL K H p ys ∨ SqT K H p ys) ∧ ∀ l, H l = none → Q (.ref l) (upd H l (.lst ys))
  | _ => False
theorem call_cList : CallR X (.type "list") (cList X.K) := by
  intro pins s σ H xs us Q I r h
  match xs, h with
  | [.ref p], h => obtain ⟨ys, h⟩ := h; exact call_list_of pins s σ H _ us Q I r ⟨p, ys, rfl, h⟩
/-- sorted of ints -/
def cSort (K : PySem.W.Frag) : List V → Hp → VK → Prop := fun xs H Q => match xs with
  | [.ref p] => ∃ ns : List Int, SqL K H p (ns.map V.int) ∧ ∀ (ns' : List Int) (l : Addr), ns'.Perm ns → ns'.Pairwise (· ≤ ·) → H l = none → Q (.ref l) (upd H l (.lst (ns'.map V.int)))
  | _ => False
/-- isinstance(x, c) -/
def Isi (K : PySem.W.Frag) (H : Hp) (x c : V) (b : Bool) : Prop := ∃ (t u : Value), ClsV c u ∧ TyX K H x t ∧ PySem.W.kitOne K t u = some b
def cIsi (K : PySem.W.Frag) : List V → Hp → VK → Prop := fun xs H Q => match xs with
  | [x, c] => ∃ b, Isi K H x c b ∧ Q (.bl b) H
  | _ => False
theorem call_cIsi : CallR X (.builtin "isinstance") (cIsi X.K) := by
  intro pins s σ H xs us Q I r h
  match xs, h with
  | [x, c], h => obtain ⟨b, ⟨t, u, h1, h2, h3⟩, h⟩ := h; exact call_isi pins s σ H _ us Q I r ⟨x, c, t, u, b, rfl, h1, h2, h3, h⟩
theorem call_cSort : CallR X (.builtin "sorted") (cSort X.K) := by
  intro pins s σ H xs us Q I r h
  match xs, h with
  | [.ref p], h => obtain ⟨ns, h⟩ := h; exact cr_sortedI pins s σ H _ us Q I r ⟨p, ns, rfl, h⟩
/-- sorted of texts -/
def cSortS (K : PySem.W.Frag) : List V → Hp → VK → Prop := fun xs H Q => match xs with
  | [.ref p] => ∃ zs : List Str, SqL K H p (zs.map V.str) ∧ zs.length < 64 ∧ ∀ (ys : List Str) (l : Addr), ys.Perm zs → sortedS ys = true → H l = none → Q (.ref l) (upd H l (.lst (ys.map V.str)))
  | _ => False
theorem call_cSortS : CallR X (.builtin "sorted") (cSortS X.K) := by
  intro pins s σ H xs us Q I r h
  match xs, h with
  | [.ref p], h => obtain ⟨zs, h⟩ := h; exact cr_sortedS pins s σ H _ us Q I r ⟨p, zs, rfl, h⟩
/-- sorted of a dict with ints as keys -/
def cSortD : List V → Hp → VK → Prop := fun xs H Q => match xs with
  | [.ref p] => ∃ (kvs : List (Key × V)) (ks : List Int), H p = some (.dK kvs) ∧ kvs.map (·.1) = ks.map Sum.inl ∧ ks.length < 64 ∧ ∀ (ys : List Int) (l : Addr), ys.Perm ks → ys.Pairwise (· ≤ ·) → H l = none → Q (.ref l) (upd H l (.lst (ys.map V.int)))
  | _ => False
theorem call_cSortD (hc : X.calm = true) : CallR X (.builtin "sorted") cSortD := by
  intro pins s σ H xs us Q I r h
  match xs, h with
  | [.ref p], h => obtain ⟨kvs, ks, h1, h2, h3, h⟩ := h; exact call_sortedDI hc pins s σ H _ us Q I r ⟨p, kvs, ks, rfl, .of h1, h2, h3, h⟩
/-- int(x) -/
def cInt : List V → Hp → VK → Prop := fun xs H Q => match xs with
  | [.int i] => Q (.int i) H
  | [.bl k] => Q (.int (if k = true then 1 else 0)) H
  | _ => False
theorem call_cInt : CallR X (.type "int") cInt := by
  intro pins s σ H xs us Q I r h
  match xs, h with
  | [.int i], h => exact call_int1 pins s σ H _ us Q I r (.inl ⟨i, rfl, h⟩)
  | [.bl k], h => exact call_int1 pins s σ H _ us Q I r (.inr ⟨k, rfl, h⟩)
def cTuple (K : PySem.W.Frag) : List V → Hp → VK → Prop := fun xs H Q => match xs with
  | [.ref p] => ∃ ys, (SqL K H p ys ∧ ∀ l, H l = none → Q (.ref l) (upd H l (.tup ys))) ∨ (SqT K H p ys ∧ Q (.ref p) H)
  | _ => False
theorem call_cTuple : CallR X (.type "tuple") (cTuple X.K) := by
  intro pins s σ H xs us Q I r h
  match xs, h with
  | [.ref p], h => obtain ⟨ys, h⟩ := h; exact call_tuple_of pins s σ H _ us Q I r ⟨p, ys, rfl, h⟩
/-- dict(pairs) -/
def cDict (K : PySem.W.Frag) : List V → Hp → VK → Prop := fun xs H Q => match xs with
  | [.ref p] => ∃ (ps : List Addr) (kvs : List (Key × V)), SqL K H p (ps.map V.ref) ∧ Paired (fun p kv => SqT K H p [kV kv.1, kv.2]) ps kvs ∧ ∀ l, H l = none → Q (.ref l) (upd H l (.dK (mergeK [] kvs)))
  | _ => False
theorem call_cDict (hc : X.calm = true) : CallR X (.type "dict") (cDict X.K) := by
  intro pins s σ H xs us Q I r h
  match xs, h with
  | [.ref p], h => obtain ⟨ps, kvs, h1, h2, h⟩ := h; exact call_dictP hc pins s σ H _ us Q I r ⟨p, ps, kvs, rfl, h1, h2, h⟩
/-- repr(int), repr(data) -/
def cRepr (K : PySem.W.Frag) : List V → Hp → VK → Prop := fun xs H Q => match xs with
  | [.int i] => i.natAbs.log2 < 1920 ∧ Q (.str (toString i)) H
  | [.non] => Q (.str "None") H
  | [.ref p] => ∃ d, Dp K H (.ref p) d ∧ d.showable = true ∧ d.hasDict = false ∧ d.depth ≤ 60 ∧ d.shown.length ≤ sizeLine ∧ Q (.str d.shown) H
  | _ => False
theorem call_cRepr (hr : Room j X.A) (qt : Quiet X.A) : CallR X (.builtin "repr") (cRepr X.K) := by
  intro pins s σ H xs us Q I r h
  match xs, h with
  | [.int i], h => exact SkE.call_repr_int pins s σ H _ us Q I r ⟨i, rfl, h⟩
  | [.non], h =>
    cases r with
    | cons r0 r1 =>
      cases r1
      obtain rfl : _ = Value.none := r0
      exact PySem.P.repr_of_none ⟨.str "None", H, I.tok _, ⟨_, rfl⟩, h⟩
  | [.ref p], h =>
    obtain ⟨d, dp, sh, nd, de, sz, q⟩ := h
    cases r with
    | cons r0 r1 =>
      cases r1
      cases r0
      obtain ⟨as, rd⟩ := Dp.reads I d (.ref p) (.ref p) dp rfl
      refine repr_of_reads' rd sh (fun z => by rw [nd] at z; cases z) qt (by have := hr.un; omega) (fun _ _ z => z) (fun h' u tk kp => ?_) sz
      exact ⟨.str d.shown, H, I.kept (t' := tk) kp, ⟨_, rfl⟩, q⟩

/-! ### x *= y -/
def ipM : TIp := fun x y H Q => ∃ i j, x = .int i ∧ y = .int j ∧ CMul i j ∧ Q (.int (i * j)) H
theorem ip_mul : PIp X .Mult ipM := by
  intro pins s σ H x y v u Q I r1 r2 h
  obtain ⟨i, j, rfl, rfl, c, q⟩ := h
  obtain ⟨t, rfl⟩ := r1
  obtain ⟨t', rfl⟩ := r2
  exact imul_int ⟨.int _, H, I.tok _, ⟨_, rfl⟩, q⟩ c.ok
/-! ### names of the module -/
theorem pe_g {v : V} (hg : Gl X x) (h : ∃ u, X.mg x = some u ∧ RelV v u) (hdb : (x == ("__debug__" : Str)) = false := by decide) : PE X (.Name x pos) (tC v) := by
  obtain ⟨u, hm, r⟩ := h
  exact pe_glob hg hm r hdb
/-! ### a, b, c = x, y, z: three locals -/
def tPar3 (i j k : Nat) (ta : TA) : TS := fun D σ H => ta σ H fun vs H1 => ∃ v w z, vs = [v, w, z] ∧ D.nx (((σ.set i (some v)).set j (some w)).set k (some z)) H1
theorem ps_par3 {i j k : Nat} {x y z : Str} {a b c : Expr} {ta : TA} {px py pz pt : Pos} {kt k2 pt2} (hc : X.calm = true) (hN : X.N.Nodup) (hi : X.N[i]? = some x) (hj : X.N[j]? = some y) (hk : X.N[k]? = some z) (hij : i ≠ j) (hik : i ≠ k) (hjk : j ≠ k)
    (hx : X.env.scope.names.lookup x = some .local) (hy : X.env.scope.names.lookup y = some .local) (hz : X.env.scope.names.lookup z = some .local) (ha : PA X [a, b, c] ta)
    (hw : swappedStores [.Tuple [.Name x px, .Name y py, .Name z pz] kt pt] (.Tuple [a, b, c] k2 pt2) X.env = pure (some [x, y, z]))
    (hs : swapsWithSole [.Tuple [.Name x px, .Name y py, .Name z pz] kt pt] (.Tuple [a, b, c] k2 pt2) pos.line X.env = pure false := by rfl) :
    PS X (.Assign [.Tuple [.Name x px, .Name y py, .Name z pz] kt pt] (.Tuple [a, b, c] k2 pt2) pos) (tPar3 i j k ta) := by
  refine ⟨fun pins s σ H D I h => ?_⟩
  rw [exec_Assign_arm]
  refine wpAny_bind (wpAny_standAt ?_)
  rw [hs]
  refine wpAny_bind (wpAny_pure ?_)
  rw [if_neg (by decide)]
  refine wpAny_bind (Tuple_ (thn (ha.run _ pins s σ H _ I h) fun us s1 ⟨vs, H1, I1, r1, v, w, q, e1, q1⟩ => ?_))
  subst e1
  obtain ⟨u1, u2, u3, rfl, rv, rw', rq⟩ : ∃ u1 u2 u3, us = [u1, u2, u3] ∧ RelV v u1 ∧ RelV w u2 ∧ RelV q u3 := by
    cases r1 with
    | cons a1 r1 =>
      cases r1 with
      | cons a2 r1 =>
        cases r1 with
        | cons a3 r1 => cases r1; exact ⟨_, _, _, rfl, a1, a2, a3⟩
  refine wpAny_newObj_type ?_ (by show 3 ≤ sizeLine; decide)
  have I2 : Inv X pins σ H1 { s1 with heap := s1.heap.push { cls := .type "tuple", data := .seq [u1, u2, u3].toArray } } := I1.kept (t' := s1.toks) fun b o e => Heap.get?_push_of_some _ e
  rw [hw]
  refine wpAny_bind (wpAny_pure ?_)
  unfold assignStores
  refine wpAny_bind (wpAny_rule (wpAny_bind (unpackItems_tuple (items := #[u1, u2, u3]) (I.ok.hd hc) (IsTup.new s1.heap _) fun h' hx' => ?_)))
  have I3 := I2.kept (h' := h') (t' := s1.toks) fun b o e => hx' b o (Nat.ne_of_lt (Heap.lt_size e)) e
  simp only [List.reverse_cons, List.reverse_nil, List.nil_append, List.cons_append, List.map_cons, List.map_nil]
  refine wpAny_bind (assignInOrder_cons (wpAny_bindName (store_ok I3 hN hk (.inl hz) rq (fun s2 I4 => ?_) (.inr hz))))
  refine assignInOrder_cons (wpAny_bindName (store_ok I4 hN hj (.inl hy) rw' (fun s3 I5 => ?_) (.inr hy)))
  refine assignInOrder_cons (wpAny_bindName (store_ok I5 hN hi (.inl hx) rv (fun s4 I6 => assignInOrder_nil (wpAny_pure ?_)) (.inr hx)))
  rw [List.set_comm _ _ (Ne.symm hij), List.set_comm _ _ (Ne.symm hik), List.set_comm _ _ (Ne.symm hjk)] at I6
  exact ⟨_, H1, I6, q1⟩

/-! ### calls by keywords alone (behind the receiver of a method) -/
structure KB (K : PySem.W.Frag) (fd : FuncData) (ps : List Str) (n : Nat) (ks : List Str) (g : List Value → List Value) (gV : List V → List V) : Prop where
  to : ∀ (s : Shared) (us ws : List Value), K.In s.heap → us.length = n → ws.length = ks.length → BindsTo s fd ⟨us, ks.zip ws⟩ (ps.zip (us ++ g ws))
  rel : ∀ {zs : List V} {ws : List Value}, Vals zs ws → Vals (gV zs) (g ws)
structure FnK (P : Program) (w : World) (K : PySem.W.Frag) (mg : Str → Option Value) (base : Heap) (k : Nat) (x : Str) (ks : List Str) (gV : List V → List V) (sp : Sp) : Prop where
  ex : ∃ (f : Addr) (fd : FuncData) (ps : List Str) (g : List Value → List Value), FnG P w K mg base k f fd ps sp ∧ mg x = some (.ref f) ∧ PySem.W.keepIn K (.ref f) = true ∧ KB K fd ps 0 ks g gV
structure MthK (P : Program) (w : World) (K : PySem.W.Frag) (mg : Str → Option Value) (base : Heap) (k : Nat) (C : Addr) (m : Str) (ks : List Str) (gV : List V → List V) (sp : Sp) : Prop where
  ex : ∃ (f : Addr) (fd : FuncData) (ps : List Str) (g : List Value → List Value), Cls K C ∧ Meth K C m f ∧ FnG P w K mg base k f fd ps sp ∧ KB K fd ps 1 ks g gV
def tFnK (P : Program) (w : World) (K : PySem.W.Frag) (mg : Str → Option Value) (base : Heap) (x : Str) (ks : List Str) (j : Nat) (E : XK) (t : TA) : TE := fun σ H Q => ∃ k gV sp, FnK P w K mg base k x ks gV sp ∧ k ≤ j ∧ t σ H fun vs H1 => vs.length = ks.length ∧ sp (gV vs) H1 Q E
def tMthK (P : Program) (w : World) (K : PySem.W.Frag) (mg : Str → Option Value) (base : Heap) (m : Str) (ks : List Str) (j : Nat) (E : XK) (ta : TE) (t : TA) : TE := fun σ H Q => ta σ H fun x H1 => ∃ a C dx fs k gV sp, x = .ref a ∧ H1 a = some (.ins C dx fs) ∧ MthK P w K mg base k C m ks gV sp ∧ k ≤ j ∧ fs.lookup m = none ∧
  t σ H1 fun vs H2 => vs.length = ks.length ∧ sp (.ref a :: gV vs) H2 Q E
theorem run_kb {k n : Nat} {f : Addr} {fd : FuncData} {ps ks : List Str} {sp : Sp} {g : List Value → List Value} {gV : List V → List V} {pins : List (Addr × Obj)} {σ : L2.St} {H : Hp} {s : Shared} {Q : VK} {us ws : List Value} {vs zs : List V} (F : FnG X.prog X.w X.K X.mg X.base k f fd ps sp) (a : At X j E) (hk : k ≤ j)
    (hb : KB X.K fd ps n ks g gV) (I : Inv X pins σ H s) (r : Vals vs us) (hn : us.length = n) (rz : Vals zs ws) (hl : zs.length = ks.length) (h : sp (vs ++ gV zs) H Q E) : wpAny (model X.prog X.w) X.A (call (.ref f) us (ks.zip ws)) (EP X pins σ Q) X.xe s :=
  run_g F (a.hr.mono hk) a.qt a.hx I (hb.to s us ws I.kIn hn (by rw [← rz.length]; exact hl)) (r.append (hb.rel rz)) h
section
variable {ks : List Str} {kws : List Keyword}
theorem pe_fnK (a : At X j E) (hg : Gl X x) (hkw : PK X kws t) (hall : (backToKw pos (keywordEach kws X.env)).all (·.1.isSome) = true := by rfl) (hks : (backToKw pos (keywordEach kws X.env)).filterMap (·.1) = ks := by rfl)
    (hdb : (x == ("__debug__" : Str)) = false := by decide) (hpl : ((backTo pos (starEach [] X.env)).any (·.1) || (backToKw pos (keywordEach kws X.env)).any (·.1.isNone)) = false := by rfl) :
    PE X (.Call (.Name x p) [] kws pos) (tFnK X.prog X.w X.K X.mg X.base x ks j E t) := by
  refine ⟨fun pins s σ H Q I h => ?_⟩
  obtain ⟨k, gV, sp, F, hk, h⟩ := h
  obtain ⟨f, fd, ps, g, F, hm, kp, b⟩ := F.ex
  refine wpAny_Call_Name_kw (ld_glob I hg hm (PySem.W.callWith_KW0 (h₀ := X.base) I.ok.mod.kin kp hall ?_ hpl) hdb)
  refine thn (hkw.run pos pins s σ H _ I h) fun ws s2 ⟨zs, H2, I2, rz, hl, q2⟩ => ⟨I2.kIn, ?_⟩
  rw [hks]
  exact run_kb (us := []) (vs := []) F a hk b I2 .nil rfl rz hl q2
theorem pe_mthK {pl : Sem Bool} (a : At X j E) (ho : PE X o ta) (hkw : PK X kws t) (hall : (backToKw pos (keywordEach kws X.env)).all (·.1.isSome) = true := by rfl) (hks : (backToKw pos (keywordEach kws X.env)).filterMap (·.1) = ks := by rfl)
    (hpl : ((backTo pos (starEach [] X.env)).any (·.1) || (backToKw pos (keywordEach kws X.env)).any (·.1.isNone)) = false := by rfl)
    (ht : eval (.Call (.Attribute o m apos) [] kws pos) X.env = (do
      let ov ← eval o X.env
      standAt apos.atName
      let (f, first) ← holding [ov] (getMethod ov m pl)
      callWith pos f first (backTo pos (starEach [] X.env)) (backToKw pos (keywordEach kws X.env))) := by rfl) :
    PE X (.Call (.Attribute o m apos) [] kws pos) (tMthK X.prog X.w X.K X.mg X.base m ks j E ta t) := by
  refine ⟨fun pins s σ H Q I h => PySem.W.methodCall_KW (pl := pl) (thn (ho.run pins s σ H _ I h) fun u s1 ⟨x, H1, I1, rx, y, C, dx, fs, k, gV, sp, ex, ea, M, hk, l, q⟩ => ?_) ht⟩
  subst ex
  obtain rfl : u = Value.ref y := rx
  obtain ⟨f, fd, ps, g, c, hm, F, b⟩ := M.ex
  refine getmeth_ok I1 ea c hm l (PySem.W.callWith_KW0 (first := [.ref y]) (h₀ := X.base) I.ok.mod.kin hm.kp hall ?_ hpl)
  refine thn (hkw.run pos pins s1 σ H1 _ I1 q) fun ws s2 ⟨zs, H2, I2, rz, hl, q2⟩ => ⟨I2.kIn, ?_⟩
  rw [hks]
  exact run_kb (us := [.ref y]) (vs := [.ref y]) F a hk b I2 (.cons rfl .nil) rfl rz hl q2
end
end

/-! ### isinstance, told by the kinds -/
section
variable {K : PySem.W.Frag} {H : Hp}
theorem isi_int {i : Int} {n : String} {b : Bool} (h : kitB "int" n = some b) : Isi K H (.int i) (.ty n) b := ⟨_, _, .ty n, .base (.int i), kit_ty h⟩
theorem isi_str {z : Str} {n : String} {b : Bool} (h : kitB "str" n = some b) : Isi K H (.str z) (.ty n) b := ⟨_, _, .ty n, .base (.str z), kit_ty h⟩
theorem isi_lst {a : Addr} {xs : List V} {n : String} {b : Bool} (e : H a = some (.lst xs)) (h : kitB "list" n = some b) : Isi K H (.ref a) (.ty n) b := ⟨_, _, .ty n, .base (.lst e), kit_ty h⟩
/-- instances of C are told by their class -/
structure InsTy (K : PySem.W.Frag) (C : Addr) : Prop where
  ha : PySem.W.findIn K (.ref C) "__class__" = some (some (.builtin "object.__class__"))
  hn : PySem.W.specialIn K (.builtin "object.__class__") "__get__" = some (some (.builtin "getset_descriptor.__get__"))
  ht : PySem.W.takesIn K (.builtin "object.__class__") = some true
  hm : PySem.W.mroIn K C (.type "object") = some true
theorem isi_ins {a C D dx : Addr} {fs : List (Str × V)} {b : Bool} (e : H a = some (.ins C dx fs)) (c : Cls K C) (t : InsTy K C) (h : PySem.W.kitOne K (.ref C) (.ref D) = some b) : Isi K H (.ref a) (.ref D) b := ⟨_, _, .own D, .base (.ins e c t.ha t.hn t.ht t.hm), h⟩
end

/-! ### a def, by what is true of its body's reading -/
section
variable {P : Program} {w : World} {K : PySem.W.Frag} {mg : Str → Option Value} {base : Heap}
/-- the def x of the module stands as st -/
structure Df (K : PySem.W.Frag) (mg : Str → Option Value) (x : Str) (st : Stmt) (ps : List Str) : Prop where
  ex : ∃ (f : Addr) (fd : FuncData), Fun K x x st f fd ∧ mg x = some (.ref f) ∧ Binds K fd ps []
/-- the method m of the class at C stands as st (of the class qual names) -/
structure Dm (K : PySem.W.Frag) (C : Addr) (m qual : Str) (st : Stmt) (ps : List Str) : Prop where
  cls : Cls K C
  ex : ∃ (f : Addr) (fd : FuncData), Fun K m qual st f fd ∧ Meth K C m f ∧ Binds K fd ps []
/-- the class x at C is made by the __init__ st -/
structure Dk (K : PySem.W.Frag) (mg : Str → Option Value) (x : Str) (C : Addr) (qual : Str) (st : Stmt) (ps : List Str) : Prop where
  ex : ∃ (f : Addr) (fd : FuncData), Fun K "__init__" qual st f fd ∧ Mk K C f ∧ mg x = some (.ref C) ∧ Binds K fd ps []
abbrev Der (P : Program) (w : World) (K : PySem.W.Frag) (mg : Str → Option Value) (base : Heap) (N : List Str) (qual : Str) (st : Stmt) (lv : Nat) (t : XK → TS) : Prop :=
  ∀ {f : Addr} {cdv : Value} {Ar : Around} {outer : List Env} {s : Shared} {H : Hp} {E : XK}, Room lv (Ar.deeper (PyProof.Rows.envOfC qual (defScope st) s.heap.objs.size f cdv)) → Quiet (Ar.deeper (PyProof.Rows.envOfC qual (defScope st) s.heap.objs.size f cdv)) → PSs (cxOf (L2.CX P w) P w K mg base N qual (defScope st) f cdv Ar outer s H E) (defBody st) (t E)
abbrev Pur (N ps : List Str) (t : XK → TS) (sp : Sp) : Prop := ∀ vs H Q E, sp vs H Q E → vs.length = ps.length ∧ t E { nx := fun _ H' => Q .non H', rt := Q } (start N vs) H
theorem fnok_of {x qual : Str} {st : Stmt} {f : Addr} {fd : FuncData} {N ps : List Str} {lv : Nat} {t : XK → TS} {sp : Sp} (F : Fun K x qual st f fd) (S : FnScope N ps (defScope st)) (D : Der P w K mg base N qual st lv t) (p : Pur N ps t sp) : FnG P w K mg base (lv + 1) f fd ps sp := by
  obtain ⟨oc, od, kV, doc, pm, an, cdv, ct, osl, rfl, lk, hcd⟩ := F.ex
  exact fnG_body lk hcd S (fun vs H Q E h => (p vs H Q E h).1) fun Ar outer s H vs Q E hr qt h => ⟨t E, D hr qt, (p vs H Q E h).2⟩
/-- a def with keyword-only defaults -/
structure Dfd (K : PySem.W.Frag) (mg : Str → Option Value) (x : Str) (st : Stmt) (ps : List Str) (dvs : List V) : Prop where
  ex : ∃ (f : Addr) (fd : FuncData) (ds : List Value), Fun K x x st f fd ∧ mg x = some (.ref f) ∧ Vals dvs ds ∧ Binds K fd ps ds
theorem Dfd.fn {x : Str} {st : Stmt} {N ps : List Str} {dvs : List V} {lv : Nat} {t : XK → TS} {sp sp' : Sp} (d : Dfd K mg x st ps dvs) (S : FnScope N ps (defScope st)) (D : Der P w K mg base N x st lv t) (p : Pur N ps t sp') (im : ∀ vs H Q E, sp vs H Q E → sp' (vs ++ dvs) H Q E) : Fn P w K mg base (lv + 1) x sp := by
  obtain ⟨f, fd, ds, F, hm, rd, b⟩ := d.ex
  exact ⟨f, fd, ps, ds, dvs, sp', fnok_of F S D p, hm, F.kp, b, rd, im⟩
theorem Df.fn {x : Str} {st : Stmt} {N ps : List Str} {lv : Nat} {t : XK → TS} {sp : Sp} (d : Df K mg x st ps) (S : FnScope N ps (defScope st)) (D : Der P w K mg base N x st lv t) (p : Pur N ps t sp) : Fn P w K mg base (lv + 1) x sp := by
  obtain ⟨f, fd, F, hm, b⟩ := d.ex
  exact ⟨f, fd, ps, [], [], sp, fnok_of F S D p, hm, F.kp, b, .nil, fun vs H Q E h => by rw [List.append_nil]; exact h⟩
theorem Dm.mth {m qual : Str} {C : Addr} {st : Stmt} {N ps : List Str} {lv : Nat} {t : XK → TS} {sp : Sp} (d : Dm K C m qual st ps) (S : FnScope N ps (defScope st)) (D : Der P w K mg base N qual st lv t) (p : Pur N ps t sp) : Mth P w K mg base (lv + 1) C m sp := by
  obtain ⟨f, fd, F, hm, b⟩ := d.ex
  exact ⟨f, fd, ps, d.cls, hm, fnok_of F S D p, b⟩
theorem Dk.mkr {x qual : Str} {C : Addr} {st : Stmt} {N ps : List Str} {lv : Nat} {t : XK → TS} {sp : Sp} (d : Dk K mg x C qual st ps) (S : FnScope N ps (defScope st)) (D : Der P w K mg base N qual st lv t) (p : Pur N ps t sp) : Mkr P w K mg base (lv + 1) x C sp := by
  obtain ⟨f, fd, F, M, hm, b⟩ := d.ex
  exact ⟨f, fd, ps, M, fnok_of F S D p, hm, b⟩
/-- by one keyword -/
theorem Fun.kb1 {x qual k : Str} {st : Stmt} {f : Addr} {fd : FuncData} (F : Fun K x qual st f fd)
    (h : ∀ (kV doc pm : Value) (an : Option Addr) (cdv ct u : Value), bindArgs (PySem.W.fnOf x qual (defArgs st) (defBody st) (defScope st) .none kV doc pm an cdv ct) ⟨[], [(k, u)]⟩ = pure [(k, u)]) : KB K fd [k] 0 [k] id id := by
  obtain ⟨oc, od, kV, doc, pm, an, cdv, ct, osl, rfl, lk, hcd⟩ := F.ex
  refine ⟨fun s us ws _ hu hw => ?_, fun r => r⟩
  match us, ws, hu, hw with
  | [], [u], _, _ => exact .of_eq (h kV doc pm an cdv ct u)
/-- by keywords alone, in any order -/
theorem Fun.kbG {x qual : Str} {ks ps : List Str} {st : Stmt} {f : Addr} {fd : FuncData} {g : List Value → List Value} {gV : List V → List V} (F : Fun K x qual st f fd) (rel : ∀ {zs : List V} {ws : List Value}, Vals zs ws → Vals (gV zs) (g ws))
    (h : ∀ (kV doc pm : Value) (an : Option Addr) (cdv ct : Value) (ws : List Value), ws.length = ks.length → bindArgs (PySem.W.fnOf x qual (defArgs st) (defBody st) (defScope st) .none kV doc pm an cdv ct) ⟨[], ks.zip ws⟩ = pure (ps.zip (g ws))) : KB K fd ps 0 ks g gV := by
  obtain ⟨oc, od, kV, doc, pm, an, cdv, ct, osl, rfl, lk, hcd⟩ := F.ex
  refine ⟨fun s us ws _ hu hw => ?_, rel⟩
  match us, hu with
  | [], _ => exact .of_eq (h kV doc pm an cdv ct ws hw)
theorem Df.fnKG {x : Str} {ks ps : List Str} {st : Stmt} {N : List Str} {lv : Nat} {t : XK → TS} {sp : Sp} {g : List Value → List Value} {gV : List V → List V} (d : Df K mg x st ps) (S : FnScope N ps (defScope st)) (D : Der P w K mg base N x st lv t) (p : Pur N ps t sp) (rel : ∀ {zs : List V} {ws : List Value}, Vals zs ws → Vals (gV zs) (g ws))
    (h : ∀ (kV doc pm : Value) (an : Option Addr) (cdv ct : Value) (ws : List Value), ws.length = ks.length → bindArgs (PySem.W.fnOf x x (defArgs st) (defBody st) (defScope st) .none kV doc pm an cdv ct) ⟨[], ks.zip ws⟩ = pure (ps.zip (g ws))) : FnK P w K mg base (lv + 1) x ks gV sp := by
  obtain ⟨f, fd, F, hm, b⟩ := d.ex
  exact ⟨f, fd, ps, g, fnok_of F S D p, hm, F.kp, Fun.kbG F rel h⟩
def swap2 {α : Type} : List α → List α | [a, b] => [b, a] | l => l
theorem swap2_rel {zs : List V} {ws : List Value} (r : Vals zs ws) : Vals (swap2 zs) (swap2 ws) := by
  cases r with
  | nil => exact .nil
  | cons a r =>
    cases r with
    | nil => exact .cons a .nil
    | cons b r =>
      cases r with
      | nil => exact .cons b (.cons a .nil)
      | cons c r => exact .cons a (.cons b (.cons c r))
theorem Df.fnK1 {x k : Str} {st : Stmt} {N : List Str} {lv : Nat} {t : XK → TS} {sp : Sp} (d : Df K mg x st [k]) (S : FnScope N [k] (defScope st)) (D : Der P w K mg base N x st lv t) (p : Pur N [k] t sp)
    (h : ∀ (kV doc pm : Value) (an : Option Addr) (cdv ct u : Value), bindArgs (PySem.W.fnOf x x (defArgs st) (defBody st) (defScope st) .none kV doc pm an cdv ct) ⟨[], [(k, u)]⟩ = pure [(k, u)]) : FnK P w K mg base (lv + 1) x [k] id sp := by
  obtain ⟨f, fd, F, hm, b⟩ := d.ex
  exact ⟨f, fd, [k], id, fnok_of F S D p, hm, F.kp, Fun.kb1 F h⟩
end

/-! ### comprehensions that read alone; loops -/
/-- the body of a comprehension's reading, J walked -/
def LcB (J : It) (g : TG) (tt : TT) (te : TE) (vs : List Nat) (σ : L2.St) (H1 : Hp) (Q : VK) : Prop := ∀ D, H1 D = none → ∃ W : Nat → Nat → Hp → Prop, (∃ m, W 0 m (upd H1 D (.lst []))) ∧ ∀ i m H, W i m H →
  (J.stop i H ∧ Q (.ref D) H) ∨ (J.go i H ∧ ∃ Nx : Hp → Prop, (∀ H', Nx H' → ∃ m', m' < m ∧ W (i + 1) m' H') ∧ ∀ x H', J.yld i H x H' → g x (wipe σ vs) H' fun σ2 H2 => wipe σ2 vs = wipe σ vs ∧ tt σ2 H2 fun b H3 =>
    if b = true then te σ2 H3 fun y H4 => ∃ acc, H4 D = some (.lst acc) ∧ acc.length < sizeLine ∧ Nx (upd H4 D (.lst (acc ++ [y]))) else Nx H3)
theorem tLc_eq (wi : TI) (g : TG) (tt : TT) (te : TE) (vs : List Nat) (σ : L2.St) (H : Hp) (Q : VK) : tLc wi g tt te vs σ H Q = wi σ H fun J H1 => LcB J g tt te vs σ H1 Q := rfl
def ForB (J : It) (g : TG) (tb : TS) (D : Ends) (σ : L2.St) (H1 : Hp) : Prop := ∃ W : Nat → Nat → L2.St → Hp → Prop, (∃ m, W 0 m σ H1) ∧ ∀ i m σ H, W i m σ H →
  (J.stop i H ∧ D.nx σ H) ∨ (J.go i H ∧ ∃ N : L2.St → Hp → Prop, (∀ σ' H', N σ' H' → ∃ m', m' < m ∧ W (i + 1) m' σ' H') ∧ ∀ x H', J.yld i H x H' → g x σ H' fun σ2 H2 => tb { D with nx := N, ct := N, bk := D.nx } σ2 H2)
theorem tFor_eq (wi : TI) (g : TG) (tb : TS) (D : Ends) (σ : L2.St) (H : Hp) : tFor wi g tb D σ H = wi σ H fun J H1 => ForB J g tb D σ H1 := rfl
theorem _root_.L2.Same.new {H : Hp} {p : Addr} {o : HO} (h : H p = none) : Same H (upd H p o) := fun a u e => by rw [upd_ne (ne_of_none e h)]; exact e
theorem _root_.L2.Same.mut {H H' : Hp} {p : Addr} {o : HO} (e : Same H H') (h : H p = none) : Same H (upd H' p o) := fun a u ha => by rw [upd_ne (ne_of_none ha h)]; exact e a u ha
theorem _root_.L2.Same.tup {K : PySem.W.Frag} {H H' : Hp} {a : Addr} {xs : List V} (e : Same H H') (h : SqT K H a xs) : SqT K H' a xs := by
  rcases h with (h | ⟨o, h⟩) | h
  · exact .inl (.inl (e _ _ h))
  · exact .inl (.inr ⟨o, e _ _ h⟩)
  · exact .inr h
/-- te gives v, leaving what is known -/
def Evs (te : TE) (σ : L2.St) (H : Hp) (v : V) : Prop := ∀ Q : VK, (∀ H2, Same H H2 → Q v H2) → te σ H Q
def Evt (tt : TT) (σ : L2.St) (H : Hp) (b : Bool) : Prop := ∀ Q : Bool → Hp → Prop, (∀ H2, Same H H2 → Q b H2) → tt σ H Q
theorem Evt.yes {σ : L2.St} {H : Hp} : Evt tYes σ H true := fun Q q => q H (Same.refl H)
/-- J makes n turns as long as H1 stays; item i is such that R i x H -/
structure Goes (J : It) (H1 : Hp) (n : Nat) (R : Nat → V → Hp → Prop) : Prop where
  go : ∀ i H, i < n → Same H1 H → J.go i H
  stop : ∀ H, Same H1 H → J.stop n H
  yld : ∀ i H x H', i < n → Same H1 H → J.yld i H x H' → Same H H' ∧ R i x H'
theorem goes_list {K : PySem.W.Frag} {H : Hp} {a : Addr} {xs : List V} (h : SqL K H a xs) : Goes (Itl K a) H xs.length (fun i x _ => xs[i]? = some x) where
  go := fun i H' hi e => ⟨xs, xs[i], e.seq h, by simp [hi]⟩
  stop := fun H' e => ⟨xs, e.seq h, Nat.le_refl _⟩
  yld := fun i H' x H2 hi e y => by
    obtain ⟨rfl, y⟩ := y
    exact ⟨Same.refl _, y xs (e.seq h)⟩
theorem goes_tup {K : PySem.W.Frag} {H : Hp} {a : Addr} {xs : List V} (h : SqT K H a xs) : Goes (Itt K a) H xs.length (fun i x _ => xs[i]? = some x) where
  go := fun i H' hi e => ⟨xs, xs[i], e.tup h, by simp [hi]⟩
  stop := fun H' e => ⟨xs, e.tup h, Nat.le_refl _⟩
  yld := fun i H' x H2 hi e y => by
    obtain ⟨rfl, y⟩ := y
    exact ⟨Same.refl _, y xs (e.tup h)⟩
theorem goes_str {z : Str} {H : Hp} : Goes (Its z) H z.cps.size (fun i x _ => ∃ c, z.cps[i]? = some c ∧ x = .str ⟨#[c]⟩) where
  go := fun i H' hi _ => hi
  stop := fun H' _ => Nat.le_refl _
  yld := fun i H' x H2 hi _ y => by
    obtain ⟨rfl, y⟩ := y
    exact ⟨Same.refl _, y⟩
theorem goes_range {lo : Int} {n : Nat} {H : Hp} : Goes (Itr lo n) H n (fun i x _ => x = .int (lo + i)) where
  go := fun i H' hi _ => hi
  stop := fun H' _ => Nat.le_refl _
  yld := fun i H' x H2 hi _ y => by
    obtain ⟨rfl, rfl⟩ := y
    exact ⟨Same.refl _, rfl⟩
theorem goes_enum {K : PySem.W.Frag} {H : Hp} {a : Addr} {xs : List V} (h : SqL K H a xs) : Goes (Ite K a) H xs.length (fun i x H' => ∃ T y, x = .ref T ∧ xs[i]? = some y ∧ H' T = some (.tup [.int (i : Nat), y])) where
  go := fun i H' hi e => ⟨xs, xs[i], e.seq h, by simp [hi]⟩
  stop := fun H' e => ⟨xs, e.seq h, Nat.le_refl _⟩
  yld := fun i H' x H2 hi e y => by
    obtain ⟨T, v, rfl, hn, rfl, y⟩ := y
    exact ⟨Same.new hn, T, v, rfl, y xs (e.seq h), upd_same⟩
theorem goes_zip {K : PySem.W.Frag} {H : Hp} {a b : Addr} {xs ys : List V} (h : SqL K H a xs) (h' : SqL K H b ys) (hl : xs.length = ys.length) : Goes (Itz K a b) H xs.length (fun i x H' => ∃ T u v, x = .ref T ∧ xs[i]? = some u ∧ ys[i]? = some v ∧ H' T = some (.tup [u, v])) where
  go := fun i H' hi e => ⟨xs, ys, xs[i], ys[i]'(by omega), e.seq h, e.seq h', by simp [hi], by simp [show i < ys.length by omega]⟩
  stop := fun H' e => ⟨xs, ys, e.seq h, e.seq h', .inl (Nat.le_refl _)⟩
  yld := fun i H' x H2 hi e y => by
    obtain ⟨T, u, v, rfl, hn, rfl, y1, y2⟩ := y
    exact ⟨Same.new hn, T, u, v, rfl, y1 xs (e.seq h), y2 ys (e.seq h'), upd_same⟩
/-- one turn of a comprehension: the item is taken to σ2; kept as y, or left -/
structure LcT (g : TG) (tt : TT) (te : TE) (vs : List Nat) (σ : L2.St) (x : V) (H : Hp) (sel : Option V) : Prop where
  ex : ∃ σ2, wipe σ2 vs = wipe σ vs ∧ (∀ R : L2.St → Hp → Prop, R σ2 H → g x (wipe σ vs) H R) ∧ (match sel with
    | some y => Evt tt σ2 H true ∧ ∀ H3, Same H H3 → Evs te σ2 H3 y
    | none => Evt tt σ2 H false)
theorem lc_goes {J : It} {g : TG} {tt : TT} {te : TE} {vs : List Nat} {σ : L2.St} {H1 : Hp} {Q : VK} {n : Nat} {R : Nat → V → Hp → Prop} (S : Goes J H1 n R) (sel : Nat → Option V) (hn : n < sizeLine)
    (turn : ∀ i x H, i < n → Same H1 H → R i x H → LcT g tt te vs σ x H (sel i))
    (hq : ∀ D H', H1 D = none → Same H1 H' → H' D = some (.lst ((List.range n).filterMap sel)) → Q (.ref D) H') : LcB J g tt te vs σ H1 Q := by
  intro D hD
  refine ⟨fun i m H => m = n - i ∧ i ≤ n ∧ Same H1 H ∧ H D = some (.lst ((List.range i).filterMap sel)), ⟨n, by simp, Nat.zero_le _, Same.new hD, upd_same⟩, ?_⟩
  rintro i m H ⟨rfl, hi, sm, hl⟩
  by_cases hlt : i < n
  · refine .inr ⟨S.go i H hlt sm, fun H' => Same H1 H' ∧ H' D = some (.lst ((List.range (i + 1)).filterMap sel)), fun H' h => ⟨n - (i + 1), by omega, rfl, hlt, h⟩, fun x H' y => ?_⟩
    obtain ⟨s1, r⟩ := S.yld i H x H' hlt sm y
    obtain ⟨σ2, e2, hg, ht⟩ := (turn i x H' hlt (sm.trans s1) r).ex
    refine hg _ ⟨e2, ?_⟩
    have hl1 := s1 _ _ hl
    cases e : sel i with
    | some y =>
      rw [e] at ht
      refine ht.1 _ fun H2 s2 => ?_
      rw [if_pos rfl]
      refine ht.2 H2 s2 _ fun H3 s3 => ⟨_, s3 _ _ (s2 _ _ hl1), ?_, ((sm.trans s1).trans (s2.trans s3)).mut hD, ?_⟩
      · have := List.length_filterMap_le sel (List.range i)
        rw [List.length_range] at this
        omega
      · rw [upd_same, List.range_succ, List.filterMap_append]
        simp [e]
    | none =>
      rw [e] at ht
      refine ht _ fun H2 s2 => ?_
      rw [if_neg Bool.false_ne_true]
      refine ⟨(sm.trans s1).trans s2, ?_⟩
      rw [s2 _ _ hl1, List.range_succ, List.filterMap_append]
      simp [e]
  · obtain rfl : i = n := by omega
    exact .inl ⟨S.stop H sm, hq D H hD sm hl⟩
theorem range_some {α : Type} (f : Nat → α) (n : Nat) : (List.range n).filterMap (fun i => some (f i)) = (List.range n).map f := by
  induction n with
  | zero => rfl
  | succ n ih => rw [List.range_succ, List.filterMap_append, List.map_append, ih]; rfl
theorem range_list {α β : Type} (f : α → Option β) (xs : List α) : (List.range xs.length).filterMap (fun i => (xs[i]?).bind f) = xs.filterMap f := by
  induction xs with
  | nil => rfl
  | cons x xs ih =>
    rw [List.length_cons, List.range_succ_eq_map, List.filterMap_cons, List.filterMap_map]
    have e : ((fun i => ((x :: xs)[i]?).bind f) ∘ Nat.succ) = fun i => (xs[i]?).bind f := by funext i; simp
    rw [e, ih, List.filterMap_cons]
    simp
/-- [e for v in xs if t], xs a list: e and t by a function of the item -/
theorem lc_lst {K : PySem.W.Frag} {a : Addr} {xs : List V} {g : TG} {tt : TT} {te : TE} {vs : List Nat} {σ : L2.St} {H1 : Hp} {Q : VK} (f : V → Option V) (h : SqL K H1 a xs) (hn : xs.length < sizeLine)
    (turn : ∀ x H, x ∈ xs → Same H1 H → LcT g tt te vs σ x H (f x)) (hq : ∀ D H', H1 D = none → Same H1 H' → H' D = some (.lst (xs.filterMap f)) → Q (.ref D) H') : LcB (Itl K a) g tt te vs σ H1 Q := by
  refine lc_goes (goes_list h) (fun i => (xs[i]?).bind f) hn (fun i x H hi s r => ?_) fun D H' hD s hl => hq D H' hD s (by rw [range_list] at hl; exact hl)
  have q := turn x H (List.mem_of_getElem? r) s
  rw [r]
  exact q

/-! ### data -/
section
variable {K : PySem.W.Frag} {H H' : Hp}
mutual
theorem dp_same (s : Same H H') : ∀ (d : PyData) (v : V), Dp K H v d → Dp K H' v d
  | .none, _, h => by cases h; exact .non
  | .bool _, _, h => by cases h; exact .bl _
  | .int _, _, h => by cases h; exact .int _
  | .str _, _, h => by cases h; exact .str _
  | .list ds, _, h => by
    cases h with
    | lst hs ha => exact .lst (s.seq hs) (dpa_same s ds _ ha)
  | .tuple ds, _, h => by
    cases h with
    | tup hs ha => exact .tup (s.tup hs) (dpa_same s ds _ ha)
  | .dict _, _, h => by cases h
theorem dpa_same (s : Same H H') : ∀ (ds : List PyData) (vs : List V), DpAll K H vs ds → DpAll K H' vs ds
  | [], _, h => by cases h; exact .nil
  | d :: ds, _, h => by
    cases h with
    | cons h1 h2 => exact .cons (dp_same s d _ h1) (dpa_same s ds _ h2)
end
theorem dpa_snoc {v : V} {d : PyData} : ∀ {vs : List V} {ds : List PyData}, DpAll K H vs ds → Dp K H v d → DpAll K H (vs ++ [v]) (ds ++ [d])
  | _, _, .nil, h => .cons h .nil
  | _, _, .cons a b, h => .cons a (dpa_snoc b h)
theorem dpa_map {α : Type} {f : α → V} {g : α → PyData} : ∀ (l : List α), (∀ x ∈ l, Dp K H (f x) (g x)) → DpAll K H (l.map f) (l.map g)
  | [], _ => .nil
  | x :: l, h => .cons (h x List.mem_cons_self) (dpa_map l fun y hy => h y (List.mem_cons_of_mem _ hy))
theorem dpa_len : ∀ {vs : List V} {ds : List PyData}, DpAll K H vs ds → vs.length = ds.length
  | _, _, .nil => rfl
  | _, _, .cons _ b => congrArg (· + 1) (dpa_len b)
/-- the heap without one address -/
def hide (p : Addr) (H : Hp) : Hp := fun b => if b = p then none else H b
theorem hide_same {p : Addr} : Same (hide p H) H := fun b o h => by
  unfold hide at h
  split at h
  · cases h
  · exact h
theorem hide_get {p b : Addr} {o : HO} (h : H b = some o) (n : b ≠ p) : hide p H b = some o := by unfold hide; rw [if_neg n]; exact h
theorem hide_mono {p : Addr} (s : Same H H') : Same (hide p H) (hide p H') := fun b o h => by
  unfold hide at h
  split at h
  · cases h
  · rename_i n; exact hide_get (s b o h) n
theorem hide_upd {p : Addr} {o : HO} : hide p (upd H p o) = hide p H := by
  funext b
  unfold hide upd
  split <;> rfl
/-- data of depth at most n -/
def okD (n : Nat) (d : PyData) : Prop := d.canLay0 = true ∧ d.depth ≤ n
theorem okD.list {n : Nat} {ds : List PyData} (h : ∀ d ∈ ds, okD n d) : okD (n + 1) (.list ds) := by
  have q : PyData.canLayAll0 ds = true ∧ PyData.depthAll ds ≤ n := by
    induction ds with
    | nil => exact ⟨rfl, Nat.zero_le _⟩
    | cons d ds ih =>
      have h1 := h d List.mem_cons_self
      have h2 := ih fun x hx => h x (List.mem_cons_of_mem _ hx)
      exact ⟨by unfold PyData.canLayAll0; rw [h1.1, h2.1]; rfl, Nat.max_le.mpr ⟨h1.2, h2.2⟩⟩
  exact ⟨by unfold PyData.canLay0; exact q.1, by unfold PyData.depth; exact Nat.succ_le_succ q.2⟩
theorem okD.tuple {n : Nat} {ds : List PyData} (h : ∀ d ∈ ds, okD n d) : okD (n + 1) (.tuple ds) := by
  have q := okD.list h
  exact ⟨by have := q.1; unfold PyData.canLay0 at this ⊢; exact this, by have := q.2; unfold PyData.depth at this ⊢; exact this⟩
theorem okD.int {n : Nat} {i : Int} : okD n (.int i) := ⟨rfl, Nat.zero_le _⟩
theorem okD.bool {n : Nat} {i : Bool} : okD n (.bool i) := ⟨rfl, Nat.zero_le _⟩
theorem okD.str {n : Nat} {z : Str} (h : PyData.strOk z = true) : okD n (.str z) := ⟨by unfold PyData.canLay0; exact h, Nat.zero_le _⟩
theorem okD.shaped {n : Nat} {d : PyData} (h : okD n d) (hn : n ≤ 64) : SeqAt.shaped d = true := by
  unfold SeqAt.shaped
  rw [h.1, decide_eq_true (Nat.le_trans h.2 hn)]; rfl
end

/-! ### comprehensions that make new things -/
/-- xs are related to as, item by item -/
structure Rel2 {α : Type} (Rl : V → α → Prop) (xs : List V) (as : List α) : Prop where
  len : xs.length = as.length
  at_ : ∀ (i : Nat) (x : V) (a : α), xs[i]? = some x → as[i]? = some a → Rl x a
theorem Rel2.nil {α : Type} {Rl : V → α → Prop} : Rel2 Rl [] [] := ⟨rfl, fun i x a h => by simp at h⟩
theorem Rel2.imp {α : Type} {Rl Rl' : V → α → Prop} {xs : List V} {as : List α} (h : Rel2 Rl xs as) (q : ∀ x a, Rl x a → Rl' x a) : Rel2 Rl' xs as := ⟨h.len, fun i x a h1 h2 => q x a (h.at_ i x a h1 h2)⟩
theorem Rel2.snoc {α : Type} {Rl : V → α → Prop} {xs : List V} {as : List α} {y : V} {b : α} (h : Rel2 Rl xs as) (hy : Rl y b) : Rel2 Rl (xs ++ [y]) (as ++ [b]) := by
  refine ⟨by simp [h.len], fun i x a h1 h2 => ?_⟩
  have hl := h.len
  by_cases c : i < xs.length
  · rw [List.getElem?_append_left c] at h1
    rw [List.getElem?_append_left (by omega)] at h2
    exact h.at_ i x a h1 h2
  · rw [List.getElem?_append_right (by omega)] at h1
    rw [List.getElem?_append_right (by omega)] at h2
    by_cases e : i = xs.length
    · subst e
      rw [show xs.length - xs.length = 0 by omega] at h1
      rw [show xs.length - as.length = 0 by omega] at h2
      simp at h1 h2
      subst h1; subst h2
      exact hy
    · rw [List.getElem?_eq_none (by simp; omega)] at h1
      cases h1
theorem Rel2.dpa {K : PySem.W.Frag} {H : Hp} : ∀ {xs : List V} {ds : List PyData}, Rel2 (Dp K H) xs ds → DpAll K H xs ds
  | [], [], _ => .nil
  | [], _ :: _, h => absurd h.len (by simp)
  | _ :: _, [], h => absurd h.len (by simp)
  | x :: xs, d :: ds, h => .cons (h.at_ 0 x d rfl rfl) (Rel2.dpa ⟨by have := h.len; simpa using this, fun i y e h1 h2 => h.at_ (i + 1) y e (by simpa using h1) (by simpa using h2)⟩)
theorem lc_rel {α : Type} {Rl : Hp → V → α → Prop} (mono : ∀ H H' y a, Same H H' → Rl H y a → Rl H' y a) {J : It} {g : TG} {tt : TT} {te : TE} {vs : List Nat} {σ : L2.St} {H1 : Hp} {Q : VK} {n : Nat} {R : Nat → V → Hp → Prop} (S : Goes J H1 n R) (sel : Nat → Option α) (hn : n < sizeLine)
    (turn : ∀ i x H D, i < n → Same H1 H → R i x H → H1 D = none → (∃ acc, H D = some (.lst acc)) → ∃ σ2, wipe σ2 vs = wipe σ vs ∧ (∀ R' : L2.St → Hp → Prop, R' σ2 H → g x (wipe σ vs) H R') ∧ (match sel i with
      | some d => Evt tt σ2 H true ∧ ∀ H3, Same H H3 → ∀ Q' : VK, (∀ y H4, Same H3 H4 → Rl (hide D H4) y d → Q' y H4) → te σ2 H3 Q'
      | none => Evt tt σ2 H false))
    (hq : ∀ D H' xs, H1 D = none → Same H1 H' → H' D = some (.lst xs) → Rel2 (Rl (hide D H')) xs ((List.range n).filterMap sel) → Q (.ref D) H') : LcB J g tt te vs σ H1 Q := by
  intro D hD
  refine ⟨fun i m H => m = n - i ∧ i ≤ n ∧ Same H1 H ∧ ∃ xs, H D = some (.lst xs) ∧ Rel2 (Rl (hide D H)) xs ((List.range i).filterMap sel), ⟨n, by simp, Nat.zero_le _, Same.new hD, [], upd_same, Rel2.nil⟩, ?_⟩
  rintro i m H ⟨rfl, hi, sm, xs, hl, rl⟩
  by_cases hlt : i < n
  · refine .inr ⟨S.go i H hlt sm, fun H' => Same H1 H' ∧ ∃ xs, H' D = some (.lst xs) ∧ Rel2 (Rl (hide D H')) xs ((List.range (i + 1)).filterMap sel), fun H' h => ⟨n - (i + 1), by omega, rfl, hlt, h⟩, fun x H' y => ?_⟩
    obtain ⟨s1, r⟩ := S.yld i H x H' hlt sm y
    have hl1 := s1 _ _ hl
    obtain ⟨σ2, e2, hg, ht⟩ := turn i x H' D hlt (sm.trans s1) r hD ⟨xs, hl1⟩
    refine hg _ ⟨e2, ?_⟩
    cases e : sel i with
    | some d =>
      rw [e] at ht
      refine ht.1 _ fun H2 s2 => ?_
      rw [if_pos rfl]
      refine ht.2 H2 s2 _ fun y H3 s3 ry => ⟨xs, s3 _ _ (s2 _ _ hl1), ?_, ((sm.trans s1).trans (s2.trans s3)).mut hD, xs ++ [y], upd_same, ?_⟩
      · have h1 := List.length_filterMap_le sel (List.range i)
        rw [List.length_range] at h1
        have := rl.len
        omega
      · rw [hide_upd, List.range_succ, List.filterMap_append]
        have q := (rl.imp fun z a hz => mono _ _ z a (hide_mono (s1.trans (s2.trans s3))) hz).snoc ry
        simpa [e] using q
    | none =>
      rw [e] at ht
      refine ht _ fun H2 s2 => ?_
      rw [if_neg Bool.false_ne_true]
      refine ⟨(sm.trans s1).trans s2, xs, s2 _ _ hl1, ?_⟩
      rw [List.range_succ, List.filterMap_append]
      have q := rl.imp fun z a hz => mono _ _ z a (hide_mono (s1.trans s2)) hz
      simpa [e] using q
  · obtain rfl : i = n := by omega
    exact .inl ⟨S.stop H sm, hq D H xs hD sm hl rl⟩
theorem seqU {t u : TS} {D : Ends} {σ : L2.St} {H : Hp} (h : ∀ U, U = u D → t { D with nx := U } σ H) : tSeq t u D σ H := h _ rfl
theorem kit_mk {K : PySem.W.Frag} {C D : Addr} {b : Bool} (hc : PySem.W.isClsIn K D = true) (ht : PySem.W.typeIn K (.ref D) = some (.type "type")) (hs : PySem.W.subIn K (.ref C) (.ref D) = some b) (hself : PySem.W.subIn K (.ref D) (.ref D) = some true) : PySem.W.kitOne K (.ref C) (.ref D) = some b := by
  unfold PySem.W.kitOne
  split
  · rename_i e
    have e2 : Value.ref C = Value.ref D := by simpa using e
    rw [e2, hself] at hs
    exact hs
  · have hc' : (PySem.W.clsIn K D).isSome = true := hc
    show (if ((PySem.W.clsIn K D).isSome && PySem.W.typeIn K (.ref D) == some (.type "type")) = true then PySem.W.subIn K (.ref C) (.ref D) else none) = some b
    rw [hc', ht]
    exact hs
end U
/-! data that may be shown -/
namespace U
open PySem PySem.Spec PyProof.Rows L2
/-- data of depth at most n and weight at most k that may be shown -/
structure okR (n k : Nat) (d : PyData) : Prop where
  lay : d.canLay0 = true
  dep : d.depth ≤ n
  wgt : d.weight ≤ k
  sh : d.showable = true
  ls : d.leavesShort 13 = true
theorem okR.okD {n k : Nat} {d : PyData} (h : okR n k d) : okD n d := ⟨h.lay, h.dep⟩
theorem okR.mono {n k n' k' : Nat} {d : PyData} (h : okR n k d) (h1 : n ≤ n') (h2 : k ≤ k') : okR n' k' d := ⟨h.lay, Nat.le_trans h.dep h1, Nat.le_trans h.wgt h2, h.sh, h.ls⟩
theorem okR.repr {n k : Nat} {d : PyData} (h : okR n k d) (hn : n ≤ 60) (hk : k ≤ 1000000) : d.showable = true ∧ d.hasDict = false ∧ d.depth ≤ 60 ∧ d.shown.length ≤ sizeLine :=
  ⟨h.sh, PyData.hasDict_of_canLay d h.lay, Nat.le_trans h.dep hn, PyData.shown_fits (B := 13) (by decide) (by decide) h.ls (Nat.le_trans h.wgt (Nat.le_trans hk (by decide)))⟩
theorem okR.str {n : Nat} {z : Str} (h : PyData.strOk z = true) : okR n z.cps.size (.str z) := by
  refine ⟨by unfold PyData.canLay0; exact h, Nat.zero_le _, Nat.le_refl _, rfl, ?_⟩
  exact PyData.leavesShort_of_canLay0 13 _ (by unfold PyData.canLay0; exact h) rfl
theorem okR.bool {n : Nat} {b : Bool} : okR n 0 (.bool b) := ⟨rfl, Nat.zero_le _, Nat.le_refl _, rfl, rfl⟩
theorem okR.non {n : Nat} : okR n 0 .none := ⟨rfl, Nat.zero_le _, Nat.le_refl _, rfl, rfl⟩
theorem okR_all {n k : Nat} : ∀ {ds : List PyData}, (∀ d ∈ ds, okR n k d) → PyData.canLayAll0 ds = true ∧ PyData.depthAll ds ≤ n ∧ PyData.weightAll ds ≤ (k + 1) * ds.length ∧ PyData.showableAll ds = true ∧ PyData.leavesShortAll 13 ds = true
  | [], _ => ⟨rfl, Nat.zero_le _, Nat.zero_le _, rfl, rfl⟩
  | d :: ds, h => by
    have h1 := h d List.mem_cons_self
    obtain ⟨a, b, c, e, f⟩ := okR_all fun x hx => h x (List.mem_cons_of_mem _ hx)
    refine ⟨by unfold PyData.canLayAll0; rw [h1.lay, a]; rfl, Nat.max_le.mpr ⟨h1.dep, b⟩, ?_, by unfold PyData.showableAll; rw [h1.sh, e]; rfl, by unfold PyData.leavesShortAll; rw [h1.ls, f]; rfl⟩
    have := h1.wgt
    show d.weight + 1 + PyData.weightAll ds ≤ (k + 1) * (ds.length + 1)
    rw [Nat.mul_add, Nat.mul_one]
    omega
theorem okR.list {n k : Nat} {ds : List PyData} (h : ∀ d ∈ ds, okR n k d) : okR (n + 1) ((k + 1) * ds.length) (.list ds) := by
  obtain ⟨a, b, c, e, f⟩ := okR_all h
  exact ⟨by unfold PyData.canLay0; exact a, by unfold PyData.depth; exact Nat.succ_le_succ b, c, e, f⟩
theorem okR.tuple {n k : Nat} {ds : List PyData} (h : ∀ d ∈ ds, okR n k d) : okR (n + 1) ((k + 1) * ds.length) (.tuple ds) := by
  obtain ⟨a, b, c, e, f⟩ := okR_all h
  exact ⟨by unfold PyData.canLay0; exact a, by unfold PyData.depth; exact Nat.succ_le_succ b, c, e, f⟩
theorem okR.int {n : Nat} {i : Int} (h : i.natAbs < 1024) : okR n 10 (.int i) := by
  have lg : i.natAbs ≠ 0 → i.natAbs.log2 < 10 := fun h0 => (Nat.log2_lt h0).mpr h
  refine ⟨rfl, Nat.zero_le _, ?_, ?_, ?_⟩
  · show (if i == 0 then 0 else i.natAbs.log2 + 1) ≤ 10
    split
    · omega
    · rename_i z
      have : i ≠ 0 := by simpa using z
      have := lg (by omega)
      omega
  · show decide (i.natAbs.log2 < 1920) = true
    by_cases z : i.natAbs = 0
    · rw [z]; decide
    · have := lg z; exact decide_eq_true (by omega)
  · show decide ((PyData.shown (.int i)).length ≤ 13) = true
    have e : ∀ k : Nat, k < 1024 → (PyData.shown (.int (k : Int))).length ≤ 13 ∧ (PyData.shown (.int (-(k : Int)))).length ≤ 13 := by decide +kernel
    have := e i.natAbs h
    rcases Int.natAbs_eq i with z | z
    · rw [z]; exact decide_eq_true this.1
    · rw [z]; exact decide_eq_true this.2
end U
/-! closed lists: the mathematics -/
namespace M
/-- r can be set out at the places i, i + 1, .. -/
def CF (i : Nat) (r : List Int) : Prop := ∃ r' : List Int, r'.Perm r ∧ ∀ (j : Nat) (x : Int), r'[j]? = some x → x ≤ i + j
theorem erase_perm {α : Type} : ∀ (l : List α) (j : Nat) (h : j < l.length), (l[j] :: l.eraseIdx j).Perm l
  | _ :: _, 0, _ => List.Perm.refl _
  | x :: l, j + 1, h => (List.Perm.swap _ _ _).trans ((erase_perm l j (by simpa using h)).cons x)
theorem CF.put {i t : Nat} {r : List Int} (h : t < r.length) (hx : r[t] ≤ i) (c : CF (i + 1) (r.eraseIdx t)) : CF i r := by
  obtain ⟨r', p, q⟩ := c
  refine ⟨r[t] :: r', (p.cons _).trans (erase_perm r t h), fun j x e => ?_⟩
  cases j with
  | zero => simp at e; subst e; simpa using hx
  | succ j => have := q j x (by simpa using e); push_cast at this ⊢; omega
theorem CF.take {i : Nat} {r : List Int} (c : CF i r) (hr : r ≠ []) : ∃ (t : Nat) (h : t < r.length), r[t] ≤ i ∧ CF (i + 1) (r.eraseIdx t) := by
  obtain ⟨r', p, q⟩ := c
  cases r' with
  | nil => exact absurd p.symm.eq_nil hr
  | cons y r' =>
    have hm : y ∈ r := p.mem_iff.mp List.mem_cons_self
    obtain ⟨t, h, e⟩ := List.mem_iff_getElem.mp hm
    refine ⟨t, h, ?_, r', ?_, fun j x z => ?_⟩
    · have := q 0 y rfl; rw [e]; simpa using this
    · have h2 := (p.trans (erase_perm r t h).symm)
      rw [e] at h2
      exact h2.cons_inv
    · have := q (j + 1) x (by simpa using z); push_cast at this ⊢; omega
theorem CF.nil {i : Nat} : CF i [] := ⟨[], .refl _, fun j x e => by simp at e⟩
def fac : Nat → Nat | 0 => 1 | n + 1 => (n + 1) * fac n
theorem fac_pos : ∀ n, 1 ≤ fac n
  | 0 => Nat.le_refl _
  | n + 1 => Nat.mul_pos (Nat.succ_pos n) (fac_pos n)
theorem fac_mono : ∀ {m n : Nat}, m ≤ n → fac m ≤ fac n := by
  intro m n h
  induction h with
  | refl => exact Nat.le_refl _
  | step h ih => exact Nat.le_trans ih (Nat.le_mul_of_pos_left _ (Nat.succ_pos _))
/-- what is known of the rests at the place i -/
structure Rests (ns : List Int) (i : Nat) (L : List (List Int)) : Prop where
  len : ∀ r ∈ L, r.length = ns.length - i
  sound : ∀ r ∈ L, CF i r → CF 0 ns
  full : CF 0 ns → ∃ r ∈ L, CF i r
  few : L.length * fac (ns.length - i) ≤ fac ns.length
/-- what is known of the later rests, behind j rests and t places of the next -/
structure Later (i : Nat) (L : List (List Int)) (j t : Nat) (m : Nat) (L' : List (List Int)) : Prop where
  sound : ∀ r' ∈ L', ∃ r ∈ L, ∃ (u : Nat) (h : u < r.length), r[u] ≤ i ∧ r' = r.eraseIdx u
  full : ∀ (k : Nat) (r : List Int), L[k]? = some r → ∀ (u : Nat) (h : u < r.length), (k < j ∨ k = j ∧ u < t) → r[u] ≤ i → r.eraseIdx u ∈ L'
  few : L'.length ≤ j * m + t
theorem Later.start {i m : Nat} {L : List (List Int)} : Later i L 0 0 m [] := ⟨(fun _ h => nomatch h), (fun k r _ u h q => by omega), Nat.zero_le _⟩
theorem Later.next {i j m : Nat} {L L' : List (List Int)} {r : List Int} (h : Later i L j r.length m L') (hr : L[j]? = some r) (hm : r.length = m) : Later i L (j + 1) 0 m L' :=
  ⟨h.sound, fun k r2 e u hu q => by
    rcases q with q | q
    · by_cases c : k = j
      · subst c
        rw [hr] at e; cases e
        exact h.full k r hr u hu (.inr ⟨rfl, hu⟩)
      · exact h.full k r2 e u hu (.inl (by omega))
    · omega, by have := h.few; rw [hm] at this; rw [Nat.add_mul]; omega⟩
theorem Later.skip {i j t m : Nat} {L L' : List (List Int)} {r : List Int} (h : Later i L j t m L') (hr : L[j]? = some r) (ht : t < r.length) (c : r[t] ≤ i → r.eraseIdx t ∈ L') : Later i L j (t + 1) m L' :=
  ⟨h.sound, fun k r2 e u hu q le => by
    by_cases z : k = j ∧ u = t
    · obtain ⟨rfl, rfl⟩ := z
      rw [hr] at e; cases e
      exact c le
    · exact h.full k r2 e u hu (by omega) le, by have := h.few; omega⟩
theorem Later.more {i j t m : Nat} {L L' : List (List Int)} {r : List Int} (h : Later i L j t m L') (hr : L[j]? = some r) (ht : t < r.length) (c : r[t] ≤ i) : Later i L j (t + 1) m (L' ++ [r.eraseIdx t]) :=
  ⟨fun r' hr' => by
    rcases List.mem_append.mp hr' with z | z
    · exact h.sound r' z
    · obtain rfl := List.mem_singleton.mp z
      exact ⟨r, List.mem_of_getElem? hr, t, ht, c, rfl⟩, fun k r2 e u hu q le => by
    by_cases z : k = j ∧ u = t
    · obtain ⟨rfl, rfl⟩ := z
      rw [hr] at e; cases e
      exact List.mem_append_right _ (List.mem_singleton.mpr rfl)
    · exact List.mem_append_left _ (h.full k r2 e u hu (by omega) le), by
    have := h.few
    rw [List.length_append]; simp; omega⟩
theorem Later.done {ns : List Int} {i : Nat} {L L' : List (List Int)} (hi : i < ns.length) (R : Rests ns i L) (h : Later i L L.length 0 (ns.length - i) L') : Rests ns (i + 1) L' := by
  refine ⟨fun r' hr' => ?_, fun r' hr' c => ?_, fun c => ?_, ?_⟩
  · obtain ⟨r, hr, u, hu, _, rfl⟩ := h.sound r' hr'
    rw [List.length_eraseIdx_of_lt hu, R.len r hr]; omega
  · obtain ⟨r, hr, u, hu, le, rfl⟩ := h.sound r' hr'
    exact R.sound r hr (CF.put hu le c)
  · obtain ⟨r, hr, c⟩ := R.full c
    have hl := R.len r hr
    obtain ⟨u, hu, le, c2⟩ := c.take (by intro e; subst e; simp at hl; omega)
    obtain ⟨k, hk, e⟩ := List.mem_iff_getElem.mp hr
    exact ⟨_, h.full k r (by rw [List.getElem?_eq_getElem hk, e]) u hu (.inl hk) le, c2⟩
  · have h1 := h.few
    have h2 := R.few
    have e : ns.length - i = (ns.length - (i + 1)) + 1 := by omega
    rw [e, fac] at h2
    have h3 : L'.length ≤ L.length * (ns.length - (i + 1) + 1) := by rw [← e]; simpa using h1
    calc L'.length * fac (ns.length - (i + 1)) ≤ L.length * (ns.length - (i + 1) + 1) * fac (ns.length - (i + 1)) := Nat.mul_le_mul_right _ h3
      _ = L.length * ((ns.length - (i + 1) + 1) * fac (ns.length - (i + 1))) := Nat.mul_assoc _ _ _
      _ ≤ _ := h2
theorem Rests.bound {ns : List Int} {i : Nat} {L : List (List Int)} (R : Rests ns i L) (hi : i < ns.length) (hn : ns.length ≤ 10) : L.length * (ns.length - i) ≤ 3628800 := by
  have h2 := R.few
  have e : ns.length - i = (ns.length - (i + 1)) + 1 := by omega
  have h4 : fac ns.length ≤ 3628800 := Nat.le_trans (fac_mono hn) (by decide)
  rw [e, fac, ← Nat.mul_assoc] at h2
  rw [e]
  have := Nat.le_mul_of_pos_right (L.length * (ns.length - (i + 1) + 1)) (fac_pos (ns.length - (i + 1)))
  omega
theorem Rests.start {ns ns' : List Int} (p : ns'.Perm ns) : Rests ns 0 [ns'] := by
  refine ⟨fun r hr => ?_, fun r hr c => ?_, fun c => ⟨ns', List.mem_singleton.mpr rfl, ?_⟩, by simp⟩
  · obtain rfl := List.mem_singleton.mp hr; exact p.length_eq
  · obtain rfl := List.mem_singleton.mp hr
    obtain ⟨r', q, h⟩ := c
    exact ⟨r', q.trans p, h⟩
  · obtain ⟨r', q, h⟩ := c
    exact ⟨r', q.trans p.symm, h⟩
theorem Rests.end {ns : List Int} {L : List (List Int)} (R : Rests ns ns.length L) : L ≠ [] ↔ CF 0 ns := by
  constructor
  · intro h
    obtain ⟨r, hr⟩ := List.exists_mem_of_ne_nil _ h
    have := R.len r hr
    have : r = [] := List.length_eq_zero_iff.mp (by omega)
    subst this
    exact R.sound _ hr CF.nil
  · intro c h
    obtain ⟨r, hr, _⟩ := R.full c
    rw [h] at hr
    cases hr
end M
namespace M
def diffs (ns : List Int) : List Int := (List.range ns.length).map fun i => ns.getD i 0 - i
structure IsLM (ns : List Int) (m : Int) : Prop where
  ex : ∃ ns' : List Int, ns'.Perm ns ∧ ns'.Pairwise (· ≤ ·) ∧ m ∈ 0 :: diffs ns' ∧ ∀ y ∈ 0 :: diffs ns', y ≤ m
theorem diffs_at {ns : List Int} {i : Nat} (h : i < ns.length) : ns[i] - i ∈ diffs ns := by
  unfold diffs
  exact List.mem_map.mpr ⟨i, List.mem_range.mpr h, by simp [List.getD, h]⟩
theorem IsLM.nonneg {ns : List Int} {m : Int} (h : IsLM ns m) : 0 ≤ m := by
  obtain ⟨ns', _, _, _, u⟩ := h.ex
  exact u 0 List.mem_cons_self
theorem IsLM.le {ns : List Int} {m B : Int} (h : IsLM ns m) (h0 : 0 ≤ B) (hb : ∀ x ∈ ns, x ≤ B) : m ≤ B := by
  obtain ⟨ns', p, _, hm, _⟩ := h.ex
  rcases List.mem_cons.mp hm with rfl | hm
  · exact h0
  · obtain ⟨i, hi, rfl⟩ := List.mem_map.mp hm
    have hi := List.mem_range.mp hi
    have := hb ns'[i] (p.mem_iff.mp (List.getElem_mem hi))
    simp only [List.getD, List.getElem?_eq_getElem hi, Option.getD_some]
    omega
theorem IsLM.closes {ns : List Int} {m : Int} (h : IsLM ns m) : CF 0 (ns ++ List.replicate m.toNat 0) := by
  have h0 := h.nonneg
  obtain ⟨ns', p, _, _, u⟩ := h.ex
  refine ⟨List.replicate m.toNat 0 ++ ns', (List.perm_append_comm).trans (p.append_right _), fun j x e => ?_⟩
  by_cases c : j < m.toNat
  · rw [List.getElem?_append_left (by simpa using c)] at e
    rw [List.getElem?_replicate, if_pos c] at e
    have := Option.some.inj e
    omega
  · rw [List.getElem?_append_right (by simpa using c), List.length_replicate] at e
    obtain ⟨hj, e⟩ := List.getElem?_eq_some_iff.mp e
    have := u _ (List.mem_cons_of_mem _ (diffs_at hj))
    rw [e] at this
    omega
theorem count_drop {r : List Int} {k : Nat} (h : ∀ (j : Nat) (x : Int), r[j]? = some x → x ≤ j) : r.countP (fun x => decide ((k : Int) ≤ x)) ≤ r.length - k := by
  rw [← List.take_append_drop k r, List.countP_append]
  have z : (r.take k).countP (fun x => decide ((k : Int) ≤ x)) = 0 := by
    rw [List.countP_eq_zero]
    intro x hx
    obtain ⟨j, hj, e⟩ := List.mem_iff_getElem.mp hx
    rw [List.length_take] at hj
    have := h j x (by rw [← e, List.getElem_take, List.getElem?_eq_getElem])
    simp only [decide_eq_true_eq]
    omega
  rw [z, Nat.zero_add]
  refine Nat.le_trans List.countP_le_length ?_
  simp
theorem IsLM.needs {ns more : List Int} {m : Int} (h : IsLM ns m) (hm : 0 < m) (hl : (more.length : Int) = m - 1) : ¬ CF 0 (ns ++ more) := by
  rintro ⟨r', pr, q⟩
  obtain ⟨ns', p, so, me, _⟩ := h.ex
  rcases List.mem_cons.mp me with rfl | me
  · omega
  obtain ⟨i, hi, e⟩ := List.mem_map.mp me
  have hi := List.mem_range.mp hi
  simp only [List.getD, List.getElem?_eq_getElem hi, Option.getD_some] at e
  have c1 := count_drop (r := r') (k := m.toNat + i) fun j x z => by have := q j x z; omega
  rw [pr.length_eq, List.length_append] at c1
  have c2 : (ns ++ more).countP (fun x => decide (((m.toNat + i : Nat) : Int) ≤ x)) = r'.countP (fun x => decide (((m.toNat + i : Nat) : Int) ≤ x)) := (pr.countP_eq _).symm
  have c3 : ns.length - i ≤ ns.countP (fun x => decide (((m.toNat + i : Nat) : Int) ≤ x)) := by
    rw [← p.countP_eq, ← List.take_append_drop i ns', List.countP_append]
    have al : (ns'.drop i).countP (fun x => decide (((m.toNat + i : Nat) : Int) ≤ x)) = (ns'.drop i).length := by
      rw [List.countP_eq_length]
      intro x hx
      obtain ⟨j, hj, ex⟩ := List.mem_iff_getElem.mp hx
      rw [List.length_drop] at hj
      rw [List.getElem_drop] at ex
      have le : ns'[i] ≤ ns'[i + j] := by
        by_cases z : j = 0
        · subst z; simp
        · exact List.pairwise_iff_getElem.mp so i (i + j) hi (by omega) (by omega)
      simp only [decide_eq_true_eq]
      push_cast
      omega
    rw [al, List.length_drop, p.length_eq]
    omega
  rw [List.countP_append] at c2
  have := p.length_eq
  omega
theorem CF.zero {r : List Int} (h : CF 0 r) : CF 0 (r ++ [0]) := by
  obtain ⟨r', p, q⟩ := h
  refine ⟨0 :: r', (p.cons 0).trans (List.perm_append_comm (l₁ := [0])), fun j x e => ?_⟩
  cases j with
  | zero => simp at e; omega
  | succ j => have := q j x (by simpa using e); push_cast at this ⊢; omega
theorem CF.zeros {r : List Int} {a : Nat} (h : CF 0 (r ++ List.replicate a 0)) : ∀ b : Nat, CF 0 (r ++ List.replicate (a + b) 0)
  | 0 => h
  | b + 1 => by
    have := (CF.zeros h b).zero
    rwa [List.append_assoc, ← List.replicate_succ', Nat.add_assoc] at this
theorem IsLM.lt_false {ns : List Int} {m m' : Int} (h : IsLM ns m) (h' : IsLM ns m') (c : m < m') : False := by
  have h0 := h.nonneg
  have z := CF.zeros h.closes (m' - 1 - m).toNat
  refine h'.needs (more := List.replicate (m.toNat + (m' - 1 - m).toNat) 0) (by omega) ?_ z
  rw [List.length_replicate]
  omega
theorem IsLM.uniq {ns : List Int} {m m' : Int} (h : IsLM ns m) (h' : IsLM ns m') : m = m' := by
  rcases Int.lt_trichotomy m m' with c | c | c
  · exact (h.lt_false h' c).elim
  · exact c
  · exact (h'.lt_false h c).elim
end M
namespace K
open PySem PySem.Spec PyProof.Rows L2 U ClX
def top (i : Nat) : Stmt := PySem.Challenge.pw_indexlogs_k29_ranges_of_indices.main.body.getD i (.Pass ⟨0, 0, 0, 0⟩)
/-- the classes at hand, the constants -/
structure Ads where
  cFrame : Addr
  cFronted : Addr
  cImpossible : Addr
  cInserted : Addr
  cLogError : Addr
  cNoIndex : Addr
  cNoItem : Addr
  cNoList : Addr
  cNoLog : Addr
  cNoText : Addr
  cRecord : Addr
  cRemoved : Addr
abbrev Ads.kFRONTED (_ : Ads) : V := .str "^"
abbrev Ads.kHIGH (_ : Ads) : V := .str "high"
abbrev Ads.kLETTERS (_ : Ads) : V := .str "abcdefghijklmnopqrstuvwxyz"
abbrev Ads.kLOW (_ : Ads) : V := .str "low"
abbrev Ads.kMOST_ITEMS (_ : Ads) : V := .int 60
abbrev Ads.kMOST_LETTERS (_ : Ads) : V := .int 8
abbrev Ads.kMOST_LOG (_ : Ads) : V := .int 40
structure Gm (mg : Str → Option Value) (A : Ads) : Prop where
  g_abs : mg "abs" = none
  g_all : mg "all" = none
  g_bool : mg "bool" = none
  g_dict : mg "dict" = none
  g_enumerate : mg "enumerate" = none
  g_int : mg "int" = none
  g_isinstance : mg "isinstance" = none
  g_len : mg "len" = none
  g_list : mg "list" = none
  g_max : mg "max" = none
  g_min : mg "min" = none
  g_range : mg "range" = none
  g_repr : mg "repr" = none
  g_set : mg "set" = none
  g_str : mg "str" = none
  g_FRONTED : ∃ u, mg "FRONTED" = some u ∧ RelV A.kFRONTED u
  g_HIGH : ∃ u, mg "HIGH" = some u ∧ RelV A.kHIGH u
  g_LETTERS : ∃ u, mg "LETTERS" = some u ∧ RelV A.kLETTERS u
  g_LOW : ∃ u, mg "LOW" = some u ∧ RelV A.kLOW u
  g_MOST_ITEMS : ∃ u, mg "MOST_ITEMS" = some u ∧ RelV A.kMOST_ITEMS u
  g_MOST_LETTERS : ∃ u, mg "MOST_LETTERS" = some u ∧ RelV A.kMOST_LETTERS u
  g_MOST_LOG : ∃ u, mg "MOST_LOG" = some u ∧ RelV A.kMOST_LOG u
  cFrame : mg "Frame" = some (.ref A.cFrame)
  cFronted : mg "Fronted" = some (.ref A.cFronted)
  cImpossible : mg "Impossible" = some (.ref A.cImpossible)
  cInserted : mg "Inserted" = some (.ref A.cInserted)
  cLogError : mg "LogError" = some (.ref A.cLogError)
  cNoIndex : mg "NoIndex" = some (.ref A.cNoIndex)
  cNoItem : mg "NoItem" = some (.ref A.cNoItem)
  cNoList : mg "NoList" = some (.ref A.cNoList)
  cNoLog : mg "NoLog" = some (.ref A.cNoLog)
  cNoText : mg "NoText" = some (.ref A.cNoText)
  cRecord : mg "Record" = some (.ref A.cRecord)
  cRemoved : mg "Removed" = some (.ref A.cRemoved)
abbrev s_is_integer : Stmt := top 19
abbrev N_is_integer : List Str := ["thing", "least", "most"]
abbrev ps_is_integer : List Str := ["thing", "least", "most"]
theorem sc_is_integer : FnScope N_is_integer ["thing", "least", "most"] (defScope s_is_integer) := ⟨rfl, rfl, rfl, by decide +kernel, rfl, by decide +kernel, by decide +kernel⟩
def t_is_integer (P : Program) (w : World) (K : PySem.W.Frag) (mg : Str → Option Value) (base : Heap) (A : Ads) (E : XK) : TS :=
  tRet (tAndV (tCB (cIsi K) (tCons (tVar 0) (tCons (tC (.ty "int")) (tNil)))) (tAndV (tNotV (tCB (cIsi K) (tCons (tVar 0) (tCons (tC (.ty "bool")) (tNil))))) (tChain uLe uLe (tVar 1) (tVar 0) (tVar 2))))
theorem d_is_integer {P : Program} {w : World} {K : PySem.W.Frag} {mg : Str → Option Value} {base : Heap} {A : Ads} {f : Addr} {cdv : Value} {Ar : Around} {outer : List Env} {s : Shared} {H : Hp} {E : XK} (G : Gm mg A) (hr : Room 1 (Ar.deeper (envOfC "is_integer" (defScope s_is_integer) s.heap.objs.size f cdv))) (qt : Quiet (Ar.deeper (envOfC "is_integer" (defScope s_is_integer) s.heap.objs.size f cdv))) :
    PSs (cxOf (L2.CX P w) P w K mg base N_is_integer "is_integer" (defScope s_is_integer) f cdv Ar outer s H E) (defBody s_is_integer) (t_is_integer P w K mg base A E) := by
  have sc := sc_is_integer
  have at_ : At (cxOf (L2.CX P w) P w K mg base N_is_integer "is_integer" (defScope s_is_integer) f cdv Ar outer s H E) 1 E := At.of hr qt (takes_of rfl rfl rfl rfl)
  have pn : PassesOwn (model P w) (cxOf (L2.CX P w) P w K mg base N_is_integer "is_integer" (defScope s_is_integer) f cdv Ar outer s H E).A (cxOf (L2.CX P w) P w K mg base N_is_integer "is_integer" (defScope s_is_integer) f cdv Ar outer s H E).env (cxOf (L2.CX P w) P w K mg base N_is_integer "is_integer" (defScope s_is_integer) f cdv Ar outer s H E).xe := passes_of rfl
  exact pss_one (ps_ret (pe_and (pe_callB call_cIsi (by rfl) G.g_isinstance (by decide +kernel) (pa_cons (pv 0) (pa_cons (pe_bltn (v := .ty "int") (by rfl) G.g_int (by decide +kernel) rfl) (pa_nil)))) (pe_and (pe_not (pe_callB call_cIsi (by rfl) G.g_isinstance (by decide +kernel) (pa_cons (pv 0) (pa_cons (pe_bltn (v := .ty "bool") (by rfl) G.g_bool (by decide +kernel) rfl) (pa_nil))))) (pe_one (pe_chain op_uLe op_uLe (pv 1) (pv 0) (pv 2))))))
abbrev s_is_item : Stmt := top 20
abbrev N_is_item : List Str := ["thing", "letter"]
abbrev ps_is_item : List Str := ["thing"]
theorem sc_is_item : FnScope N_is_item ["thing"] (defScope s_is_item) := ⟨rfl, rfl, rfl, by decide +kernel, rfl, by decide +kernel, by decide +kernel⟩
def t_is_item (P : Program) (w : World) (K : PySem.W.Frag) (mg : Str → Option Value) (base : Heap) (A : Ads) (E : XK) : TS :=
  tSeq (tIfS (tOr (tNot (tB (tCB (cIsi K) (tCons (tVar 0) (tCons (tC (.ty "str")) (tNil)))))) (tNot (tTest (tChain uLe uLe (tC (.int 1)) (tCB (cLen K) (tCons (tVar 0) (tNil))) (tC A.kMOST_LETTERS))))) (tRet (tC (.bl false))) (tNext)) (tRet (tCB (cAll K) (tCons (tLc (iStr (tVar 0)) (gName 1) (tYes) (tOp (uIn K false) (tVar 1) (tC A.kLETTERS)) [1]) (tNil))))
theorem d_is_item {P : Program} {w : World} {K : PySem.W.Frag} {mg : Str → Option Value} {base : Heap} {A : Ads} {f : Addr} {cdv : Value} {Ar : Around} {outer : List Env} {s : Shared} {H : Hp} {E : XK} (G : Gm mg A) (hr : Room 1 (Ar.deeper (envOfC "is_item" (defScope s_is_item) s.heap.objs.size f cdv))) (qt : Quiet (Ar.deeper (envOfC "is_item" (defScope s_is_item) s.heap.objs.size f cdv))) :
    PSs (cxOf (L2.CX P w) P w K mg base N_is_item "is_item" (defScope s_is_item) f cdv Ar outer s H E) (defBody s_is_item) (t_is_item P w K mg base A E) := by
  have sc := sc_is_item
  have at_ : At (cxOf (L2.CX P w) P w K mg base N_is_item "is_item" (defScope s_is_item) f cdv Ar outer s H E) 1 E := At.of hr qt (takes_of rfl rfl rfl rfl)
  have pn : PassesOwn (model P w) (cxOf (L2.CX P w) P w K mg base N_is_item "is_item" (defScope s_is_item) f cdv Ar outer s H E).A (cxOf (L2.CX P w) P w K mg base N_is_item "is_item" (defScope s_is_item) f cdv Ar outer s H E).env (cxOf (L2.CX P w) P w K mg base N_is_item "is_item" (defScope s_is_item) f cdv Ar outer s H E).xe := passes_of rfl
  exact pss_cons (ps_if (PW.pt (pw_or (pt_not (pt_val (pe_callB call_cIsi (by rfl) G.g_isinstance (by decide +kernel) (pa_cons (pv 0) (pa_cons (pe_bltn (v := .ty "str") (by rfl) G.g_str (by decide +kernel) rfl) (pa_nil)))))) (pw_or1 (pt_not (pt_chain op_uLe op_uLe (pe_int) (pe_callB call_cLen (by rfl) G.g_len (by decide +kernel) (pa_cons (pv 0) (pa_nil))) (pe_g (by rfl) G.g_MOST_LETTERS)))))) (pss_one (ps_ret (pe_bl))) (pss_nil)) (pss_one (ps_ret (pe_callB (call_cAll rfl) (by rfl) G.g_all (by decide +kernel) (pa_cons (pe_lc (own := [("letter", 1)]) (g := gName 1) (tt := tYes) rfl sc.nd (pi_str (pv 0)) (blkOk_by (N := N_is_item) (sc := defScope s_is_item) (by decide +kernel)) (fun _ _ _ _ _ => pg_name (i := 1) sc.nd rfl (by first | exact Or.inl rfl | exact Or.inr rfl)) (fun _ _ _ _ _ => pts_nil) (fun _ _ _ _ _ => pe_cmpR (op_uIn hr) (pv 1) (pe_g (by rfl) G.g_LETTERS) (by rfl))) (pa_nil)))))
abbrev s_Record_init : Stmt := inClass (top 23) 2
abbrev N_Record_init : List Str := ["self", "item", "slot"]
abbrev ps_Record_init : List Str := ["self", "item", "slot"]
theorem sc_Record_init : FnScope N_Record_init ["self", "item", "slot"] (defScope s_Record_init) := ⟨rfl, rfl, rfl, by decide +kernel, rfl, by decide +kernel, by decide +kernel⟩
def t_Record_init (P : Program) (w : World) (K : PySem.W.Frag) (mg : Str → Option Value) (base : Heap) (A : Ads) (E : XK) : TS :=
  tSeq (tIfS (tNot (tB (tFn P w K mg base "is_item" 2 E (tCons (tVar 1) (tNil))))) (tNever) (tNext)) (tSeq (tIfS (tNot (tB (tFn P w K mg base "is_integer" 2 E (tCons (tVar 2) (tCons (tC (.int 0)) (tCons (tAtt P w K mg base "MOST" (tC (.ref A.cRecord))) (tNil))))))) (tNever) (tNext)) (tSeq (sFld K (tVar 0) (tVar 1) "held_item") (sFld K (tVar 0) (tVar 2) "held_slot")))
theorem d_Record_init {P : Program} {w : World} {K : PySem.W.Frag} {mg : Str → Option Value} {base : Heap} {A : Ads} {f : Addr} {cdv : Value} {Ar : Around} {outer : List Env} {s : Shared} {H : Hp} {E : XK} (G : Gm mg A) (hr : Room 2 (Ar.deeper (envOfC "Record.__init__" (defScope s_Record_init) s.heap.objs.size f cdv))) (qt : Quiet (Ar.deeper (envOfC "Record.__init__" (defScope s_Record_init) s.heap.objs.size f cdv))) :
    PSs (cxOf (L2.CX P w) P w K mg base N_Record_init "Record.__init__" (defScope s_Record_init) f cdv Ar outer s H E) (defBody s_Record_init) (t_Record_init P w K mg base A E) := by
  have sc := sc_Record_init
  have at_ : At (cxOf (L2.CX P w) P w K mg base N_Record_init "Record.__init__" (defScope s_Record_init) f cdv Ar outer s H E) 2 E := At.of hr qt (takes_of rfl rfl rfl rfl)
  have pn : PassesOwn (model P w) (cxOf (L2.CX P w) P w K mg base N_Record_init "Record.__init__" (defScope s_Record_init) f cdv Ar outer s H E).A (cxOf (L2.CX P w) P w K mg base N_Record_init "Record.__init__" (defScope s_Record_init) f cdv Ar outer s H E).env (cxOf (L2.CX P w) P w K mg base N_Record_init "Record.__init__" (defScope s_Record_init) f cdv Ar outer s H E).xe := passes_of rfl
  exact pss_cons (ps_if (pt_not (pt_val (pe_fn at_ (by rfl) (pa_cons (pv 1) (pa_nil))))) (pss_one (ps_never)) (pss_nil)) (pss_cons (ps_if (pt_not (pt_val (pe_fn at_ (by rfl) (pa_cons (pv 2) (pa_cons (pe_int) (pa_cons (pe_att hr (pe_g (by rfl) ⟨_, G.cRecord, rfl⟩)) (pa_nil))))))) (pss_one (ps_never)) (pss_nil)) (pss_cons (ps_fld (pv 0) (pv 1) rfl) (pss_one (ps_fld (pv 0) (pv 2) rfl))))
abbrev s_Record_item : Stmt := inClass (top 23) 4
abbrev N_Record_item : List Str := ["self"]
abbrev ps_Record_item : List Str := ["self"]
theorem sc_Record_item : FnScope N_Record_item ["self"] (defScope s_Record_item) := ⟨rfl, rfl, rfl, by decide +kernel, rfl, by decide +kernel, by decide +kernel⟩
def t_Record_item (P : Program) (w : World) (K : PySem.W.Frag) (mg : Str → Option Value) (base : Heap) (A : Ads) (E : XK) : TS :=
  tRet (tAtt P w K mg base "held_item" (tVar 0))
theorem d_Record_item {P : Program} {w : World} {K : PySem.W.Frag} {mg : Str → Option Value} {base : Heap} {A : Ads} {f : Addr} {cdv : Value} {Ar : Around} {outer : List Env} {s : Shared} {H : Hp} {E : XK} (G : Gm mg A) (hr : Room 2 (Ar.deeper (envOfC "Record.item" (defScope s_Record_item) s.heap.objs.size f cdv))) (qt : Quiet (Ar.deeper (envOfC "Record.item" (defScope s_Record_item) s.heap.objs.size f cdv))) :
    PSs (cxOf (L2.CX P w) P w K mg base N_Record_item "Record.item" (defScope s_Record_item) f cdv Ar outer s H E) (defBody s_Record_item) (t_Record_item P w K mg base A E) := by
  have sc := sc_Record_item
  have at_ : At (cxOf (L2.CX P w) P w K mg base N_Record_item "Record.item" (defScope s_Record_item) f cdv Ar outer s H E) 2 E := At.of hr qt (takes_of rfl rfl rfl rfl)
  have pn : PassesOwn (model P w) (cxOf (L2.CX P w) P w K mg base N_Record_item "Record.item" (defScope s_Record_item) f cdv Ar outer s H E).A (cxOf (L2.CX P w) P w K mg base N_Record_item "Record.item" (defScope s_Record_item) f cdv Ar outer s H E).env (cxOf (L2.CX P w) P w K mg base N_Record_item "Record.item" (defScope s_Record_item) f cdv Ar outer s H E).xe := passes_of rfl
  exact pss_one (ps_ret (pe_att hr (pv 0)))
abbrev s_Record_slot : Stmt := inClass (top 23) 5
abbrev N_Record_slot : List Str := ["self"]
abbrev ps_Record_slot : List Str := ["self"]
theorem sc_Record_slot : FnScope N_Record_slot ["self"] (defScope s_Record_slot) := ⟨rfl, rfl, rfl, by decide +kernel, rfl, by decide +kernel, by decide +kernel⟩
def t_Record_slot (P : Program) (w : World) (K : PySem.W.Frag) (mg : Str → Option Value) (base : Heap) (A : Ads) (E : XK) : TS :=
  tRet (tAtt P w K mg base "held_slot" (tVar 0))
theorem d_Record_slot {P : Program} {w : World} {K : PySem.W.Frag} {mg : Str → Option Value} {base : Heap} {A : Ads} {f : Addr} {cdv : Value} {Ar : Around} {outer : List Env} {s : Shared} {H : Hp} {E : XK} (G : Gm mg A) (hr : Room 2 (Ar.deeper (envOfC "Record.slot" (defScope s_Record_slot) s.heap.objs.size f cdv))) (qt : Quiet (Ar.deeper (envOfC "Record.slot" (defScope s_Record_slot) s.heap.objs.size f cdv))) :
    PSs (cxOf (L2.CX P w) P w K mg base N_Record_slot "Record.slot" (defScope s_Record_slot) f cdv Ar outer s H E) (defBody s_Record_slot) (t_Record_slot P w K mg base A E) := by
  have sc := sc_Record_slot
  have at_ : At (cxOf (L2.CX P w) P w K mg base N_Record_slot "Record.slot" (defScope s_Record_slot) f cdv Ar outer s H E) 2 E := At.of hr qt (takes_of rfl rfl rfl rfl)
  have pn : PassesOwn (model P w) (cxOf (L2.CX P w) P w K mg base N_Record_slot "Record.slot" (defScope s_Record_slot) f cdv Ar outer s H E).A (cxOf (L2.CX P w) P w K mg base N_Record_slot "Record.slot" (defScope s_Record_slot) f cdv Ar outer s H E).env (cxOf (L2.CX P w) P w K mg base N_Record_slot "Record.slot" (defScope s_Record_slot) f cdv Ar outer s H E).xe := passes_of rfl
  exact pss_one (ps_ret (pe_att hr (pv 0)))
abbrev s_Record_move_to : Stmt := inClass (top 23) 7
abbrev N_Record_move_to : List Str := ["self", "slot"]
abbrev ps_Record_move_to : List Str := ["self", "slot"]
theorem sc_Record_move_to : FnScope N_Record_move_to ["self", "slot"] (defScope s_Record_move_to) := ⟨rfl, rfl, rfl, by decide +kernel, rfl, by decide +kernel, by decide +kernel⟩
def t_Record_move_to (P : Program) (w : World) (K : PySem.W.Frag) (mg : Str → Option Value) (base : Heap) (A : Ads) (E : XK) : TS :=
  tDrop (tFn P w K mg base "_wall" 2 E (tCons (tC (.int 0)) (tNil)))
theorem d_Record_move_to {P : Program} {w : World} {K : PySem.W.Frag} {mg : Str → Option Value} {base : Heap} {A : Ads} {f : Addr} {cdv : Value} {Ar : Around} {outer : List Env} {s : Shared} {H : Hp} {E : XK} (G : Gm mg A) (hr : Room 2 (Ar.deeper (envOfC "Record.move_to" (defScope s_Record_move_to) s.heap.objs.size f cdv))) (qt : Quiet (Ar.deeper (envOfC "Record.move_to" (defScope s_Record_move_to) s.heap.objs.size f cdv))) :
    PSs (cxOf (L2.CX P w) P w K mg base N_Record_move_to "Record.move_to" (defScope s_Record_move_to) f cdv Ar outer s H E) (defBody s_Record_move_to) (t_Record_move_to P w K mg base A E) := by
  have sc := sc_Record_move_to
  have at_ : At (cxOf (L2.CX P w) P w K mg base N_Record_move_to "Record.move_to" (defScope s_Record_move_to) f cdv Ar outer s H E) 2 E := At.of hr qt (takes_of rfl rfl rfl rfl)
  have pn : PassesOwn (model P w) (cxOf (L2.CX P w) P w K mg base N_Record_move_to "Record.move_to" (defScope s_Record_move_to) f cdv Ar outer s H E).A (cxOf (L2.CX P w) P w K mg base N_Record_move_to "Record.move_to" (defScope s_Record_move_to) f cdv Ar outer s H E).env (cxOf (L2.CX P w) P w K mg base N_Record_move_to "Record.move_to" (defScope s_Record_move_to) f cdv Ar outer s H E).xe := passes_of rfl
  exact pss_one (ps_expr (pe_fn at_ (by rfl) (pa_cons (pe_int) (pa_nil))))
abbrev s_are_records : Stmt := top 32
abbrev N_are_records : List Str := ["thing", "most", "record"]
abbrev ps_are_records : List Str := ["thing", "most"]
theorem sc_are_records : FnScope N_are_records ["thing", "most"] (defScope s_are_records) := ⟨rfl, rfl, rfl, by decide +kernel, rfl, by decide +kernel, by decide +kernel⟩
def t_are_records (P : Program) (w : World) (K : PySem.W.Frag) (mg : Str → Option Value) (base : Heap) (A : Ads) (E : XK) : TS :=
  tSeq (tIfS (tOr (tNot (tB (tCB (cIsi K) (tCons (tVar 0) (tCons (tC (.ty "list")) (tNil)))))) (tTest (tOp uGt (tCB (cLen K) (tCons (tVar 0) (tNil))) (tVar 1)))) (tRet (tC (.bl false))) (tNext)) (tRet (tCB (cAll K) (tCons (tLc (iList K (tVar 0)) (gName 2) (tYes) (tAndV (tCB (cIsi K) (tCons (tVar 2) (tCons (tC (.ref A.cRecord)) (tNil)))) (tOp (uNe K) (tAtt P w K mg base "SIGN" (tVar 2)) (tC (.str "")))) [2]) (tNil))))
theorem d_are_records {P : Program} {w : World} {K : PySem.W.Frag} {mg : Str → Option Value} {base : Heap} {A : Ads} {f : Addr} {cdv : Value} {Ar : Around} {outer : List Env} {s : Shared} {H : Hp} {E : XK} (G : Gm mg A) (hr : Room 2 (Ar.deeper (envOfC "are_records" (defScope s_are_records) s.heap.objs.size f cdv))) (qt : Quiet (Ar.deeper (envOfC "are_records" (defScope s_are_records) s.heap.objs.size f cdv))) :
    PSs (cxOf (L2.CX P w) P w K mg base N_are_records "are_records" (defScope s_are_records) f cdv Ar outer s H E) (defBody s_are_records) (t_are_records P w K mg base A E) := by
  have sc := sc_are_records
  have at_ : At (cxOf (L2.CX P w) P w K mg base N_are_records "are_records" (defScope s_are_records) f cdv Ar outer s H E) 2 E := At.of hr qt (takes_of rfl rfl rfl rfl)
  have pn : PassesOwn (model P w) (cxOf (L2.CX P w) P w K mg base N_are_records "are_records" (defScope s_are_records) f cdv Ar outer s H E).A (cxOf (L2.CX P w) P w K mg base N_are_records "are_records" (defScope s_are_records) f cdv Ar outer s H E).env (cxOf (L2.CX P w) P w K mg base N_are_records "are_records" (defScope s_are_records) f cdv Ar outer s H E).xe := passes_of rfl
  exact pss_cons (ps_if (PW.pt (pw_or (pt_not (pt_val (pe_callB call_cIsi (by rfl) G.g_isinstance (by decide +kernel) (pa_cons (pv 0) (pa_cons (pe_bltn (v := .ty "list") (by rfl) G.g_list (by decide +kernel) rfl) (pa_nil)))))) (pw_or1 (pt_cmpR op_uGt (pe_callB call_cLen (by rfl) G.g_len (by decide +kernel) (pa_cons (pv 0) (pa_nil))) (pv 1) (nomark _))))) (pss_one (ps_ret (pe_bl))) (pss_nil)) (pss_one (ps_ret (pe_callB (call_cAll rfl) (by rfl) G.g_all (by decide +kernel) (pa_cons (pe_lc (own := [("record", 2)]) (g := gName 2) (tt := tYes) rfl sc.nd (pi_list (pv 0)) (blkOk_by (N := N_are_records) (sc := defScope s_are_records) (by decide +kernel)) (fun _ _ _ _ _ => pg_name (i := 2) sc.nd rfl (by first | exact Or.inl rfl | exact Or.inr rfl)) (fun _ _ _ _ _ => pts_nil) (fun _ _ _ _ _ => pe_and (pe_callB call_cIsi (by rfl) G.g_isinstance (by decide +kernel) (pa_cons (pv 2) (pa_cons (pe_g (by rfl) ⟨_, G.cRecord, rfl⟩) (pa_nil)))) (pe_one (pe_cmpR (op_uNe hr) (pe_att hr (pv 2)) (pe_str) (nomark _))))) (pa_nil)))))
abbrev s_sign_of : Stmt := top 33
abbrev N_sign_of : List Str := ["log"]
abbrev ps_sign_of : List Str := ["log"]
theorem sc_sign_of : FnScope N_sign_of ["log"] (defScope s_sign_of) := ⟨rfl, rfl, rfl, by decide +kernel, rfl, by decide +kernel, by decide +kernel⟩
def t_sign_of (P : Program) (w : World) (K : PySem.W.Frag) (mg : Str → Option Value) (base : Heap) (A : Ads) (E : XK) : TS :=
  tRet (tIf (tTest (tOp (uNe K) (tVar 0) (tLst (tNil)))) (tAtt P w K mg base "SIGN" (tOp (uIx K) (tVar 0) (tC (.int 0)))) (tC (.str "")))
theorem d_sign_of {P : Program} {w : World} {K : PySem.W.Frag} {mg : Str → Option Value} {base : Heap} {A : Ads} {f : Addr} {cdv : Value} {Ar : Around} {outer : List Env} {s : Shared} {H : Hp} {E : XK} (G : Gm mg A) (hr : Room 2 (Ar.deeper (envOfC "sign_of" (defScope s_sign_of) s.heap.objs.size f cdv))) (qt : Quiet (Ar.deeper (envOfC "sign_of" (defScope s_sign_of) s.heap.objs.size f cdv))) :
    PSs (cxOf (L2.CX P w) P w K mg base N_sign_of "sign_of" (defScope s_sign_of) f cdv Ar outer s H E) (defBody s_sign_of) (t_sign_of P w K mg base A E) := by
  have sc := sc_sign_of
  have at_ : At (cxOf (L2.CX P w) P w K mg base N_sign_of "sign_of" (defScope s_sign_of) f cdv Ar outer s H E) 2 E := At.of hr qt (takes_of rfl rfl rfl rfl)
  have pn : PassesOwn (model P w) (cxOf (L2.CX P w) P w K mg base N_sign_of "sign_of" (defScope s_sign_of) f cdv Ar outer s H E).A (cxOf (L2.CX P w) P w K mg base N_sign_of "sign_of" (defScope s_sign_of) f cdv Ar outer s H E).env (cxOf (L2.CX P w) P w K mg base N_sign_of "sign_of" (defScope s_sign_of) f cdv Ar outer s H E).xe := passes_of rfl
  exact pss_one (ps_ret (pe_ifExp (pt_cmpR (op_uNe hr) (pv 0) (pe_lst (pa_nil)) (nomark _)) (pe_att hr (pe_ix ix_u (pv 0) (pe_int) (fun _ _ => rfl))) (pe_str)))
abbrev s_items_of : Stmt := top 34
abbrev N_items_of : List Str := ["log", "record"]
abbrev ps_items_of : List Str := ["log"]
theorem sc_items_of : FnScope N_items_of ["log"] (defScope s_items_of) := ⟨rfl, rfl, rfl, by decide +kernel, rfl, by decide +kernel, by decide +kernel⟩
def t_items_of (P : Program) (w : World) (K : PySem.W.Frag) (mg : Str → Option Value) (base : Heap) (A : Ads) (E : XK) : TS :=
  tRet (tLc (iList K (tVar 0)) (gName 1) (tYes) (tAtt P w K mg base "item" (tVar 1)) [1])
theorem d_items_of {P : Program} {w : World} {K : PySem.W.Frag} {mg : Str → Option Value} {base : Heap} {A : Ads} {f : Addr} {cdv : Value} {Ar : Around} {outer : List Env} {s : Shared} {H : Hp} {E : XK} (G : Gm mg A) (hr : Room 2 (Ar.deeper (envOfC "items_of" (defScope s_items_of) s.heap.objs.size f cdv))) (qt : Quiet (Ar.deeper (envOfC "items_of" (defScope s_items_of) s.heap.objs.size f cdv))) :
    PSs (cxOf (L2.CX P w) P w K mg base N_items_of "items_of" (defScope s_items_of) f cdv Ar outer s H E) (defBody s_items_of) (t_items_of P w K mg base A E) := by
  have sc := sc_items_of
  have at_ : At (cxOf (L2.CX P w) P w K mg base N_items_of "items_of" (defScope s_items_of) f cdv Ar outer s H E) 2 E := At.of hr qt (takes_of rfl rfl rfl rfl)
  have pn : PassesOwn (model P w) (cxOf (L2.CX P w) P w K mg base N_items_of "items_of" (defScope s_items_of) f cdv Ar outer s H E).A (cxOf (L2.CX P w) P w K mg base N_items_of "items_of" (defScope s_items_of) f cdv Ar outer s H E).env (cxOf (L2.CX P w) P w K mg base N_items_of "items_of" (defScope s_items_of) f cdv Ar outer s H E).xe := passes_of rfl
  exact pss_one (ps_ret (pe_lc (own := [("record", 1)]) (g := gName 1) (tt := tYes) rfl sc.nd (pi_list (pv 0)) (blkOk_by (N := N_items_of) (sc := defScope s_items_of) (by decide +kernel)) (fun _ _ _ _ _ => pg_name (i := 1) sc.nd rfl (by first | exact Or.inl rfl | exact Or.inr rfl)) (fun _ _ _ _ _ => pts_nil) (fun _ _ _ _ _ => pe_att hr (pv 1))))
abbrev s_is_log : Stmt := top 35
abbrev N_is_log : List Str := ["thing", "record"]
abbrev ps_is_log : List Str := ["thing"]
theorem sc_is_log : FnScope N_is_log ["thing"] (defScope s_is_log) := ⟨rfl, rfl, rfl, by decide +kernel, rfl, by decide +kernel, by decide +kernel⟩
def t_is_log (P : Program) (w : World) (K : PySem.W.Frag) (mg : Str → Option Value) (base : Heap) (A : Ads) (E : XK) : TS :=
  tSeq (tIfS (tNot (tB (tFn P w K mg base "are_records" 3 E (tCons (tVar 0) (tCons (tC A.kMOST_LOG) (tNil)))))) (tRet (tC (.bl false))) (tNext)) (tRet (tAndV (tOp uLe (tLenSetT K (tLc (iList K (tVar 0)) (gName 1) (tYes) (tAtt P w K mg base "SIGN" (tVar 1)) [1])) (tC (.int 1))) (tOp (uEq K) (tLenSetT K (tFn P w K mg base "items_of" 3 E (tCons (tVar 0) (tNil)))) (tCB (cLen K) (tCons (tVar 0) (tNil))))))
theorem d_is_log {P : Program} {w : World} {K : PySem.W.Frag} {mg : Str → Option Value} {base : Heap} {A : Ads} {f : Addr} {cdv : Value} {Ar : Around} {outer : List Env} {s : Shared} {H : Hp} {E : XK} (G : Gm mg A) (hr : Room 3 (Ar.deeper (envOfC "is_log" (defScope s_is_log) s.heap.objs.size f cdv))) (qt : Quiet (Ar.deeper (envOfC "is_log" (defScope s_is_log) s.heap.objs.size f cdv))) :
    PSs (cxOf (L2.CX P w) P w K mg base N_is_log "is_log" (defScope s_is_log) f cdv Ar outer s H E) (defBody s_is_log) (t_is_log P w K mg base A E) := by
  have sc := sc_is_log
  have at_ : At (cxOf (L2.CX P w) P w K mg base N_is_log "is_log" (defScope s_is_log) f cdv Ar outer s H E) 3 E := At.of hr qt (takes_of rfl rfl rfl rfl)
  have pn : PassesOwn (model P w) (cxOf (L2.CX P w) P w K mg base N_is_log "is_log" (defScope s_is_log) f cdv Ar outer s H E).A (cxOf (L2.CX P w) P w K mg base N_is_log "is_log" (defScope s_is_log) f cdv Ar outer s H E).env (cxOf (L2.CX P w) P w K mg base N_is_log "is_log" (defScope s_is_log) f cdv Ar outer s H E).xe := passes_of rfl
  exact pss_cons (ps_if (pt_not (pt_val (pe_fn at_ (by rfl) (pa_cons (pv 0) (pa_cons (pe_g (by rfl) G.g_MOST_LOG) (pa_nil)))))) (pss_one (ps_ret (pe_bl))) (pss_nil)) (pss_one (ps_ret (pe_and (pe_cmpR op_uLe (pe_lenSetT (by rfl) G.g_len (by rfl) G.g_set (pe_lc (own := [("record", 1)]) (g := gName 1) (tt := tYes) rfl sc.nd (pi_list (pv 0)) (blkOk_by (N := N_is_log) (sc := defScope s_is_log) (by decide +kernel)) (fun _ _ _ _ _ => pg_name (i := 1) sc.nd rfl (by first | exact Or.inl rfl | exact Or.inr rfl)) (fun _ _ _ _ _ => pts_nil) (fun _ _ _ _ _ => pe_att hr (pv 1)))) (pe_int) (nomark _)) (pe_one (pe_cmpR (op_uEq hr) (pe_lenSetT (by rfl) G.g_len (by rfl) G.g_set (pe_fn at_ (by rfl) (pa_cons (pv 0) (pa_nil)))) (pe_callB call_cLen (by rfl) G.g_len (by decide +kernel) (pa_cons (pv 0) (pa_nil))) (nomark _))))))
abbrev s_need_log : Stmt := top 36
abbrev N_need_log : List Str := ["thing"]
abbrev ps_need_log : List Str := ["thing"]
theorem sc_need_log : FnScope N_need_log ["thing"] (defScope s_need_log) := ⟨rfl, rfl, rfl, by decide +kernel, rfl, by decide +kernel, by decide +kernel⟩
def t_need_log (P : Program) (w : World) (K : PySem.W.Frag) (mg : Str → Option Value) (base : Heap) (A : Ads) (E : XK) : TS :=
  tIfS (tNot (tB (tFn P w K mg base "is_log" 4 E (tCons (tVar 0) (tNil))))) (tNever) (tNext)
theorem d_need_log {P : Program} {w : World} {K : PySem.W.Frag} {mg : Str → Option Value} {base : Heap} {A : Ads} {f : Addr} {cdv : Value} {Ar : Around} {outer : List Env} {s : Shared} {H : Hp} {E : XK} (G : Gm mg A) (hr : Room 4 (Ar.deeper (envOfC "need_log" (defScope s_need_log) s.heap.objs.size f cdv))) (qt : Quiet (Ar.deeper (envOfC "need_log" (defScope s_need_log) s.heap.objs.size f cdv))) :
    PSs (cxOf (L2.CX P w) P w K mg base N_need_log "need_log" (defScope s_need_log) f cdv Ar outer s H E) (defBody s_need_log) (t_need_log P w K mg base A E) := by
  have sc := sc_need_log
  have at_ : At (cxOf (L2.CX P w) P w K mg base N_need_log "need_log" (defScope s_need_log) f cdv Ar outer s H E) 4 E := At.of hr qt (takes_of rfl rfl rfl rfl)
  have pn : PassesOwn (model P w) (cxOf (L2.CX P w) P w K mg base N_need_log "need_log" (defScope s_need_log) f cdv Ar outer s H E).A (cxOf (L2.CX P w) P w K mg base N_need_log "need_log" (defScope s_need_log) f cdv Ar outer s H E).env (cxOf (L2.CX P w) P w K mg base N_need_log "need_log" (defScope s_need_log) f cdv Ar outer s H E).xe := passes_of rfl
  exact pss_one (ps_if (pt_not (pt_val (pe_fn at_ (by rfl) (pa_cons (pv 0) (pa_nil))))) (pss_one (ps_never)) (pss_nil))
abbrev s_are_items : Stmt := top 21
abbrev N_are_items : List Str := ["thing", "item"]
abbrev ps_are_items : List Str := ["thing"]
theorem sc_are_items : FnScope N_are_items ["thing"] (defScope s_are_items) := ⟨rfl, rfl, rfl, by decide +kernel, rfl, by decide +kernel, by decide +kernel⟩
def t_are_items (P : Program) (w : World) (K : PySem.W.Frag) (mg : Str → Option Value) (base : Heap) (A : Ads) (E : XK) : TS :=
  tSeq (tIfS (tOr (tNot (tB (tCB (cIsi K) (tCons (tVar 0) (tCons (tC (.ty "list")) (tNil)))))) (tOr (tTest (tOp uGt (tCB (cLen K) (tCons (tVar 0) (tNil))) (tC A.kMOST_ITEMS))) (tNot (tB (tCB (cAll K) (tCons (tLc (iList K (tVar 0)) (gName 1) (tYes) (tFn P w K mg base "is_item" 2 E0 (tCons (tVar 1) (tNil))) [1]) (tNil))))))) (tRet (tC (.bl false))) (tNext)) (tRet (tOp (uEq K) (tLenSetT K (tVar 0)) (tCB (cLen K) (tCons (tVar 0) (tNil)))))
theorem d_are_items {P : Program} {w : World} {K : PySem.W.Frag} {mg : Str → Option Value} {base : Heap} {A : Ads} {f : Addr} {cdv : Value} {Ar : Around} {outer : List Env} {s : Shared} {H : Hp} {E : XK} (G : Gm mg A) (hr : Room 2 (Ar.deeper (envOfC "are_items" (defScope s_are_items) s.heap.objs.size f cdv))) (qt : Quiet (Ar.deeper (envOfC "are_items" (defScope s_are_items) s.heap.objs.size f cdv))) :
    PSs (cxOf (L2.CX P w) P w K mg base N_are_items "are_items" (defScope s_are_items) f cdv Ar outer s H E) (defBody s_are_items) (t_are_items P w K mg base A E) := by
  have sc := sc_are_items
  have at_ : At (cxOf (L2.CX P w) P w K mg base N_are_items "are_items" (defScope s_are_items) f cdv Ar outer s H E) 2 E := At.of hr qt (takes_of rfl rfl rfl rfl)
  have pn : PassesOwn (model P w) (cxOf (L2.CX P w) P w K mg base N_are_items "are_items" (defScope s_are_items) f cdv Ar outer s H E).A (cxOf (L2.CX P w) P w K mg base N_are_items "are_items" (defScope s_are_items) f cdv Ar outer s H E).env (cxOf (L2.CX P w) P w K mg base N_are_items "are_items" (defScope s_are_items) f cdv Ar outer s H E).xe := passes_of rfl
  exact pss_cons (ps_if (PW.pt (pw_or (pt_not (pt_val (pe_callB call_cIsi (by rfl) G.g_isinstance (by decide +kernel) (pa_cons (pv 0) (pa_cons (pe_bltn (v := .ty "list") (by rfl) G.g_list (by decide +kernel) rfl) (pa_nil)))))) (pw_or (pt_cmpR op_uGt (pe_callB call_cLen (by rfl) G.g_len (by decide +kernel) (pa_cons (pv 0) (pa_nil))) (pe_g (by rfl) G.g_MOST_ITEMS) (nomark _)) (pw_or1 (pt_not (pt_val (pe_callB (call_cAll rfl) (by rfl) G.g_all (by decide +kernel) (pa_cons (pe_lc (own := [("item", 1)]) (g := gName 1) (tt := tYes) rfl sc.nd (pi_list (pv 0)) (blkOk_by (N := N_are_items) (sc := defScope s_are_items) (by decide +kernel)) (fun _ _ _ _ _ => pg_name (i := 1) sc.nd rfl (by first | exact Or.inl rfl | exact Or.inr rfl)) (fun _ _ _ _ _ => pts_nil) (fun _ _ _ _ _ => pe_fn (At.e0 hr qt) (by rfl) (pa_cons (pv 1) (pa_nil)))) (pa_nil))))))))) (pss_one (ps_ret (pe_bl))) (pss_nil)) (pss_one (ps_ret (pe_cmpR (op_uEq hr) (pe_lenSetT (by rfl) G.g_len (by rfl) G.g_set (pv 0)) (pe_callB call_cLen (by rfl) G.g_len (by decide +kernel) (pa_cons (pv 0) (pa_nil))) (nomark _))))
abbrev s_need_known : Stmt := top 40
abbrev N_need_known : List Str := ["log", "items", "record"]
abbrev ps_need_known : List Str := ["log", "items"]
theorem sc_need_known : FnScope N_need_known ["log", "items"] (defScope s_need_known) := ⟨rfl, rfl, rfl, by decide +kernel, rfl, by decide +kernel, by decide +kernel⟩
def t_need_known (P : Program) (w : World) (K : PySem.W.Frag) (mg : Str → Option Value) (base : Heap) (A : Ads) (E : XK) : TS :=
  tIfS (tOr (tNot (tB (tFn P w K mg base "are_items" 3 E (tCons (tVar 1) (tNil))))) (tNot (tB (tCB (cAll K) (tCons (tLc (iList K (tVar 0)) (gName 2) (tYes) (tOp (uIn K false) (tAtt P w K mg base "item" (tVar 2)) (tVar 1)) [2]) (tNil)))))) (tNever) (tNext)
theorem d_need_known {P : Program} {w : World} {K : PySem.W.Frag} {mg : Str → Option Value} {base : Heap} {A : Ads} {f : Addr} {cdv : Value} {Ar : Around} {outer : List Env} {s : Shared} {H : Hp} {E : XK} (G : Gm mg A) (hr : Room 3 (Ar.deeper (envOfC "need_known" (defScope s_need_known) s.heap.objs.size f cdv))) (qt : Quiet (Ar.deeper (envOfC "need_known" (defScope s_need_known) s.heap.objs.size f cdv))) :
    PSs (cxOf (L2.CX P w) P w K mg base N_need_known "need_known" (defScope s_need_known) f cdv Ar outer s H E) (defBody s_need_known) (t_need_known P w K mg base A E) := by
  have sc := sc_need_known
  have at_ : At (cxOf (L2.CX P w) P w K mg base N_need_known "need_known" (defScope s_need_known) f cdv Ar outer s H E) 3 E := At.of hr qt (takes_of rfl rfl rfl rfl)
  have pn : PassesOwn (model P w) (cxOf (L2.CX P w) P w K mg base N_need_known "need_known" (defScope s_need_known) f cdv Ar outer s H E).A (cxOf (L2.CX P w) P w K mg base N_need_known "need_known" (defScope s_need_known) f cdv Ar outer s H E).env (cxOf (L2.CX P w) P w K mg base N_need_known "need_known" (defScope s_need_known) f cdv Ar outer s H E).xe := passes_of rfl
  exact pss_one (ps_if (PW.pt (pw_or (pt_not (pt_val (pe_fn at_ (by rfl) (pa_cons (pv 1) (pa_nil))))) (pw_or1 (pt_not (pt_val (pe_callB (call_cAll rfl) (by rfl) G.g_all (by decide +kernel) (pa_cons (pe_lc (own := [("record", 2)]) (g := gName 2) (tt := tYes) rfl sc.nd (pi_list (pv 0)) (blkOk_by (N := N_need_known) (sc := defScope s_need_known) (by decide +kernel)) (fun _ _ _ _ _ => pg_name (i := 2) sc.nd rfl (by first | exact Or.inl rfl | exact Or.inr rfl)) (fun _ _ _ _ _ => pts_nil) (fun _ _ _ _ _ => pe_cmpR (op_uIn hr) (pe_att hr (pv 2)) (pv 1) (by rfl))) (pa_nil)))))))) (pss_one (ps_never)) (pss_nil))
abbrev s_Frame_init : Stmt := inClass (top 41) 0
abbrev N_Frame_init : List Str := ["self", "log", "items", "record", "item"]
abbrev ps_Frame_init : List Str := ["self", "log", "items"]
theorem sc_Frame_init : FnScope N_Frame_init ["self", "log", "items"] (defScope s_Frame_init) := ⟨rfl, rfl, rfl, by decide +kernel, rfl, by decide +kernel, by decide +kernel⟩
def t_Frame_init (P : Program) (w : World) (K : PySem.W.Frag) (mg : Str → Option Value) (base : Heap) (A : Ads) (E : XK) : TS :=
  tSeq (sFld K (tVar 0) (tDc (iList K (tVar 1)) (gName 3) (tYes) (tAtt P w K mg base "item" (tVar 3)) (tVar 3) [3]) "by_item") (tSeq (sFld K (tVar 0) (tLc (iList K (tVar 2)) (gName 4) (tTest (tOp (uIn K false) (tVar 4) (tAtt P w K mg base "by_item" (tVar 0)))) (tVar 4) [4]) "marked") (tSeq (sFld K (tVar 0) (tDc (iList K (tAtt P w K mg base "marked" (tVar 0))) (gName 4) (tYes) (tVar 4) (tBM K "list" (rIndex K) (tVar 2) (tCons (tVar 4) (tNil))) [4]) "places") (sFld K (tVar 0) (tOp (uEq K) (tFn P w K mg base "sign_of" 3 E (tCons (tVar 1) (tNil))) (tC A.kFRONTED)) "is_fronted")))
theorem d_Frame_init {P : Program} {w : World} {K : PySem.W.Frag} {mg : Str → Option Value} {base : Heap} {A : Ads} {f : Addr} {cdv : Value} {Ar : Around} {outer : List Env} {s : Shared} {H : Hp} {E : XK} (G : Gm mg A) (hr : Room 3 (Ar.deeper (envOfC "Frame.__init__" (defScope s_Frame_init) s.heap.objs.size f cdv))) (qt : Quiet (Ar.deeper (envOfC "Frame.__init__" (defScope s_Frame_init) s.heap.objs.size f cdv))) :
    PSs (cxOf (L2.CX P w) P w K mg base N_Frame_init "Frame.__init__" (defScope s_Frame_init) f cdv Ar outer s H E) (defBody s_Frame_init) (t_Frame_init P w K mg base A E) := by
  have sc := sc_Frame_init
  have at_ : At (cxOf (L2.CX P w) P w K mg base N_Frame_init "Frame.__init__" (defScope s_Frame_init) f cdv Ar outer s H E) 3 E := At.of hr qt (takes_of rfl rfl rfl rfl)
  have pn : PassesOwn (model P w) (cxOf (L2.CX P w) P w K mg base N_Frame_init "Frame.__init__" (defScope s_Frame_init) f cdv Ar outer s H E).A (cxOf (L2.CX P w) P w K mg base N_Frame_init "Frame.__init__" (defScope s_Frame_init) f cdv Ar outer s H E).env (cxOf (L2.CX P w) P w K mg base N_Frame_init "Frame.__init__" (defScope s_Frame_init) f cdv Ar outer s H E).xe := passes_of rfl
  exact pss_cons (ps_fld (pv 0) (pe_dc (own := [("record", 3)]) (g := gName 3) (tt := tYes) rfl sc.nd (pi_list (pv 1)) (blkOk_by (N := N_Frame_init) (sc := defScope s_Frame_init) (by decide +kernel)) (fun _ _ _ _ _ => pg_name (i := 3) sc.nd rfl (by first | exact Or.inl rfl | exact Or.inr rfl)) (fun _ _ _ _ _ => pts_nil) (fun _ _ _ _ _ => pe_att hr (pv 3)) (fun _ _ _ _ _ => pv 3)) rfl) (pss_cons (ps_fld (pv 0) (pe_lc (own := [("item", 4)]) (g := gName 4) (tt := tTest (tOp (uIn K false) (tVar 4) (tAtt P w K mg base "by_item" (tVar 0)))) rfl sc.nd (pi_list (pv 2)) (blkOk_by (N := N_Frame_init) (sc := defScope s_Frame_init) (by decide +kernel)) (fun _ _ _ _ _ => pg_name (i := 4) sc.nd rfl (by first | exact Or.inl rfl | exact Or.inr rfl)) (fun _ _ _ _ _ => pts_one (pt_cmpR (op_uIn hr) (pv 4) (pe_att hr (pv 0)) (by rfl))) (fun _ _ _ _ _ => pv 4)) rfl) (pss_cons (ps_fld (pv 0) (pe_dc (own := [("item", 4)]) (g := gName 4) (tt := tYes) rfl sc.nd (pi_list (pe_att hr (pv 0))) (blkOk_by (N := N_Frame_init) (sc := defScope s_Frame_init) (by decide +kernel)) (fun _ _ _ _ _ => pg_name (i := 4) sc.nd rfl (by first | exact Or.inl rfl | exact Or.inr rfl)) (fun _ _ _ _ _ => pts_nil) (fun _ _ _ _ _ => pv 4) (fun _ _ _ _ _ => pe_bm PySem.F.plainAttrs_list PySem.F.slot_list_index PySem.F.type_list_index mt_index (pv 2) (pa_cons (pv 4) (pa_nil)))) rfl) (pss_one (ps_fld (pv 0) (pe_cmpR (op_uEq hr) (pe_fn at_ (by rfl) (pa_cons (pv 1) (pa_nil))) (pe_g (by rfl) G.g_FRONTED) (nomark _)) rfl))))
abbrev s_Frame_room : Stmt := inClass (top 41) 1
abbrev N_Frame_room : List Str := ["self", "item", "before"]
abbrev ps_Frame_room : List Str := ["self", "item"]
theorem sc_Frame_room : FnScope N_Frame_room ["self", "item"] (defScope s_Frame_room) := ⟨rfl, rfl, rfl, by decide +kernel, rfl, by decide +kernel, by decide +kernel⟩
def t_Frame_room (P : Program) (w : World) (K : PySem.W.Frag) (mg : Str → Option Value) (base : Heap) (A : Ads) (E : XK) : TS :=
  tSeq (tAsg (tBM K "list" (rIndex K) (tAtt P w K mg base "marked" (tVar 0)) (tCons (tVar 1) (tNil))) (gName 2)) (tRet (tIf (tB (tAtt P w K mg base "is_fronted" (tVar 0))) (tOp uSub (tOp uSub (tCB (cLen K) (tCons (tAtt P w K mg base "marked" (tVar 0)) (tNil))) (tC (.int 1))) (tVar 2)) (tVar 2)))
theorem d_Frame_room {P : Program} {w : World} {K : PySem.W.Frag} {mg : Str → Option Value} {base : Heap} {A : Ads} {f : Addr} {cdv : Value} {Ar : Around} {outer : List Env} {s : Shared} {H : Hp} {E : XK} (G : Gm mg A) (hr : Room 2 (Ar.deeper (envOfC "Frame.room" (defScope s_Frame_room) s.heap.objs.size f cdv))) (qt : Quiet (Ar.deeper (envOfC "Frame.room" (defScope s_Frame_room) s.heap.objs.size f cdv))) :
    PSs (cxOf (L2.CX P w) P w K mg base N_Frame_room "Frame.room" (defScope s_Frame_room) f cdv Ar outer s H E) (defBody s_Frame_room) (t_Frame_room P w K mg base A E) := by
  have sc := sc_Frame_room
  have at_ : At (cxOf (L2.CX P w) P w K mg base N_Frame_room "Frame.room" (defScope s_Frame_room) f cdv Ar outer s H E) 2 E := At.of hr qt (takes_of rfl rfl rfl rfl)
  have pn : PassesOwn (model P w) (cxOf (L2.CX P w) P w K mg base N_Frame_room "Frame.room" (defScope s_Frame_room) f cdv Ar outer s H E).A (cxOf (L2.CX P w) P w K mg base N_Frame_room "Frame.room" (defScope s_Frame_room) f cdv Ar outer s H E).env (cxOf (L2.CX P w) P w K mg base N_Frame_room "Frame.room" (defScope s_Frame_room) f cdv Ar outer s H E).xe := passes_of rfl
  exact pss_cons (ps_set (i := 2) sc.nd rfl (by first | exact Or.inl rfl | exact Or.inr rfl) (pe_bm PySem.F.plainAttrs_list PySem.F.slot_list_index PySem.F.type_list_index mt_index (pe_att hr (pv 0)) (pa_cons (pv 1) (pa_nil)))) (pss_one (ps_ret (pe_ifExp (pt_val (pe_att hr (pv 0))) (pe_op op_uSub (pe_op op_uSub (pe_callB call_cLen (by rfl) G.g_len (by decide +kernel) (pa_cons (pe_att hr (pv 0)) (pa_nil))) (pe_int)) (pv 2)) (pv 2))))
abbrev s_Frame_shift : Stmt := inClass (top 41) 2
abbrev N_Frame_shift : List Str := ["self", "item", "distance"]
abbrev ps_Frame_shift : List Str := ["self", "item"]
theorem sc_Frame_shift : FnScope N_Frame_shift ["self", "item"] (defScope s_Frame_shift) := ⟨rfl, rfl, rfl, by decide +kernel, rfl, by decide +kernel, by decide +kernel⟩
def t_Frame_shift (P : Program) (w : World) (K : PySem.W.Frag) (mg : Str → Option Value) (base : Heap) (A : Ads) (E : XK) : TS :=
  tSeq (tAsg (tOp uSub (tDGet (tAtt P w K mg base "places" (tVar 0)) (tVar 1)) (tAtt P w K mg base "slot" (tDGet (tAtt P w K mg base "by_item" (tVar 0)) (tVar 1)))) (gName 2)) (tRet (tIf (tB (tAtt P w K mg base "is_fronted" (tVar 0))) (tUn uNeg (tVar 2)) (tVar 2)))
theorem d_Frame_shift {P : Program} {w : World} {K : PySem.W.Frag} {mg : Str → Option Value} {base : Heap} {A : Ads} {f : Addr} {cdv : Value} {Ar : Around} {outer : List Env} {s : Shared} {H : Hp} {E : XK} (G : Gm mg A) (hr : Room 2 (Ar.deeper (envOfC "Frame.shift" (defScope s_Frame_shift) s.heap.objs.size f cdv))) (qt : Quiet (Ar.deeper (envOfC "Frame.shift" (defScope s_Frame_shift) s.heap.objs.size f cdv))) :
    PSs (cxOf (L2.CX P w) P w K mg base N_Frame_shift "Frame.shift" (defScope s_Frame_shift) f cdv Ar outer s H E) (defBody s_Frame_shift) (t_Frame_shift P w K mg base A E) := by
  have sc := sc_Frame_shift
  have at_ : At (cxOf (L2.CX P w) P w K mg base N_Frame_shift "Frame.shift" (defScope s_Frame_shift) f cdv Ar outer s H E) 2 E := At.of hr qt (takes_of rfl rfl rfl rfl)
  have pn : PassesOwn (model P w) (cxOf (L2.CX P w) P w K mg base N_Frame_shift "Frame.shift" (defScope s_Frame_shift) f cdv Ar outer s H E).A (cxOf (L2.CX P w) P w K mg base N_Frame_shift "Frame.shift" (defScope s_Frame_shift) f cdv Ar outer s H E).env (cxOf (L2.CX P w) P w K mg base N_Frame_shift "Frame.shift" (defScope s_Frame_shift) f cdv Ar outer s H E).xe := passes_of rfl
  exact pss_cons (ps_set (i := 2) sc.nd rfl (by first | exact Or.inl rfl | exact Or.inr rfl) (pe_op op_uSub (pe_dget (hu_of hr) (pe_att hr (pv 0)) (pv 1) (fun _ _ => rfl)) (pe_att hr (pe_dget (hu_of hr) (pe_att hr (pv 0)) (pv 1) (fun _ _ => rfl))))) (pss_one (ps_ret (pe_ifExp (pt_val (pe_att hr (pv 0))) (pe_un un_uNeg (pv 2)) (pv 2))))
abbrev s_Frame_is_low : Stmt := inClass (top 41) 4
abbrev N_Frame_is_low : List Str := ["self", "item"]
abbrev ps_Frame_is_low : List Str := ["self", "item"]
theorem sc_Frame_is_low : FnScope N_Frame_is_low ["self", "item"] (defScope s_Frame_is_low) := ⟨rfl, rfl, rfl, by decide +kernel, rfl, by decide +kernel, by decide +kernel⟩
def t_Frame_is_low (P : Program) (w : World) (K : PySem.W.Frag) (mg : Str → Option Value) (base : Heap) (A : Ads) (E : XK) : TS :=
  tRet (tOp uLt (tMth P w K mg base "shift" 3 E (tVar 0) (tCons (tVar 1) (tNil))) (tC (.int 0)))
theorem d_Frame_is_low {P : Program} {w : World} {K : PySem.W.Frag} {mg : Str → Option Value} {base : Heap} {A : Ads} {f : Addr} {cdv : Value} {Ar : Around} {outer : List Env} {s : Shared} {H : Hp} {E : XK} (G : Gm mg A) (hr : Room 3 (Ar.deeper (envOfC "Frame.is_low" (defScope s_Frame_is_low) s.heap.objs.size f cdv))) (qt : Quiet (Ar.deeper (envOfC "Frame.is_low" (defScope s_Frame_is_low) s.heap.objs.size f cdv))) :
    PSs (cxOf (L2.CX P w) P w K mg base N_Frame_is_low "Frame.is_low" (defScope s_Frame_is_low) f cdv Ar outer s H E) (defBody s_Frame_is_low) (t_Frame_is_low P w K mg base A E) := by
  have sc := sc_Frame_is_low
  have at_ : At (cxOf (L2.CX P w) P w K mg base N_Frame_is_low "Frame.is_low" (defScope s_Frame_is_low) f cdv Ar outer s H E) 3 E := At.of hr qt (takes_of rfl rfl rfl rfl)
  have pn : PassesOwn (model P w) (cxOf (L2.CX P w) P w K mg base N_Frame_is_low "Frame.is_low" (defScope s_Frame_is_low) f cdv Ar outer s H E).A (cxOf (L2.CX P w) P w K mg base N_Frame_is_low "Frame.is_low" (defScope s_Frame_is_low) f cdv Ar outer s H E).env (cxOf (L2.CX P w) P w K mg base N_Frame_is_low "Frame.is_low" (defScope s_Frame_is_low) f cdv Ar outer s H E).xe := passes_of rfl
  exact pss_one (ps_ret (pe_cmpR op_uLt (pe_mth at_ (pv 0) (pa_cons (pv 1) (pa_nil))) (pe_int) (nomark _)))
abbrev s_Frame_is_high : Stmt := inClass (top 41) 5
abbrev N_Frame_is_high : List Str := ["self", "item"]
abbrev ps_Frame_is_high : List Str := ["self", "item"]
theorem sc_Frame_is_high : FnScope N_Frame_is_high ["self", "item"] (defScope s_Frame_is_high) := ⟨rfl, rfl, rfl, by decide +kernel, rfl, by decide +kernel, by decide +kernel⟩
def t_Frame_is_high (P : Program) (w : World) (K : PySem.W.Frag) (mg : Str → Option Value) (base : Heap) (A : Ads) (E : XK) : TS :=
  tRet (tOp uGt (tMth P w K mg base "shift" 3 E (tVar 0) (tCons (tVar 1) (tNil))) (tMth P w K mg base "room" 3 E (tVar 0) (tCons (tVar 1) (tNil))))
theorem d_Frame_is_high {P : Program} {w : World} {K : PySem.W.Frag} {mg : Str → Option Value} {base : Heap} {A : Ads} {f : Addr} {cdv : Value} {Ar : Around} {outer : List Env} {s : Shared} {H : Hp} {E : XK} (G : Gm mg A) (hr : Room 3 (Ar.deeper (envOfC "Frame.is_high" (defScope s_Frame_is_high) s.heap.objs.size f cdv))) (qt : Quiet (Ar.deeper (envOfC "Frame.is_high" (defScope s_Frame_is_high) s.heap.objs.size f cdv))) :
    PSs (cxOf (L2.CX P w) P w K mg base N_Frame_is_high "Frame.is_high" (defScope s_Frame_is_high) f cdv Ar outer s H E) (defBody s_Frame_is_high) (t_Frame_is_high P w K mg base A E) := by
  have sc := sc_Frame_is_high
  have at_ : At (cxOf (L2.CX P w) P w K mg base N_Frame_is_high "Frame.is_high" (defScope s_Frame_is_high) f cdv Ar outer s H E) 3 E := At.of hr qt (takes_of rfl rfl rfl rfl)
  have pn : PassesOwn (model P w) (cxOf (L2.CX P w) P w K mg base N_Frame_is_high "Frame.is_high" (defScope s_Frame_is_high) f cdv Ar outer s H E).A (cxOf (L2.CX P w) P w K mg base N_Frame_is_high "Frame.is_high" (defScope s_Frame_is_high) f cdv Ar outer s H E).env (cxOf (L2.CX P w) P w K mg base N_Frame_is_high "Frame.is_high" (defScope s_Frame_is_high) f cdv Ar outer s H E).xe := passes_of rfl
  exact pss_one (ps_ret (pe_cmpR op_uGt (pe_mth at_ (pv 0) (pa_cons (pv 1) (pa_nil))) (pe_mth at_ (pv 0) (pa_cons (pv 1) (pa_nil))) (nomark _)))
abbrev s_Frame_first_fault : Stmt := inClass (top 41) 6
abbrev N_Frame_first_fault : List Str := ["self", "item"]
abbrev ps_Frame_first_fault : List Str := ["self"]
theorem sc_Frame_first_fault : FnScope N_Frame_first_fault ["self"] (defScope s_Frame_first_fault) := ⟨rfl, rfl, rfl, by decide +kernel, rfl, by decide +kernel, by decide +kernel⟩
def t_Frame_first_fault (P : Program) (w : World) (K : PySem.W.Frag) (mg : Str → Option Value) (base : Heap) (A : Ads) (E : XK) : TS :=
  tSeq (tFor (iList K (tAtt P w K mg base "marked" (tVar 0))) (gName 1) (tIfS (tOr (tB (tMth P w K mg base "is_low" 4 E (tVar 0) (tCons (tVar 1) (tNil)))) (tB (tMth P w K mg base "is_high" 4 E (tVar 0) (tCons (tVar 1) (tNil))))) (tRet (tTup (tCons (tIf (tB (tMth P w K mg base "is_low" 4 E (tVar 0) (tCons (tVar 1) (tNil)))) (tC A.kLOW) (tC A.kHIGH)) (tCons (tVar 1) (tNil))))) (tNext))) (tRet (tC .non))
theorem d_Frame_first_fault {P : Program} {w : World} {K : PySem.W.Frag} {mg : Str → Option Value} {base : Heap} {A : Ads} {f : Addr} {cdv : Value} {Ar : Around} {outer : List Env} {s : Shared} {H : Hp} {E : XK} (G : Gm mg A) (hr : Room 4 (Ar.deeper (envOfC "Frame.first_fault" (defScope s_Frame_first_fault) s.heap.objs.size f cdv))) (qt : Quiet (Ar.deeper (envOfC "Frame.first_fault" (defScope s_Frame_first_fault) s.heap.objs.size f cdv))) :
    PSs (cxOf (L2.CX P w) P w K mg base N_Frame_first_fault "Frame.first_fault" (defScope s_Frame_first_fault) f cdv Ar outer s H E) (defBody s_Frame_first_fault) (t_Frame_first_fault P w K mg base A E) := by
  have sc := sc_Frame_first_fault
  have at_ : At (cxOf (L2.CX P w) P w K mg base N_Frame_first_fault "Frame.first_fault" (defScope s_Frame_first_fault) f cdv Ar outer s H E) 4 E := At.of hr qt (takes_of rfl rfl rfl rfl)
  have pn : PassesOwn (model P w) (cxOf (L2.CX P w) P w K mg base N_Frame_first_fault "Frame.first_fault" (defScope s_Frame_first_fault) f cdv Ar outer s H E).A (cxOf (L2.CX P w) P w K mg base N_Frame_first_fault "Frame.first_fault" (defScope s_Frame_first_fault) f cdv Ar outer s H E).env (cxOf (L2.CX P w) P w K mg base N_Frame_first_fault "Frame.first_fault" (defScope s_Frame_first_fault) f cdv Ar outer s H E).xe := passes_of rfl
  exact pss_cons (ps_for pn rfl (pi_list (pe_att hr (pv 0))) (pg_name (i := 1) sc.nd rfl (by first | exact Or.inl rfl | exact Or.inr rfl)) (pss_one (ps_if (PW.pt (pw_or (pt_val (pe_mth at_ (pv 0) (pa_cons (pv 1) (pa_nil)))) (pw_or1 (pt_val (pe_mth at_ (pv 0) (pa_cons (pv 1) (pa_nil))))))) (pss_one (ps_ret (pe_tup (pa_cons (pe_ifExp (pt_val (pe_mth at_ (pv 0) (pa_cons (pv 1) (pa_nil)))) (pe_g (by rfl) G.g_LOW) (pe_g (by rfl) G.g_HIGH)) (pa_cons (pv 1) (pa_nil)))))) (pss_nil)))) (pss_one (ps_ret (pe_non)))
abbrev s_framed : Stmt := top 42
abbrev N_framed : List Str := ["log", "items"]
abbrev ps_framed : List Str := ["log", "items"]
theorem sc_framed : FnScope N_framed ["log", "items"] (defScope s_framed) := ⟨rfl, rfl, rfl, by decide +kernel, rfl, by decide +kernel, by decide +kernel⟩
def t_framed (P : Program) (w : World) (K : PySem.W.Frag) (mg : Str → Option Value) (base : Heap) (A : Ads) (E : XK) : TS :=
  tSeq (tDrop (tFn P w K mg base "need_log" 5 E (tCons (tVar 0) (tNil)))) (tSeq (tDrop (tFn P w K mg base "need_known" 5 E (tCons (tVar 0) (tCons (tVar 1) (tNil))))) (tRet (tMkr P w K mg base "Frame" 5 E (tCons (tVar 0) (tCons (tVar 1) (tNil))))))
theorem d_framed {P : Program} {w : World} {K : PySem.W.Frag} {mg : Str → Option Value} {base : Heap} {A : Ads} {f : Addr} {cdv : Value} {Ar : Around} {outer : List Env} {s : Shared} {H : Hp} {E : XK} (G : Gm mg A) (hr : Room 5 (Ar.deeper (envOfC "framed" (defScope s_framed) s.heap.objs.size f cdv))) (qt : Quiet (Ar.deeper (envOfC "framed" (defScope s_framed) s.heap.objs.size f cdv))) :
    PSs (cxOf (L2.CX P w) P w K mg base N_framed "framed" (defScope s_framed) f cdv Ar outer s H E) (defBody s_framed) (t_framed P w K mg base A E) := by
  have sc := sc_framed
  have at_ : At (cxOf (L2.CX P w) P w K mg base N_framed "framed" (defScope s_framed) f cdv Ar outer s H E) 5 E := At.of hr qt (takes_of rfl rfl rfl rfl)
  have pn : PassesOwn (model P w) (cxOf (L2.CX P w) P w K mg base N_framed "framed" (defScope s_framed) f cdv Ar outer s H E).A (cxOf (L2.CX P w) P w K mg base N_framed "framed" (defScope s_framed) f cdv Ar outer s H E).env (cxOf (L2.CX P w) P w K mg base N_framed "framed" (defScope s_framed) f cdv Ar outer s H E).xe := passes_of rfl
  exact pss_cons (ps_expr (pe_fn at_ (by rfl) (pa_cons (pv 0) (pa_nil)))) (pss_cons (ps_expr (pe_fn at_ (by rfl) (pa_cons (pv 0) (pa_cons (pv 1) (pa_nil))))) (pss_one (ps_ret (pe_mkr at_ (by rfl) (pa_cons (pv 0) (pa_cons (pv 1) (pa_nil)))))))
abbrev s_reason : Stmt := top 43
abbrev N_reason : List Str := ["log", "items"]
abbrev ps_reason : List Str := ["log", "items"]
theorem sc_reason : FnScope N_reason ["log", "items"] (defScope s_reason) := ⟨rfl, rfl, rfl, by decide +kernel, rfl, by decide +kernel, by decide +kernel⟩
def t_reason (P : Program) (w : World) (K : PySem.W.Frag) (mg : Str → Option Value) (base : Heap) (A : Ads) (E : XK) : TS :=
  tRet (tMth P w K mg base "first_fault" 6 E (tFn P w K mg base "framed" 6 E (tCons (tVar 0) (tCons (tVar 1) (tNil)))) tNil)
theorem d_reason {P : Program} {w : World} {K : PySem.W.Frag} {mg : Str → Option Value} {base : Heap} {A : Ads} {f : Addr} {cdv : Value} {Ar : Around} {outer : List Env} {s : Shared} {H : Hp} {E : XK} (G : Gm mg A) (hr : Room 6 (Ar.deeper (envOfC "reason" (defScope s_reason) s.heap.objs.size f cdv))) (qt : Quiet (Ar.deeper (envOfC "reason" (defScope s_reason) s.heap.objs.size f cdv))) :
    PSs (cxOf (L2.CX P w) P w K mg base N_reason "reason" (defScope s_reason) f cdv Ar outer s H E) (defBody s_reason) (t_reason P w K mg base A E) := by
  have sc := sc_reason
  have at_ : At (cxOf (L2.CX P w) P w K mg base N_reason "reason" (defScope s_reason) f cdv Ar outer s H E) 6 E := At.of hr qt (takes_of rfl rfl rfl rfl)
  have pn : PassesOwn (model P w) (cxOf (L2.CX P w) P w K mg base N_reason "reason" (defScope s_reason) f cdv Ar outer s H E).A (cxOf (L2.CX P w) P w K mg base N_reason "reason" (defScope s_reason) f cdv Ar outer s H E).env (cxOf (L2.CX P w) P w K mg base N_reason "reason" (defScope s_reason) f cdv Ar outer s H E).xe := passes_of rfl
  exact pss_one (ps_ret (pe_mth0 at_ (pe_fn at_ (by rfl) (pa_cons (pv 0) (pa_cons (pv 1) (pa_nil))))))
abbrev s_Frame_bounds : Stmt := inClass (top 41) 3
abbrev N_Frame_bounds : List Str := ["self", "item", "place", "room"]
abbrev ps_Frame_bounds : List Str := ["self", "item"]
theorem sc_Frame_bounds : FnScope N_Frame_bounds ["self", "item"] (defScope s_Frame_bounds) := ⟨rfl, rfl, rfl, by decide +kernel, rfl, by decide +kernel, by decide +kernel⟩
def t_Frame_bounds (P : Program) (w : World) (K : PySem.W.Frag) (mg : Str → Option Value) (base : Heap) (A : Ads) (E : XK) : TS :=
  tSeq (tPar 2 3 (tCons (tDGet (tAtt P w K mg base "places" (tVar 0)) (tVar 1)) (tCons (tMth P w K mg base "room" 3 E (tVar 0) (tCons (tVar 1) (tNil))) (tNil)))) (tRet (tIf (tB (tAtt P w K mg base "is_fronted" (tVar 0))) (tTup (tCons (tVar 2) (tCons (tOp uAdd (tVar 2) (tVar 3)) (tNil)))) (tTup (tCons (tOp uSub (tVar 2) (tVar 3)) (tCons (tVar 2) (tNil))))))
theorem d_Frame_bounds {P : Program} {w : World} {K : PySem.W.Frag} {mg : Str → Option Value} {base : Heap} {A : Ads} {f : Addr} {cdv : Value} {Ar : Around} {outer : List Env} {s : Shared} {H : Hp} {E : XK} (G : Gm mg A) (hr : Room 3 (Ar.deeper (envOfC "Frame.bounds" (defScope s_Frame_bounds) s.heap.objs.size f cdv))) (qt : Quiet (Ar.deeper (envOfC "Frame.bounds" (defScope s_Frame_bounds) s.heap.objs.size f cdv))) :
    PSs (cxOf (L2.CX P w) P w K mg base N_Frame_bounds "Frame.bounds" (defScope s_Frame_bounds) f cdv Ar outer s H E) (defBody s_Frame_bounds) (t_Frame_bounds P w K mg base A E) := by
  have sc := sc_Frame_bounds
  have at_ : At (cxOf (L2.CX P w) P w K mg base N_Frame_bounds "Frame.bounds" (defScope s_Frame_bounds) f cdv Ar outer s H E) 3 E := At.of hr qt (takes_of rfl rfl rfl rfl)
  have pn : PassesOwn (model P w) (cxOf (L2.CX P w) P w K mg base N_Frame_bounds "Frame.bounds" (defScope s_Frame_bounds) f cdv Ar outer s H E).A (cxOf (L2.CX P w) P w K mg base N_Frame_bounds "Frame.bounds" (defScope s_Frame_bounds) f cdv Ar outer s H E).env (cxOf (L2.CX P w) P w K mg base N_Frame_bounds "Frame.bounds" (defScope s_Frame_bounds) f cdv Ar outer s H E).xe := passes_of rfl
  exact pss_cons (ps_par rfl sc.nd rfl rfl (by decide) rfl rfl (pa_cons (pe_dget (hu_of hr) (pe_att hr (pv 0)) (pv 1) (fun _ _ => rfl)) (pa_cons (pe_mth at_ (pv 0) (pa_cons (pv 1) (pa_nil))) (pa_nil))) (by rfl)) (pss_one (ps_ret (pe_ifExp (pt_val (pe_att hr (pv 0))) (pe_tup (pa_cons (pv 2) (pa_cons (pe_op op_uAdd (pv 2) (pv 3)) (pa_nil)))) (pe_tup (pa_cons (pe_op op_uSub (pv 2) (pv 3)) (pa_cons (pv 2) (pa_nil)))))))
abbrev s_index_range : Stmt := top 44
abbrev N_index_range : List Str := ["log", "items", "item", "frame"]
abbrev ps_index_range : List Str := ["log", "items", "item"]
theorem sc_index_range : FnScope N_index_range ["log", "items", "item"] (defScope s_index_range) := ⟨rfl, rfl, rfl, by decide +kernel, rfl, by decide +kernel, by decide +kernel⟩
def t_index_range (P : Program) (w : World) (K : PySem.W.Frag) (mg : Str → Option Value) (base : Heap) (A : Ads) (E : XK) : TS :=
  tSeq (tAsg (tFn P w K mg base "framed" 6 E (tCons (tVar 0) (tCons (tVar 1) (tNil)))) (gName 3)) (tSeq (tIfS (tTest (tOp (uIn K true) (tVar 2) (tAtt P w K mg base "by_item" (tVar 3)))) (tNever) (tNext)) (tRet (tMth P w K mg base "bounds" 6 E (tVar 3) (tCons (tVar 2) (tNil)))))
theorem d_index_range {P : Program} {w : World} {K : PySem.W.Frag} {mg : Str → Option Value} {base : Heap} {A : Ads} {f : Addr} {cdv : Value} {Ar : Around} {outer : List Env} {s : Shared} {H : Hp} {E : XK} (G : Gm mg A) (hr : Room 6 (Ar.deeper (envOfC "index_range" (defScope s_index_range) s.heap.objs.size f cdv))) (qt : Quiet (Ar.deeper (envOfC "index_range" (defScope s_index_range) s.heap.objs.size f cdv))) :
    PSs (cxOf (L2.CX P w) P w K mg base N_index_range "index_range" (defScope s_index_range) f cdv Ar outer s H E) (defBody s_index_range) (t_index_range P w K mg base A E) := by
  have sc := sc_index_range
  have at_ : At (cxOf (L2.CX P w) P w K mg base N_index_range "index_range" (defScope s_index_range) f cdv Ar outer s H E) 6 E := At.of hr qt (takes_of rfl rfl rfl rfl)
  have pn : PassesOwn (model P w) (cxOf (L2.CX P w) P w K mg base N_index_range "index_range" (defScope s_index_range) f cdv Ar outer s H E).A (cxOf (L2.CX P w) P w K mg base N_index_range "index_range" (defScope s_index_range) f cdv Ar outer s H E).env (cxOf (L2.CX P w) P w K mg base N_index_range "index_range" (defScope s_index_range) f cdv Ar outer s H E).xe := passes_of rfl
  exact pss_cons (ps_set (i := 3) sc.nd rfl (by first | exact Or.inl rfl | exact Or.inr rfl) (pe_fn at_ (by rfl) (pa_cons (pv 0) (pa_cons (pv 1) (pa_nil))))) (pss_cons (ps_if (pt_cmpR (op_uNotIn hr) (pv 2) (pe_att hr (pv 3)) (by rfl)) (pss_one (ps_never)) (pss_nil)) (pss_one (ps_ret (pe_mth at_ (pv 3) (pa_cons (pv 2) (pa_nil))))))
abbrev s_law_source : Stmt := top 46
abbrev N_law_source : List Str := ["_law_script", "_law_k", "_law_cell"]
abbrev ps_law_source : List Str := ["_law_script", "_law_k"]
theorem sc_law_source : FnScope N_law_source ["_law_script", "_law_k"] (defScope s_law_source) := ⟨rfl, rfl, rfl, by decide +kernel, rfl, by decide +kernel, by decide +kernel⟩
def t_law_source (P : Program) (w : World) (K : PySem.W.Frag) (mg : Str → Option Value) (base : Heap) (A : Ads) (E : XK) : TS :=
  tSeq (tAsg (tIf (tTest (tOp uLt (tVar 1) (tCB (cLen K) (tCons (tVar 0) (tNil))))) (tCB (cAbs) (tCons (tOp (uIx K) (tVar 0) (tVar 1)) (tNil))) (tC (.int 0))) (gName 2)) (tRet (tLst (tCons (tCB (cMax K) (tCons (tC (.int 0)) (tCons (tOp uSub (tVar 2) (tOp uPow (tC (.int 10)) (tC (.int 18)))) (tNil)))) (tCons (tOp uAdd (tOp uAdd (tOp uMul (tOp uMod (tVar 2) (tOp uAdd (tOp uPow (tC (.int 10)) (tC (.int 36))) (tC (.int 67)))) (tC (.int 64))) (tVar 1)) (tC (.int 34))) (tCons (tC (.int 0)) (tNil))))))
theorem d_law_source {P : Program} {w : World} {K : PySem.W.Frag} {mg : Str → Option Value} {base : Heap} {A : Ads} {f : Addr} {cdv : Value} {Ar : Around} {outer : List Env} {s : Shared} {H : Hp} {E : XK} (G : Gm mg A) (hr : Room 1 (Ar.deeper (envOfC "_law_source" (defScope s_law_source) s.heap.objs.size f cdv))) (qt : Quiet (Ar.deeper (envOfC "_law_source" (defScope s_law_source) s.heap.objs.size f cdv))) :
    PSs (cxOf (L2.CX P w) P w K mg base N_law_source "_law_source" (defScope s_law_source) f cdv Ar outer s H E) (defBody s_law_source) (t_law_source P w K mg base A E) := by
  have sc := sc_law_source
  have at_ : At (cxOf (L2.CX P w) P w K mg base N_law_source "_law_source" (defScope s_law_source) f cdv Ar outer s H E) 1 E := At.of hr qt (takes_of rfl rfl rfl rfl)
  have pn : PassesOwn (model P w) (cxOf (L2.CX P w) P w K mg base N_law_source "_law_source" (defScope s_law_source) f cdv Ar outer s H E).A (cxOf (L2.CX P w) P w K mg base N_law_source "_law_source" (defScope s_law_source) f cdv Ar outer s H E).env (cxOf (L2.CX P w) P w K mg base N_law_source "_law_source" (defScope s_law_source) f cdv Ar outer s H E).xe := passes_of rfl
  exact pss_cons (ps_set (i := 2) sc.nd rfl (by first | exact Or.inl rfl | exact Or.inr rfl) (pe_ifExp (pt_cmpR op_uLt (pv 1) (pe_callB call_cLen (by rfl) G.g_len (by decide +kernel) (pa_cons (pv 0) (pa_nil))) (nomark _)) (pe_callB call_cAbs (by rfl) G.g_abs (by decide +kernel) (pa_cons (pe_ix ix_u (pv 0) (pv 1) (fun _ _ => rfl)) (pa_nil))) (pe_int))) (pss_one (ps_ret (pe_lst (pa_cons (pe_callB (call_cMax rfl) (by rfl) G.g_max (by decide +kernel) (pa_cons (pe_int) (pa_cons (pe_op op_uSub (pv 2) (pe_op op_uPow (pe_int) (pe_int))) (pa_nil)))) (pa_cons (pe_op op_uAdd (pe_op op_uAdd (pe_op op_uMul (pe_op op_uMod (pv 2) (pe_op op_uAdd (pe_op op_uPow (pe_int) (pe_int)) (pe_int))) (pe_int)) (pv 1)) (pe_int)) (pa_cons (pe_int) (pa_nil)))))))
abbrev s_law_pick : Stmt := top 47
abbrev N_law_pick : List Str := ["_law_source_here", "_law_size", "_law_digit", "_law_mixed_here"]
abbrev ps_law_pick : List Str := ["_law_source_here", "_law_size"]
theorem sc_law_pick : FnScope N_law_pick ["_law_source_here", "_law_size"] (defScope s_law_pick) := ⟨rfl, rfl, rfl, by decide +kernel, rfl, by decide +kernel, by decide +kernel⟩
def t_law_pick (P : Program) (w : World) (K : PySem.W.Frag) (mg : Str → Option Value) (base : Heap) (A : Ads) (E : XK) : TS :=
  tSeq (tIfS (tTest (tOp uGt (tOp (uIx K) (tVar 0) (tC (.int 0))) (tC (.int 0)))) (tSeq (tAsg (tOp uMod (tOp (uIx K) (tVar 0) (tC (.int 0))) (tVar 1)) (gName 2)) (tSeq (tAsg (tOp uDiv (tOp (uIx K) (tVar 0) (tC (.int 0))) (tVar 1)) (gSub (tVar 0) (tC (.int 0)) rSetL)) (tRet (tVar 2)))) (tNext)) (tSeq (tAsg (tOp uAdd (tOp (uIx K) (tVar 0) (tC (.int 2))) (tC (.int 1))) (gSub (tVar 0) (tC (.int 2)) rSetL)) (tSeq (tAsg (tOp uMod (tOp uPow (tOp uAdd (tOp (uIx K) (tVar 0) (tC (.int 1))) (tOp uMul (tC (.int 6700417)) (tOp (uIx K) (tVar 0) (tC (.int 2))))) (tC (.int 3))) (tOp uAdd (tOp uPow (tC (.int 10)) (tC (.int 41))) (tC (.int 37)))) (gName 3)) (tSeq (tAsg (tOp uMod (tOp uPow (tOp uAdd (tVar 3) (tOp uMul (tC (.int 32416190071)) (tOp (uIx K) (tVar 0) (tC (.int 2))))) (tC (.int 5))) (tOp uAdd (tOp uPow (tC (.int 10)) (tC (.int 39))) (tC (.int 3)))) (gName 3)) (tRet (tOp uMod (tOp uDiv (tVar 3) (tC (.int 1048576))) (tVar 1))))))
theorem d_law_pick {P : Program} {w : World} {K : PySem.W.Frag} {mg : Str → Option Value} {base : Heap} {A : Ads} {f : Addr} {cdv : Value} {Ar : Around} {outer : List Env} {s : Shared} {H : Hp} {E : XK} (G : Gm mg A) (hr : Room 1 (Ar.deeper (envOfC "_law_pick" (defScope s_law_pick) s.heap.objs.size f cdv))) (qt : Quiet (Ar.deeper (envOfC "_law_pick" (defScope s_law_pick) s.heap.objs.size f cdv))) :
    PSs (cxOf (L2.CX P w) P w K mg base N_law_pick "_law_pick" (defScope s_law_pick) f cdv Ar outer s H E) (defBody s_law_pick) (t_law_pick P w K mg base A E) := by
  have sc := sc_law_pick
  have at_ : At (cxOf (L2.CX P w) P w K mg base N_law_pick "_law_pick" (defScope s_law_pick) f cdv Ar outer s H E) 1 E := At.of hr qt (takes_of rfl rfl rfl rfl)
  have pn : PassesOwn (model P w) (cxOf (L2.CX P w) P w K mg base N_law_pick "_law_pick" (defScope s_law_pick) f cdv Ar outer s H E).A (cxOf (L2.CX P w) P w K mg base N_law_pick "_law_pick" (defScope s_law_pick) f cdv Ar outer s H E).env (cxOf (L2.CX P w) P w K mg base N_law_pick "_law_pick" (defScope s_law_pick) f cdv Ar outer s H E).xe := passes_of rfl
  exact pss_cons (ps_if (pt_cmpR op_uGt (pe_ix ix_u (pv 0) (pe_int) (fun _ _ => rfl)) (pe_int) (nomark _)) (pss_cons (ps_set (i := 2) sc.nd rfl (by first | exact Or.inl rfl | exact Or.inr rfl) (pe_op op_uMod (pe_ix ix_u (pv 0) (pe_int) (fun _ _ => rfl)) (pv 1))) (pss_cons (ps_asg (pe_op op_uDiv (pe_ix ix_u (pv 0) (pe_int) (fun _ _ => rfl)) (pv 1)) (pg_sub (pv 0) (pe_int) set_list)) (pss_one (ps_ret (pv 2))))) (pss_nil)) (pss_cons (ps_asg (pe_op op_uAdd (pe_ix ix_u (pv 0) (pe_int) (fun _ _ => rfl)) (pe_int)) (pg_sub (pv 0) (pe_int) set_list)) (pss_cons (ps_set (i := 3) sc.nd rfl (by first | exact Or.inl rfl | exact Or.inr rfl) (pe_op op_uMod (pe_op op_uPow (pe_op op_uAdd (pe_ix ix_u (pv 0) (pe_int) (fun _ _ => rfl)) (pe_op op_uMul (pe_int) (pe_ix ix_u (pv 0) (pe_int) (fun _ _ => rfl)))) (pe_int)) (pe_op op_uAdd (pe_op op_uPow (pe_int) (pe_int)) (pe_int)))) (pss_cons (ps_set (i := 3) sc.nd rfl (by first | exact Or.inl rfl | exact Or.inr rfl) (pe_op op_uMod (pe_op op_uPow (pe_op op_uAdd (pv 3) (pe_op op_uMul (pe_int) (pe_ix ix_u (pv 0) (pe_int) (fun _ _ => rfl)))) (pe_int)) (pe_op op_uAdd (pe_op op_uPow (pe_int) (pe_int)) (pe_int)))) (pss_one (ps_ret (pe_op op_uMod (pe_op op_uDiv (pv 3) (pe_int)) (pv 1)))))))
abbrev s_law_mixed : Stmt := top 48
abbrev N_law_mixed : List Str := ["_law_source_here", "_law_row", "_law_left", "_law_k"]
abbrev ps_law_mixed : List Str := ["_law_source_here", "_law_row"]
theorem sc_law_mixed : FnScope N_law_mixed ["_law_source_here", "_law_row"] (defScope s_law_mixed) := ⟨rfl, rfl, rfl, by decide +kernel, rfl, by decide +kernel, by decide +kernel⟩
def t_law_mixed (P : Program) (w : World) (K : PySem.W.Frag) (mg : Str → Option Value) (base : Heap) (A : Ads) (E : XK) : TS :=
  tSeq (tAsg (tCB (cList K) (tCons (tVar 1) (tNil))) (gName 2)) (tRet (tLc (iRng1 (tCons (tCB (cLen K) (tCons (tVar 1) (tNil))) (tNil))) (gName 3) (tYes) (tBM K "list" rPopAt (tVar 2) (tCons (tFn P w K mg base "_law_pick" 2 E0 (tCons (tVar 0) (tCons (tCB (cLen K) (tCons (tVar 2) (tNil))) (tNil)))) (tNil))) [3]))
theorem d_law_mixed {P : Program} {w : World} {K : PySem.W.Frag} {mg : Str → Option Value} {base : Heap} {A : Ads} {f : Addr} {cdv : Value} {Ar : Around} {outer : List Env} {s : Shared} {H : Hp} {E : XK} (G : Gm mg A) (hr : Room 2 (Ar.deeper (envOfC "_law_mixed" (defScope s_law_mixed) s.heap.objs.size f cdv))) (qt : Quiet (Ar.deeper (envOfC "_law_mixed" (defScope s_law_mixed) s.heap.objs.size f cdv))) :
    PSs (cxOf (L2.CX P w) P w K mg base N_law_mixed "_law_mixed" (defScope s_law_mixed) f cdv Ar outer s H E) (defBody s_law_mixed) (t_law_mixed P w K mg base A E) := by
  have sc := sc_law_mixed
  have at_ : At (cxOf (L2.CX P w) P w K mg base N_law_mixed "_law_mixed" (defScope s_law_mixed) f cdv Ar outer s H E) 2 E := At.of hr qt (takes_of rfl rfl rfl rfl)
  have pn : PassesOwn (model P w) (cxOf (L2.CX P w) P w K mg base N_law_mixed "_law_mixed" (defScope s_law_mixed) f cdv Ar outer s H E).A (cxOf (L2.CX P w) P w K mg base N_law_mixed "_law_mixed" (defScope s_law_mixed) f cdv Ar outer s H E).env (cxOf (L2.CX P w) P w K mg base N_law_mixed "_law_mixed" (defScope s_law_mixed) f cdv Ar outer s H E).xe := passes_of rfl
  exact pss_cons (ps_set (i := 2) sc.nd rfl (by first | exact Or.inl rfl | exact Or.inr rfl) (pe_callTy call_cList (by rfl) G.g_list (by decide +kernel) (pa_cons (pv 1) (pa_nil)))) (pss_one (ps_ret (pe_lc (own := [("_law_k", 3)]) (g := gName 3) (tt := tYes) rfl sc.nd (pi_range1 (by rfl) G.g_range (pa_cons (pe_callB call_cLen (by rfl) G.g_len (by decide +kernel) (pa_cons (pv 1) (pa_nil))) (pa_nil))) (blkOk_by (N := N_law_mixed) (sc := defScope s_law_mixed) (by decide +kernel)) (fun _ _ _ _ _ => pg_name (i := 3) sc.nd rfl (by first | exact Or.inl rfl | exact Or.inr rfl)) (fun _ _ _ _ _ => pts_nil) (fun _ _ _ _ _ => pe_bm PySem.F.plainAttrs_list PySem.F.slot_list_pop PySem.F.type_list_pop mt_popAt (pv 2) (pa_cons (pe_fn (At.e0 hr qt) (by rfl) (pa_cons (pv 0) (pa_cons (pe_callB call_cLen (by rfl) G.g_len (by decide +kernel) (pa_cons (pv 2) (pa_nil))) (pa_nil)))) (pa_nil))))))
abbrev s_law_words : Stmt := top 49
abbrev N_law_words : List Str := ["_law_source_here", "_law_size", "_law_pool", "_law_sign", "_law_k"]
abbrev ps_law_words : List Str := ["_law_source_here", "_law_size"]
theorem sc_law_words : FnScope N_law_words ["_law_source_here", "_law_size"] (defScope s_law_words) := ⟨rfl, rfl, rfl, by decide +kernel, rfl, by decide +kernel, by decide +kernel⟩
def t_law_words (P : Program) (w : World) (K : PySem.W.Frag) (mg : Str → Option Value) (base : Heap) (A : Ads) (E : XK) : TS :=
  tSeq (tAsg (tLst (tCons (tC (.str "a")) (tCons (tC (.str "aa")) (tCons (tC (.str "aaa")) (tCons (tC (.str "aaaaaaaa")) (tCons (tC (.str "zzzzzzzz")) (tCons (tC (.str "low")) (tCons (tC (.str "high")) (tCons (tC (.str "order")) (tCons (tC (.str "inserted")) (tCons (tC (.str "none")) (tCons (tC (.str "x")) (tCons (tC (.str "y")) (tNil)))))))))))))) (gName 2)) (tSeq (tFor (iStr (tC (.str "bcdefghijklm"))) (gName 3) (tAsg (tOp uAdd (tVar 2) (tLst (tCons (tVar 3) (tCons (tOp uAdd (tVar 3) (tC (.str "a"))) (tCons (tOp uAdd (tC (.str "a")) (tVar 3)) (tCons (tOp uAdd (tVar 3) (tC (.str "zzzzzzz"))) (tNil))))))) (gName 2))) (tRet (tLc (iRng1 (tCons (tVar 1) (tNil))) (gName 4) (tYes) (tBM K "list" rPopAt (tVar 2) (tCons (tFn P w K mg base "_law_pick" 2 E0 (tCons (tVar 0) (tCons (tCB (cLen K) (tCons (tVar 2) (tNil))) (tNil)))) (tNil))) [4])))
theorem d_law_words {P : Program} {w : World} {K : PySem.W.Frag} {mg : Str → Option Value} {base : Heap} {A : Ads} {f : Addr} {cdv : Value} {Ar : Around} {outer : List Env} {s : Shared} {H : Hp} {E : XK} (G : Gm mg A) (hr : Room 2 (Ar.deeper (envOfC "_law_words" (defScope s_law_words) s.heap.objs.size f cdv))) (qt : Quiet (Ar.deeper (envOfC "_law_words" (defScope s_law_words) s.heap.objs.size f cdv))) :
    PSs (cxOf (L2.CX P w) P w K mg base N_law_words "_law_words" (defScope s_law_words) f cdv Ar outer s H E) (defBody s_law_words) (t_law_words P w K mg base A E) := by
  have sc := sc_law_words
  have at_ : At (cxOf (L2.CX P w) P w K mg base N_law_words "_law_words" (defScope s_law_words) f cdv Ar outer s H E) 2 E := At.of hr qt (takes_of rfl rfl rfl rfl)
  have pn : PassesOwn (model P w) (cxOf (L2.CX P w) P w K mg base N_law_words "_law_words" (defScope s_law_words) f cdv Ar outer s H E).A (cxOf (L2.CX P w) P w K mg base N_law_words "_law_words" (defScope s_law_words) f cdv Ar outer s H E).env (cxOf (L2.CX P w) P w K mg base N_law_words "_law_words" (defScope s_law_words) f cdv Ar outer s H E).xe := passes_of rfl
  exact pss_cons (ps_set (i := 2) sc.nd rfl (by first | exact Or.inl rfl | exact Or.inr rfl) (pe_lst (pa_cons (pe_str) (pa_cons (pe_str) (pa_cons (pe_str) (pa_cons (pe_str) (pa_cons (pe_str) (pa_cons (pe_str) (pa_cons (pe_str) (pa_cons (pe_str) (pa_cons (pe_str) (pa_cons (pe_str) (pa_cons (pe_str) (pa_cons (pe_str) (pa_nil))))))))))))))) (pss_cons (ps_for pn rfl (pi_str (pe_str)) (pg_name (i := 3) sc.nd rfl (by first | exact Or.inl rfl | exact Or.inr rfl)) (pss_one (ps_set (i := 2) sc.nd rfl (by first | exact Or.inl rfl | exact Or.inr rfl) (pe_op op_uAdd (pv 2) (pe_lst (pa_cons (pv 3) (pa_cons (pe_op op_uAdd (pv 3) (pe_str)) (pa_cons (pe_op op_uAdd (pe_str) (pv 3)) (pa_cons (pe_op op_uAdd (pv 3) (pe_str)) (pa_nil)))))))))) (pss_one (ps_ret (pe_lc (own := [("_law_k", 4)]) (g := gName 4) (tt := tYes) rfl sc.nd (pi_range1 (by rfl) G.g_range (pa_cons (pv 1) (pa_nil))) (blkOk_by (N := N_law_words) (sc := defScope s_law_words) (by decide +kernel)) (fun _ _ _ _ _ => pg_name (i := 4) sc.nd rfl (by first | exact Or.inl rfl | exact Or.inr rfl)) (fun _ _ _ _ _ => pts_nil) (fun _ _ _ _ _ => pe_bm PySem.F.plainAttrs_list PySem.F.slot_list_pop PySem.F.type_list_pop mt_popAt (pv 2) (pa_cons (pe_fn (At.e0 hr qt) (by rfl) (pa_cons (pv 0) (pa_cons (pe_callB call_cLen (by rfl) G.g_len (by decide +kernel) (pa_cons (pv 2) (pa_nil))) (pa_nil)))) (pa_nil)))))))
abbrev s_law_made : Stmt := top 50
abbrev N_law_made : List Str := ["_law_kind", "_law_name", "_law_index"]
abbrev ps_law_made : List Str := ["_law_kind", "_law_name", "_law_index"]
theorem sc_law_made : FnScope N_law_made ["_law_kind", "_law_name", "_law_index"] (defScope s_law_made) := ⟨rfl, rfl, rfl, by decide +kernel, rfl, by decide +kernel, by decide +kernel⟩
def t_law_made (P : Program) (w : World) (K : PySem.W.Frag) (mg : Str → Option Value) (base : Heap) (A : Ads) (E : XK) : TS :=
  tSeq (tIfS (tTest (tOp (uEq K) (tVar 0) (tC (.int 0)))) (tRet (tMkr P w K mg base "Inserted" 4 E (tCons (tVar 1) (tCons (tVar 2) (tNil))))) (tNext)) (tRet (tIf (tTest (tOp (uEq K) (tVar 0) (tC (.int 1)))) (tMkr P w K mg base "Removed" 4 E (tCons (tVar 1) (tCons (tVar 2) (tNil)))) (tMkr P w K mg base "Fronted" 4 E (tCons (tVar 1) (tCons (tVar 2) (tNil))))))
theorem d_law_made {P : Program} {w : World} {K : PySem.W.Frag} {mg : Str → Option Value} {base : Heap} {A : Ads} {f : Addr} {cdv : Value} {Ar : Around} {outer : List Env} {s : Shared} {H : Hp} {E : XK} (G : Gm mg A) (hr : Room 4 (Ar.deeper (envOfC "_law_made" (defScope s_law_made) s.heap.objs.size f cdv))) (qt : Quiet (Ar.deeper (envOfC "_law_made" (defScope s_law_made) s.heap.objs.size f cdv))) :
    PSs (cxOf (L2.CX P w) P w K mg base N_law_made "_law_made" (defScope s_law_made) f cdv Ar outer s H E) (defBody s_law_made) (t_law_made P w K mg base A E) := by
  have sc := sc_law_made
  have at_ : At (cxOf (L2.CX P w) P w K mg base N_law_made "_law_made" (defScope s_law_made) f cdv Ar outer s H E) 4 E := At.of hr qt (takes_of rfl rfl rfl rfl)
  have pn : PassesOwn (model P w) (cxOf (L2.CX P w) P w K mg base N_law_made "_law_made" (defScope s_law_made) f cdv Ar outer s H E).A (cxOf (L2.CX P w) P w K mg base N_law_made "_law_made" (defScope s_law_made) f cdv Ar outer s H E).env (cxOf (L2.CX P w) P w K mg base N_law_made "_law_made" (defScope s_law_made) f cdv Ar outer s H E).xe := passes_of rfl
  exact pss_cons (ps_if (pt_cmpR (op_uEq hr) (pv 0) (pe_int) (nomark _)) (pss_one (ps_ret (pe_mkr at_ (by rfl) (pa_cons (pv 1) (pa_cons (pv 2) (pa_nil)))))) (pss_nil)) (pss_one (ps_ret (pe_ifExp (pt_cmpR (op_uEq hr) (pv 0) (pe_int) (nomark _)) (pe_mkr at_ (by rfl) (pa_cons (pv 1) (pa_cons (pv 2) (pa_nil)))) (pe_mkr at_ (by rfl) (pa_cons (pv 1) (pa_cons (pv 2) (pa_nil)))))))
abbrev s_law_played : Stmt := top 51
abbrev N_law_played : List Str := ["_law_kind", "_law_here", "_law_name", "_law_index", "_law_fits", "_law_rest"]
abbrev ps_law_played : List Str := ["_law_kind", "_law_here", "_law_name", "_law_index"]
theorem sc_law_played : FnScope N_law_played ["_law_kind", "_law_here", "_law_name", "_law_index"] (defScope s_law_played) := ⟨rfl, rfl, rfl, by decide +kernel, rfl, by decide +kernel, by decide +kernel⟩
def t_law_played (P : Program) (w : World) (K : PySem.W.Frag) (mg : Str → Option Value) (base : Heap) (A : Ads) (E : XK) : TS :=
  tSeq (tIfS (tTest (tOp (uEq K) (tVar 0) (tC (.int 0)))) (tSeq (tAsg (tAndV (tOp (uIn K true) (tVar 2) (tVar 1)) (tOp uLe (tVar 3) (tCB (cLen K) (tCons (tVar 1) (tNil))))) (gName 4)) (tRet (tIf (tB (tVar 4)) (tOp uAdd (tOp uAdd (tSl (rSlL K) (tVar 1) (tNoPart) (tPart (tVar 3))) (tLst (tCons (tVar 2) (tNil)))) (tSl (rSlL K) (tVar 1) (tPart (tVar 3)) (tNoPart))) (tC .non)))) (tNext)) (tSeq (tIfS (tOr (tTest (tOp uGe (tVar 3) (tCB (cLen K) (tCons (tVar 1) (tNil))))) (tTest (tOp (uNe K) (tOp (uIx K) (tVar 1) (tVar 3)) (tVar 2)))) (tRet (tC .non)) (tNext)) (tSeq (tAsg (tOp uAdd (tSl (rSlL K) (tVar 1) (tNoPart) (tPart (tVar 3))) (tSl (rSlL K) (tVar 1) (tPart (tOp uAdd (tVar 3) (tC (.int 1)))) (tNoPart))) (gName 5)) (tRet (tIf (tTest (tOp (uEq K) (tVar 0) (tC (.int 1)))) (tVar 5) (tOp uAdd (tLst (tCons (tVar 2) (tNil))) (tVar 5))))))
theorem d_law_played {P : Program} {w : World} {K : PySem.W.Frag} {mg : Str → Option Value} {base : Heap} {A : Ads} {f : Addr} {cdv : Value} {Ar : Around} {outer : List Env} {s : Shared} {H : Hp} {E : XK} (G : Gm mg A) (hr : Room 1 (Ar.deeper (envOfC "_law_played" (defScope s_law_played) s.heap.objs.size f cdv))) (qt : Quiet (Ar.deeper (envOfC "_law_played" (defScope s_law_played) s.heap.objs.size f cdv))) :
    PSs (cxOf (L2.CX P w) P w K mg base N_law_played "_law_played" (defScope s_law_played) f cdv Ar outer s H E) (defBody s_law_played) (t_law_played P w K mg base A E) := by
  have sc := sc_law_played
  have at_ : At (cxOf (L2.CX P w) P w K mg base N_law_played "_law_played" (defScope s_law_played) f cdv Ar outer s H E) 1 E := At.of hr qt (takes_of rfl rfl rfl rfl)
  have pn : PassesOwn (model P w) (cxOf (L2.CX P w) P w K mg base N_law_played "_law_played" (defScope s_law_played) f cdv Ar outer s H E).A (cxOf (L2.CX P w) P w K mg base N_law_played "_law_played" (defScope s_law_played) f cdv Ar outer s H E).env (cxOf (L2.CX P w) P w K mg base N_law_played "_law_played" (defScope s_law_played) f cdv Ar outer s H E).xe := passes_of rfl
  exact pss_cons (ps_if (pt_cmpR (op_uEq hr) (pv 0) (pe_int) (nomark _)) (pss_cons (ps_set (i := 4) sc.nd rfl (by first | exact Or.inl rfl | exact Or.inr rfl) (pe_and (pe_cmpR (op_uNotIn hr) (pv 2) (pv 1) (by rfl)) (pe_one (pe_cmpR op_uLe (pv 3) (pe_callB call_cLen (by rfl) G.g_len (by decide +kernel) (pa_cons (pv 1) (pa_nil))) (nomark _))))) (pss_one (ps_ret (pe_ifExp (pt_val (pv 4)) (pe_op op_uAdd (pe_op op_uAdd (pe_slice sl_list (pv 1) (po_none) (po_some (pv 3))) (pe_lst (pa_cons (pv 2) (pa_nil)))) (pe_slice sl_list (pv 1) (po_some (pv 3)) (po_none))) (pe_non))))) (pss_nil)) (pss_cons (ps_if (PW.pt (pw_or (pt_cmpR op_uGe (pv 3) (pe_callB call_cLen (by rfl) G.g_len (by decide +kernel) (pa_cons (pv 1) (pa_nil))) (nomark _)) (pw_or1 (pt_cmpR (op_uNe hr) (pe_ix ix_u (pv 1) (pv 3) (fun _ _ => rfl)) (pv 2) (nomark _))))) (pss_one (ps_ret (pe_non))) (pss_nil)) (pss_cons (ps_set (i := 5) sc.nd rfl (by first | exact Or.inl rfl | exact Or.inr rfl) (pe_op op_uAdd (pe_slice sl_list (pv 1) (po_none) (po_some (pv 3))) (pe_slice sl_list (pv 1) (po_some (pe_op op_uAdd (pv 3) (pe_int))) (po_none)))) (pss_one (ps_ret (pe_ifExp (pt_cmpR (op_uEq hr) (pv 0) (pe_int) (nomark _)) (pv 5) (pe_op op_uAdd (pe_lst (pa_cons (pv 2) (pa_nil))) (pv 5)))))))
abbrev s_law_history : Stmt := top 52
abbrev N_law_history : List Str := ["_law_source_here", "_law_kind", "_law_most", "_law_more", "_law_size", "_law_others", "_law_names", "_law_moved", "_law_style", "_law_here", "_law_known", "_law_pairs_here", "_law_name", "_law_index"]
abbrev ps_law_history : List Str := ["_law_source_here", "_law_kind", "_law_most", "_law_more"]
theorem sc_law_history : FnScope N_law_history ["_law_source_here", "_law_kind", "_law_most", "_law_more"] (defScope s_law_history) := ⟨rfl, rfl, rfl, by decide +kernel, rfl, by decide +kernel, by decide +kernel⟩
def t_law_history (P : Program) (w : World) (K : PySem.W.Frag) (mg : Str → Option Value) (base : Heap) (A : Ads) (E : XK) : TS :=
  tSeq (tPar 4 5 (tCons (tFn P w K mg base "_law_pick" 3 E (tCons (tVar 0) (tCons (tOp uAdd (tVar 2) (tC (.int 1))) (tNil)))) (tCons (tFn P w K mg base "_law_pick" 3 E (tCons (tVar 0) (tCons (tOp uAdd (tVar 3) (tC (.int 1))) (tNil)))) (tNil)))) (tSeq (tAsg (tFn P w K mg base "_law_words" 3 E (tCons (tVar 0) (tCons (tOp uAdd (tVar 4) (tVar 5)) (tNil)))) (gName 6)) (tSeq (tAsg (tSl (rSlL K) (tFn P w K mg base "_law_mixed" 3 E (tCons (tVar 0) (tCons (tVar 6) (tNil)))) (tNoPart) (tPart (tVar 4))) (gName 7)) (tSeq (tAsg (tFn P w K mg base "_law_pick" 3 E (tCons (tVar 0) (tCons (tC (.int 4)) (tNil)))) (gName 8)) (tSeq (tAsg (tLc (iList K (tVar 6)) (gName 12) (tOr (tTest (tOp uGt (tVar 1) (tC (.int 0)))) (tTest (tOp (uIn K true) (tVar 12) (tVar 7)))) (tVar 12) [12]) (gName 9)) (tSeq (tPar 10 11 (tCons (tCB (cList K) (tCons (tVar 9) (tNil))) (tCons (tLst (tNil)) (tNil)))) (tSeq (tFor (iList K (tVar 7)) (gName 12) (tSeq (tAsg (tCB (cLen K) (tCons (tVar 9) (tNil))) (gName 4)) (tSeq (tAsg (tCB (cMin K) (tCons (tVar 4) (tCons (tOp (uIx K) (tLst (tCons (tFn P w K mg base "_law_pick" 3 E (tCons (tVar 0) (tCons (tOp uAdd (tVar 4) (tC (.int 1))) (tNil)))) (tCons (tC (.int 0)) (tCons (tVar 4) (tCons (tFn P w K mg base "_law_pick" 3 E (tCons (tVar 0) (tCons (tC (.int 2)) (tNil)))) (tNil)))))) (tVar 8)) (tNil)))) (gName 13)) (tSeq (tIfS (tTest (tOp uGt (tVar 1) (tC (.int 0)))) (tAsg (tBM K "list" (rIndex K) (tVar 9) (tCons (tVar 12) (tNil))) (gName 13)) (tNext)) (tSeq (tDrop (tBM K "list" rAppend (tVar 11) (tCons (tTup (tCons (tVar 12) (tCons (tVar 13) (tNil)))) (tNil)))) (tAsg (tFn P w K mg base "_law_played" 3 E (tCons (tVar 1) (tCons (tVar 9) (tCons (tVar 12) (tCons (tVar 13) (tNil)))))) (gName 9))))))) (tRet (tTup (tCons (tVar 11) (tCons (tIf (tTest (tOp (uEq K) (tVar 1) (tC (.int 0)))) (tVar 9) (tVar 10)) (tNil)))))))))))
theorem d_law_history {P : Program} {w : World} {K : PySem.W.Frag} {mg : Str → Option Value} {base : Heap} {A : Ads} {f : Addr} {cdv : Value} {Ar : Around} {outer : List Env} {s : Shared} {H : Hp} {E : XK} (G : Gm mg A) (hr : Room 3 (Ar.deeper (envOfC "_law_history" (defScope s_law_history) s.heap.objs.size f cdv))) (qt : Quiet (Ar.deeper (envOfC "_law_history" (defScope s_law_history) s.heap.objs.size f cdv))) :
    PSs (cxOf (L2.CX P w) P w K mg base N_law_history "_law_history" (defScope s_law_history) f cdv Ar outer s H E) (defBody s_law_history) (t_law_history P w K mg base A E) := by
  have sc := sc_law_history
  have at_ : At (cxOf (L2.CX P w) P w K mg base N_law_history "_law_history" (defScope s_law_history) f cdv Ar outer s H E) 3 E := At.of hr qt (takes_of rfl rfl rfl rfl)
  have pn : PassesOwn (model P w) (cxOf (L2.CX P w) P w K mg base N_law_history "_law_history" (defScope s_law_history) f cdv Ar outer s H E).A (cxOf (L2.CX P w) P w K mg base N_law_history "_law_history" (defScope s_law_history) f cdv Ar outer s H E).env (cxOf (L2.CX P w) P w K mg base N_law_history "_law_history" (defScope s_law_history) f cdv Ar outer s H E).xe := passes_of rfl
  exact pss_cons (ps_par rfl sc.nd rfl rfl (by decide) rfl rfl (pa_cons (pe_fn at_ (by rfl) (pa_cons (pv 0) (pa_cons (pe_op op_uAdd (pv 2) (pe_int)) (pa_nil)))) (pa_cons (pe_fn at_ (by rfl) (pa_cons (pv 0) (pa_cons (pe_op op_uAdd (pv 3) (pe_int)) (pa_nil)))) (pa_nil))) (by rfl)) (pss_cons (ps_set (i := 6) sc.nd rfl (by first | exact Or.inl rfl | exact Or.inr rfl) (pe_fn at_ (by rfl) (pa_cons (pv 0) (pa_cons (pe_op op_uAdd (pv 4) (pv 5)) (pa_nil))))) (pss_cons (ps_set (i := 7) sc.nd rfl (by first | exact Or.inl rfl | exact Or.inr rfl) (pe_slice sl_list (pe_fn at_ (by rfl) (pa_cons (pv 0) (pa_cons (pv 6) (pa_nil)))) (po_none) (po_some (pv 4)))) (pss_cons (ps_set (i := 8) sc.nd rfl (by first | exact Or.inl rfl | exact Or.inr rfl) (pe_fn at_ (by rfl) (pa_cons (pv 0) (pa_cons (pe_int) (pa_nil))))) (pss_cons (ps_setLc (i := 9) (own := [("_law_name", 12)]) (g := gName 12) (tt := tOr (tTest (tOp uGt (tVar 1) (tC (.int 0)))) (tTest (tOp (uIn K true) (tVar 12) (tVar 7)))) rfl sc.nd rfl rfl (sw_true rfl rfl rfl (by decide +kernel)) (pi_list (pv 6)) (blkOk_by (N := N_law_history) (sc := defScope s_law_history) (by decide +kernel)) (fun _ _ _ _ _ => pg_name (i := 12) sc.nd rfl (by first | exact Or.inl rfl | exact Or.inr rfl)) (fun _ _ _ _ _ => pts_one (PW.pt (pw_or (pt_cmpR op_uGt (pv 1) (pe_int) (nomark _)) (pw_or1 (pt_cmpR (op_uNotIn hr) (pv 12) (pv 7) (by rfl)))))) (fun _ _ _ _ _ => pv 12)) (pss_cons (ps_par rfl sc.nd rfl rfl (by decide) rfl rfl (pa_cons (pe_callTy call_cList (by rfl) G.g_list (by decide +kernel) (pa_cons (pv 9) (pa_nil))) (pa_cons (pe_lst (pa_nil)) (pa_nil))) (by rfl)) (pss_cons (ps_for pn rfl (pi_list (pv 7)) (pg_name (i := 12) sc.nd rfl (by first | exact Or.inl rfl | exact Or.inr rfl)) (pss_cons (ps_set (i := 4) sc.nd rfl (by first | exact Or.inl rfl | exact Or.inr rfl) (pe_callB call_cLen (by rfl) G.g_len (by decide +kernel) (pa_cons (pv 9) (pa_nil)))) (pss_cons (ps_set (i := 13) sc.nd rfl (by first | exact Or.inl rfl | exact Or.inr rfl) (pe_callB (call_cMin rfl) (by rfl) G.g_min (by decide +kernel) (pa_cons (pv 4) (pa_cons (pe_ix ix_u (pe_lst (pa_cons (pe_fn at_ (by rfl) (pa_cons (pv 0) (pa_cons (pe_op op_uAdd (pv 4) (pe_int)) (pa_nil)))) (pa_cons (pe_int) (pa_cons (pv 4) (pa_cons (pe_fn at_ (by rfl) (pa_cons (pv 0) (pa_cons (pe_int) (pa_nil)))) (pa_nil)))))) (pv 8) (fun _ _ => rfl)) (pa_nil))))) (pss_cons (ps_if (pt_cmpR op_uGt (pv 1) (pe_int) (nomark _)) (pss_one (ps_set (i := 13) sc.nd rfl (by first | exact Or.inl rfl | exact Or.inr rfl) (pe_bm PySem.F.plainAttrs_list PySem.F.slot_list_index PySem.F.type_list_index mt_index (pv 9) (pa_cons (pv 12) (pa_nil))))) (pss_nil)) (pss_cons (ps_expr (pe_bm PySem.F.plainAttrs_list PySem.F.slot_list_append PySem.F.type_list_append mt_append (pv 11) (pa_cons (pe_tup (pa_cons (pv 12) (pa_cons (pv 13) (pa_nil)))) (pa_nil)))) (pss_one (ps_set (i := 9) sc.nd rfl (by first | exact Or.inl rfl | exact Or.inr rfl) (pe_fn at_ (by rfl) (pa_cons (pv 1) (pa_cons (pv 9) (pa_cons (pv 12) (pa_cons (pv 13) (pa_nil))))))))))))) (pss_one (ps_ret (pe_tup (pa_cons (pv 11) (pa_cons (pe_ifExp (pt_cmpR (op_uEq hr) (pv 1) (pe_int) (nomark _)) (pv 9) (pv 10)) (pa_nil))))))))))))
abbrev s_law_log : Stmt := top 53
abbrev N_law_log : List Str := ["_law_source_here", "_law_kind", "_law_pairs_here", "_law_name", "_law_index"]
abbrev ps_law_log : List Str := ["_law_source_here", "_law_kind", "_law_pairs_here"]
theorem sc_law_log : FnScope N_law_log ["_law_source_here", "_law_kind", "_law_pairs_here"] (defScope s_law_log) := ⟨rfl, rfl, rfl, by decide +kernel, rfl, by decide +kernel, by decide +kernel⟩
def t_law_log (P : Program) (w : World) (K : PySem.W.Frag) (mg : Str → Option Value) (base : Heap) (A : Ads) (E : XK) : TS :=
  tRet (tLc (iList K (tFn P w K mg base "_law_mixed" 5 E (tCons (tVar 0) (tCons (tVar 2) (tNil))))) (gTup K 2 (gCons (gName 3) (gCons (gName 4) (gNil)))) (tYes) (tFn P w K mg base "_law_made" 5 E0 (tCons (tVar 1) (tCons (tVar 3) (tCons (tVar 4) (tNil))))) [3, 4])
theorem d_law_log {P : Program} {w : World} {K : PySem.W.Frag} {mg : Str → Option Value} {base : Heap} {A : Ads} {f : Addr} {cdv : Value} {Ar : Around} {outer : List Env} {s : Shared} {H : Hp} {E : XK} (G : Gm mg A) (hr : Room 5 (Ar.deeper (envOfC "_law_log" (defScope s_law_log) s.heap.objs.size f cdv))) (qt : Quiet (Ar.deeper (envOfC "_law_log" (defScope s_law_log) s.heap.objs.size f cdv))) :
    PSs (cxOf (L2.CX P w) P w K mg base N_law_log "_law_log" (defScope s_law_log) f cdv Ar outer s H E) (defBody s_law_log) (t_law_log P w K mg base A E) := by
  have sc := sc_law_log
  have at_ : At (cxOf (L2.CX P w) P w K mg base N_law_log "_law_log" (defScope s_law_log) f cdv Ar outer s H E) 5 E := At.of hr qt (takes_of rfl rfl rfl rfl)
  have pn : PassesOwn (model P w) (cxOf (L2.CX P w) P w K mg base N_law_log "_law_log" (defScope s_law_log) f cdv Ar outer s H E).A (cxOf (L2.CX P w) P w K mg base N_law_log "_law_log" (defScope s_law_log) f cdv Ar outer s H E).env (cxOf (L2.CX P w) P w K mg base N_law_log "_law_log" (defScope s_law_log) f cdv Ar outer s H E).xe := passes_of rfl
  exact pss_one (ps_ret (pe_lc (own := [("_law_name", 3), ("_law_index", 4)]) (g := gTup K 2 (gCons (gName 3) (gCons (gName 4) (gNil)))) (tt := tYes) rfl sc.nd (pi_list (pe_fn at_ (by rfl) (pa_cons (pv 0) (pa_cons (pv 2) (pa_nil))))) (blkOk_by (N := N_law_log) (sc := defScope s_law_log) (by decide +kernel)) (fun _ _ _ _ _ => pg_tup rfl (pgs_cons (pg_name (i := 3) sc.nd rfl (by first | exact Or.inl rfl | exact Or.inr rfl)) (pgs_cons (pg_name (i := 4) sc.nd rfl (by first | exact Or.inl rfl | exact Or.inr rfl)) (pgs_nil)))) (fun _ _ _ _ _ => pts_nil) (fun _ _ _ _ _ => pe_fn (At.e0 hr qt) (by rfl) (pa_cons (pv 1) (pa_cons (pv 3) (pa_cons (pv 4) (pa_nil)))))))
abbrev s_law_pairs : Stmt := top 54
abbrev N_law_pairs : List Str := ["_law_notes", "_law_record"]
abbrev ps_law_pairs : List Str := ["_law_notes"]
theorem sc_law_pairs : FnScope N_law_pairs ["_law_notes"] (defScope s_law_pairs) := ⟨rfl, rfl, rfl, by decide +kernel, rfl, by decide +kernel, by decide +kernel⟩
def t_law_pairs (P : Program) (w : World) (K : PySem.W.Frag) (mg : Str → Option Value) (base : Heap) (A : Ads) (E : XK) : TS :=
  tRet (tLc (iList K (tVar 0)) (gName 1) (tYes) (tTup (tCons (tAtt P w K mg base "item" (tVar 1)) (tCons (tAtt P w K mg base "slot" (tVar 1)) (tNil)))) [1])
theorem d_law_pairs {P : Program} {w : World} {K : PySem.W.Frag} {mg : Str → Option Value} {base : Heap} {A : Ads} {f : Addr} {cdv : Value} {Ar : Around} {outer : List Env} {s : Shared} {H : Hp} {E : XK} (G : Gm mg A) (hr : Room 2 (Ar.deeper (envOfC "_law_pairs" (defScope s_law_pairs) s.heap.objs.size f cdv))) (qt : Quiet (Ar.deeper (envOfC "_law_pairs" (defScope s_law_pairs) s.heap.objs.size f cdv))) :
    PSs (cxOf (L2.CX P w) P w K mg base N_law_pairs "_law_pairs" (defScope s_law_pairs) f cdv Ar outer s H E) (defBody s_law_pairs) (t_law_pairs P w K mg base A E) := by
  have sc := sc_law_pairs
  have at_ : At (cxOf (L2.CX P w) P w K mg base N_law_pairs "_law_pairs" (defScope s_law_pairs) f cdv Ar outer s H E) 2 E := At.of hr qt (takes_of rfl rfl rfl rfl)
  have pn : PassesOwn (model P w) (cxOf (L2.CX P w) P w K mg base N_law_pairs "_law_pairs" (defScope s_law_pairs) f cdv Ar outer s H E).A (cxOf (L2.CX P w) P w K mg base N_law_pairs "_law_pairs" (defScope s_law_pairs) f cdv Ar outer s H E).env (cxOf (L2.CX P w) P w K mg base N_law_pairs "_law_pairs" (defScope s_law_pairs) f cdv Ar outer s H E).xe := passes_of rfl
  exact pss_one (ps_ret (pe_lc (own := [("_law_record", 1)]) (g := gName 1) (tt := tYes) rfl sc.nd (pi_list (pv 0)) (blkOk_by (N := N_law_pairs) (sc := defScope s_law_pairs) (by decide +kernel)) (fun _ _ _ _ _ => pg_name (i := 1) sc.nd rfl (by first | exact Or.inl rfl | exact Or.inr rfl)) (fun _ _ _ _ _ => pts_nil) (fun _ _ _ _ _ => pe_tup (pa_cons (pe_att hr (pv 1)) (pa_cons (pe_att hr (pv 1)) (pa_nil))))))
abbrev s_law_sides : Stmt := top 55
abbrev N_law_sides : List Str := ["_law_kind", "_law_pairs_here", "_law_known", "_law_slots", "_law_found", "_law_marked", "_law_before", "_law_name", "_law_place"]
abbrev ps_law_sides : List Str := ["_law_kind", "_law_pairs_here", "_law_known"]
theorem sc_law_sides : FnScope N_law_sides ["_law_kind", "_law_pairs_here", "_law_known"] (defScope s_law_sides) := ⟨rfl, rfl, rfl, by decide +kernel, rfl, by decide +kernel, by decide +kernel⟩
def t_law_sides (P : Program) (w : World) (K : PySem.W.Frag) (mg : Str → Option Value) (base : Heap) (A : Ads) (E : XK) : TS :=
  tSeq (tAsg (tTup (tCons (tCB (cDict K) (tCons (tVar 1) (tNil))) (tCons (tLst (tNil)) (tNil)))) (gTup K 2 (gCons (gName 3) (gCons (gName 4) (gNil))))) (tSeq (tAsg (tLc (iList K (tVar 2)) (gName 7) (tTest (tOp (uIn K false) (tVar 7) (tVar 3))) (tVar 7) [7]) (gName 5)) (tSeq (tFor (iEnum K (tCons (tVar 5) (tNil))) (gTup K 2 (gCons (gName 6) (gCons (gName 7) (gNil)))) (tSeq (tAsg (tBM K "list" (rIndex K) (tVar 2) (tCons (tVar 7) (tNil))) (gName 8)) (tIfS (tTest (tOp uLt (tVar 0) (tC (.int 2)))) (tDrop (tBM K "list" rAppend (tVar 4) (tCons (tTup (tCons (tVar 7) (tCons (tOp uSub (tVar 8) (tDGet (tVar 3) (tVar 7))) (tCons (tVar 6) (tNil))))) (tNil)))) (tDrop (tBM K "list" rAppend (tVar 4) (tCons (tTup (tCons (tVar 7) (tCons (tOp uSub (tDGet (tVar 3) (tVar 7)) (tVar 8)) (tCons (tOp uSub (tOp uSub (tCB (cLen K) (tCons (tVar 5) (tNil))) (tC (.int 1))) (tVar 6)) (tNil))))) (tNil))))))) (tRet (tVar 4))))
theorem d_law_sides {P : Program} {w : World} {K : PySem.W.Frag} {mg : Str → Option Value} {base : Heap} {A : Ads} {f : Addr} {cdv : Value} {Ar : Around} {outer : List Env} {s : Shared} {H : Hp} {E : XK} (G : Gm mg A) (hr : Room 1 (Ar.deeper (envOfC "_law_sides" (defScope s_law_sides) s.heap.objs.size f cdv))) (qt : Quiet (Ar.deeper (envOfC "_law_sides" (defScope s_law_sides) s.heap.objs.size f cdv))) :
    PSs (cxOf (L2.CX P w) P w K mg base N_law_sides "_law_sides" (defScope s_law_sides) f cdv Ar outer s H E) (defBody s_law_sides) (t_law_sides P w K mg base A E) := by
  have sc := sc_law_sides
  have at_ : At (cxOf (L2.CX P w) P w K mg base N_law_sides "_law_sides" (defScope s_law_sides) f cdv Ar outer s H E) 1 E := At.of hr qt (takes_of rfl rfl rfl rfl)
  have pn : PassesOwn (model P w) (cxOf (L2.CX P w) P w K mg base N_law_sides "_law_sides" (defScope s_law_sides) f cdv Ar outer s H E).A (cxOf (L2.CX P w) P w K mg base N_law_sides "_law_sides" (defScope s_law_sides) f cdv Ar outer s H E).env (cxOf (L2.CX P w) P w K mg base N_law_sides "_law_sides" (defScope s_law_sides) f cdv Ar outer s H E).xe := passes_of rfl
  exact pss_cons (ps_asg (pe_tup (pa_cons (pe_callTy (call_cDict rfl) (by rfl) G.g_dict (by decide +kernel) (pa_cons (pv 1) (pa_nil))) (pa_cons (pe_lst (pa_nil)) (pa_nil)))) (pg_tup rfl (pgs_cons (pg_name (i := 3) sc.nd rfl (by first | exact Or.inl rfl | exact Or.inr rfl)) (pgs_cons (pg_name (i := 4) sc.nd rfl (by first | exact Or.inl rfl | exact Or.inr rfl)) (pgs_nil))))) (pss_cons (ps_setLc (i := 5) (own := [("_law_name", 7)]) (g := gName 7) (tt := tTest (tOp (uIn K false) (tVar 7) (tVar 3))) rfl sc.nd rfl rfl (sw_true rfl rfl rfl (by decide +kernel)) (pi_list (pv 2)) (blkOk_by (N := N_law_sides) (sc := defScope s_law_sides) (by decide +kernel)) (fun _ _ _ _ _ => pg_name (i := 7) sc.nd rfl (by first | exact Or.inl rfl | exact Or.inr rfl)) (fun _ _ _ _ _ => pts_one (pt_cmpR (op_uIn hr) (pv 7) (pv 3) (by rfl))) (fun _ _ _ _ _ => pv 7)) (pss_cons (ps_for pn rfl (pi_enum (by rfl) G.g_enumerate (pa_cons (pv 5) (pa_nil))) (pg_tup rfl (pgs_cons (pg_name (i := 6) sc.nd rfl (by first | exact Or.inl rfl | exact Or.inr rfl)) (pgs_cons (pg_name (i := 7) sc.nd rfl (by first | exact Or.inl rfl | exact Or.inr rfl)) (pgs_nil)))) (pss_cons (ps_set (i := 8) sc.nd rfl (by first | exact Or.inl rfl | exact Or.inr rfl) (pe_bm PySem.F.plainAttrs_list PySem.F.slot_list_index PySem.F.type_list_index mt_index (pv 2) (pa_cons (pv 7) (pa_nil)))) (pss_one (ps_if (pt_cmpR op_uLt (pv 0) (pe_int) (nomark _)) (pss_one (ps_expr (pe_bm PySem.F.plainAttrs_list PySem.F.slot_list_append PySem.F.type_list_append mt_append (pv 4) (pa_cons (pe_tup (pa_cons (pv 7) (pa_cons (pe_op op_uSub (pv 8) (pe_dget (hu_of hr) (pv 3) (pv 7) (fun _ _ => rfl))) (pa_cons (pv 6) (pa_nil))))) (pa_nil))))) (pss_one (ps_expr (pe_bm PySem.F.plainAttrs_list PySem.F.slot_list_append PySem.F.type_list_append mt_append (pv 4) (pa_cons (pe_tup (pa_cons (pv 7) (pa_cons (pe_op op_uSub (pe_dget (hu_of hr) (pv 3) (pv 7) (fun _ _ => rfl)) (pv 8)) (pa_cons (pe_op op_uSub (pe_op op_uSub (pe_callB call_cLen (by rfl) G.g_len (by decide +kernel) (pa_cons (pv 5) (pa_nil))) (pe_int)) (pv 6)) (pa_nil))))) (pa_nil))))))))) (pss_one (ps_ret (pv 4)))))
abbrev s_law_bent : Stmt := top 56
abbrev N_law_bent : List Str := ["_law_source_here", "_law_pairs_here", "_law_found", "_law_name", "_law_index", "_law_way"]
abbrev ps_law_bent : List Str := ["_law_source_here", "_law_pairs_here"]
theorem sc_law_bent : FnScope N_law_bent ["_law_source_here", "_law_pairs_here"] (defScope s_law_bent) := ⟨rfl, rfl, rfl, by decide +kernel, rfl, by decide +kernel, by decide +kernel⟩
def t_law_bent (P : Program) (w : World) (K : PySem.W.Frag) (mg : Str → Option Value) (base : Heap) (A : Ads) (E : XK) : TS :=
  tSeq (tAsg (tLst (tNil)) (gName 2)) (tSeq (tFor (iList K (tVar 1)) (gTup K 2 (gCons (gName 3) (gCons (gName 4) (gNil)))) (tSeq (tAsg (tFn P w K mg base "_law_pick" 2 E (tCons (tVar 0) (tCons (tC (.int 6)) (tNil)))) (gName 5)) (tDrop (tBM K "list" rAppend (tVar 2) (tCons (tTup (tCons (tVar 3) (tCons (tOp (uIx K) (tLst (tCons (tVar 4) (tCons (tVar 4) (tCons (tVar 4) (tCons (tCB (cMax K) (tCons (tC (.int 0)) (tCons (tOp uSub (tVar 4) (tC (.int 1))) (tNil)))) (tCons (tCB (cMin K) (tCons (tC (.int 60)) (tCons (tOp uAdd (tVar 4) (tC (.int 1))) (tNil)))) (tCons (tFn P w K mg base "_law_pick" 2 E (tCons (tVar 0) (tCons (tC (.int 61)) (tNil)))) (tNil)))))))) (tVar 5)) (tNil)))) (tNil)))))) (tRet (tVar 2)))
theorem d_law_bent {P : Program} {w : World} {K : PySem.W.Frag} {mg : Str → Option Value} {base : Heap} {A : Ads} {f : Addr} {cdv : Value} {Ar : Around} {outer : List Env} {s : Shared} {H : Hp} {E : XK} (G : Gm mg A) (hr : Room 2 (Ar.deeper (envOfC "_law_bent" (defScope s_law_bent) s.heap.objs.size f cdv))) (qt : Quiet (Ar.deeper (envOfC "_law_bent" (defScope s_law_bent) s.heap.objs.size f cdv))) :
    PSs (cxOf (L2.CX P w) P w K mg base N_law_bent "_law_bent" (defScope s_law_bent) f cdv Ar outer s H E) (defBody s_law_bent) (t_law_bent P w K mg base A E) := by
  have sc := sc_law_bent
  have at_ : At (cxOf (L2.CX P w) P w K mg base N_law_bent "_law_bent" (defScope s_law_bent) f cdv Ar outer s H E) 2 E := At.of hr qt (takes_of rfl rfl rfl rfl)
  have pn : PassesOwn (model P w) (cxOf (L2.CX P w) P w K mg base N_law_bent "_law_bent" (defScope s_law_bent) f cdv Ar outer s H E).A (cxOf (L2.CX P w) P w K mg base N_law_bent "_law_bent" (defScope s_law_bent) f cdv Ar outer s H E).env (cxOf (L2.CX P w) P w K mg base N_law_bent "_law_bent" (defScope s_law_bent) f cdv Ar outer s H E).xe := passes_of rfl
  exact pss_cons (ps_set (i := 2) sc.nd rfl (by first | exact Or.inl rfl | exact Or.inr rfl) (pe_lst (pa_nil))) (pss_cons (ps_for pn rfl (pi_list (pv 1)) (pg_tup rfl (pgs_cons (pg_name (i := 3) sc.nd rfl (by first | exact Or.inl rfl | exact Or.inr rfl)) (pgs_cons (pg_name (i := 4) sc.nd rfl (by first | exact Or.inl rfl | exact Or.inr rfl)) (pgs_nil)))) (pss_cons (ps_set (i := 5) sc.nd rfl (by first | exact Or.inl rfl | exact Or.inr rfl) (pe_fn at_ (by rfl) (pa_cons (pv 0) (pa_cons (pe_int) (pa_nil))))) (pss_one (ps_expr (pe_bm PySem.F.plainAttrs_list PySem.F.slot_list_append PySem.F.type_list_append mt_append (pv 2) (pa_cons (pe_tup (pa_cons (pv 3) (pa_cons (pe_ix ix_u (pe_lst (pa_cons (pv 4) (pa_cons (pv 4) (pa_cons (pv 4) (pa_cons (pe_callB (call_cMax rfl) (by rfl) G.g_max (by decide +kernel) (pa_cons (pe_int) (pa_cons (pe_op op_uSub (pv 4) (pe_int)) (pa_nil)))) (pa_cons (pe_callB (call_cMin rfl) (by rfl) G.g_min (by decide +kernel) (pa_cons (pe_int) (pa_cons (pe_op op_uAdd (pv 4) (pe_int)) (pa_nil)))) (pa_cons (pe_fn at_ (by rfl) (pa_cons (pv 0) (pa_cons (pe_int) (pa_nil)))) (pa_nil)))))))) (pv 5) (fun _ _ => rfl)) (pa_nil)))) (pa_nil))))))) (pss_one (ps_ret (pv 2))))
abbrev s_law_fitting : Stmt := top 57
abbrev N_law_fitting : List Str := ["_law_kind", "_law_pairs_here", "_law_known", "_law_name", "_law_found", "_law_index", "_law_other", "_law_row", "_law_shift", "_law_room", "_law_one", "_law_slot"]
abbrev ps_law_fitting : List Str := ["_law_kind", "_law_pairs_here", "_law_known", "_law_name"]
theorem sc_law_fitting : FnScope N_law_fitting ["_law_kind", "_law_pairs_here", "_law_known", "_law_name"] (defScope s_law_fitting) := ⟨rfl, rfl, rfl, by decide +kernel, rfl, by decide +kernel, by decide +kernel⟩
def t_law_fitting (P : Program) (w : World) (K : PySem.W.Frag) (mg : Str → Option Value) (base : Heap) (A : Ads) (E : XK) : TS :=
  tSeq (tAsg (tLst (tNil)) (gName 4)) (tSeq (tFor (iRng1 (tCons (tC (.int 61)) (tNil))) (gName 5) (tSeq (tAsg (tLc (iList K (tVar 1)) (gTup K 2 (gCons (gName 10) (gCons (gName 11) (gNil)))) (tYes) (tTup (tCons (tVar 10) (tCons (tIf (tTest (tOp (uEq K) (tVar 10) (tVar 3))) (tVar 5) (tVar 11)) (tNil)))) [10, 11]) (gName 6)) (tSeq (tAsg (tLc (iList K (tFn P w K mg base "_law_sides" 3 E (tCons (tVar 0) (tCons (tVar 6) (tCons (tVar 2) (tNil)))))) (gTup K 3 (gCons (gName 10) (gCons (gName 8) (gCons (gName 9) (gNil))))) (tTest (tOp (uEq K) (tVar 10) (tVar 3))) (tTup (tCons (tVar 8) (tCons (tVar 9) (tNil)))) [10, 8, 9]) (gName 7)) (tSeq (tAsg (tOp (uIx K) (tVar 7) (tC (.int 0))) (gTup K 2 (gCons (gName 8) (gCons (gName 9) (gNil))))) (tIfS (tTest (tChain uLe uLe (tC (.int 0)) (tVar 8) (tVar 9))) (tDrop (tBM K "list" rAppend (tVar 4) (tCons (tVar 5) (tNil)))) (tNext)))))) (tRet (tVar 4)))
theorem d_law_fitting {P : Program} {w : World} {K : PySem.W.Frag} {mg : Str → Option Value} {base : Heap} {A : Ads} {f : Addr} {cdv : Value} {Ar : Around} {outer : List Env} {s : Shared} {H : Hp} {E : XK} (G : Gm mg A) (hr : Room 3 (Ar.deeper (envOfC "_law_fitting" (defScope s_law_fitting) s.heap.objs.size f cdv))) (qt : Quiet (Ar.deeper (envOfC "_law_fitting" (defScope s_law_fitting) s.heap.objs.size f cdv))) :
    PSs (cxOf (L2.CX P w) P w K mg base N_law_fitting "_law_fitting" (defScope s_law_fitting) f cdv Ar outer s H E) (defBody s_law_fitting) (t_law_fitting P w K mg base A E) := by
  have sc := sc_law_fitting
  have at_ : At (cxOf (L2.CX P w) P w K mg base N_law_fitting "_law_fitting" (defScope s_law_fitting) f cdv Ar outer s H E) 3 E := At.of hr qt (takes_of rfl rfl rfl rfl)
  have pn : PassesOwn (model P w) (cxOf (L2.CX P w) P w K mg base N_law_fitting "_law_fitting" (defScope s_law_fitting) f cdv Ar outer s H E).A (cxOf (L2.CX P w) P w K mg base N_law_fitting "_law_fitting" (defScope s_law_fitting) f cdv Ar outer s H E).env (cxOf (L2.CX P w) P w K mg base N_law_fitting "_law_fitting" (defScope s_law_fitting) f cdv Ar outer s H E).xe := passes_of rfl
  exact pss_cons (ps_set (i := 4) sc.nd rfl (by first | exact Or.inl rfl | exact Or.inr rfl) (pe_lst (pa_nil))) (pss_cons (ps_for pn rfl (pi_range1 (by rfl) G.g_range (pa_cons (pe_int) (pa_nil))) (pg_name (i := 5) sc.nd rfl (by first | exact Or.inl rfl | exact Or.inr rfl)) (pss_cons (ps_setLc (i := 6) (own := [("_law_one", 10), ("_law_slot", 11)]) (g := gTup K 2 (gCons (gName 10) (gCons (gName 11) (gNil)))) (tt := tYes) rfl sc.nd rfl rfl (sw_true rfl rfl rfl (by decide +kernel)) (pi_list (pv 1)) (blkOk_by (N := N_law_fitting) (sc := defScope s_law_fitting) (by decide +kernel)) (fun _ _ _ _ _ => pg_tup rfl (pgs_cons (pg_name (i := 10) sc.nd rfl (by first | exact Or.inl rfl | exact Or.inr rfl)) (pgs_cons (pg_name (i := 11) sc.nd rfl (by first | exact Or.inl rfl | exact Or.inr rfl)) (pgs_nil)))) (fun _ _ _ _ _ => pts_nil) (fun _ _ _ _ _ => pe_tup (pa_cons (pv 10) (pa_cons (pe_ifExp (pt_cmpR (op_uEq hr) (pv 10) (pv 3) (nomark _)) (pv 5) (pv 11)) (pa_nil))))) (pss_cons (ps_setLc (i := 7) (own := [("_law_one", 10), ("_law_shift", 8), ("_law_room", 9)]) (g := gTup K 3 (gCons (gName 10) (gCons (gName 8) (gCons (gName 9) (gNil))))) (tt := tTest (tOp (uEq K) (tVar 10) (tVar 3))) rfl sc.nd rfl rfl (sw_true rfl rfl rfl (by decide +kernel)) (pi_list (pe_fn at_ (by rfl) (pa_cons (pv 0) (pa_cons (pv 6) (pa_cons (pv 2) (pa_nil)))))) (blkOk_by (N := N_law_fitting) (sc := defScope s_law_fitting) (by decide +kernel)) (fun _ _ _ _ _ => pg_tup rfl (pgs_cons (pg_name (i := 10) sc.nd rfl (by first | exact Or.inl rfl | exact Or.inr rfl)) (pgs_cons (pg_name (i := 8) sc.nd rfl (by first | exact Or.inl rfl | exact Or.inr rfl)) (pgs_cons (pg_name (i := 9) sc.nd rfl (by first | exact Or.inl rfl | exact Or.inr rfl)) (pgs_nil))))) (fun _ _ _ _ _ => pts_one (pt_cmpR (op_uEq hr) (pv 10) (pv 3) (nomark _))) (fun _ _ _ _ _ => pe_tup (pa_cons (pv 8) (pa_cons (pv 9) (pa_nil))))) (pss_cons (ps_asg (pe_ix ix_u (pv 7) (pe_int) (fun _ _ => rfl)) (pg_tup rfl (pgs_cons (pg_name (i := 8) sc.nd rfl (by first | exact Or.inl rfl | exact Or.inr rfl)) (pgs_cons (pg_name (i := 9) sc.nd rfl (by first | exact Or.inl rfl | exact Or.inr rfl)) (pgs_nil))))) (pss_one (ps_if (pt_chain op_uLe op_uLe (pe_int) (pv 8) (pv 9)) (pss_one (ps_expr (pe_bm PySem.F.plainAttrs_list PySem.F.slot_list_append PySem.F.type_list_append mt_append (pv 4) (pa_cons (pv 5) (pa_nil))))) (pss_nil))))))) (pss_one (ps_ret (pv 4))))
abbrev s_law_right : Stmt := top 58
abbrev N_law_right : List Str := ["_law_source_here", "_law_kind", "_law_pairs_here", "_law_known", "_law_notes", "_law_shown", "_law_ends", "_law_name", "_law_index", "_law_found", "_law_due", "_law_side", "_law_some", "_law_free", "_law_slots", "_law_good", "_law_pair"]
abbrev ps_law_right : List Str := ["_law_source_here", "_law_kind", "_law_pairs_here", "_law_known"]
theorem sc_law_right : FnScope N_law_right ["_law_source_here", "_law_kind", "_law_pairs_here", "_law_known"] (defScope s_law_right) := ⟨rfl, rfl, rfl, by decide +kernel, rfl, by decide +kernel, by decide +kernel⟩
def t_law_right (P : Program) (w : World) (K : PySem.W.Frag) (mg : Str → Option Value) (base : Heap) (A : Ads) (E : XK) : TS :=
  tSeq (tAsg (tFn P w K mg base "_law_log" 8 E (tCons (tVar 0) (tCons (tVar 1) (tCons (tVar 2) (tNil))))) (gName 4)) (tSeq (tAsg (tCB (cRepr K) (tCons (tLst (tCons (tFn P w K mg base "_law_pairs" 8 E (tCons (tVar 4) (tNil))) (tCons (tVar 3) (tNil)))) (tNil))) (gName 5)) (tSeq (tAsg (tLst (tNil)) (gName 6)) (tSeq (tFor (iList K (tVar 2)) (gTup K 2 (gCons (gName 7) (gCons (gName 8) (gNil)))) (tSeq (tAsg (tFn P w K mg base "index_range" 8 E (tCons (tVar 4) (tCons (tVar 3) (tCons (tVar 7) (tNil))))) (gName 9)) (tSeq (tDrop (tBM K "list" rAppend (tVar 6) (tCons (tTup (tCons (tVar 7) (tCons (tVar 9) (tNil)))) (tNil)))) (tSeq (tIfS (tTest (tOp (uNe K) (tCB (cRepr K) (tCons (tVar 9) (tNil))) (tCB (cRepr K) (tCons (tFnK P w K mg base "index_range" ["item", "items", "log"] 8 E (tCons (tVar 7) (tCons (tVar 3) (tCons (tVar 4) (tNil))))) (tNil))))) (tRet (tC (.bl false))) (tNext)) (tIfS (tTest (tOp (uNe K) (tCB (cRepr K) (tCons (tLst (tCons (tFn P w K mg base "_law_pairs" 8 E (tCons (tVar 4) (tNil))) (tCons (tVar 3) (tNil)))) (tNil))) (tVar 5))) (tRet (tC (.bl false))) (tNext)))))) (tSeq (tFor (iList K (tSl (rSlL K) (tFn P w K mg base "_law_mixed" 8 E (tCons (tVar 0) (tCons (tVar 6) (tNil)))) (tNoPart) (tPart (tC (.int 3))))) (gTup K 2 (gCons (gName 7) (gCons (gName 9) (gNil)))) (tSeq (tAsg (tFn P w K mg base "_law_fitting" 8 E (tCons (tVar 1) (tCons (tVar 2) (tCons (tVar 3) (tCons (tVar 7) (tNil)))))) (gName 10)) (tIfS (tOr (tTest (tOp (uNe K) (tCB (cRepr K) (tCons (tVar 9) (tNil))) (tCB (cRepr K) (tCons (tTup (tCons (tOp (uIx K) (tVar 10) (tC (.int 0))) (tCons (tOp (uIx K) (tVar 10) (tUn uNeg (tC (.int 1)))) (tNil)))) (tNil))))) (tTest (tOp (uNe K) (tVar 10) (tLstRg (tRg2 (tOp (uIx K) (tVar 10) (tC (.int 0))) (tOp uAdd (tOp (uIx K) (tVar 10) (tUn uNeg (tC (.int 1)))) (tC (.int 1)))))))) (tRet (tC (.bl false))) (tNext)))) (tSeq (tFor (iRng1 (tCons (tC (.int 2)) (tNil))) (gName 11) (tSeq (tAsg (tLc (iList K (tVar 6)) (gTup K 2 (gCons (gName 7) (gCons (gName 9) (gNil)))) (tYes) (tFn P w K mg base "_law_made" 8 E0 (tCons (tVar 1) (tCons (tVar 7) (tCons (tOp (uIx K) (tVar 9) (tVar 11)) (tNil))))) [7, 9]) (gName 12)) (tIfS (tTest (tOp uIsNot (tFn P w K mg base "reason" 8 E (tCons (tVar 12) (tCons (tVar 3) (tNil)))) (tC .non))) (tRet (tC (.bl false))) (tNext)))) (tSeq (tAsg (tLc (iList K (tVar 6)) (gTup K 2 (gCons (gName 7) (gCons (gName 9) (gNil)))) (tYes) (tFn P w K mg base "_law_made" 8 E0 (tCons (tVar 1) (tCons (tVar 7) (tCons (tOp uAdd (tOp (uIx K) (tVar 9) (tC (.int 0))) (tFn P w K mg base "_law_pick" 8 E0 (tCons (tVar 0) (tCons (tOp uAdd (tOp uSub (tOp (uIx K) (tVar 9) (tC (.int 1))) (tOp (uIx K) (tVar 9) (tC (.int 0)))) (tC (.int 1))) (tNil))))) (tNil))))) [7, 9]) (gName 13)) (tSeq (tIfS (tTest (tOp uIsNot (tFn P w K mg base "reason" 8 E (tCons (tVar 13) (tCons (tVar 3) (tNil)))) (tC .non))) (tRet (tC (.bl false))) (tNext)) (tSeq (tAsg (tCB (cDict K) (tCons (tVar 6) (tNil))) (gName 14)) (tSeq (tAsg (tLc (iList K (tVar 2)) (gName 16) (tTest (tChain uLe uLe (tOp (uIx K) (tDGet (tVar 14) (tOp (uIx K) (tVar 16) (tC (.int 0)))) (tC (.int 0))) (tOp (uIx K) (tVar 16) (tC (.int 1))) (tOp (uIx K) (tDGet (tVar 14) (tOp (uIx K) (tVar 16) (tC (.int 0)))) (tC (.int 1))))) (tVar 16) [16]) (gName 15)) (tRet (tOp (uEq K) (tOp uIs (tFn P w K mg base "reason" 8 E (tCons (tVar 4) (tCons (tVar 3) (tNil)))) (tC .non)) (tOp (uEq K) (tCB (cLen K) (tCons (tVar 15) (tNil))) (tCB (cLen K) (tCons (tVar 2) (tNil)))))))))))))))
theorem d_law_right {P : Program} {w : World} {K : PySem.W.Frag} {mg : Str → Option Value} {base : Heap} {A : Ads} {f : Addr} {cdv : Value} {Ar : Around} {outer : List Env} {s : Shared} {H : Hp} {E : XK} (G : Gm mg A) (hr : Room 8 (Ar.deeper (envOfC "_law_right" (defScope s_law_right) s.heap.objs.size f cdv))) (qt : Quiet (Ar.deeper (envOfC "_law_right" (defScope s_law_right) s.heap.objs.size f cdv))) :
    PSs (cxOf (L2.CX P w) P w K mg base N_law_right "_law_right" (defScope s_law_right) f cdv Ar outer s H E) (defBody s_law_right) (t_law_right P w K mg base A E) := by
  have sc := sc_law_right
  have at_ : At (cxOf (L2.CX P w) P w K mg base N_law_right "_law_right" (defScope s_law_right) f cdv Ar outer s H E) 8 E := At.of hr qt (takes_of rfl rfl rfl rfl)
  have pn : PassesOwn (model P w) (cxOf (L2.CX P w) P w K mg base N_law_right "_law_right" (defScope s_law_right) f cdv Ar outer s H E).A (cxOf (L2.CX P w) P w K mg base N_law_right "_law_right" (defScope s_law_right) f cdv Ar outer s H E).env (cxOf (L2.CX P w) P w K mg base N_law_right "_law_right" (defScope s_law_right) f cdv Ar outer s H E).xe := passes_of rfl
  exact pss_cons (ps_set (i := 4) sc.nd rfl (by first | exact Or.inl rfl | exact Or.inr rfl) (pe_fn at_ (by rfl) (pa_cons (pv 0) (pa_cons (pv 1) (pa_cons (pv 2) (pa_nil)))))) (pss_cons (ps_set (i := 5) sc.nd rfl (by first | exact Or.inl rfl | exact Or.inr rfl) (pe_callB (call_cRepr hr qt) (by rfl) G.g_repr (by decide +kernel) (pa_cons (pe_lst (pa_cons (pe_fn at_ (by rfl) (pa_cons (pv 4) (pa_nil))) (pa_cons (pv 3) (pa_nil)))) (pa_nil)))) (pss_cons (ps_set (i := 6) sc.nd rfl (by first | exact Or.inl rfl | exact Or.inr rfl) (pe_lst (pa_nil))) (pss_cons (ps_for pn rfl (pi_list (pv 2)) (pg_tup rfl (pgs_cons (pg_name (i := 7) sc.nd rfl (by first | exact Or.inl rfl | exact Or.inr rfl)) (pgs_cons (pg_name (i := 8) sc.nd rfl (by first | exact Or.inl rfl | exact Or.inr rfl)) (pgs_nil)))) (pss_cons (ps_set (i := 9) sc.nd rfl (by first | exact Or.inl rfl | exact Or.inr rfl) (pe_fn at_ (by rfl) (pa_cons (pv 4) (pa_cons (pv 3) (pa_cons (pv 7) (pa_nil)))))) (pss_cons (ps_expr (pe_bm PySem.F.plainAttrs_list PySem.F.slot_list_append PySem.F.type_list_append mt_append (pv 6) (pa_cons (pe_tup (pa_cons (pv 7) (pa_cons (pv 9) (pa_nil)))) (pa_nil)))) (pss_cons (ps_if (pt_cmpR (op_uNe hr) (pe_callB (call_cRepr hr qt) (by rfl) G.g_repr (by decide +kernel) (pa_cons (pv 9) (pa_nil))) (pe_callB (call_cRepr hr qt) (by rfl) G.g_repr (by decide +kernel) (pa_cons (pe_fnK at_ (by rfl) (pk_cons (pv 7) (pk_cons (pv 3) (pk_cons (pv 4) (pk_nil))))) (pa_nil))) (nomark _)) (pss_one (ps_ret (pe_bl))) (pss_nil)) (pss_one (ps_if (pt_cmpR (op_uNe hr) (pe_callB (call_cRepr hr qt) (by rfl) G.g_repr (by decide +kernel) (pa_cons (pe_lst (pa_cons (pe_fn at_ (by rfl) (pa_cons (pv 4) (pa_nil))) (pa_cons (pv 3) (pa_nil)))) (pa_nil))) (pv 5) (nomark _)) (pss_one (ps_ret (pe_bl))) (pss_nil))))))) (pss_cons (ps_for pn rfl (pi_list (pe_slice sl_list (pe_fn at_ (by rfl) (pa_cons (pv 0) (pa_cons (pv 6) (pa_nil)))) (po_none) (po_some (pe_int)))) (pg_tup rfl (pgs_cons (pg_name (i := 7) sc.nd rfl (by first | exact Or.inl rfl | exact Or.inr rfl)) (pgs_cons (pg_name (i := 9) sc.nd rfl (by first | exact Or.inl rfl | exact Or.inr rfl)) (pgs_nil)))) (pss_cons (ps_set (i := 10) sc.nd rfl (by first | exact Or.inl rfl | exact Or.inr rfl) (pe_fn at_ (by rfl) (pa_cons (pv 1) (pa_cons (pv 2) (pa_cons (pv 3) (pa_cons (pv 7) (pa_nil))))))) (pss_one (ps_if (PW.pt (pw_or (pt_cmpR (op_uNe hr) (pe_callB (call_cRepr hr qt) (by rfl) G.g_repr (by decide +kernel) (pa_cons (pv 9) (pa_nil))) (pe_callB (call_cRepr hr qt) (by rfl) G.g_repr (by decide +kernel) (pa_cons (pe_tup (pa_cons (pe_ix ix_u (pv 10) (pe_int) (fun _ _ => rfl)) (pa_cons (pe_ix ix_u (pv 10) (pe_un un_uNeg (pe_int)) (fun _ _ => rfl)) (pa_nil)))) (pa_nil))) (nomark _)) (pw_or1 (pt_cmpR (op_uNe hr) (pv 10) (pe_listRg rfl (by rfl) G.g_list (prg_2 (by rfl) G.g_range (pe_ix ix_u (pv 10) (pe_int) (fun _ _ => rfl)) (pe_op op_uAdd (pe_ix ix_u (pv 10) (pe_un un_uNeg (pe_int)) (fun _ _ => rfl)) (pe_int)))) (nomark _))))) (pss_one (ps_ret (pe_bl))) (pss_nil))))) (pss_cons (ps_for pn rfl (pi_range1 (by rfl) G.g_range (pa_cons (pe_int) (pa_nil))) (pg_name (i := 11) sc.nd rfl (by first | exact Or.inl rfl | exact Or.inr rfl)) (pss_cons (ps_setLc (i := 12) (own := [("_law_name", 7), ("_law_found", 9)]) (g := gTup K 2 (gCons (gName 7) (gCons (gName 9) (gNil)))) (tt := tYes) rfl sc.nd rfl rfl (sw_true rfl rfl rfl (by decide +kernel)) (pi_list (pv 6)) (blkOk_by (N := N_law_right) (sc := defScope s_law_right) (by decide +kernel)) (fun _ _ _ _ _ => pg_tup rfl (pgs_cons (pg_name (i := 7) sc.nd rfl (by first | exact Or.inl rfl | exact Or.inr rfl)) (pgs_cons (pg_name (i := 9) sc.nd rfl (by first | exact Or.inl rfl | exact Or.inr rfl)) (pgs_nil)))) (fun _ _ _ _ _ => pts_nil) (fun _ _ _ _ _ => pe_fn (At.e0 hr qt) (by rfl) (pa_cons (pv 1) (pa_cons (pv 7) (pa_cons (pe_ix ix_u (pv 9) (pv 11) (fun _ _ => rfl)) (pa_nil)))))) (pss_one (ps_if (pt_cmpR op_uIsNot (pe_fn at_ (by rfl) (pa_cons (pv 12) (pa_cons (pv 3) (pa_nil)))) (pe_non) (nomark _)) (pss_one (ps_ret (pe_bl))) (pss_nil))))) (pss_cons (ps_setLc (i := 13) (own := [("_law_name", 7), ("_law_found", 9)]) (g := gTup K 2 (gCons (gName 7) (gCons (gName 9) (gNil)))) (tt := tYes) rfl sc.nd rfl rfl (sw_true rfl rfl rfl (by decide +kernel)) (pi_list (pv 6)) (blkOk_by (N := N_law_right) (sc := defScope s_law_right) (by decide +kernel)) (fun _ _ _ _ _ => pg_tup rfl (pgs_cons (pg_name (i := 7) sc.nd rfl (by first | exact Or.inl rfl | exact Or.inr rfl)) (pgs_cons (pg_name (i := 9) sc.nd rfl (by first | exact Or.inl rfl | exact Or.inr rfl)) (pgs_nil)))) (fun _ _ _ _ _ => pts_nil) (fun _ _ _ _ _ => pe_fn (At.e0 hr qt) (by rfl) (pa_cons (pv 1) (pa_cons (pv 7) (pa_cons (pe_op op_uAdd (pe_ix ix_u (pv 9) (pe_int) (fun _ _ => rfl)) (pe_fn (At.e0 hr qt) (by rfl) (pa_cons (pv 0) (pa_cons (pe_op op_uAdd (pe_op op_uSub (pe_ix ix_u (pv 9) (pe_int) (fun _ _ => rfl)) (pe_ix ix_u (pv 9) (pe_int) (fun _ _ => rfl))) (pe_int)) (pa_nil))))) (pa_nil)))))) (pss_cons (ps_if (pt_cmpR op_uIsNot (pe_fn at_ (by rfl) (pa_cons (pv 13) (pa_cons (pv 3) (pa_nil)))) (pe_non) (nomark _)) (pss_one (ps_ret (pe_bl))) (pss_nil)) (pss_cons (ps_set (i := 14) sc.nd rfl (by first | exact Or.inl rfl | exact Or.inr rfl) (pe_callTy (call_cDict rfl) (by rfl) G.g_dict (by decide +kernel) (pa_cons (pv 6) (pa_nil)))) (pss_cons (ps_setLc (i := 15) (own := [("_law_pair", 16)]) (g := gName 16) (tt := tTest (tChain uLe uLe (tOp (uIx K) (tDGet (tVar 14) (tOp (uIx K) (tVar 16) (tC (.int 0)))) (tC (.int 0))) (tOp (uIx K) (tVar 16) (tC (.int 1))) (tOp (uIx K) (tDGet (tVar 14) (tOp (uIx K) (tVar 16) (tC (.int 0)))) (tC (.int 1))))) rfl sc.nd rfl rfl (sw_true rfl rfl rfl (by decide +kernel)) (pi_list (pv 2)) (blkOk_by (N := N_law_right) (sc := defScope s_law_right) (by decide +kernel)) (fun _ _ _ _ _ => pg_name (i := 16) sc.nd rfl (by first | exact Or.inl rfl | exact Or.inr rfl)) (fun _ _ _ _ _ => pts_one (pt_chain op_uLe op_uLe (pe_ix ix_u (pe_dget (hu_of hr) (pv 14) (pe_ix ix_u (pv 16) (pe_int) (fun _ _ => rfl)) (fun _ _ => rfl)) (pe_int) (fun _ _ => rfl)) (pe_ix ix_u (pv 16) (pe_int) (fun _ _ => rfl)) (pe_ix ix_u (pe_dget (hu_of hr) (pv 14) (pe_ix ix_u (pv 16) (pe_int) (fun _ _ => rfl)) (fun _ _ => rfl)) (pe_int) (fun _ _ => rfl)))) (fun _ _ _ _ _ => pv 16)) (pss_one (ps_ret (pe_cmpR (op_uEq hr) (pe_cmpR op_uIs (pe_fn at_ (by rfl) (pa_cons (pv 4) (pa_cons (pv 3) (pa_nil)))) (pe_non) (nomark _)) (pe_cmpR (op_uEq hr) (pe_callB call_cLen (by rfl) G.g_len (by decide +kernel) (pa_cons (pv 15) (pa_nil))) (pe_callB call_cLen (by rfl) G.g_len (by decide +kernel) (pa_cons (pv 2) (pa_nil))) (nomark _)) (nomark _)))))))))))))
abbrev s_law : Stmt := top 59
abbrev N_law : List Str := ["_law_script", "_law_k", "_law_source_here", "_law_kind", "_law_most", "_law_pairs_here", "_law_known", "_law_free", "_law_some", "_law_notes", "_law_name", "_law_index"]
abbrev ps_law : List Str := ["_law_script"]
theorem sc_law : FnScope N_law ["_law_script"] (defScope s_law) := ⟨rfl, rfl, rfl, by decide +kernel, rfl, by decide +kernel, by decide +kernel⟩
def t_law (P : Program) (w : World) (K : PySem.W.Frag) (mg : Str → Option Value) (base : Heap) (A : Ads) (E : XK) : TS :=
  tSeq (tFor (iRng1 (tCons (tCB (cMax K) (tCons (tC (.int 1)) (tCons (tCB (cMin K) (tCons (tC (.int 3)) (tCons (tCB (cLen K) (tCons (tVar 0) (tNil))) (tNil)))) (tNil)))) (tNil))) (gName 1) (tSeq (tAsg (tFn P w K mg base "_law_source" 9 E (tCons (tVar 0) (tCons (tVar 1) (tNil)))) (gName 2)) (tFor (iRng1 (tCons (tC (.int 3)) (tNil))) (gName 3) (tSeq (tAsg (tOp (uIx K) (tLst (tCons (tC (.int 5)) (tCons (tOp (uIx K) (tLst (tCons (tC (.int 8)) (tCons (tC (.int 40)) (tNil)))) (tCB (cInt) (tCons (tOp (uEq K) (tVar 1) (tC (.int 0))) (tNil)))) (tNil)))) (tFn P w K mg base "_law_pick" 9 E (tCons (tVar 2) (tCons (tC (.int 2)) (tNil))))) (gName 4)) (tSeq (tAsg (tFn P w K mg base "_law_history" 9 E (tCons (tVar 2) (tCons (tVar 3) (tCons (tVar 4) (tCons (tOp (uIx K) (tLst (tCons (tC (.int 2)) (tCons (tC (.int 20)) (tNil)))) (tFn P w K mg base "_law_pick" 9 E (tCons (tVar 2) (tCons (tC (.int 2)) (tNil))))) (tNil)))))) (gTup K 2 (gCons (gName 5) (gCons (gName 6) (gNil))))) (tSeq (tAsg (tLc (iList K (tVar 5)) (gTup K 2 (gCons (gName 10) (gCons (gName 11) (gNil)))) (tYes) (tTup (tCons (tVar 10) (tCons (tFn P w K mg base "_law_pick" 9 E0 (tCons (tVar 2) (tCons (tC (.int 61)) (tNil)))) (tNil)))) [10, 11]) (gName 7)) (tSeq (tFor (iList K (tLst (tCons (tFn P w K mg base "_law_bent" 9 E (tCons (tVar 2) (tCons (tVar 5) (tNil)))) (tCons (tVar 7) (tNil))))) (gName 8) (tIfS (tNot (tB (tFn P w K mg base "_law_right" 9 E (tCons (tVar 2) (tCons (tVar 3) (tCons (tVar 8) (tCons (tVar 6) (tNil)))))))) (tRet (tC (.bl false))) (tNext))) (tIfS (tNot (tB (tFn P w K mg base "_law_right" 9 E (tCons (tVar 2) (tCons (tVar 3) (tCons (tVar 5) (tCons (tFn P w K mg base "_law_mixed" 9 E (tCons (tVar 2) (tCons (tVar 6) (tNil)))) (tNil)))))))) (tRet (tC (.bl false))) (tNext))))))))) (tSeq (tAsg (tLst (tCons (tMkr P w K mg base "Fronted" 9 E (tCons (tC (.str "a")) (tCons (tC (.int 9)) (tNil)))) (tCons (tMkr P w K mg base "Fronted" 9 E (tCons (tC (.str "b")) (tCons (tC (.int 9)) (tNil)))) (tNil)))) (gName 9)) (tRet (tOp (uEq K) (tLc (iTup K (tTup (tCons (tC (.str "a")) (tCons (tC (.str "b")) (tNil))))) (gName 10) (tYes) (tFn P w K mg base "index_range" 9 E0 (tCons (tVar 9) (tCons (tLst (tCons (tC (.str "x")) (tCons (tC (.str "b")) (tCons (tC (.str "y")) (tCons (tC (.str "a")) (tNil)))))) (tCons (tVar 10) (tNil))))) [10]) (tLst (tCons (tTup (tCons (tC (.int 3)) (tCons (tC (.int 3)) (tNil)))) (tCons (tTup (tCons (tC (.int 1)) (tCons (tC (.int 2)) (tNil)))) (tNil)))))))
theorem d_law {P : Program} {w : World} {K : PySem.W.Frag} {mg : Str → Option Value} {base : Heap} {A : Ads} {f : Addr} {cdv : Value} {Ar : Around} {outer : List Env} {s : Shared} {H : Hp} {E : XK} (G : Gm mg A) (hr : Room 9 (Ar.deeper (envOfC "law" (defScope s_law) s.heap.objs.size f cdv))) (qt : Quiet (Ar.deeper (envOfC "law" (defScope s_law) s.heap.objs.size f cdv))) :
    PSs (cxOf (L2.CX P w) P w K mg base N_law "law" (defScope s_law) f cdv Ar outer s H E) (defBody s_law) (t_law P w K mg base A E) := by
  have sc := sc_law
  have at_ : At (cxOf (L2.CX P w) P w K mg base N_law "law" (defScope s_law) f cdv Ar outer s H E) 9 E := At.of hr qt (takes_of rfl rfl rfl rfl)
  have pn : PassesOwn (model P w) (cxOf (L2.CX P w) P w K mg base N_law "law" (defScope s_law) f cdv Ar outer s H E).A (cxOf (L2.CX P w) P w K mg base N_law "law" (defScope s_law) f cdv Ar outer s H E).env (cxOf (L2.CX P w) P w K mg base N_law "law" (defScope s_law) f cdv Ar outer s H E).xe := passes_of rfl
  exact pss_cons (ps_for pn rfl (pi_range1 (by rfl) G.g_range (pa_cons (pe_callB (call_cMax rfl) (by rfl) G.g_max (by decide +kernel) (pa_cons (pe_int) (pa_cons (pe_callB (call_cMin rfl) (by rfl) G.g_min (by decide +kernel) (pa_cons (pe_int) (pa_cons (pe_callB call_cLen (by rfl) G.g_len (by decide +kernel) (pa_cons (pv 0) (pa_nil))) (pa_nil)))) (pa_nil)))) (pa_nil))) (pg_name (i := 1) sc.nd rfl (by first | exact Or.inl rfl | exact Or.inr rfl)) (pss_cons (ps_set (i := 2) sc.nd rfl (by first | exact Or.inl rfl | exact Or.inr rfl) (pe_fn at_ (by rfl) (pa_cons (pv 0) (pa_cons (pv 1) (pa_nil))))) (pss_one (ps_for pn rfl (pi_range1 (by rfl) G.g_range (pa_cons (pe_int) (pa_nil))) (pg_name (i := 3) sc.nd rfl (by first | exact Or.inl rfl | exact Or.inr rfl)) (pss_cons (ps_set (i := 4) sc.nd rfl (by first | exact Or.inl rfl | exact Or.inr rfl) (pe_ix ix_u (pe_lst (pa_cons (pe_int) (pa_cons (pe_ix ix_u (pe_lst (pa_cons (pe_int) (pa_cons (pe_int) (pa_nil)))) (pe_callTy call_cInt (by rfl) G.g_int (by decide +kernel) (pa_cons (pe_cmpR (op_uEq hr) (pv 1) (pe_int) (nomark _)) (pa_nil))) (fun _ _ => rfl)) (pa_nil)))) (pe_fn at_ (by rfl) (pa_cons (pv 2) (pa_cons (pe_int) (pa_nil)))) (fun _ _ => rfl))) (pss_cons (ps_asg (pe_fn at_ (by rfl) (pa_cons (pv 2) (pa_cons (pv 3) (pa_cons (pv 4) (pa_cons (pe_ix ix_u (pe_lst (pa_cons (pe_int) (pa_cons (pe_int) (pa_nil)))) (pe_fn at_ (by rfl) (pa_cons (pv 2) (pa_cons (pe_int) (pa_nil)))) (fun _ _ => rfl)) (pa_nil)))))) (pg_tup rfl (pgs_cons (pg_name (i := 5) sc.nd rfl (by first | exact Or.inl rfl | exact Or.inr rfl)) (pgs_cons (pg_name (i := 6) sc.nd rfl (by first | exact Or.inl rfl | exact Or.inr rfl)) (pgs_nil))))) (pss_cons (ps_setLc (i := 7) (own := [("_law_name", 10), ("_law_index", 11)]) (g := gTup K 2 (gCons (gName 10) (gCons (gName 11) (gNil)))) (tt := tYes) rfl sc.nd rfl rfl (sw_true rfl rfl rfl (by decide +kernel)) (pi_list (pv 5)) (blkOk_by (N := N_law) (sc := defScope s_law) (by decide +kernel)) (fun _ _ _ _ _ => pg_tup rfl (pgs_cons (pg_name (i := 10) sc.nd rfl (by first | exact Or.inl rfl | exact Or.inr rfl)) (pgs_cons (pg_name (i := 11) sc.nd rfl (by first | exact Or.inl rfl | exact Or.inr rfl)) (pgs_nil)))) (fun _ _ _ _ _ => pts_nil) (fun _ _ _ _ _ => pe_tup (pa_cons (pv 10) (pa_cons (pe_fn (At.e0 hr qt) (by rfl) (pa_cons (pv 2) (pa_cons (pe_int) (pa_nil)))) (pa_nil))))) (pss_cons (ps_for pn rfl (pi_list (pe_lst (pa_cons (pe_fn at_ (by rfl) (pa_cons (pv 2) (pa_cons (pv 5) (pa_nil)))) (pa_cons (pv 7) (pa_nil))))) (pg_name (i := 8) sc.nd rfl (by first | exact Or.inl rfl | exact Or.inr rfl)) (pss_one (ps_if (pt_not (pt_val (pe_fn at_ (by rfl) (pa_cons (pv 2) (pa_cons (pv 3) (pa_cons (pv 8) (pa_cons (pv 6) (pa_nil)))))))) (pss_one (ps_ret (pe_bl))) (pss_nil)))) (pss_one (ps_if (pt_not (pt_val (pe_fn at_ (by rfl) (pa_cons (pv 2) (pa_cons (pv 3) (pa_cons (pv 5) (pa_cons (pe_fn at_ (by rfl) (pa_cons (pv 2) (pa_cons (pv 6) (pa_nil)))) (pa_nil)))))))) (pss_one (ps_ret (pe_bl))) (pss_nil))))))))))) (pss_cons (ps_set (i := 9) sc.nd rfl (by first | exact Or.inl rfl | exact Or.inr rfl) (pe_lst (pa_cons (pe_mkr at_ (by rfl) (pa_cons (pe_str) (pa_cons (pe_int) (pa_nil)))) (pa_cons (pe_mkr at_ (by rfl) (pa_cons (pe_str) (pa_cons (pe_int) (pa_nil)))) (pa_nil))))) (pss_one (ps_ret (pe_cmpR (op_uEq hr) (pe_lc (own := [("_law_name", 10)]) (g := gName 10) (tt := tYes) rfl sc.nd (pi_tup (pe_tup (pa_cons (pe_str) (pa_cons (pe_str) (pa_nil))))) (blkOk_by (N := N_law) (sc := defScope s_law) (by decide +kernel)) (fun _ _ _ _ _ => pg_name (i := 10) sc.nd rfl (by first | exact Or.inl rfl | exact Or.inr rfl)) (fun _ _ _ _ _ => pts_nil) (fun _ _ _ _ _ => pe_fn (At.e0 hr qt) (by rfl) (pa_cons (pv 9) (pa_cons (pe_lst (pa_cons (pe_str) (pa_cons (pe_str) (pa_cons (pe_str) (pa_cons (pe_str) (pa_nil)))))) (pa_cons (pv 10) (pa_nil)))))) (pe_lst (pa_cons (pe_tup (pa_cons (pe_int) (pa_cons (pe_int) (pa_nil)))) (pa_cons (pe_tup (pa_cons (pe_int) (pa_cons (pe_int) (pa_nil)))) (pa_nil)))) (nomark _)))))
def Ads.kind (A : Ads) : Nat → Addr | 0 => A.cInserted | 1 => A.cRemoved | 2 => A.cFronted | _ => A.cRecord
def kName : Nat → Str | 0 => "Inserted" | 1 => "Removed" | 2 => "Fronted" | _ => "Record"
def sgn : Nat → Str | 0 => "+" | 1 => "-" | 2 => "^" | _ => ""
/-- what the text says of the k-th class of records -/
structure Kd (K : PySem.W.Frag) (mg : Str → Option Value) (A : Ads) (k : Nat) : Prop where
  cls : Cls K (A.kind k)
  ty : InsTy K (A.kind k)
  made : Dk K mg (kName k) (A.kind k) "Record.__init__" s_Record_init ["self", "item", "slot"]
  sign : ∃ u, Con K (A.kind k) "SIGN" (.str (sgn k)) u
  ni : NoAttr K (A.kind k) "held_item"
  ns : NoAttr K (A.kind k) "held_slot"
  item : ∃ p g fd, PropOf K (A.kind k) "item" p g ∧ Fun K "item" "Record.item" s_Record_item g fd ∧ Binds K fd ["self"] []
  slot : ∃ p g fd, PropOf K (A.kind k) "slot" p g ∧ Fun K "slot" "Record.slot" s_Record_slot g fd ∧ Binds K fd ["self"] []
  mv : Dm K (A.kind k) "move_to" "Record.move_to" s_Record_move_to ["self", "slot"]
structure Tx (K : PySem.W.Frag) (mg : Str → Option Value) (A : Ads) : Prop where
  G : Gm mg A
  kd : ∀ k, k < 4 → Kd K mg A k
  most : ∃ mc u, CRead K A.cRecord mc ∧ CVal K A.cRecord mc "MOST" (.int 60) u
  kit : ∀ i j, i < 4 → j < 4 → PySem.W.kitOne K (.ref (A.kind i)) (.ref (A.kind j)) = some (decide (i = j ∨ j = 3))
  cls_Frame : Cls K A.cFrame
  made_Frame : Dk K mg "Frame" A.cFrame "Frame.__init__" s_Frame_init ["self", "log", "items"]
  n_Frame_by_item : NoAttr K A.cFrame "by_item"
  n_Frame_marked : NoAttr K A.cFrame "marked"
  n_Frame_places : NoAttr K A.cFrame "places"
  n_Frame_is_fronted : NoAttr K A.cFrame "is_fronted"
  m_Frame_room : Dm K A.cFrame "room" "Frame.room" s_Frame_room ["self", "item"]
  m_Frame_shift : Dm K A.cFrame "shift" "Frame.shift" s_Frame_shift ["self", "item"]
  m_Frame_is_low : Dm K A.cFrame "is_low" "Frame.is_low" s_Frame_is_low ["self", "item"]
  m_Frame_is_high : Dm K A.cFrame "is_high" "Frame.is_high" s_Frame_is_high ["self", "item"]
  m_Frame_first_fault : Dm K A.cFrame "first_fault" "Frame.first_fault" s_Frame_first_fault ["self"]
  m_Frame_bounds : Dm K A.cFrame "bounds" "Frame.bounds" s_Frame_bounds ["self", "item"]
  f_is_integer : Df K mg "is_integer" s_is_integer ["thing", "least", "most"]
  f_is_item : Df K mg "is_item" s_is_item ["thing"]
  f_are_records : Df K mg "are_records" s_are_records ["thing", "most"]
  f_sign_of : Df K mg "sign_of" s_sign_of ["log"]
  f_items_of : Df K mg "items_of" s_items_of ["log"]
  f_is_log : Df K mg "is_log" s_is_log ["thing"]
  f_need_log : Df K mg "need_log" s_need_log ["thing"]
  f_are_items : Df K mg "are_items" s_are_items ["thing"]
  f_need_known : Df K mg "need_known" s_need_known ["log", "items"]
  f_framed : Df K mg "framed" s_framed ["log", "items"]
  f_reason : Df K mg "reason" s_reason ["log", "items"]
  f_index_range : Df K mg "index_range" s_index_range ["log", "items", "item"]
  f_law_source : Df K mg "_law_source" s_law_source ["_law_script", "_law_k"]
  f_law_pick : Df K mg "_law_pick" s_law_pick ["_law_source_here", "_law_size"]
  f_law_mixed : Df K mg "_law_mixed" s_law_mixed ["_law_source_here", "_law_row"]
  f_law_words : Df K mg "_law_words" s_law_words ["_law_source_here", "_law_size"]
  f_law_made : Df K mg "_law_made" s_law_made ["_law_kind", "_law_name", "_law_index"]
  f_law_played : Df K mg "_law_played" s_law_played ["_law_kind", "_law_here", "_law_name", "_law_index"]
  f_law_history : Df K mg "_law_history" s_law_history ["_law_source_here", "_law_kind", "_law_most", "_law_more"]
  f_law_log : Df K mg "_law_log" s_law_log ["_law_source_here", "_law_kind", "_law_pairs_here"]
  f_law_pairs : Df K mg "_law_pairs" s_law_pairs ["_law_notes"]
  f_law_sides : Df K mg "_law_sides" s_law_sides ["_law_kind", "_law_pairs_here", "_law_known"]
  f_law_bent : Df K mg "_law_bent" s_law_bent ["_law_source_here", "_law_pairs_here"]
  f_law_fitting : Df K mg "_law_fitting" s_law_fitting ["_law_kind", "_law_pairs_here", "_law_known", "_law_name"]
  f_law_right : Df K mg "_law_right" s_law_right ["_law_source_here", "_law_kind", "_law_pairs_here", "_law_known"]
  f_law : Df K mg "law" s_law ["_law_script"]
end K
namespace K
open PySem PySem.Spec PyProof.Rows L2 U ClX M
local macro_rules | `(tactic| walk_at "rd") => `(tactic| simp only [tSeq, tRet, tIfS, tAsg, tDrop, tNext, tNever, tRetN, tAndV, tOrV, tNotV, tAnd, tOr, tNot, tB, tTest, tChain, tCB, tCons, tNil, tVar, tC, tOp, tUn, tIf, gName, uLe, uLt, uGe, uGt, uCmp, uAdd, uSub, uMul, uDiv, uMod, uPow, uNeg, uEq, uNe, uIs, uIsNot, uIx, uIn, cIsi, cLen, cAll, cMax, cMin, cAbs, cSort, cSortD, cInt, cTuple, cRepr, cDict, cList, cSortS, tRevL, tDGet, tLstRg, tTupRg, tRg1, tRg2, sDPut, tDNewK, tAug, ipI, iZip, tLst, tTup, tPar, U.tPar3, tFn, tMkr, tMth, tFnK, tMthK, tAtt, sFld, tYes, tLc_eq, tFor_eq, iList, iStr, iRng1, iRng2, iEnum, tLenSetT, tSl, tPart, tNoPart, gTup, gCons, gNil, gSub, tBM, tBM0, List.getElem?_cons_zero, List.getElem?_cons_succ, List.set_cons_zero, List.set_cons_succ, Option.some.injEq, V.bl.injEq, V.int.injEq, V.str.injEq, V.ref.injEq, exists_eq_left', exists_eq_left, exists_eq_right, exists_eq_right', and_true, true_and, scal, if_true, Bool.false_eq_true, if_false, List.cons.injEq, exists_const, false_and, and_false, ite_true, ite_false, Bool.not_true, Bool.not_false])
def recF (x : Str) (n : Int) : List (Str × V) := [("held_item", .str x), ("held_slot", .int n)]
abbrev hI : Str := "held_item"
abbrev hS : Str := "held_slot"
theorem is_ne : ¬ (("held_item" : Str) = "held_slot") := by decide +kernel
theorem put_item (x : Str) : putF hI (.str x) [] = ([(hI, .str x)] : List (Str × V)) := rfl
theorem put_slot0 (x : Str) (n : Int) : putF hS (.int n) ([(hI, .str x)] : List (Str × V)) = recF x n := by
  simp only [putF, recF, hI, hS, if_neg is_ne]
theorem put_slot (x : Str) (n m : Int) : putF hS (.int m) (recF x n) = recF x m := by
  simp only [putF, recF, hI, hS, if_neg is_ne, if_true]
theorem look_item (x : Str) (n : Int) : (recF x n).lookup hI = some (.str x) := by
  simp [recF, List.lookup]
theorem look_slot (x : Str) (n : Int) : (recF x n).lookup hS = some (.int n) := by
  have : (("held_slot" : Str) == "held_item") = false := by decide +kernel
  simp [recF, List.lookup, this]
theorem look_none (x : Str) (n : Int) {m : Str} (h1 : (m == ("held_item" : Str)) = false) (h2 : (m == ("held_slot" : Str)) = false) : (recF x n).lookup m = none := by
  simp [recF, List.lookup, h1, h2]
section
variable {P : Program} {w : World} {K : PySem.W.Frag} {mg : Str → Option Value} {base : Heap} {A : Ads}
/-! ### is_integer, is_item -/
def sp_is_integer : Sp := fun vs H Q _ => ∃ i lo hi : Int, vs = [.int i, .int lo, .int hi] ∧ Q (.bl (decide (lo ≤ i) && decide (i ≤ hi))) H
theorem p_is_integer : Pur N_is_integer ps_is_integer (t_is_integer P w K mg base A) sp_is_integer := by
  intro vs H Q E h
  obtain ⟨i, lo, hi, rfl, q⟩ := h
  refine ⟨rfl, ?_⟩
  show t_is_integer P w K mg base A E _ [some (.int i), some (.int lo), some (.int hi)] H
  unfold t_is_integer
  walk_at "rd"
  refine ⟨true, isi_int (by decide +kernel), ?_⟩
  walk_at "rd"
  refine ⟨false, isi_int (by decide +kernel), ?_⟩
  walk_at "rd"
  by_cases c : lo ≤ i
  · simpa [c] using q
  · simpa [c] using q
theorem fn_is_integer (T : Tx K mg A) : Fn P w K mg base 2 "is_integer" sp_is_integer := T.f_is_integer.fn sc_is_integer (fun hr => d_is_integer T.G hr) p_is_integer
/-- a text is an item -/
def isItem (z : Str) : Bool := decide (1 ≤ z.length) && decide (z.length ≤ 8) && z.cps.toList.all fun c => decide (97 ≤ c) && decide (c ≤ 122)
theorem letters_iff (c : Nat) : (c ∈ ("abcdefghijklmnopqrstuvwxyz" : Str).cps.toList) ↔ (97 ≤ c ∧ c ≤ 122) := by
  have e : ("abcdefghijklmnopqrstuvwxyz" : Str).cps.toList = (List.range 26).map (· + 97) := by decide +kernel
  rw [e]
  simp only [List.mem_map, List.mem_range]
  constructor
  · rintro ⟨a, h, rfl⟩; omega
  · intro h; exact ⟨c - 97, by omega, by omega⟩
def sp_is_item : Sp := fun vs H Q _ => ∃ z : Str, vs = [.str z] ∧ z.length ≤ 1000 ∧ ∀ H', Same H H' → Q (.bl (isItem z)) H'
theorem p_is_item : Pur N_is_item ps_is_item (t_is_item P w K mg base A) sp_is_item := by
  intro vs H Q E h
  obtain ⟨z, rfl, hz, q⟩ := h
  refine ⟨rfl, ?_⟩
  show t_is_item P w K mg base A E _ [some (.str z), none] H
  unfold t_is_item
  walk_at "rd"
  refine ⟨true, isi_str (by decide +kernel), ?_⟩
  walk_at "rd"
  have hl : z.length ≤ sizeLine := Nat.le_trans hz (by decide)
  refine ⟨hl, ?_⟩
  by_cases c1 : 1 ≤ z.length
  · rw [if_pos (decide_eq_true (show (1 : Int) ≤ z.length by omega))]
    by_cases c2 : z.length ≤ 8
    · rw [decide_eq_true (show (z.length : Int) ≤ 8 by omega)]
      walk_at "rd"
      refine lc_goes goes_str (fun i => some (.bl (decide (z.cps.toList[i]?.getD 0 ∈ ("abcdefghijklmnopqrstuvwxyz" : Str).cps.toList)))) (Nat.lt_of_le_of_lt hz (by decide)) (fun i x H' hi s r => ?_) fun D H' hD s hl => ?_
      · obtain ⟨c, hc, rfl⟩ := r
        refine ⟨[some (.str z), some (.str ⟨#[c]⟩)], rfl, fun R r => r, Evt.yes, fun H3 s3 Q' q' => ?_⟩
        walk_at "rd"
        refine ⟨c, rfl, ?_⟩
        have e : z.cps.toList[i]?.getD 0 = c := by rw [Array.getElem?_toList, hc]; rfl
        rw [e] at q'
        exact q' H3 (Same.refl _)
      · refine ⟨z.cps.toList.map fun c => decide (c ∈ ("abcdefghijklmnopqrstuvwxyz" : Str).cps.toList), .inl (.inl ?_), ?_⟩
        · rw [hl, range_some]
          congr 2
          apply List.ext_getElem?
          intro i
          rw [List.map_map, List.getElem?_map, List.getElem?_map]
          by_cases hi : i < z.cps.size
          · rw [List.getElem?_range hi]
            have : i < z.cps.toList.length := by simpa using hi
            simp only [List.getElem?_eq_getElem this, Option.map_some, Function.comp, Option.getD_some]
          · rw [List.getElem?_eq_none (by simpa using hi), List.getElem?_eq_none (by simpa using hi)]
            rfl
        · have e : (List.map (fun c => decide (c ∈ ("abcdefghijklmnopqrstuvwxyz" : Str).cps.toList)) z.cps.toList).all id = isItem z := by
            have l1 : decide (1 ≤ z.length) = true := decide_eq_true c1
            have l2 : decide (z.length ≤ 8) = true := decide_eq_true c2
            unfold isItem
            rw [List.all_map, l1, l2, Bool.true_and, Bool.true_and]
            congr 1
            funext c
            simp only [Function.comp, id]
            rw [Bool.eq_iff_iff]
            simp only [decide_eq_true_eq, Bool.and_eq_true]
            exact letters_iff c
          rw [e]
          exact q H' s
    · rw [decide_eq_false (show ¬ (z.length : Int) ≤ 8 by omega)]
      have e : isItem z = false := by simp [isItem, c2]
      rw [e] at q
      walk_at "rd"
      exact q H (Same.refl _)
  · rw [if_neg (by simp; omega)]
    have e : isItem z = false := by simp [isItem, c1]
    rw [e] at q
    try walk_at "rd"
    exact q H (Same.refl _)
theorem fn_is_item (T : Tx K mg A) : Fn P w K mg base 2 "is_item" sp_is_item := T.f_is_item.fn sc_is_item (fun hr => d_is_item T.G hr) p_is_item
/-! ### making and changing records -/
theorem att_most (T : Tx K mg A) {H : Hp} : Att P w K mg base H A.cRecord "MOST" (.int 60) := by
  obtain ⟨mc, u, r, k⟩ := T.most
  exact .cls r k
/-- a record of kind k stands at a -/
def Rec (A : Ads) (H : Hp) (a : Addr) (k : Nat) (x : Str) (n : Int) : Prop := k < 4 ∧ ∃ dx, H a = some (.ins (A.kind k) dx (recF x n))
theorem Rec.same {H H' : Hp} {a : Addr} {k : Nat} {x : Str} {n : Int} (r : Rec A H a k x n) (s : Same H H') : Rec A H' a k x n := ⟨r.1, r.2.choose, s _ _ r.2.choose_spec⟩
def sp_init (A : Ads) (k : Nat) : Sp := fun vs H Q _ => ∃ (p dx : Addr) (z : Str) (n : Int), vs = [.ref p, .str z, .int n] ∧ H p = some (.ins (A.kind k) dx []) ∧ isItem z = true ∧ 0 ≤ n ∧ n ≤ 60 ∧
  ∀ H', H' p = some (.ins (A.kind k) dx (recF z n)) → (∀ b o, b ≠ p → H b = some o → H' b = some o) → Q .non H'
theorem item_len {z : Str} (h : isItem z = true) : 1 ≤ z.length ∧ z.length ≤ 8 := by
  unfold isItem at h
  simp only [Bool.and_eq_true, decide_eq_true_eq] at h
  exact h.1
theorem p_init (T : Tx K mg A) {k : Nat} (hk : k < 4) : Pur N_Record_init ps_Record_init (t_Record_init P w K mg base A) (sp_init A k) := by
  intro vs H Q E h
  obtain ⟨p, dx, z, n, rfl, hp, hz, h0, h60, q⟩ := h
  refine ⟨rfl, ?_⟩
  have I := T.kd k hk
  have zl := item_len hz
  show t_Record_init P w K mg base A E _ [some (.ref p), some (.str z), some (.int n)] H
  unfold t_Record_init
  walk_at "rd"
  refine ⟨2, _, fn_is_item T, by decide, z, rfl, by omega, fun H1 s1 => ?_⟩
  rw [hz]
  walk_at "rd"
  refine ⟨2, _, fn_is_integer T, by decide, _, _, rfl, att_most T, n, 0, 60, rfl, true, ?_, ?_⟩
  · simp [h0, h60]
  walk_at "rd"
  refine ⟨p, _, dx, _, rfl, s1 _ _ hp, I.cls, I.ni, by decide, p, _, dx, _, rfl, upd_same, I.cls, I.ns, (by show 1 < 1000; decide), ?_⟩
  rw [put_item, put_slot0]
  exact q _ upd_same fun b o hb e => by rw [upd_ne hb, upd_ne hb]; exact s1 _ _ e
theorem mkr (T : Tx K mg A) {k : Nat} (hk : k < 4) : Mkr P w K mg base 3 (kName k) (A.kind k) (sp_init A k) := (T.kd k hk).made.mkr sc_Record_init (fun hr => d_Record_init T.G hr) (p_init T hk)
/-- C(x, n): a new record -/
theorem made_ok (T : Tx K mg A) {k : Nat} (hk : k < 4) {H : Hp} {z : Str} {n : Int} {Q : VK} {E : XK} (hz : isItem z = true) (h0 : 0 ≤ n) (h60 : n ≤ 60) (q : ∀ p H', H p = none → Same H H' → Rec A H' p k z n → Q (.ref p) H') :
    ∀ p dx, H p = none → H dx = none → dx ≠ p → sp_init A k [.ref p, .str z, .int n] (upd (upd H dx (.own p)) p (.ins (A.kind k) dx [])) (fun v H' => v = .non ∧ Q (.ref p) H') E := by
  intro p dx hp hd ne
  refine ⟨p, dx, z, n, rfl, upd_same, hz, h0, h60, fun H' h1 h2 => ⟨rfl, q p H' hp (fun b o e => ?_) ⟨hk, dx, h1⟩⟩⟩
  refine h2 b o (ne_of_none e hp) ?_
  rw [upd_ne (ne_of_none e hp), upd_ne (ne_of_none e hd)]
  exact e
/-! ### what a record tells -/
theorem fnok_item {C g : Addr} {fd : FuncData} (F : Fun K "item" "Record.item" s_Record_item g fd) (c : Cls K C) (n : NoAttr K C "held_item") : FnOk P w K mg base (L2.CX P w) 1 g fd ["self"] (getSp C "held_item") := by
  obtain ⟨oc, od, kV, doc, pm, an, cdv, ct, osl, rfl, lk, hcd⟩ := F.ex
  exact fn_getter (N := ["self"]) lk hcd sc_Record_item rfl rfl c n
theorem fnok_slot {C g : Addr} {fd : FuncData} (F : Fun K "slot" "Record.slot" s_Record_slot g fd) (c : Cls K C) (n : NoAttr K C "held_slot") : FnOk P w K mg base (L2.CX P w) 1 g fd ["self"] (getSp C "held_slot") := by
  obtain ⟨oc, od, kV, doc, pm, an, cdv, ct, osl, rfl, lk, hcd⟩ := F.ex
  exact fn_getter (N := ["self"]) lk hcd sc_Record_slot rfl rfl c n
theorem att_item (T : Tx K mg A) {H : Hp} {a : Addr} {k : Nat} {x : Str} {n : Int} (r : Rec A H a k x n) : Att P w K mg base H a "item" (.str x) := by
  obtain ⟨hk, dx, h⟩ := r
  have I := T.kd k hk
  obtain ⟨p, g, fd, pr, F, b⟩ := I.item
  exact .prop h I.cls pr (fnok_item F I.cls I.ni) b (look_item x n)
theorem att_slot (T : Tx K mg A) {H : Hp} {a : Addr} {k : Nat} {x : Str} {n : Int} (r : Rec A H a k x n) : Att P w K mg base H a "slot" (.int n) := by
  obtain ⟨hk, dx, h⟩ := r
  have I := T.kd k hk
  obtain ⟨p, g, fd, pr, F, b⟩ := I.slot
  exact .prop h I.cls pr (fnok_slot F I.cls I.ns) b (look_slot x n)
theorem att_sign (T : Tx K mg A) {H : Hp} {a : Addr} {k : Nat} {x : Str} {n : Int} (r : Rec A H a k x n) : Att P w K mg base H a "SIGN" (.str (sgn k)) := by
  obtain ⟨hk, dx, h⟩ := r
  have I := T.kd k hk
  obtain ⟨u, c⟩ := I.sign
  exact .con h I.cls c (look_none x n (by decide +kernel) (by decide +kernel))
theorem isi_rec (T : Tx K mg A) {H : Hp} {a : Addr} {k j : Nat} {x : Str} {n : Int} (r : Rec A H a k x n) (hj : j < 4) : Isi K H (.ref a) (.ref (A.kind j)) (decide (k = j ∨ j = 3)) := by
  obtain ⟨hk, dx, h⟩ := r
  have I := T.kd k hk
  exact isi_ins h I.cls I.ty (T.kit k j hk hj)
/-! ### lists of records -/
abbrev Rc := Nat × Str × Int
/-- rs stand in the list at l, in this order, at as -/
structure Book (A : Ads) (H : Hp) (l : Addr) (as : List Addr) (rs : List Rc) : Prop where
  lst : H l = some (.lst (as.map V.ref))
  len : as.length = rs.length
  at_ : ∀ (i : Nat) (a : Addr) (r : Rc), as[i]? = some a → rs[i]? = some r → Rec A H a r.1 r.2.1 r.2.2
theorem Book.same {H H' : Hp} {l : Addr} {as : List Addr} {rs : List Rc} (b : Book A H l as rs) (s : Same H H') : Book A H' l as rs := ⟨s _ _ b.lst, b.len, fun i a r h1 h2 => (b.at_ i a r h1 h2).same s⟩
theorem Book.get {H : Hp} {l : Addr} {as : List Addr} {rs : List Rc} (b : Book A H l as rs) {i : Nat} {x : V} (h : (as.map V.ref)[i]? = some x) : ∃ a r, x = .ref a ∧ as[i]? = some a ∧ rs[i]? = some r ∧ Rec A H a r.1 r.2.1 r.2.2 := by
  rw [List.getElem?_map] at h
  cases e : as[i]? with
  | none => rw [e] at h; cases h
  | some a =>
    rw [e] at h
    have hi : i < rs.length := by rw [← b.len]; exact (List.getElem?_eq_some_iff.mp e).1
    exact ⟨a, rs[i], (Option.some.inj h).symm, rfl, List.getElem?_eq_getElem hi, b.at_ i a _ e (List.getElem?_eq_getElem hi)⟩
/-- [f(record) for record in book] -/
theorem lc_book {H1 : Hp} {l : Addr} {as : List Addr} {rs : List Rc} (b : Book A H1 l as rs) (hn : rs.length ≤ 1000) {te : TE} {v : Nat} {σ : L2.St} {Q : VK} (f : Rc → V)
    (hv : ∀ x, wipe ((wipe σ [v]).set v (some x)) [v] = wipe σ [v]) (turn : ∀ a r H, Same H1 H → Rec A H a r.1 r.2.1 r.2.2 → r ∈ rs → Evs te ((wipe σ [v]).set v (some (.ref a))) H (f r))
    (hq : ∀ D H', H1 D = none → Same H1 H' → H' D = some (.lst (rs.map f)) → Q (.ref D) H') : LcB (Itl K l) (gName v) tYes te [v] σ H1 Q := by
  refine lc_goes (goes_list (.inl (.inl b.lst))) (fun i => (rs[i]?).map f) ?_ (fun i x H hi s r => ?_) fun D H' hD s hl => hq D H' hD s ?_
  · rw [List.length_map, b.len]; exact Nat.lt_of_le_of_lt hn (by decide)
  · obtain ⟨a, q, rfl, ha, hr, rc⟩ := b.get r
    rw [hr]
    refine ⟨(wipe σ [v]).set v (some (.ref a)), hv _, fun R r => r, Evt.yes, fun H3 s3 => turn a q H3 (s.trans s3) (rc.same (s.trans s3)) (List.mem_of_getElem? hr)⟩
  · rw [hl, List.length_map, b.len]
    congr 2
    have e := range_list (fun r => some (f r)) rs
    rw [List.filterMap_eq_map'] at e
    rw [← e]
    congr 1
    funext i
    cases rs[i]? <;> rfl
theorem book_len {H : Hp} {l : Addr} {as : List Addr} {rs : List Rc} (b : Book A H l as rs) : (as.map V.ref).length = rs.length := by rw [List.length_map, b.len]
def sp_are_records (A : Ads) : Sp := fun vs H Q _ => ∃ (l : Addr) (as : List Addr) (rs : List Rc) (m : Int), vs = [.ref l, .int m] ∧ Book A H l as rs ∧ rs.length ≤ 1000 ∧ (∀ r ∈ rs, r.1 < 3) ∧ ∀ H', Same H H' → Q (.bl (decide ((rs.length : Int) ≤ m))) H'
theorem sgn_ne {k : Nat} (h : k < 3) : sgn k ≠ "" := by
  match k, h with
  | 0, _ => decide +kernel
  | 1, _ => decide +kernel
  | 2, _ => decide +kernel
theorem all_true {α : Type} (l : List α) : (l.map fun _ => true).all id = true := by
  induction l with
  | nil => rfl
  | cons x l ih => simp
theorem p_are_records (T : Tx K mg A) : Pur N_are_records ps_are_records (t_are_records P w K mg base A) (sp_are_records A) := by
  intro vs H Q E h
  obtain ⟨l, as, rs, m, rfl, b, hn, h3, q⟩ := h
  refine ⟨rfl, ?_⟩
  show t_are_records P w K mg base A E _ [some (.ref l), some (.int m), none] H
  unfold t_are_records
  walk_at "rd"
  refine ⟨true, isi_lst b.lst (by decide +kernel), ?_⟩
  walk_at "rd"
  refine ⟨_, .inl (.inl (.inl b.lst)), ?_⟩
  rw [book_len b]
  by_cases c : (rs.length : Int) ≤ m
  · rw [if_neg (by simpa using c)]
    refine ⟨⟨_, .inl (.inl b.lst)⟩, lc_book b hn (fun _ => .bl true) (fun x => rfl) (fun a r H1 s1 rc hr => fun Q' q' => ?_) fun D H' hD s hl => ⟨rs.map fun _ => true, .inl (.inl ?_), ?_⟩⟩
    · show tAndV _ _ [some (.ref l), some (.int m), some (.ref a)] H1 Q'
      walk_at "rd"
      refine ⟨_, isi_rec T rc (j := 3) (by decide), ?_⟩
      rw [decide_eq_true (.inr rfl)]
      walk_at "rd"
      refine ⟨_, _, rfl, att_sign T rc, ?_⟩
      walk_at "rd"
      have : decide (sgn r.1 = "") = false := decide_eq_false (sgn_ne (h3 r hr))
      rw [this]
      exact q' H1 (Same.refl _)
    · rw [hl, List.map_map]; rfl
    · rw [all_true]
      have := q H' s
      rwa [decide_eq_true c] at this
  · rw [if_pos (by simpa using c)]
    have := q H (Same.refl _)
    rwa [decide_eq_false c] at this
theorem fn_are_records (T : Tx K mg A) : Fn P w K mg base 3 "are_records" (sp_are_records A) := T.f_are_records.fn sc_are_records (fun hr => d_are_records T.G hr) (p_are_records T)
def sp_items_of (A : Ads) : Sp := fun vs H Q _ => ∃ (l : Addr) (as : List Addr) (rs : List Rc), vs = [.ref l] ∧ Book A H l as rs ∧ rs.length ≤ 1000 ∧ ∀ D H', H D = none → Same H H' → H' D = some (.lst (rs.map fun r => .str r.2.1)) → Q (.ref D) H'
theorem p_items_of (T : Tx K mg A) : Pur N_items_of ps_items_of (t_items_of P w K mg base A) (sp_items_of A) := by
  intro vs H Q E h
  obtain ⟨l, as, rs, rfl, b, hn, q⟩ := h
  refine ⟨rfl, ?_⟩
  show t_items_of P w K mg base A E _ [some (.ref l), none] H
  unfold t_items_of
  walk_at "rd"
  refine ⟨⟨_, .inl (.inl b.lst)⟩, lc_book b hn (fun r => .str r.2.1) (fun x => rfl) (fun a r H1 s1 rc hr => fun Q' q' => ?_) q⟩
  exact ⟨.ref a, rfl, a, _, rfl, att_item T rc, q' H1 (Same.refl _)⟩
theorem fn_items_of (T : Tx K mg A) : Fn P w K mg base 3 "items_of" (sp_items_of A) := T.f_items_of.fn sc_items_of (fun hr => d_items_of T.G hr) (p_items_of T)
def sign1 : List Rc → Str | [] => "" | r :: _ => sgn r.1
def sp_sign_of (A : Ads) : Sp := fun vs H Q _ => ∃ (l : Addr) (as : List Addr) (rs : List Rc), vs = [.ref l] ∧ Book A H l as rs ∧ ∀ H', Same H H' → Q (.str (sign1 rs)) H'
theorem p_sign_of (T : Tx K mg A) : Pur N_sign_of ps_sign_of (t_sign_of P w K mg base A) (sp_sign_of A) := by
  intro vs H Q E h
  obtain ⟨l, as, rs, rfl, b, q⟩ := h
  refine ⟨rfl, ?_⟩
  show t_sign_of P w K mg base A E _ [some (.ref l)] H
  unfold t_sign_of
  walk_at "rd"
  refine ⟨by decide, fun p hp => ?_⟩
  have np : l ≠ p := ne_of_none b.lst hp
  have s1 : Same H (upd H p (.lst [])) := Same.new hp
  match rs, as, b, q with
  | [], [], b, q =>
    refine .inl ⟨.list [], .list [], .lst (.inl (.inl (s1 _ _ b.lst))) .nil, .lst (.inl (.inl upd_same)) .nil, rfl, rfl, ?_⟩
    exact ⟨false, rfl, q _ s1⟩
  | r :: rs, a :: as, b, q =>
    refine .inr ⟨l, p, (.ref a :: as.map V.ref), [], rfl, rfl, .inl (.inl (s1 _ _ b.lst)), .inl (.inl upd_same), by simp, true, rfl, ?_⟩
    have rc := (b.at_ 0 a r rfl rfl).same s1
    exact ⟨_, _, .inl (.inl (.inl (s1 _ _ b.lst))), at_of (j := 0) rfl rfl, _, _, rfl, att_sign T rc, q _ s1⟩
  | [], _ :: _, b, _ => exact absurd b.len (by simp)
  | _ :: _, [], b, _ => exact absurd b.len (by simp)
theorem fn_sign_of (T : Tx K mg A) : Fn P w K mg base 3 "sign_of" (sp_sign_of A) := T.f_sign_of.fn sc_sign_of (fun hr => d_sign_of T.G hr) (p_sign_of T)
/-! ### logs -/
def isLog (rs : List Rc) : Bool := decide (rs.length ≤ 40) && (decide ((dd (rs.map fun r => sgn r.1)).length ≤ 1) && decide ((dd (rs.map fun r => r.2.1)).length = rs.length))
def sp_is_log (A : Ads) : Sp := fun vs H Q _ => ∃ (l : Addr) (as : List Addr) (rs : List Rc), vs = [.ref l] ∧ Book A H l as rs ∧ rs.length ≤ 1000 ∧ (∀ r ∈ rs, r.1 < 3) ∧ ∀ H', Same H H' → Q (.bl (isLog rs)) H'
theorem p_is_log (T : Tx K mg A) : Pur N_is_log ps_is_log (t_is_log P w K mg base A) (sp_is_log A) := by
  intro vs H Q E h
  obtain ⟨l, as, rs, rfl, b, hn, h3, q⟩ := h
  refine ⟨rfl, ?_⟩
  show t_is_log P w K mg base A E _ [some (.ref l), none] H
  unfold t_is_log
  walk_at "rd"
  refine ⟨3, _, fn_are_records T, by decide, l, as, rs, _, rfl, b, hn, h3, fun H1 s1 => ⟨_, rfl, ?_⟩⟩
  by_cases c : rs.length ≤ 40
  · rw [decide_eq_true (show (rs.length : Int) ≤ 40 by omega)]
    walk_at "rd"
    have b1 := b.same s1
    refine ⟨⟨_, .inl (.inl b1.lst)⟩, lc_book b1 hn (fun r => .str (sgn r.1)) (fun x => rfl) (fun a r H2 s2 rc hr => fun Q' q' => ?_) fun D H2 hD s2 hl => ?_⟩
    · exact ⟨.ref a, rfl, a, _, rfl, att_sign T rc, q' H2 (Same.refl _)⟩
    refine ⟨D, rs.map fun r => sgn r.1, rfl, .inl (.inl ?_), by simpa using hn, ?_⟩
    · rw [hl, List.map_map]; rfl
    have b2 := b1.same s2
    by_cases c1 : (dd (rs.map fun r => sgn r.1)).length ≤ 1
    · rw [if_pos (by simp only [decide_eq_true_eq]; omega)]
      refine ⟨3, _, fn_items_of T, by decide, l, as, rs, rfl, b2, hn, fun D2 H3 hD2 s3 hl3 => ?_⟩
      refine ⟨D2, rs.map fun r => r.2.1, rfl, .inl (.inl ?_), by simpa using hn, ?_⟩
      · rw [hl3, List.map_map]; rfl
      have b3 := b2.same s3
      refine ⟨_, .inl (.inl (.inl b3.lst)), ?_⟩
      have e : isLog rs = decide (((dd (rs.map fun r => r.2.1)).length : Int) = ((as.map V.ref).length : Nat)) := by
        unfold isLog
        rw [book_len b, decide_eq_true c, decide_eq_true c1, Bool.true_and, Bool.true_and, Bool.eq_iff_iff]
        simp only [decide_eq_true_eq]
        omega
      have := q H3 ((s1.trans s2).trans s3)
      rwa [e] at this
    · rw [if_neg (by simp only [decide_eq_true_eq]; omega)]
      have e : isLog rs = false := by simp [isLog, c1]
      have := q H2 (s1.trans s2)
      rwa [e] at this
  · rw [decide_eq_false (show ¬ (rs.length : Int) ≤ 40 by omega)]
    walk_at "rd"
    have e : isLog rs = false := by simp [isLog, c]
    have := q H1 s1
    rwa [e] at this
theorem fn_is_log (T : Tx K mg A) : Fn P w K mg base 4 "is_log" (sp_is_log A) := T.f_is_log.fn sc_is_log (fun hr => d_is_log T.G hr) (p_is_log T)
def sp_need_log (A : Ads) : Sp := fun vs H Q _ => ∃ (l : Addr) (as : List Addr) (rs : List Rc), vs = [.ref l] ∧ Book A H l as rs ∧ isLog rs = true ∧ (∀ r ∈ rs, r.1 < 3) ∧ ∀ H', Same H H' → Q .non H'
theorem log_40 {rs : List Rc} (h : isLog rs = true) : rs.length ≤ 40 := by
  unfold isLog at h
  simp only [Bool.and_eq_true, decide_eq_true_eq] at h
  exact h.1
theorem p_need_log (T : Tx K mg A) : Pur N_need_log ps_need_log (t_need_log P w K mg base A) (sp_need_log A) := by
  intro vs H Q E h
  obtain ⟨l, as, rs, rfl, b, hl, h3, q⟩ := h
  refine ⟨rfl, ?_⟩
  show t_need_log P w K mg base A E _ [some (.ref l)] H
  unfold t_need_log
  walk_at "rd"
  have := log_40 hl
  refine ⟨4, _, fn_is_log T, by decide, l, as, rs, rfl, b, by omega, h3, fun H1 s1 => ⟨_, rfl, ?_⟩⟩
  rw [hl]
  exact q H1 s1
theorem fn_need_log (T : Tx K mg A) : Fn P w K mg base 5 "need_log" (sp_need_log A) := T.f_need_log.fn sc_need_log (fun hr => d_need_log T.G hr) (p_need_log T)
end
end K
namespace K
open PySem PySem.Spec PyProof.Rows L2 U ClX M
local macro_rules | `(tactic| walk_at "rd") => `(tactic| simp only [tSeq, tRet, tIfS, tAsg, tDrop, tNext, tNever, tRetN, tAndV, tOrV, tNotV, tAnd, tOr, tNot, tB, tTest, tChain, tCB, tCons, tNil, tVar, tC, tOp, tUn, tIf, gName, uLe, uLt, uGe, uGt, uCmp, uAdd, uSub, uMul, uDiv, uMod, uPow, uNeg, uEq, uNe, uIs, uIsNot, uIx, uIn, cIsi, cLen, cAll, cMax, cMin, cAbs, cSort, cSortD, cInt, cTuple, cRepr, cDict, cList, cSortS, tRevL, tDGet, tLstRg, tTupRg, tRg1, tRg2, sDPut, tDNewK, tAug, ipI, iZip, tLst, tTup, tPar, U.tPar3, tFn, tMkr, tMth, tFnK, tMthK, tAtt, sFld, tYes, tLc_eq, tFor_eq, iList, iStr, iRng1, iRng2, iEnum, tLenSetT, tSl, tPart, tNoPart, gTup, gCons, gNil, gSub, tBM, tBM0, List.getElem?_cons_zero, List.getElem?_cons_succ, List.set_cons_zero, List.set_cons_succ, Option.some.injEq, V.bl.injEq, V.int.injEq, V.str.injEq, V.ref.injEq, exists_eq_left', exists_eq_left, exists_eq_right, exists_eq_right', and_true, true_and, scal, if_true, Bool.false_eq_true, if_false, List.cons.injEq, exists_const, false_and, and_false, ite_true, ite_false, Bool.not_true, Bool.not_false])
section
variable {P : Program} {w : World} {K : PySem.W.Frag} {mg : Str → Option Value} {base : Heap} {A : Ads}
/-! ### the tape: drawn numbers -/
theorem bits_le {i : Int} {n : Nat} (h0 : 0 < n) (h : i.natAbs < 2 ^ n) : Builtin.Int.intBits i ≤ n := by
  have := PySem.Flt.log2_lt_of h0 h
  unfold Builtin.Int.intBits
  split <;> omega
/-- a tape of which at most c numbers were mixed -/
def TapeL (c : Int) (xs : List V) : Prop := ∃ n0 n1 n2 : Int, xs = [.int n0, .int n1, .int n2] ∧ 0 ≤ n0 ∧ 0 ≤ n1 ∧ n1 < 2 ^ 200 ∧ 0 ≤ n2 ∧ n2 ≤ c
theorem TapeL.mono {c d : Int} {xs : List V} (h : TapeL c xs) (hd : c ≤ d) : TapeL d xs := by
  obtain ⟨n0, n1, n2, e, h1, h2, h3, h4, h5⟩ := h
  exact ⟨n0, n1, n2, e, h1, h2, h3, h4, by omega⟩
def sp_next : Sp := fun vs H Q _ => ∃ (a : Addr) (sz c : Int) (xs : List V), vs = [.ref a, .int sz] ∧ H a = some (.lst xs) ∧ TapeL c xs ∧ c ≤ 1000000 ∧ 0 < sz ∧ sz ≤ 1000 ∧
  ∀ r ys, 0 ≤ r → r < sz → TapeL (c + 1) ys → Q (.int r) (upd H a (.lst ys))
theorem p_next : Pur N_law_pick ps_law_pick (t_law_pick P w K mg base A) sp_next := by
  intro vs H Q E h
  obtain ⟨a, sz, c, xs, rfl, ha, ⟨n0, n1, n2, rfl, h0, h1, h1', h2, h2'⟩, hc, hs, hs', q⟩ := h
  refine ⟨rfl, ?_⟩
  show t_law_pick P w K mg base A E _ [some (.ref a), some (.int sz), none, none] H
  unfold t_law_pick
  walk_at "rd"
  refine ⟨_, _, .inl (.inl (.inl ha)), at_of (j := 0) rfl rfl, ?_⟩
  walk_at "rd"
  have lg : sz.natAbs.log2 < 9000 := Nat.lt_of_lt_of_le (PySem.Flt.log2_lt_of (show 0 < 10 by decide) (show sz.natAbs < 2 ^ 10 by omega)) (by decide)
  by_cases c0 : 0 < n0
  · rw [if_pos (decide_eq_true c0)]
    refine ⟨_, _, .inl (.inl (.inl ha)), at_of (j := 0) rfl rfl, hs, _, _, .inl (.inl (.inl ha)), at_of (j := 0) rfl rfl, ⟨hs, lg⟩, a, _, 0, 0, rfl, rfl, ha, rfl, ?_⟩
    exact q _ _ (Int.emod_nonneg _ (by omega)) (Int.emod_lt_of_pos _ hs) ⟨n0 / sz, n1, n2, rfl, Int.ediv_nonneg h0 (by omega), h1, h1', h2, by omega⟩
  · rw [if_neg (by simpa using c0)]
    refine ⟨_, _, .inl (.inl (.inl ha)), at_of (j := 2) rfl rfl, a, _, 2, 2, rfl, rfl, ha, rfl, _, _, .inl (.inl (.inl upd_same)), at_of (j := 1) rfl rfl, _, _, .inl (.inl (.inl upd_same)), at_of (j := 2) rfl rfl, .inl ⟨by decide, by decide⟩, ?_⟩
    have b1 : Builtin.Int.intBits (n1 + 6700417 * (n2 + 1)) ≤ 201 := bits_le (by decide) (by omega)
    refine ⟨⟨by decide, by omega⟩, ⟨by decide, by decide⟩, by decide, _, _, .inl (.inl (.inl upd_same)), at_of (j := 2) rfl rfl, .inl ⟨by decide, by decide⟩, ?_⟩
    have m0 : 0 ≤ (n1 + 6700417 * (n2 + 1)) ^ Int.toNat 3 % (10 ^ Int.toNat 41 + 37) := Int.emod_nonneg _ (by decide)
    have m1 : (n1 + 6700417 * (n2 + 1)) ^ Int.toNat 3 % (10 ^ Int.toNat 41 + 37) < 10 ^ Int.toNat 41 + 37 := Int.emod_lt_of_pos _ (by decide)
    generalize (n1 + 6700417 * (n2 + 1)) ^ Int.toNat 3 % (10 ^ Int.toNat 41 + 37) = m at m0 m1
    have m2 : (10 : Int) ^ Int.toNat 41 + 37 < 2 ^ 150 := by decide
    have b2 : Builtin.Int.intBits (m + 32416190071 * (n2 + 1)) ≤ 151 := bits_le (by decide) (by omega)
    refine ⟨⟨by decide, by omega⟩, ⟨by decide, by decide⟩, by decide, ⟨by decide, by decide⟩, hs, ?_⟩
    exact q _ _ (Int.emod_nonneg _ (by omega)) (Int.emod_lt_of_pos _ hs) ⟨n0, n1, n2 + 1, rfl, h0, h1, h1', by omega, by omega⟩
theorem fn_pick (T : Tx K mg A) : Fn P w K mg base 2 "_law_pick" sp_next := T.f_law_pick.fn sc_law_pick (fun hr => d_law_pick T.G hr) p_next
def sp_tape (K : PySem.W.Frag) : Sp := fun vs H Q _ => ∃ (a : Addr) (ns : List Int) (k : Int), vs = [.ref a, .int k] ∧ SqL K H a (ns.map V.int) ∧ 0 ≤ k ∧ k ≤ 100 ∧ ∀ p xs, H p = none → TapeL 0 xs → Q (.ref p) (upd H p (.lst xs))
theorem p_tape : Pur N_law_source ps_law_source (t_law_source P w K mg base A) (sp_tape K) := by
  intro vs H Q E h
  obtain ⟨a, ns, k, rfl, ha, k0, k1, q⟩ := h
  refine ⟨rfl, ?_⟩
  show t_law_source P w K mg base A E _ [some (.ref a), some (.int k), none] H
  unfold t_law_source
  walk_at "rd"
  refine ⟨_, .inl ha, ?_⟩
  have fin : ∀ x : Int, 0 ≤ x → (((0 : Int) ≤ 18 ∧ (Builtin.Int.intBits 10 : Int) * 18 ≤ 2 ^ 27) ∧ ((0 : Int) ≤ 36 ∧ (Builtin.Int.intBits 10 : Int) * 36 ≤ 2 ^ 27) ∧ 0 < (10 : Int) ^ Int.toNat 36 + 67 ∧ CMul (x % (10 ^ Int.toNat 36 + 67)) 64 ∧ 3 ≤ sizeLine ∧
      TapeL 0 [.int (if x - 10 ^ Int.toNat 18 > 0 then x - 10 ^ Int.toNat 18 else 0), .int (x % (10 ^ Int.toNat 36 + 67) * 64 + k + 34), .int 0]) := by
    intro x hx
    refine ⟨⟨by decide, by decide⟩, ⟨by decide, by decide⟩, by decide, .inr ⟨by decide, by decide⟩, by decide, ?_⟩
    have m0 : 0 ≤ x % (10 ^ Int.toNat 36 + 67) := Int.emod_nonneg _ (by decide)
    have m1 : x % (10 ^ Int.toNat 36 + 67) < 10 ^ Int.toNat 36 + 67 := Int.emod_lt_of_pos _ (by decide)
    have m2 : (10 : Int) ^ Int.toNat 36 + 67 < 2 ^ 150 := by decide
    refine ⟨_, _, _, rfl, ?_, ?_, ?_, by omega, by omega⟩
    · split <;> omega
    · omega
    · omega
  by_cases c : k < ns.length
  · rw [if_pos (by simpa using c)]
    obtain ⟨j, rfl⟩ : ∃ j : Nat, k = j := ⟨k.toNat, by omega⟩
    have hj : j < ns.length := by omega
    refine ⟨_, .int ns[j], .inl ha, at_of (j := j) rfl (by rw [List.getElem?_map, List.getElem?_eq_getElem hj]; rfl), ?_⟩
    obtain ⟨f1, f2, f3, f4, f5, f6⟩ := fin (if ns[j] < 0 then -ns[j] else ns[j]) (by split <;> omega)
    exact ⟨f1, f2, f3, f4, f5, fun p hp => q p _ hp f6⟩
  · rw [if_neg (by simpa using c)]
    obtain ⟨f1, f2, f3, f4, f5, f6⟩ := fin 0 (by decide)
    exact ⟨f1, f2, f3, f4, f5, fun p hp => q p _ hp f6⟩
theorem fn_tape (T : Tx K mg A) : Fn P w K mg base 2 "_law_source" (sp_tape K) := T.f_law_source.fn sc_law_source (fun hr => d_law_source T.G hr) p_tape
/-- H' is H but for the tape's list at a, which stands anew, and for new objects -/
def But (a : Addr) (H H' : Hp) : Prop := ∀ b o, b ≠ a → H b = some o → H' b = some o
theorem But.refl {a : Addr} {H : Hp} : But a H H := fun _ _ _ h => h
theorem But.trans {a : Addr} {H H1 H2 : Hp} (x : But a H H1) (y : But a H1 H2) : But a H H2 := fun b o hb e => y b o hb (x b o hb e)
theorem But.same {a : Addr} {H H1 : Hp} (x : Same H H1) : But a H H1 := fun b o _ e => x b o e
theorem But.upd {a : Addr} {H : Hp} {o : HO} : But a H (upd H a o) := fun b o hb e => by rw [upd_ne hb]; exact e
theorem But.mut {a p : Addr} {H H1 : Hp} {o : HO} (x : But a H H1) (hp : H p = none) : But a H (L2.upd H1 p o) := fun b u hb e => by rw [upd_ne (ne_of_none e hp)]; exact x b u hb e
/-- the tape stands at a -/
def Tape (H : Hp) (a : Addr) (c : Int) : Prop := ∃ xs, H a = some (.lst xs) ∧ TapeL c xs
theorem Tape.same {H H' : Hp} {a : Addr} {c : Int} (t : Tape H a c) (s : Same H H') : Tape H' a c := let ⟨xs, h, t⟩ := t; ⟨xs, s _ _ h, t⟩
theorem Tape.mono {H : Hp} {a : Addr} {c d : Int} (t : Tape H a c) (h : c ≤ d) : Tape H a d := let ⟨xs, h1, t⟩ := t; ⟨xs, h1, t.mono h⟩
/-- next as one step -/
theorem next_ok {H : Hp} {a : Addr} {c sz : Int} {Q : VK} {E : XK} (t : Tape H a c) (hc : c ≤ 1000000) (h0 : 0 < sz) (h1 : sz ≤ 1000) (q : ∀ r H', 0 ≤ r → r < sz → Tape H' a (c + 1) → But a H H' → (∀ b, b ≠ a → H' b = H b) → Q (.int r) H') : sp_next [.ref a, .int sz] H Q E := by
  obtain ⟨xs, h, t⟩ := t
  exact ⟨a, sz, c, xs, rfl, h, t, hc, h0, h1, fun r ys r0 r1 ty => q r _ r0 r1 ⟨ys, upd_same, ty⟩ But.upd fun b hb => upd_ne hb⟩
theorem erase_map {α β : Type} (f : α → β) : ∀ (l : List α) (j : Nat), (l.map f).eraseIdx j = (l.eraseIdx j).map f
  | [], _ => rfl
  | _ :: _, 0 => rfl
  | x :: l, j + 1 => congrArg (f x :: ·) (erase_map f l j)
theorem move_perm {α : Type} (zs rest : List α) (j : Nat) (h : j < rest.length) : ((zs ++ [rest[j]]) ++ rest.eraseIdx j).Perm (zs ++ rest) := by
  rw [List.append_assoc]
  exact List.Perm.append_left zs (erase_perm rest j h)
theorem Tape.other {H : Hp} {a p : Addr} {c : Int} {o : HO} (t : Tape H a c) (h : p ≠ a) : Tape (upd H p o) a c := let ⟨xs, h1, t⟩ := t; ⟨xs, by rw [upd_ne (Ne.symm h)]; exact h1, t⟩
end
end K
namespace K
open PySem PySem.Spec PyProof.Rows L2 U ClX M
local macro_rules | `(tactic| walk_at "rd") => `(tactic| simp only [tSeq, tRet, tIfS, tAsg, tDrop, tNext, tNever, tRetN, tAndV, tOrV, tNotV, tAnd, tOr, tNot, tB, tTest, tChain, tCB, tCons, tNil, tVar, tC, tOp, tUn, tIf, gName, uLe, uLt, uGe, uGt, uCmp, uAdd, uSub, uMul, uDiv, uMod, uPow, uNeg, uEq, uNe, uIs, uIsNot, uIx, uIn, cIsi, cLen, cAll, cMax, cMin, cAbs, cSort, cSortD, cInt, cTuple, cRepr, cDict, cList, cSortS, tRevL, tDGet, tLstRg, tTupRg, tRg1, tRg2, sDPut, tDNewK, tAug, ipI, iZip, tLst, tTup, tPar, U.tPar3, tFn, tMkr, tMth, tFnK, tMthK, tAtt, sFld, tYes, tLc_eq, tFor_eq, iList, iStr, iRng1, iRng2, iEnum, tLenSetT, tSl, tPart, tNoPart, gTup, gCons, gNil, gSub, tBM, tBM0, List.getElem?_cons_zero, List.getElem?_cons_succ, List.set_cons_zero, List.set_cons_succ, Option.some.injEq, V.bl.injEq, V.int.injEq, V.str.injEq, V.ref.injEq, exists_eq_left', exists_eq_left, exists_eq_right, exists_eq_right', and_true, true_and, scal, if_true, Bool.false_eq_true, if_false, List.cons.injEq, exists_const, false_and, and_false, ite_true, ite_false, Bool.not_true, Bool.not_false])
section
variable {P : Program} {w : World} {K : PySem.W.Frag} {mg : Str → Option Value} {base : Heap} {A : Ads}
theorem cut_to (xs : List V) (t : Nat) : cutV xs none (some (t : Int)) = xs.take t := by
  unfold cutV
  rw [HT.sIx_none, HT.sIx_nat, List.drop_zero, Nat.sub_zero]
  by_cases h : t ≤ xs.length
  · rw [Nat.min_eq_left h]
  · rw [Nat.min_eq_right (by omega), List.take_of_length_le (Nat.le_refl _), List.take_of_length_le (by omega)]
theorem cut_from (xs : List V) (t : Nat) : cutV xs (some (t : Int)) none = xs.drop t := by
  unfold cutV
  rw [HT.sIx_none, HT.sIx_nat]
  by_cases h : t ≤ xs.length
  · rw [Nat.min_eq_left h, List.take_of_length_le (by simp)]
  · rw [Nat.min_eq_right (by omega), List.drop_of_length_le (Nat.le_refl _), List.drop_of_length_le (by omega)]; simp
/-- a list of ints as data -/
def dI (r : List Int) : PyData := .list (r.map .int)
theorem dp_dI {H : Hp} {a : Addr} {r : List Int} (h : SqL K H a (r.map V.int)) : Dp K H (.ref a) (dI r) := .lst h (dpa_map r fun x _ => .int x)
theorem dpa_ints {H : Hp} : ∀ {vs : List V} (r : List Int), DpAll K H vs (r.map .int) → vs = r.map V.int
  | _, [], h => by cases h; rfl
  | _, i :: r, h => by
    cases h with
    | cons h1 h2 => cases h1; rw [dpa_ints r h2]; rfl
theorem of_dI {H : Hp} {x : V} {r : List Int} (h : Dp K H x (dI r)) : ∃ a, x = .ref a ∧ SqL K H a (r.map V.int) := by
  cases h with
  | lst hs ha => exact ⟨_, rfl, by rw [dpa_ints r ha] at hs; exact hs⟩
theorem dpa_get {H : Hp} : ∀ {vs : List V} {ds : List PyData} {i : Nat} {x : V}, DpAll K H vs ds → vs[i]? = some x → ∃ d, ds[i]? = some d ∧ Dp K H x d
  | _, _, _, _, .nil, e => by simp at e
  | _, _, 0, _, .cons h _, e => by simp at e; subst e; exact ⟨_, rfl, h⟩
  | _, _, i + 1, x, .cons _ t, e => by
    obtain ⟨d, h1, h2⟩ := dpa_get (i := i) (x := x) t (by simpa using e)
    exact ⟨d, by simpa using h1, h2⟩
theorem dI_ok (r : List Int) : okD 1 (dI r) := okD.list fun d hd => by
  obtain ⟨i, _, rfl⟩ := List.mem_map.mp hd; exact okD.int
theorem eqv_ints : ∀ r s : List Int, PyData.eqvAll (r.map .int) (s.map .int) = decide (r = s)
  | [], [] => rfl
  | [], _ :: _ => rfl
  | _ :: _, [] => rfl
  | i :: r, j :: s => by
    show (PyData.eqv (.int i) (.int j) && PyData.eqvAll (r.map .int) (s.map .int)) = _
    rw [eqv_ints r s]
    show ((i == j) && decide (r = s)) = _
    rw [Bool.eq_iff_iff]
    simp
theorem eqv_dI (r s : List Int) : PyData.eqv (dI r) (dI s) = decide (r = s) := eqv_ints r s
theorem any_dI (L : List (List Int)) (s : List Int) : ((L.map dI).any fun z => PyData.eqv z (dI s)) = decide (s ∈ L) := by
  induction L with
  | nil => rfl
  | cons r L ih =>
    rw [List.map_cons, List.any_cons, ih, eqv_dI, Bool.eq_iff_iff]
    simp only [Bool.or_eq_true, decide_eq_true_eq, List.mem_cons]
    constructor
    · rintro (h | h)
      · exact .inl h.symm
      · exact .inr h
    · rintro (h | h)
      · exact .inl h.symm
      · exact .inr h
/-- a list of ints of our own -/
def LI (H : Hp) (x : V) (r : List Int) : Prop := ∃ a, x = .ref a ∧ H a = some (.lst (r.map V.int))
theorem LI.same {H H' : Hp} {x : V} {r : List Int} (s : Same H H') (h : LI H x r) : LI H' x r := let ⟨a, e, h⟩ := h; ⟨a, e, s _ _ h⟩
/-- .. that B does not know -/
def LIf (B H : Hp) (x : V) (r : List Int) : Prop := ∃ a, x = .ref a ∧ B a = none ∧ H a = some (.lst (r.map V.int))
theorem LIf.same {B H H' : Hp} {x : V} {r : List Int} (s : Same H H') (h : LIf B H x r) : LIf B H' x r := let ⟨a, e, n, h⟩ := h; ⟨a, e, n, s _ _ h⟩
theorem Rel2.app {α : Type} {Rl : V → α → Prop} {xs ys : List V} {as bs : List α} (h : Rel2 Rl xs as) (h2 : Rel2 Rl ys bs) : Rel2 Rl (xs ++ ys) (as ++ bs) := by
  have hl := h.len
  have hl2 := h2.len
  refine ⟨by simp [hl, hl2], fun i x a h1 h3 => ?_⟩
  by_cases c : i < xs.length
  · rw [List.getElem?_append_left c] at h1
    rw [List.getElem?_append_left (by omega)] at h3
    exact h.at_ i x a h1 h3
  · rw [List.getElem?_append_right (by omega)] at h1
    rw [List.getElem?_append_right (by omega)] at h3
    exact h2.at_ (i - xs.length) x a h1 (by rw [hl]; exact h3)
theorem at_last {r : List Int} (h : r ≠ []) : atI (r.map V.int) (-1) = some (.int (r.getD (r.length - 1) 0)) := by
  have e := List.dropLast_concat_getLast h
  have g : r.getD (r.length - 1) 0 = r.getLast h := by
    rw [List.getLast_eq_getElem, List.getD, List.getElem?_eq_getElem, Option.getD_some]
  rw [g]
  conv => lhs; rw [← e]
  rw [List.map_append]
  exact atI_last _ _
theorem eqv_nil (r : List Int) : PyData.eqv (dI r) (.list []) = decide (r = []) := by
  have := eqv_dI r []
  exact this
end
end K
namespace K
open PySem PySem.Spec PyProof.Rows L2 U ClX M
local macro_rules | `(tactic| walk_at "rd") => `(tactic| simp only [tSeq, tRet, tIfS, tAsg, tDrop, tNext, tNever, tRetN, tAndV, tOrV, tNotV, tAnd, tOr, tNot, tB, tTest, tChain, tCB, tCons, tNil, tVar, tC, tOp, tUn, tIf, gName, uLe, uLt, uGe, uGt, uCmp, uAdd, uSub, uMul, uDiv, uMod, uPow, uNeg, uEq, uNe, uIs, uIsNot, uIx, uIn, cIsi, cLen, cAll, cMax, cMin, cAbs, cSort, cSortD, cInt, cTuple, cRepr, cDict, cList, cSortS, tRevL, tDGet, tLstRg, tTupRg, tRg1, tRg2, sDPut, tDNewK, tAug, ipI, iZip, tLst, tTup, tPar, U.tPar3, tFn, tMkr, tMth, tFnK, tMthK, tAtt, sFld, tYes, tLc_eq, tFor_eq, iList, iStr, iRng1, iRng2, iEnum, tLenSetT, tSl, tPart, tNoPart, gTup, gCons, gNil, gSub, tBM, tBM0, List.getElem?_cons_zero, List.getElem?_cons_succ, List.set_cons_zero, List.set_cons_succ, Option.some.injEq, V.bl.injEq, V.int.injEq, V.str.injEq, V.ref.injEq, exists_eq_left', exists_eq_left, exists_eq_right, exists_eq_right', and_true, true_and, scal, if_true, Bool.false_eq_true, if_false, List.cons.injEq, exists_const, false_and, and_false, ite_true, ite_false, Bool.not_true, Bool.not_false])
section
variable {P : Program} {w : World} {K : PySem.W.Frag} {mg : Str → Option Value} {base : Heap} {A : Ads}
/-! ### logs at hand -/
theorem ddS_new {acc : List Str} {x : Str} (h : x ∉ acc) : ddS acc x = acc ++ [x] := by
  unfold ddS
  rw [if_neg]
  rw [List.any_eq_true]
  rintro ⟨y, hy, e⟩
  exact h (by rw [beq_iff_eq] at e; rw [← e]; exact hy)
theorem dd_nodup {xs : List Str} (h : xs.Nodup) : dd xs = xs := by
  unfold dd
  suffices q : ∀ (l acc : List Str), (acc ++ l).Nodup → l.foldl ddS acc = acc ++ l by simpa using q xs [] (by simpa using h)
  intro l
  induction l with
  | nil => intro acc _; simp
  | cons x l ih =>
    intro acc nd
    rw [List.foldl_cons, ddS_new]
    · rw [ih (acc ++ [x]) (by simpa using nd)]; simp
    · intro hx
      have := List.nodup_append.mp nd
      exact this.2.2 x hx x List.mem_cons_self rfl
theorem dd_const {xs : List Str} {c : Str} (h : ∀ x ∈ xs, x = c) : (dd xs).length ≤ 1 := by
  unfold dd
  suffices q : ∀ (l acc : List Str), (∀ x ∈ l, x = c) → (acc = [] ∨ acc = [c]) → (l.foldl ddS acc = [] ∨ l.foldl ddS acc = [c]) by
    rcases q xs [] h (.inl rfl) with e | e <;> rw [e] <;> simp
  intro l
  induction l with
  | nil => intro acc _ h; exact h
  | cons x l ih =>
    intro acc hl ha
    obtain rfl := hl x List.mem_cons_self
    refine ih _ (fun y hy => hl y (List.mem_cons_of_mem _ hy)) ?_
    rcases ha with rfl | rfl
    · exact .inr rfl
    · exact .inr (by unfold ddS; rw [if_pos (by simp)])
theorem isLog_of {rs : List Rc} {k : Nat} (hk : ∀ r ∈ rs, r.1 = k) (nd : (rs.map fun r => r.2.1).Nodup) (h : rs.length ≤ 40) : isLog rs = true := by
  unfold isLog
  rw [decide_eq_true h, dd_nodup nd, List.length_map, decide_eq_true rfl, decide_eq_true (dd_const (c := sgn k) ?_)]
  · rfl
  · intro x hx
    obtain ⟨r, hr, rfl⟩ := List.mem_map.mp hx
    rw [hk r hr]
theorem repA (n : Nat) (x : Int) : (List.replicate n [V.int x]).flatten = (List.replicate n x).map V.int := by
  induction n with
  | zero => rfl
  | succ n ih => rw [List.replicate_succ, List.flatten_cons, ih, List.replicate_succ]; rfl
/-- the records of a kind with these items and indices -/
def recs (k : Nat) (zs : List Str) (ns : List Int) : List Rc := (zs.zip ns).map fun p => (k, p.1, p.2)
theorem made_at {k : Nat} (hk : k < 4) {H : Hp} {p dx : Addr} {z : Str} {n : Int} {R : Hp → Prop} {E : XK} (hp : H p = none) (hd : H dx = none) (hz : isItem z = true) (h0 : 0 ≤ n) (h60 : n ≤ 60) (q : ∀ H', Same H H' → Rec A H' p k z n → R H') :
    sp_init A k [.ref p, .str z, .int n] (upd (upd H dx (.own p)) p (.ins (A.kind k) dx [])) (fun v H' => v = .non ∧ R H') E := by
  refine ⟨p, dx, z, n, rfl, upd_same, hz, h0, h60, fun H' h1 h2 => ⟨rfl, q H' (fun b o e => ?_) ⟨hk, dx, h1⟩⟩⟩
  refine h2 b o (ne_of_none e hp) ?_
  rw [upd_ne (ne_of_none e hp), upd_ne (ne_of_none e hd)]
  exact e
end
end K
namespace K
open PySem PySem.Spec PyProof.Rows L2 U ClX M
local macro_rules | `(tactic| walk_at "rd") => `(tactic| simp only [tSeq, tRet, tIfS, tAsg, tDrop, tNext, tNever, tRetN, tAndV, tOrV, tNotV, tAnd, tOr, tNot, tB, tTest, tChain, tCB, tCons, tNil, tVar, tC, tOp, tUn, tIf, gName, uLe, uLt, uGe, uGt, uCmp, uAdd, uSub, uMul, uDiv, uMod, uPow, uNeg, uEq, uNe, uIs, uIsNot, uIx, uIn, cIsi, cLen, cAll, cMax, cMin, cAbs, cSort, cSortD, cInt, cTuple, cRepr, cDict, cList, cSortS, tRevL, tDGet, tLstRg, tTupRg, tRg1, tRg2, sDPut, tDNewK, tAug, ipI, iZip, tLst, tTup, tPar, U.tPar3, tFn, tMkr, tMth, tFnK, tMthK, tAtt, sFld, tYes, tLc_eq, tFor_eq, iList, iStr, iRng1, iRng2, iEnum, tLenSetT, tSl, tPart, tNoPart, gTup, gCons, gNil, gSub, tBM, tBM0, List.getElem?_cons_zero, List.getElem?_cons_succ, List.set_cons_zero, List.set_cons_succ, Option.some.injEq, V.bl.injEq, V.int.injEq, V.str.injEq, V.ref.injEq, exists_eq_left', exists_eq_left, exists_eq_right, exists_eq_right', and_true, true_and, scal, if_true, Bool.false_eq_true, if_false, List.cons.injEq, exists_const, false_and, and_false, ite_true, ite_false, Bool.not_true, Bool.not_false])
section
variable {P : Program} {w : World} {K : PySem.W.Frag} {mg : Str → Option Value} {base : Heap} {A : Ads}
theorem Tape.ne {G : Hp} {tp p : Addr} {c : Int} (t : Tape G tp c) (h : G p = none) : p ≠ tp := fun e => by subst e; obtain ⟨xs, hx, _⟩ := t; rw [h] at hx; cases hx
theorem But.free {tp p : Addr} {G G' : Hp} (b : But tp G G') (h : G' p = none) (n : p ≠ tp) : G p = none := by
  cases e : G p with
  | none => rfl
  | some o => rw [b p o n e] at h; cases h
theorem Rec.but {tp : Addr} {G G' : Hp} {a : Addr} {k : Nat} {z : Str} {m : Int} (r : Rec A G a k z m) (s : But tp G G') (na : a ≠ tp) : Rec A G' a k z m := let ⟨hk, dx, h⟩ := r; ⟨hk, dx, s _ _ na h⟩
theorem Book.but {tp : Addr} {G G' : Hp} {D : Addr} {as : List Addr} {rs : List Rc} (b : Book A G D as rs) (s : But tp G G') (nD : D ≠ tp) (na : ∀ a ∈ as, a ≠ tp) : Book A G' D as rs := ⟨s _ _ nD b.lst, b.len, fun i a r h1 h2 => (b.at_ i a r h1 h2).but s (na a (List.mem_of_getElem? h1))⟩
/-- [left.pop(pick(tape, len(left))) for k in range(n)]: n of the things, in a drawn order -/
theorem lc_pops (T : Tx K mg A) {G0 : Hp} {tp pl : Addr} {c : Int} {n v vl vt lv : Nat} {σ : L2.St} {Q : VK} {xs : List V} (hlv : 2 ≤ lv) (t : Tape G0 tp c) (hc : c + n ≤ 900000) (gl : G0 pl = some (.lst xs)) (npl : pl ≠ tp) (hn : n ≤ xs.length) (hx : xs.length ≤ 1000) (hv : ∀ x, wipe ((wipe σ [v]).set v (some x)) [v] = wipe σ [v])
    (hl : ∀ x, ((wipe σ [v]).set v (some x))[vl]? = some (some (.ref pl))) (ht : ∀ x, ((wipe σ [v]).set v (some x))[vt]? = some (some (.ref tp)))
    (hq : ∀ (D : Addr) (ys rest : List V) (G : Hp), G0 D = none → ys.length = n → (ys ++ rest).Perm xs → G D = some (.lst ys) → Tape G tp (c + n) → (∀ b o, b ≠ tp → b ≠ pl → G0 b = some o → G b = some o) → Q (.ref D) G) :
    LcB (Itr 0 n) (gName v) tYes (tBM K "list" rPopAt (tVar vl) (tCons (tFn P w K mg base "_law_pick" lv E0 (tCons (tVar vt) (tCons (tCB (cLen K) (tCons (tVar vl) (tNil))) (tNil)))) (tNil))) [v] σ G0 Q := by
  intro D hD
  have nD : D ≠ tp := t.ne hD
  have nDp : D ≠ pl := Ne.symm (ne_of_none gl hD)
  refine L2.lc_range (n := n) (fun i G => ∃ ys rest : List V, ys.length = i ∧ (ys ++ rest).Perm xs ∧ G D = some (.lst ys) ∧ G pl = some (.lst rest) ∧ Tape G tp (c + i) ∧ ∀ b o, b ≠ tp → b ≠ pl → G0 b = some o → G b = some o) ?_ ?_ ?_
  · refine ⟨[], xs, rfl, .refl _, upd_same, ?_, by simpa using t.other nD, fun b o _ _ e => by rw [upd_ne (ne_of_none e hD)]; exact e⟩
    rw [upd_ne (Ne.symm nDp)]; exact gl
  · rintro i G hi ⟨ys, rest, hy, pm, gD, gpl, tG, kp⟩
    have rl : ys.length + rest.length = xs.length := by have := pm.length_eq; simpa using this
    refine ⟨hv _, ?_⟩
    show tYes _ G _
    refine ⟨_, hl _, .inl ⟨rfl, _, .inl (.inl gpl)⟩, 2, _, fn_pick T, hlv, _, ht _, _, hl _, _, .inl (.inl (.inl gpl)), ?_⟩
    simp only [tNil]
    refine next_ok (sz := (rest.length : Int)) tG (by omega) (by omega) (by omega) fun r G1 r0 r1 t1 b1 e1 => ?_
    obtain ⟨j, rfl⟩ : ∃ j : Nat, r = j := ⟨r.toNat, by omega⟩
    have hj : j < rest.length := by omega
    refine ⟨pl, _, j, j, rest[j], rfl, rfl, (e1 pl npl).trans gpl, by omega, by omega, ?_, List.getElem?_eq_getElem hj, ys, ?_, ?_, ?_⟩
    · simp [seqIndex?, hj]; omega
    · rw [upd_ne nDp, e1 D nD]; exact gD
    · rw [hy]; exact Nat.lt_of_lt_of_le (by omega : i < 1001) (by decide)
    refine ⟨ys ++ [rest[j]], rest.eraseIdx j, by simp [hy], (move_perm ys rest j hj).trans pm, upd_same, ?_, ?_, fun b o z1 z2 e => ?_⟩
    · rw [upd_ne (Ne.symm nDp), upd_same]
    · exact ((t1.other (o := .lst (rest.eraseIdx j)) npl).other nD).mono (by push_cast; omega)
    · rw [upd_ne (ne_of_none e hD), upd_ne z2]
      exact b1 _ _ z1 (kp b o z1 z2 e)
  · rintro G ⟨ys, rest, hy, pm, gD, gpl, tG, kp⟩
    exact hq D ys rest G hD hy pm gD tG kp
/-- the same things in a drawn order -/
def sp_mixed : Sp := fun vs H Q _ => ∃ (tp a : Addr) (c : Int) (xs : List V), vs = [.ref tp, .ref a] ∧ Tape H tp c ∧ c ≤ 800000 ∧ H a = some (.lst xs) ∧ xs.length ≤ 100 ∧
  ∀ (p : Addr) (ys : List V) (H' : Hp), H p = none → ys.Perm xs → H' p = some (.lst ys) → Tape H' tp (c + 100) → But tp H H' → Q (.ref p) H'
theorem p_mixed (T : Tx K mg A) : Pur N_law_mixed ps_law_mixed (t_law_mixed P w K mg base A) sp_mixed := by
  intro vs H Q E h
  obtain ⟨tp, a, c, xs, rfl, t, hc, ha, hx, q⟩ := h
  refine ⟨rfl, ?_⟩
  show t_law_mixed P w K mg base A E _ [some (.ref tp), some (.ref a), none, none] H
  unfold t_law_mixed
  walk_at "rd"
  refine ⟨_, .inl (.inl (.inl ha)), fun pl hpl => ?_⟩
  have s1 := Same.new (o := .lst xs) hpl
  have g1 := upd_same (H := H) (a := pl) (o := .lst xs)
  have npl : pl ≠ tp := t.ne hpl
  have t1 := t.same s1
  generalize upd H pl (.lst xs) = H1 at s1 g1 t1
  refine ⟨_, .inl (.inl (.inl (s1 _ _ ha))), by omega, by omega, ?_⟩
  rw [Int.toNat_natCast]
  refine lc_pops T (by decide) t1 (by omega) g1 npl (Nat.le_refl _) (by omega) (fun x => rfl) (fun x => rfl) (fun x => rfl) fun D ys rest G hD hy pm gD tG kp => ?_
  have re : rest = [] := by have := pm.length_eq; simp [hy] at this; exact this
  subst re
  rw [List.append_nil] at pm
  exact q D ys G (s1.free hD) pm gD (tG.mono (by omega)) fun b o z e => kp b o z (ne_of_none e hpl) (s1 _ _ e)
theorem fn_mixed (T : Tx K mg A) : Fn P w K mg base 3 "_law_mixed" sp_mixed := T.f_law_mixed.fn sc_law_mixed (fun hr => d_law_mixed T.G hr) (p_mixed T)
/-! ### words -/
def poolW0 : List Str := ["a", "aa", "aaa", "aaaaaaaa", "zzzzzzzz", "low", "high", "order", "inserted", "none", "x", "y"]
def addW (c : Nat) : List Str := [⟨#[c]⟩, ⟨#[c]⟩ ++ "a", "a" ++ ⟨#[c]⟩, ⟨#[c]⟩ ++ "zzzzzzz"]
def poolW (cs : List Nat) : List Str := poolW0 ++ (cs.map addW).flatten
def wordsP : List Str := poolW ("bcdefghijklm" : Str).cps.toList
theorem wordsP_nd : wordsP.Nodup := by decide +kernel
theorem wordsP_it : ∀ z ∈ wordsP, isItem z = true := by decide +kernel
theorem wordsP_len : wordsP.length = 60 := by decide +kernel
theorem poolW_snoc (cs : List Nat) (c : Nat) : poolW (cs ++ [c]) = poolW cs ++ addW c := by unfold poolW; rw [List.map_append, List.flatten_append, ← List.append_assoc]; simp
theorem poolW_len : ∀ cs : List Nat, (poolW cs).length = 12 + 4 * cs.length := fun cs => by
  unfold poolW
  rw [List.length_append]
  have : (cs.map addW).flatten.length = 4 * cs.length := by
    induction cs with
    | nil => rfl
    | cons c cs ih => rw [List.map_cons, List.flatten_cons, List.length_append, ih]; simp [addW]; omega
  rw [this]; rfl
/-- for c in text -/
theorem for_text {z : Str} {g : TG} {tb : TS} {D : Ends} {σ : L2.St} {H : Hp} (Pv : Nat → L2.St → Hp → Prop) (h0 : Pv 0 σ H)
    (hs : ∀ (i c : Nat) σ H, z.cps.toList[i]? = some c → Pv i σ H → g (.str ⟨#[c]⟩) σ H fun σ2 H2 => tb { D with nx := Pv (i + 1), ct := Pv (i + 1), bk := D.nx } σ2 H2) (hd : ∀ σ H, Pv z.cps.toList.length σ H → D.nx σ H) : ForB (L2.Its z) g tb D σ H := by
  refine ⟨fun i m σ H => m = z.cps.toList.length - i ∧ i ≤ z.cps.toList.length ∧ Pv i σ H, ⟨z.cps.toList.length, by simp, Nat.zero_le _, h0⟩, ?_⟩
  rintro i m σ H ⟨rfl, hi, p⟩
  by_cases hlt : i < z.cps.toList.length
  · refine .inr ⟨(by simpa using hlt : i < z.cps.size), Pv (i + 1), fun σ' H' h => ⟨z.cps.toList.length - (i + 1), by omega, rfl, hlt, h⟩, fun x H' y => ?_⟩
    obtain ⟨rfl, c, hc, rfl⟩ := y
    exact hs i c σ _ (by rw [Array.getElem?_toList]; exact hc) p
  · obtain rfl : i = z.cps.toList.length := by omega
    exact .inl ⟨(by simp : z.cps.size ≤ z.cps.toList.length), hd σ H p⟩
def sp_words : Sp := fun vs H Q _ => ∃ (tp : Addr) (c : Int) (n : Nat), vs = [.ref tp, .int n] ∧ Tape H tp c ∧ c ≤ 800000 ∧ n ≤ 60 ∧
  ∀ (p : Addr) (zs : List Str) (H' : Hp), H p = none → zs.length = n → zs.Nodup → (∀ z ∈ zs, isItem z = true) → H' p = some (.lst (zs.map V.str)) → Tape H' tp (c + 100) → But tp H H' → Q (.ref p) H'
theorem strs_of {xs : List Str} : ∀ {ys : List V}, ys.Perm (xs.map V.str) → ∃ zs : List Str, ys = zs.map V.str := fun {ys} h => by
  have : ∀ y ∈ ys, ∃ z, y = V.str z := fun y hy => by obtain ⟨z, _, e⟩ := List.mem_map.mp (h.mem_iff.mp hy); exact ⟨z, e.symm⟩
  clear h
  induction ys with
  | nil => exact ⟨[], rfl⟩
  | cons y ys ih =>
    obtain ⟨z, rfl⟩ := this y List.mem_cons_self
    obtain ⟨zs, rfl⟩ := ih fun y hy => this y (List.mem_cons_of_mem _ hy)
    exact ⟨z :: zs, rfl⟩
theorem str_inj : Function.Injective V.str := fun a b h => by cases h; rfl
theorem perm_strs {xs zs : List Str} (h : (zs.map V.str).Perm (xs.map V.str)) : zs.Perm xs := by
  have e : ∀ l : List Str, (l.map V.str).filterMap (fun v => match v with | .str z => some z | _ => none) = l := fun l => by
    rw [List.filterMap_map]; exact List.filterMap_some
  have := h.filterMap (fun v => match v with | .str z => some z | _ => none)
  rwa [e, e] at this
theorem p_words (T : Tx K mg A) : Pur N_law_words ps_law_words (t_law_words P w K mg base A) sp_words := by
  intro vs H Q E h
  obtain ⟨tp, c, n, rfl, t, hc, hn, q⟩ := h
  refine ⟨rfl, ?_⟩
  show t_law_words P w K mg base A E _ [some (.ref tp), some (.int n), none, none, none] H
  unfold t_law_words
  refine seqU fun U hU => ?_
  walk_at "rd"
  refine ⟨(by show 12 ≤ sizeLine; decide), fun p1 hp1 => ?_⟩
  rw [hU]
  clear hU
  have e0 : [V.str "a", .str "aa", .str "aaa", .str "aaaaaaaa", .str "zzzzzzzz", .str "low", .str "high", .str "order", .str "inserted", .str "none", .str "x", .str "y"] = (poolW []).map V.str := rfl
  have s1 := Same.new (o := .lst [V.str "a", .str "aa", .str "aaa", .str "aaaaaaaa", .str "zzzzzzzz", .str "low", .str "high", .str "order", .str "inserted", .str "none", .str "x", .str "y"]) hp1
  have g1 := upd_same (H := H) (a := p1) (o := .lst [V.str "a", .str "aa", .str "aaa", .str "aaaaaaaa", .str "zzzzzzzz", .str "low", .str "high", .str "order", .str "inserted", .str "none", .str "x", .str "y"])
  have g1 : upd H p1 (.lst [V.str "a", .str "aa", .str "aaa", .str "aaaaaaaa", .str "zzzzzzzz", .str "low", .str "high", .str "order", .str "inserted", .str "none", .str "x", .str "y"]) p1 = some (.lst ((poolW []).map V.str)) := g1
  generalize upd H p1 (.lst [V.str "a", .str "aa", .str "aaa", .str "aaaaaaaa", .str "zzzzzzzz", .str "low", .str "high", .str "order", .str "inserted", .str "none", .str "x", .str "y"]) = H1 at s1 g1
  refine seqU fun U hU => ?_
  walk_at "rd"
  refine for_text (fun i σ G => ∃ (p : Addr) (v3 : Option V), σ = [some (.ref tp), some (.int n), some (.ref p), v3, none] ∧ Same H G ∧ H p = none ∧ G p = some (.lst ((poolW (("bcdefghijklm" : Str).cps.toList.take i)).map V.str))) ⟨p1, _, rfl, s1, hp1, g1⟩ ?_ ?_
  · rintro i ch σ G hch ⟨p, v3, rfl, sG, fp, gp⟩
    have hi : i < 12 := by have := (List.getElem?_eq_some_iff.mp hch).1; exact this
    walk_at "rd"
    refine ⟨(by show 1 + 1 ≤ sizeLine; decide), (by show 1 + 1 ≤ sizeLine; decide), (by show 1 + 7 ≤ sizeLine; decide), (by show 4 ≤ sizeLine; decide), fun p2 hp2 => ?_⟩
    have u2 := Same.new (o := .lst [V.str ⟨#[ch]⟩, .str (⟨#[ch]⟩ ++ "a"), .str ("a" ++ ⟨#[ch]⟩), .str (⟨#[ch]⟩ ++ "zzzzzzz")]) hp2
    refine ⟨_, _, u2 _ _ gp, upd_same, Nat.le_trans (by rw [List.length_map, poolW_len, List.length_take]; simp; omega : _ ≤ 1000) (by decide), fun p3 hp3 => ?_⟩
    refine ⟨p3, _, ⟨rfl, rfl⟩, (sG.trans u2).trans (Same.new hp3), (sG.trans u2).free hp3, ?_⟩
    rw [upd_same, List.take_add_one, hch]
    show _ = some (HO.lst ((poolW (_ ++ [ch])).map V.str))
    rw [poolW_snoc, List.map_append]
    rfl
  · rintro σ G ⟨p, v3, rfl, sG, fp, gp⟩
    show U _ _
    rw [hU]
    clear hU
    rw [List.take_length] at gp
    have npl : p ≠ tp := t.ne fp
    walk_at "rd"
    refine ⟨by omega, by omega, ?_⟩
    rw [Int.toNat_natCast]
    have wl := wordsP_len
    refine lc_pops T (by decide) (t.same sG) (by omega) gp npl (by rw [List.length_map]; show n ≤ wordsP.length; omega) (by rw [List.length_map]; show wordsP.length ≤ 1000; omega) (fun x => rfl) (fun x => rfl) (fun x => rfl) fun D ys rest G' hD hy pm gD tG kp => ?_
    obtain ⟨all, ea⟩ := strs_of pm
    have el : ys = (all.take n).map V.str := by rw [List.map_take, ← ea, ← hy]; simp
    subst el
    have pa : all.Perm wordsP := perm_strs (by rw [← ea]; exact pm)
    have sb : (all.take n).Sublist all := List.take_sublist _ _
    refine q D (all.take n) G' (sG.free hD) (by rw [List.length_map] at hy; exact hy) ((pa.nodup_iff.mpr wordsP_nd).sublist sb) (fun z hz => wordsP_it z (pa.mem_iff.mp (sb.subset hz))) gD (tG.mono (by omega)) fun b o z e => kp b o z (ne_of_none e fp) (sG _ _ e)
theorem fn_words (T : Tx K mg A) : Fn P w K mg base 3 "_law_words" sp_words := T.f_law_words.fn sc_law_words (fun hr => d_law_words T.G hr) (p_words T)
/-! ### made -/
def RcOk (r : Rc) : Prop := isItem r.2.1 = true ∧ 0 ≤ r.2.2 ∧ r.2.2 ≤ 60
def sp_made (A : Ads) : Sp := fun vs H Q _ => ∃ (k : Nat) (z : Str) (n : Int), vs = [.int k, .str z, .int n] ∧ k < 3 ∧ isItem z = true ∧ 0 ≤ n ∧ n ≤ 60 ∧ ∀ p H', H p = none → Same H H' → Rec A H' p k z n → Q (.ref p) H'
theorem p_made (T : Tx K mg A) : Pur N_law_made ps_law_made (t_law_made P w K mg base A) (sp_made A) := by
  intro vs H Q E h
  obtain ⟨k, z, n, rfl, hk, hz, h0, h60, q⟩ := h
  refine ⟨rfl, ?_⟩
  show t_law_made P w K mg base A E _ [some (.int k), some (.str z), some (.int n)] H
  unfold t_law_made
  walk_at "rd"
  match k, hk, q with
  | 0, hk, q => exact ⟨3, _, _, mkr T (k := 0) (by decide), by decide, made_ok T (by decide) hz h0 h60 q⟩
  | 1, hk, q => exact ⟨3, _, _, mkr T (k := 1) (by decide), by decide, made_ok T (by decide) hz h0 h60 q⟩
  | 2, hk, q => exact ⟨3, _, _, mkr T (k := 2) (by decide), by decide, made_ok T (by decide) hz h0 h60 q⟩
theorem fn_made (T : Tx K mg A) : Fn P w K mg base 5 "_law_made" (sp_made A) := T.f_law_made.fn sc_law_made (fun hr => d_law_made T.G hr) (p_made T)
end
end K
namespace K
open PySem PySem.Spec PyProof.Rows L2 U ClX M
local macro_rules | `(tactic| walk_at "rd") => `(tactic| simp only [tSeq, tRet, tIfS, tAsg, tDrop, tNext, tNever, tRetN, tAndV, tOrV, tNotV, tAnd, tOr, tNot, tB, tTest, tChain, tCB, tCons, tNil, tVar, tC, tOp, tUn, tIf, gName, uLe, uLt, uGe, uGt, uCmp, uAdd, uSub, uMul, uDiv, uMod, uPow, uNeg, uEq, uNe, uIs, uIsNot, uIx, uIn, cIsi, cLen, cAll, cMax, cMin, cAbs, cSort, cSortD, cInt, cTuple, cRepr, cDict, cList, cSortS, tRevL, tDGet, tLstRg, tTupRg, tRg1, tRg2, sDPut, tDNewK, tAug, ipI, iZip, tLst, tTup, tPar, U.tPar3, tFn, tMkr, tMth, tFnK, tMthK, tAtt, sFld, tYes, tLc_eq, tFor_eq, iList, iStr, iRng1, iRng2, iEnum, tLenSetT, tSl, tPart, tNoPart, gTup, gCons, gNil, gSub, tBM, tBM0, List.getElem?_cons_zero, List.getElem?_cons_succ, List.set_cons_zero, List.set_cons_succ, Option.some.injEq, V.bl.injEq, V.int.injEq, V.str.injEq, V.ref.injEq, exists_eq_left', exists_eq_left, exists_eq_right, exists_eq_right', and_true, true_and, scal, if_true, Bool.false_eq_true, if_false, List.cons.injEq, exists_const, false_and, and_false, ite_true, ite_false, Bool.not_true, Bool.not_false])
section
variable {P : Program} {w : World} {K : PySem.W.Frag} {mg : Str → Option Value} {base : Heap} {A : Ads}
abbrev slot (r : Rc) : Int := r.2.2
abbrev item (r : Rc) : Str := r.2.1
/-! ### places -/
def ix : List Str → Str → Nat
  | [], _ => 0
  | y :: ys, z => if y = z then 0 else ix ys z + 1
theorem ix_lt : ∀ {ys : List Str} {z : Str}, z ∈ ys → ix ys z < ys.length
  | y :: ys, z, h => by
    unfold ix
    split
    · simp
    · rename_i ne
      have := ix_lt (ys := ys) (z := z) (by rcases List.mem_cons.mp h with e | e; exact absurd e.symm ne; exact e)
      simp; omega
theorem ix_get : ∀ {ys : List Str} {z : Str}, z ∈ ys → ys[ix ys z]? = some z
  | y :: ys, z, h => by
    unfold ix
    split
    · rename_i e; simp [e]
    · rename_i ne
      simpa using ix_get (ys := ys) (z := z) (by rcases List.mem_cons.mp h with e | e; exact absurd e.symm ne; exact e)
theorem ix_min : ∀ {ys : List Str} {z w : Str} {m : Nat}, m < ix ys z → ys[m]? = some w → w ≠ z
  | [], z, w, m, h, e => by simp at e
  | y :: ys, z, w, 0, h, e => by
    unfold ix at h
    split at h
    · omega
    · rename_i ne; simp at e; subst e; exact ne
  | y :: ys, z, w, m + 1, h, e => by
    unfold ix at h
    split at h
    · omega
    · exact ix_min (ys := ys) (m := m) (by omega) (by simpa using e)
theorem flat_strs (zs : List Str) : (zs.map V.str).all flatV = true := by
  rw [List.all_map]
  exact List.all_eq_true.mpr fun _ _ => rfl
theorem inV_str (z : Str) (zs : List Str) : inV (.str z) (zs.map V.str) = decide (z ∈ zs) := by
  unfold inV
  induction zs with
  | nil => rfl
  | cons y zs ih =>
    rw [List.map_cons, List.any_cons, ih, Bool.eq_iff_iff]
    show ((y == z) || decide (z ∈ zs)) = true ↔ _
    simp only [Bool.or_eq_true, beq_iff_eq, decide_eq_true_eq, List.mem_cons]
    exact ⟨fun h => h.imp Eq.symm id, fun h => h.imp Eq.symm id⟩
/-- l.index(z) -/
theorem index_ok {H : Hp} {a : Addr} {zs : List Str} {z : Str} {Q : VK} (h : SqL K H a (zs.map V.str)) (hz : z ∈ zs) (q : Q (.int (ix zs z : Nat)) H) : rIndex K (.ref a) [.str z] H Q := by
  refine ⟨a, _, .str z, ix zs z, .str z, rfl, rfl, h, rfl, flat_strs _, by rw [List.getElem?_map, ix_get hz]; rfl, ?_, fun m z' hm e => ?_, q⟩
  · show (z == z) = true
    simp
  · rw [List.getElem?_map] at e
    cases e2 : zs[m]? with
    | none => rw [e2] at e; cases e
    | some y =>
      rw [e2] at e
      obtain rfl := (Option.some.inj e).symm
      show (y == z) = false
      exact beq_eq_false_iff_ne.mpr (ix_min hm e2)
/-! ### dict comprehensions that read alone -/
def DcB (J : It) (g : TG) (tt : TT) (tk tv : TE) (vs : List Nat) (σ : L2.St) (H1 : Hp) (Q : VK) : Prop := ∀ D, H1 D = none → ∃ W : Nat → Nat → Hp → Prop, (∃ m, W 0 m (upd H1 D (.dK []))) ∧ ∀ i m H, W i m H →
  (J.stop i H ∧ Q (.ref D) H) ∨ (J.go i H ∧ ∃ Nx : Hp → Prop, (∀ H', Nx H' → ∃ m', m' < m ∧ W (i + 1) m' H') ∧ ∀ x H', J.yld i H x H' → g x (wipe σ vs) H' fun σ2 H2 => wipe σ2 vs = wipe σ vs ∧ tt σ2 H2 fun b H3 =>
    if b = true then tk σ2 H3 fun y H4 => tv σ2 H4 fun z H5 => ∃ kvs k, y = kV k ∧ H5 D = some (.dK kvs) ∧ kvs.length < sizeLine ∧ Nx (upd H5 D (.dK (putK kvs k z))) else Nx H3)
theorem tDc_eq (wi : TI) (g : TG) (tt : TT) (tk tv : TE) (vs : List Nat) (σ : L2.St) (H : Hp) (Q : VK) : tDc wi g tt tk tv vs σ H Q = wi σ H fun J H1 => DcB J g tt tk tv vs σ H1 Q := rfl
def kvR (key : Nat → Key) (val : Nat → V) (n : Nat) : List (Key × V) := (List.range n).map fun i => (key i, val i)
theorem val_out {k : Key} : ∀ {kvs : List (Key × V)}, (∀ p ∈ kvs, p.1 ≠ k) → valV kvs k = none
  | [], _ => rfl
  | p :: kvs, h => by rw [valV_neg (h p List.mem_cons_self)]; exact val_out fun q hq => h q (List.mem_cons_of_mem _ hq)
theorem kvR_none {key : Nat → Key} {val : Nat → V} {k : Key} {n : Nat} (h : ∀ i, i < n → key i ≠ k) : valV (kvR key val n) k = none := val_out fun p hp => by
  obtain ⟨i, hi, rfl⟩ := List.mem_map.mp hp
  exact h i (List.mem_range.mp hi)
theorem kvR_succ (key : Nat → Key) (val : Nat → V) (n : Nat) : kvR key val (n + 1) = kvR key val n ++ [(key n, val n)] := by unfold kvR; rw [List.range_succ, List.map_append]; rfl
theorem kvR_some {key : Nat → Key} {val : Nat → V} : ∀ {n : Nat} {j : Nat}, (∀ i j, i < j → j < n → key i ≠ key j) → j < n → valV (kvR key val n) (key j) = some (val j)
  | n + 1, j, nd, hj => by
    rw [kvR_succ, valV_snoc _ _ _ _ (kvR_none fun i hi => nd i n hi (by omega))]
    by_cases e : j = n
    · subst e; rw [if_pos rfl]
    · rw [if_neg (nd j n (by omega) (by omega))]
      exact kvR_some (fun a b h1 h2 => nd a b h1 (by omega)) (by omega)
theorem dc_goes {J : It} {g : TG} {tt : TT} {tk tv : TE} {vs : List Nat} {σ : L2.St} {H1 : Hp} {Q : VK} {n : Nat} {R : Nat → V → Hp → Prop} (S : Goes J H1 n R) (key : Nat → Key) (val : Nat → V) (hn : n < sizeLine) (nd : ∀ i j, i < j → j < n → key i ≠ key j)
    (turn : ∀ i x H, i < n → Same H1 H → R i x H → ∃ σ2, wipe σ2 vs = wipe σ vs ∧ (∀ R' : L2.St → Hp → Prop, R' σ2 H → g x (wipe σ vs) H R') ∧ Evt tt σ2 H true ∧ (∀ H3, Same H H3 → Evs tk σ2 H3 (kV (key i))) ∧ ∀ H3, Same H H3 → Evs tv σ2 H3 (val i))
    (hq : ∀ D H', H1 D = none → Same H1 H' → H' D = some (.dK (kvR key val n)) → Q (.ref D) H') : DcB J g tt tk tv vs σ H1 Q := by
  intro D hD
  refine ⟨fun i m H => m = n - i ∧ i ≤ n ∧ Same H1 H ∧ H D = some (.dK (kvR key val i)), ⟨n, by simp, Nat.zero_le _, Same.new hD, upd_same⟩, ?_⟩
  rintro i m H ⟨rfl, hi, sm, hl⟩
  by_cases hlt : i < n
  · refine .inr ⟨S.go i H hlt sm, fun H' => Same H1 H' ∧ H' D = some (.dK (kvR key val (i + 1))), fun H' h => ⟨n - (i + 1), by omega, rfl, hlt, h⟩, fun x H' y => ?_⟩
    obtain ⟨s1, r⟩ := S.yld i H x H' hlt sm y
    obtain ⟨σ2, e2, hg, h1, h2, h3⟩ := turn i x H' hlt (sm.trans s1) r
    have hl1 := s1 _ _ hl
    refine hg _ ⟨e2, h1 _ fun H2 s2 => ?_⟩
    rw [if_pos rfl]
    refine h2 H2 s2 _ fun H3 s3 => h3 H3 (s2.trans s3) _ fun H4 s4 => ⟨_, key i, rfl, s4 _ _ (s3 _ _ (s2 _ _ hl1)), ?_, ((sm.trans s1).trans (s2.trans (s3.trans s4))).mut hD, ?_⟩
    · unfold kvR; rw [List.length_map, List.length_range]; omega
    · rw [upd_same, putK_new _ (kvR_none fun a ha => nd a i ha hlt), kvR_succ]
  · obtain rfl : i = n := by omega
    exact .inl ⟨S.stop H sm, hq D H hD sm hl⟩
/-! ### lists of items, known lists -/
/-- a list of different items -/
structure Its (zs : List Str) : Prop where
  nd : zs.Nodup
  it : ∀ z ∈ zs, isItem z = true
  few : zs.length ≤ 60
def sp_are_items (K : PySem.W.Frag) : Sp := fun vs H Q _ => ∃ (a : Addr) (zs : List Str), vs = [.ref a] ∧ H a = some (.lst (zs.map V.str)) ∧ Its zs ∧ ∀ H', Same H H' → Q (.bl true) H'
theorem p_are_items (T : Tx K mg A) : Pur N_are_items ps_are_items (t_are_items P w K mg base A) (sp_are_items K) := by
  intro vs H Q E h
  obtain ⟨a, zs, rfl, ha, hz, q⟩ := h
  refine ⟨rfl, ?_⟩
  have few := hz.few
  show t_are_items P w K mg base A E _ [some (.ref a), none] H
  unfold t_are_items
  walk_at "rd"
  refine ⟨true, isi_lst ha (by decide +kernel), ?_⟩
  walk_at "rd"
  refine ⟨_, .inl (.inl (.inl ha)), ?_⟩
  rw [List.length_map, if_neg (by simp only [decide_eq_true_eq]; omega)]
  refine ⟨⟨_, .inl (.inl ha)⟩, lc_lst (fun _ => some (.bl true)) (.inl (.inl ha)) (by rw [List.length_map]; exact Nat.lt_of_le_of_lt few (by decide)) (fun x H1 hx s1 => ?_) fun D H1 hD s1 hl => ?_⟩
  · obtain ⟨z, hz', rfl⟩ := List.mem_map.mp hx
    refine ⟨[some (.ref a), some (.str z)], rfl, fun R' h => h, Evt.yes, fun H2 s2 Q' q' => ?_⟩
    walk_at "rd"
    have zl := item_len (hz.it z hz')
    refine ⟨2, _, fn_is_item T, by decide, z, rfl, by omega, fun H3 s3 => ?_⟩
    rw [hz.it z hz']
    exact q' H3 s3
  refine ⟨zs.map fun _ => true, .inl (.inl ?_), ?_⟩
  · rw [hl, List.map_map, List.filterMap_eq_map' (f := fun _ : V => V.bl true), List.map_map]; rfl
  rw [all_true]
  walk_at "rd"
  have ha1 := s1 _ _ ha
  refine ⟨a, zs, rfl, .inl (.inl ha1), by omega, _, .inl (.inl (.inl ha1)), ?_⟩
  rw [dd_nodup hz.nd, List.length_map, decide_eq_true rfl]
  exact q H1 s1
theorem fn_are_items (T : Tx K mg A) : Fn P w K mg base 3 "are_items" (sp_are_items K) := T.f_are_items.fn sc_are_items (fun hr => d_are_items T.G hr) (p_are_items T)
def sp_need_known (K : PySem.W.Frag) (A : Ads) : Sp := fun vs H Q _ => ∃ (l a : Addr) (as : List Addr) (rs : List Rc) (zs : List Str), vs = [.ref l, .ref a] ∧ Book A H l as rs ∧ rs.length ≤ 1000 ∧ H a = some (.lst (zs.map V.str)) ∧ Its zs ∧ (∀ r ∈ rs, item r ∈ zs) ∧ ∀ H', Same H H' → Q .non H'
theorem p_need_known (T : Tx K mg A) : Pur N_need_known ps_need_known (t_need_known P w K mg base A) (sp_need_known K A) := by
  intro vs H Q E h
  obtain ⟨l, a, as, rs, zs, rfl, b, hn, ha, hz, sub, q⟩ := h
  refine ⟨rfl, ?_⟩
  show t_need_known P w K mg base A E _ [some (.ref l), some (.ref a), none] H
  unfold t_need_known
  walk_at "rd"
  refine ⟨3, _, fn_are_items T, by decide, a, zs, rfl, ha, hz, fun H1 s1 => ⟨true, rfl, ?_⟩⟩
  rw [if_neg (by decide)]
  have b1 := b.same s1
  have ha1 := s1 _ _ ha
  refine ⟨⟨_, .inl (.inl b1.lst)⟩, lc_book b1 hn (fun _ => .bl true) (fun x => rfl) (fun a' r H2 s2 rc hr => fun Q' q' => ?_) fun D H2 hD s2 hl => ⟨rs.map fun _ => true, .inl (.inl ?_), ?_⟩⟩
  · show tOp _ _ _ [some (.ref l), some (.ref a), some (.ref a')] H2 Q'
    walk_at "rd"
    refine ⟨_, _, rfl, att_item T rc, .inl ⟨_, .inl (.inl (.inl (s2 _ _ ha1))), rfl, flat_strs _, ?_⟩⟩
    rw [inV_str, decide_eq_true (sub r hr)]
    exact q' H2 (Same.refl _)
  · rw [hl, List.map_map]; rfl
  · rw [all_true]
    walk_at "rd"
    exact q H2 (s1.trans s2)
theorem fn_need_known (T : Tx K mg A) : Fn P w K mg base 4 "need_known" (sp_need_known K A) := T.f_need_known.fn sc_need_known (fun hr => d_need_known T.G hr) (p_need_known T)
end
end K
namespace K
open PySem PySem.Spec PyProof.Rows L2 U ClX M
local macro_rules | `(tactic| walk_at "rd") => `(tactic| simp only [tSeq, tRet, tIfS, tAsg, tDrop, tNext, tNever, tRetN, tAndV, tOrV, tNotV, tAnd, tOr, tNot, tB, tTest, tChain, tCB, tCons, tNil, tVar, tC, tOp, tUn, tIf, gName, uLe, uLt, uGe, uGt, uCmp, uAdd, uSub, uMul, uDiv, uMod, uPow, uNeg, uEq, uNe, uIs, uIsNot, uIx, uIn, cIsi, cLen, cAll, cMax, cMin, cAbs, cSort, cSortD, cInt, cTuple, cRepr, cDict, cList, cSortS, tRevL, tDGet, tLstRg, tTupRg, tRg1, tRg2, sDPut, tDNewK, tAug, ipI, iZip, tLst, tTup, tPar, U.tPar3, tFn, tMkr, tMth, tFnK, tMthK, tAtt, sFld, tYes, tLc_eq, tFor_eq, iList, iStr, iRng1, iRng2, iEnum, tLenSetT, tSl, tPart, tNoPart, gTup, gCons, gNil, gSub, tBM, tBM0, List.getElem?_cons_zero, List.getElem?_cons_succ, List.set_cons_zero, List.set_cons_succ, Option.some.injEq, V.bl.injEq, V.int.injEq, V.str.injEq, V.ref.injEq, exists_eq_left', exists_eq_left, exists_eq_right, exists_eq_right', and_true, true_and, scal, if_true, Bool.false_eq_true, if_false, List.cons.injEq, exists_const, false_and, and_false, ite_true, ite_false, Bool.not_true, Bool.not_false])
section
variable {P : Program} {w : World} {K : PySem.W.Frag} {mg : Str → Option Value} {base : Heap} {A : Ads}
/-! ### frames -/
/-- the items with records, in the order of the known list -/
def mkd (zs : List Str) (rs : List Rc) : List Str := zs.filter fun z => decide (z ∈ rs.map item)
def frF (pb pm pp : Addr) (fr : Bool) : List (Str × V) := [(("by_item" : Str), V.ref pb), (("marked" : Str), V.ref pm), (("places" : Str), V.ref pp), ("is_fronted", .bl fr)]
theorem f_put1 (v : V) : putF ("by_item" : Str) v ([] : List (Str × V)) = [(("by_item" : Str), v)] := rfl
theorem f_put2 (a v : V) : putF ("marked" : Str) v ([(("by_item" : Str), a)] : List (Str × V)) = [(("by_item" : Str), a), (("marked" : Str), v)] := by
  simp only [putF, if_neg (show ¬ (("by_item" : Str) = "marked") by decide +kernel)]
theorem f_put3 (a b v : V) : putF ("places" : Str) v ([(("by_item" : Str), a), (("marked" : Str), b)] : List (Str × V)) = [(("by_item" : Str), a), (("marked" : Str), b), (("places" : Str), v)] := by
  simp only [putF, if_neg (show ¬ (("by_item" : Str) = "places") by decide +kernel), if_neg (show ¬ (("marked" : Str) = "places") by decide +kernel)]
theorem f_put4 (a b c v : V) : putF ("is_fronted" : Str) v ([(("by_item" : Str), a), (("marked" : Str), b), (("places" : Str), c)] : List (Str × V)) = [(("by_item" : Str), a), (("marked" : Str), b), (("places" : Str), c), (("is_fronted" : Str), v)] := by
  simp only [putF, if_neg (show ¬ (("by_item" : Str) = "is_fronted") by decide +kernel), if_neg (show ¬ (("marked" : Str) = "is_fronted") by decide +kernel), if_neg (show ¬ (("places" : Str) = "is_fronted") by decide +kernel)]
theorem l_by (a : V) (r : List (Str × V)) : ((("by_item" : Str), a) :: r : List (Str × V)).lookup ("by_item" : Str) = some a := by simp [List.lookup]
theorem l_mk (a b : V) (r : List (Str × V)) : ((("by_item" : Str), a) :: (("marked" : Str), b) :: r : List (Str × V)).lookup ("marked" : Str) = some b := by
  simp [List.lookup, show (("marked" : Str) == "by_item") = false by decide +kernel]
theorem l_pl (a b c : V) (r : List (Str × V)) : ((("by_item" : Str), a) :: (("marked" : Str), b) :: (("places" : Str), c) :: r : List (Str × V)).lookup ("places" : Str) = some c := by
  simp [List.lookup, show (("places" : Str) == "by_item") = false by decide +kernel, show (("places" : Str) == "marked") = false by decide +kernel]
theorem l_fr (a b c d : V) (r : List (Str × V)) : ((("by_item" : Str), a) :: (("marked" : Str), b) :: (("places" : Str), c) :: (("is_fronted" : Str), d) :: r : List (Str × V)).lookup ("is_fronted" : Str) = some d := by
  simp [List.lookup, show (("is_fronted" : Str) == "by_item") = false by decide +kernel, show (("is_fronted" : Str) == "marked") = false by decide +kernel, show (("is_fronted" : Str) == "places") = false by decide +kernel]
theorem l_no {m : Str} (a b c d : V) (h1 : (m == ("by_item" : Str)) = false) (h2 : (m == ("marked" : Str)) = false) (h3 : (m == ("places" : Str)) = false) (h4 : (m == ("is_fronted" : Str)) = false) : ([(("by_item" : Str), a), (("marked" : Str), b), (("places" : Str), c), (("is_fronted" : Str), d)] : List (Str × V)).lookup m = none := by
  simp [List.lookup, h1, h2, h3, h4]
/-- a frame stands at p -/
structure Fm (A : Ads) (H : Hp) (p : Addr) (fr : Bool) (zs : List Str) (as : List Addr) (rs : List Rc) : Prop where
  ex : ∃ (dx pb pm pp : Addr) (kb kp : List (Key × V)), H p = some (.ins A.cFrame dx (frF pb pm pp fr)) ∧ H pb = some (.dK kb) ∧ H pm = some (.lst ((mkd zs rs).map V.str)) ∧ H pp = some (.dK kp) ∧
    (∀ (i : Nat) (a : Addr) (r : Rc), as[i]? = some a → rs[i]? = some r → valV kb (.inr (item r)) = some (.ref a)) ∧ (∀ z, z ∉ rs.map item → valV kb (.inr z) = none) ∧ ∀ z ∈ mkd zs rs, valV kp (.inr z) = some (.int (ix zs z : Nat))
theorem Fm.same {H H' : Hp} {p : Addr} {fr : Bool} {zs : List Str} {as : List Addr} {rs : List Rc} (f : Fm A H p fr zs as rs) (s : Same H H') : Fm A H' p fr zs as rs := by
  obtain ⟨dx, pb, pm, pp, kb, kp, h1, h2, h3, h4, h⟩ := f.ex
  exact ⟨dx, pb, pm, pp, kb, kp, s _ _ h1, s _ _ h2, s _ _ h3, s _ _ h4, h⟩
theorem fm_filter (zs : List Str) (its : List Str) : (zs.map V.str).filterMap (fun v => match v with | .str z => if z ∈ its then some (V.str z) else none | _ => none) = (zs.filter fun z => decide (z ∈ its)).map V.str := by
  induction zs with
  | nil => rfl
  | cons z zs ih =>
    rw [List.map_cons, List.filterMap_cons]
    by_cases c : z ∈ its
    · rw [List.filter_cons_of_pos (by simpa using c), List.map_cons, ← ih]
      simp [c]
    · rw [List.filter_cons_of_neg (by simpa using c), ← ih]
      simp [c]
theorem att_f (T : Tx K mg A) {H : Hp} {p dx : Addr} {fs : List (Str × V)} {f : Str} {v : V} (h : H p = some (.ins A.cFrame dx fs)) (n : NoAttr K A.cFrame f) (l : fs.lookup f = some v) : Att P w K mg base H p f v := .fld h T.cls_Frame n l
theorem nodup_inj {xs : List Str} (nd : xs.Nodup) {i j : Nat} {x : Str} (hi : xs[i]? = some x) (hj : xs[j]? = some x) : i = j := by
  obtain ⟨h1, e1⟩ := List.getElem?_eq_some_iff.mp hi
  obtain ⟨h2, e2⟩ := List.getElem?_eq_some_iff.mp hj
  rcases Nat.lt_trichotomy i j with l | l | l
  · exact absurd (e1.trans e2.symm) (List.pairwise_iff_getElem.mp nd i j h1 h2 l)
  · exact l
  · exact absurd (e2.trans e1.symm) (List.pairwise_iff_getElem.mp nd j i h2 h1 l)
def isFr (rs : List Rc) : Bool := decide (sign1 rs = "^")
def sp_finit (A : Ads) : Sp := fun vs H Q _ => ∃ (p dx l pz : Addr) (as : List Addr) (rs : List Rc) (zs : List Str), vs = [.ref p, .ref l, .ref pz] ∧ H p = some (.ins A.cFrame dx []) ∧ Book A H l as rs ∧ rs.length ≤ 1000 ∧ (rs.map item).Nodup ∧ H pz = some (.lst (zs.map V.str)) ∧ Its zs ∧
  ∀ H', But p H H' → Fm A H' p (isFr rs) zs as rs → Q .non H'
theorem p_finit (T : Tx K mg A) : Pur N_Frame_init ps_Frame_init (t_Frame_init P w K mg base A) (sp_finit A) := by
  intro vs H Q E h
  obtain ⟨p, dx, l, pz, as, rs, zs, rfl, hp, b, hn, nd, hz, its, q⟩ := h
  refine ⟨rfl, ?_⟩
  have al := b.len
  have few := its.few
  have nl : l ≠ p := fun e => by have := b.lst; rw [e, hp] at this; cases this
  have nz : pz ≠ p := fun e => by rw [e, hp] at hz; cases hz
  have na : ∀ a ∈ as, a ≠ p := fun a ha e => by
    obtain ⟨i, hi, e2⟩ := List.mem_iff_getElem.mp ha
    obtain ⟨_, d2, h2⟩ := b.at_ i a _ (by rw [List.getElem?_eq_getElem hi, e2]) (List.getElem?_eq_getElem (by omega))
    rw [e, hp] at h2
    simp [recF] at h2
  show t_Frame_init P w K mg base A E _ [some (.ref p), some (.ref l), some (.ref pz), none, none] H
  unfold t_Frame_init
  refine seqU fun U hU => ?_
  walk_at "rd"
  simp only [tDc_eq, iList, tVar, List.getElem?_cons_zero, List.getElem?_cons_succ, Option.some.injEq, exists_eq_left', V.ref.injEq]
  have rAt : ∀ {i : Nat} {x : V}, (as.map V.ref)[i]? = some x → x = .ref (as.getD i 0) ∧ i < rs.length := fun {i x} hx => by
    rw [List.getElem?_map] at hx
    cases e : as[i]? with
    | none => rw [e] at hx; cases hx
    | some a =>
      rw [e] at hx
      exact ⟨by rw [← Option.some.inj hx]; simp [e], by rw [← al]; exact (List.getElem?_eq_some_iff.mp e).1⟩
  refine ⟨⟨_, .inl (.inl b.lst)⟩, dc_goes (goes_list (.inl (.inl b.lst))) (fun i => .inr (item (rs.getD i (0, "", 0)))) (fun i => .ref (as.getD i 0)) (by rw [List.length_map, al]; exact Nat.lt_of_le_of_lt hn (by decide)) (fun i j hij hj e => ?_) (fun i x H1 hi s1 hx => ?_) fun D1 H1 hD1 s1 hl1 => ?_⟩
  · rw [List.length_map, al] at hj
    have e := Sum.inr.inj e
    simp only [List.getD, List.getElem?_eq_getElem (show i < rs.length by omega), List.getElem?_eq_getElem hj, Option.getD_some] at e
    have := nodup_inj nd (i := i) (j := j) (x := item rs[i]) (by rw [List.getElem?_map, List.getElem?_eq_getElem (show i < rs.length by omega)]; rfl) (by rw [List.getElem?_map, List.getElem?_eq_getElem hj, e]; rfl)
    omega
  · obtain ⟨rfl, hir⟩ := rAt hx
    have hia : i < as.length := by omega
    have rc := (b.same s1).at_ i as[i] rs[i] (List.getElem?_eq_getElem hia) (List.getElem?_eq_getElem hir)
    refine ⟨[some (.ref p), some (.ref l), some (.ref pz), some (.ref (as.getD i 0)), none], rfl, fun R' h => h, Evt.yes, fun H2 s2 Q' q' => ?_, fun H2 s2 Q' q' => ⟨_, rfl, q' H2 (Same.refl _)⟩⟩
    have e1 : as.getD i 0 = as[i] := by simp [hia]
    have e2 : rs.getD i (0, "", 0) = rs[i] := by simp [hir]
    rw [e2] at q'
    rw [e1]
    exact ⟨_, rfl, _, _, rfl, att_item T (rc.same s2), q' H2 (Same.refl _)⟩
  have n1 : D1 ≠ p := Ne.symm (ne_of_none hp hD1)
  refine ⟨p, _, dx, _, rfl, s1 _ _ hp, T.cls_Frame, T.n_Frame_by_item, (by show 0 < 1000; decide), ?_⟩
  rw [f_put1, hU]
  clear hU
  have bG1 : But p H (upd H1 p (.ins A.cFrame dx [(("by_item" : Str), V.ref D1)])) := (But.same s1).trans But.upd
  have g1 : upd H1 p (.ins A.cFrame dx [(("by_item" : Str), V.ref D1)]) D1 = some (.dK (kvR (fun i => .inr (item (rs.getD i (0, "", 0)))) (fun i => .ref (as.getD i 0)) (as.map V.ref).length)) := by rw [upd_ne n1]; exact hl1
  rw [List.length_map, al] at g1
  have gp1 := upd_same (H := H1) (a := p) (o := .ins A.cFrame dx [(("by_item" : Str), V.ref D1)])
  generalize upd H1 p (.ins A.cFrame dx [(("by_item" : Str), V.ref D1)]) = G1 at bG1 g1 gp1
  have inK : ∀ (i : Nat) (a : Addr) (r : Rc), as[i]? = some a → rs[i]? = some r → valV (kvR (fun i => .inr (item (rs.getD i (0, "", 0)))) (fun i => .ref (as.getD i 0)) rs.length) (.inr (item r)) = some (.ref a) := fun i a r h1 h2 => by
    have hi := (List.getElem?_eq_some_iff.mp h2).1
    have q := kvR_some (key := fun i => .inr (item (rs.getD i (0, "", 0)))) (val := fun i => .ref (as.getD i 0)) (n := rs.length) (j := i) (fun i j hij hj e => ?_) hi
    · simpa [h1, h2] using q
    · have e := Sum.inr.inj e
      simp only [List.getD, List.getElem?_eq_getElem (show i < rs.length by omega), List.getElem?_eq_getElem hj, Option.getD_some] at e
      have := nodup_inj nd (i := i) (j := j) (x := item rs[i]) (by rw [List.getElem?_map, List.getElem?_eq_getElem (show i < rs.length by omega)]; rfl) (by rw [List.getElem?_map, List.getElem?_eq_getElem hj, e]; rfl)
      omega
  have outK : ∀ z, z ∉ rs.map item → valV (kvR (fun i => .inr (item (rs.getD i (0, "", 0)))) (fun i => .ref (as.getD i 0)) rs.length) (.inr z) = none := fun z hz => kvR_none fun i hi e => hz (by
    have e := Sum.inr.inj e
    rw [← e]
    simp only [List.getD, List.getElem?_eq_getElem hi, Option.getD_some]
    exact List.mem_map.mpr ⟨_, List.getElem_mem hi, rfl⟩)
  generalize kvR (fun i => .inr (item (rs.getD i (0, "", 0)))) (fun i => .ref (as.getD i 0)) rs.length = kb at g1 inK outK
  have hasK : ∀ z, (valV kb (.inr z)).isSome = decide (z ∈ rs.map item) := fun z => by
    by_cases c : z ∈ rs.map item
    · obtain ⟨r, hr, rfl⟩ := List.mem_map.mp c
      obtain ⟨i, hi, e⟩ := List.mem_iff_getElem.mp hr
      rw [inK i as[i] r (List.getElem?_eq_getElem (by omega)) (by rw [List.getElem?_eq_getElem hi, e]), decide_eq_true c]
      rfl
    · rw [outK z c, decide_eq_false c]; rfl
  -- marked
  have hz1 := bG1 _ _ nz hz
  refine seqU fun U hU => ?_
  walk_at "rd"
  refine ⟨⟨_, .inl (.inl hz1)⟩, lc_lst (fun v => match v with | .str z => if z ∈ rs.map item then some (V.str z) else none | _ => none) (.inl (.inl hz1)) (by rw [List.length_map]; exact Nat.lt_of_le_of_lt few (by decide)) (fun x H2 hx s2 => ?_) fun D2 H2 hD2 s2 hl2 => ?_⟩
  · obtain ⟨z, hz', rfl⟩ := List.mem_map.mp hx
    have ev : Evt (tTest (tOp (uIn K false) (tVar 4) (tAtt P w K mg base "by_item" (tVar 0)))) [some (.ref p), some (.ref l), some (.ref pz), none, some (.str z)] H2 (decide (z ∈ rs.map item)) := by
      intro Q' q'
      walk_at "rd"
      refine ⟨_, _, rfl, att_f T (s2 _ _ gp1) T.n_Frame_by_item (l_by _ _), .inr (.inr ⟨_, DGet.k (k := .inr z) (s2 _ _ g1), ?_⟩)⟩
      rw [hasK z]
      exact q' H2 (Same.refl _)
    refine ⟨[some (.ref p), some (.ref l), some (.ref pz), none, some (.str z)], rfl, fun R' h => h, ?_⟩
    show match (if z ∈ rs.map item then some (V.str z) else none) with | some y => _ | none => _
    by_cases c : z ∈ rs.map item
    · rw [decide_eq_true c] at ev
      rw [if_pos c]
      exact ⟨ev, fun H3 s3 Q' q' => ⟨_, rfl, q' H3 (Same.refl _)⟩⟩
    · rw [decide_eq_false c] at ev
      rw [if_neg c]
      exact ev
  rw [fm_filter] at hl2
  have n2 : D2 ≠ p := Ne.symm (ne_of_none gp1 hD2)
  refine ⟨p, _, dx, _, rfl, s2 _ _ gp1, T.cls_Frame, T.n_Frame_marked, (by show 1 < 1000; decide), ?_⟩
  rw [f_put2, hU]
  clear hU
  have bG2 : But p H (upd H2 p (.ins A.cFrame dx [(("by_item" : Str), V.ref D1), (("marked" : Str), V.ref D2)])) := (bG1.trans (But.same s2)).trans But.upd
  have g2 : upd H2 p (.ins A.cFrame dx [(("by_item" : Str), V.ref D1), (("marked" : Str), V.ref D2)]) D1 = some (.dK kb) := by rw [upd_ne n1]; exact s2 _ _ g1
  have gm2 : upd H2 p (.ins A.cFrame dx [(("by_item" : Str), V.ref D1), (("marked" : Str), V.ref D2)]) D2 = some (.lst ((mkd zs rs).map V.str)) := by rw [upd_ne n2]; exact hl2
  have gp2 := upd_same (H := H2) (a := p) (o := .ins A.cFrame dx [(("by_item" : Str), V.ref D1), (("marked" : Str), V.ref D2)])
  generalize upd H2 p (.ins A.cFrame dx [(("by_item" : Str), V.ref D1), (("marked" : Str), V.ref D2)]) = G2 at bG2 g2 gm2 gp2
  have ms : ∀ z ∈ mkd zs rs, z ∈ zs := fun z h => (List.mem_filter.mp h).1
  have mn : (mkd zs rs).Nodup := its.nd.sublist List.filter_sublist
  have ml : (mkd zs rs).length ≤ 60 := Nat.le_trans (List.length_filter_le _ _) few
  -- places
  have hz2 := bG2 _ _ nz hz
  refine seqU fun U hU => ?_
  walk_at "rd"
  simp only [tDc_eq, iList, tAtt, tVar, List.getElem?_cons_zero, List.getElem?_cons_succ, Option.some.injEq, exists_eq_left', V.ref.injEq]
  refine ⟨p, _, rfl, att_f T gp2 T.n_Frame_marked (l_mk _ _ _), D2, rfl, ⟨_, .inl (.inl gm2)⟩, ?_⟩
  refine dc_goes (goes_list (.inl (.inl gm2))) (fun i => .inr ((mkd zs rs).getD i "")) (fun i => .int (ix zs ((mkd zs rs).getD i "") : Nat)) (by rw [List.length_map]; exact Nat.lt_of_le_of_lt ml (by decide)) (fun i j hij hj e => ?_) (fun i x H3 hi s3 hx => ?_) fun D3 H3 hD3 s3 hl3 => ?_
  · rw [List.length_map] at hj
    have e := Sum.inr.inj e
    simp only [List.getD, List.getElem?_eq_getElem (show i < (mkd zs rs).length by omega), List.getElem?_eq_getElem hj, Option.getD_some] at e
    exact absurd e (List.pairwise_iff_getElem.mp mn i j (by omega) hj hij)
  · rw [List.length_map] at hi
    rw [List.getElem?_map, List.getElem?_eq_getElem hi] at hx
    obtain rfl := (Option.some.inj hx).symm
    have e1 : (mkd zs rs).getD i "" = (mkd zs rs)[i] := by simp [hi]
    rw [e1]
    refine ⟨[some (.ref p), some (.ref l), some (.ref pz), none, some (.str (mkd zs rs)[i])], rfl, fun R' h => h, Evt.yes, fun H4 s4 Q' q' => ⟨_, rfl, q' H4 (Same.refl _)⟩, fun H4 s4 Q' q' => ?_⟩
    have h4 := s4 _ _ (s3 _ _ hz2)
    exact ⟨_, rfl, .inl ⟨rfl, _, .inl (.inl h4)⟩, _, rfl, index_ok (.inl (.inl h4)) (ms _ (List.getElem_mem hi)) (q' H4 (Same.refl _))⟩
  have n3 : D3 ≠ p := Ne.symm (ne_of_none gp2 hD3)
  refine ⟨p, _, dx, _, rfl, s3 _ _ gp2, T.cls_Frame, T.n_Frame_places, (by show 2 < 1000; decide), ?_⟩
  rw [f_put3, hU]
  clear hU
  rw [List.length_map] at hl3
  have bG3 : But p H (upd H3 p (.ins A.cFrame dx [(("by_item" : Str), V.ref D1), (("marked" : Str), V.ref D2), (("places" : Str), V.ref D3)])) := (bG2.trans (But.same s3)).trans But.upd
  have g3 : upd H3 p (.ins A.cFrame dx [(("by_item" : Str), V.ref D1), (("marked" : Str), V.ref D2), (("places" : Str), V.ref D3)]) D1 = some (.dK kb) := by rw [upd_ne n1]; exact s3 _ _ g2
  have gm3 : upd H3 p (.ins A.cFrame dx [(("by_item" : Str), V.ref D1), (("marked" : Str), V.ref D2), (("places" : Str), V.ref D3)]) D2 = some (.lst ((mkd zs rs).map V.str)) := by rw [upd_ne n2]; exact s3 _ _ gm2
  have gq3 : upd H3 p (.ins A.cFrame dx [(("by_item" : Str), V.ref D1), (("marked" : Str), V.ref D2), (("places" : Str), V.ref D3)]) D3 = some (.dK (kvR (fun i => .inr ((mkd zs rs).getD i "")) (fun i => .int (ix zs ((mkd zs rs).getD i "") : Nat)) (mkd zs rs).length)) := by rw [upd_ne n3]; exact hl3
  have gp3 := upd_same (H := H3) (a := p) (o := .ins A.cFrame dx [(("by_item" : Str), V.ref D1), (("marked" : Str), V.ref D2), (("places" : Str), V.ref D3)])
  generalize upd H3 p (.ins A.cFrame dx [(("by_item" : Str), V.ref D1), (("marked" : Str), V.ref D2), (("places" : Str), V.ref D3)]) = G3 at bG3 g3 gm3 gq3 gp3
  have b3 : Book A G3 l as rs := ⟨bG3 _ _ nl b.lst, al, fun i a r h1 h2 => by
    obtain ⟨hk, d2, h⟩ := b.at_ i a r h1 h2
    exact ⟨hk, d2, bG3 _ _ (na a (List.mem_of_getElem? h1)) h⟩⟩
  walk_at "rd"
  refine ⟨3, _, fn_sign_of T, by decide, l, as, rs, rfl, b3, fun G4 s4 => ?_⟩
  refine ⟨p, _, dx, _, rfl, s4 _ _ gp3, T.cls_Frame, T.n_Frame_is_fronted, (by show 3 < 1000; decide), ?_⟩
  have efr : decide (V.str (sign1 rs) = A.kFRONTED) = isFr rs := by
    unfold isFr
    rw [Bool.eq_iff_iff]
    simp only [decide_eq_true_eq, Ads.kFRONTED, V.str.injEq]
  rw [f_put4, efr]
  refine q _ ((bG3.trans (But.same s4)).trans But.upd) ⟨dx, D1, D2, D3, kb, _, upd_same, by rw [upd_ne n1]; exact s4 _ _ g3, by rw [upd_ne n2]; exact s4 _ _ gm3, by rw [upd_ne n3]; exact s4 _ _ gq3, inK, outK, fun z hz => ?_⟩
  obtain ⟨i, hi, e⟩ := List.mem_iff_getElem.mp hz
  have q := kvR_some (key := fun i => .inr ((mkd zs rs).getD i "")) (val := fun i => .int (ix zs ((mkd zs rs).getD i "") : Nat)) (n := (mkd zs rs).length) (j := i) (fun i j hij hj e => ?_) hi
  · have e1 : (mkd zs rs).getD i "" = z := by simp [hi, e]
    rw [e1] at q
    exact q
  · have e := Sum.inr.inj e
    simp only [List.getD, List.getElem?_eq_getElem (show i < (mkd zs rs).length by omega), List.getElem?_eq_getElem hj, Option.getD_some] at e
    exact absurd e (List.pairwise_iff_getElem.mp mn i j (by omega) hj hij)
theorem mkr_frame (T : Tx K mg A) : Mkr P w K mg base 4 "Frame" A.cFrame (sp_finit A) := T.made_Frame.mkr sc_Frame_init (fun hr => d_Frame_init T.G hr) (p_finit T)
end
end K
namespace K
open PySem PySem.Spec PyProof.Rows L2 U ClX M
local macro_rules | `(tactic| walk_at "rd") => `(tactic| simp only [tSeq, tRet, tIfS, tAsg, tDrop, tNext, tNever, tRetN, tAndV, tOrV, tNotV, tAnd, tOr, tNot, tB, tTest, tChain, tCB, tCons, tNil, tVar, tC, tOp, tUn, tIf, gName, uLe, uLt, uGe, uGt, uCmp, uAdd, uSub, uMul, uDiv, uMod, uPow, uNeg, uEq, uNe, uIs, uIsNot, uIx, uIn, cIsi, cLen, cAll, cMax, cMin, cAbs, cSort, cSortD, cInt, cTuple, cRepr, cDict, cList, cSortS, tRevL, tDGet, tLstRg, tTupRg, tRg1, tRg2, sDPut, tDNewK, tAug, ipI, iZip, tLst, tTup, tPar, U.tPar3, tFn, tMkr, tMth, tFnK, tMthK, tAtt, sFld, tYes, tLc_eq, tFor_eq, iList, iStr, iRng1, iRng2, iEnum, tLenSetT, tSl, tPart, tNoPart, gTup, gCons, gNil, gSub, tBM, tBM0, List.getElem?_cons_zero, List.getElem?_cons_succ, List.set_cons_zero, List.set_cons_succ, Option.some.injEq, V.bl.injEq, V.int.injEq, V.str.injEq, V.ref.injEq, exists_eq_left', exists_eq_left, exists_eq_right, exists_eq_right', and_true, true_and, scal, if_true, Bool.false_eq_true, if_false, List.cons.injEq, exists_const, false_and, and_false, ite_true, ite_false, Bool.not_true, Bool.not_false])
section
variable {P : Program} {w : World} {K : PySem.W.Frag} {mg : Str → Option Value} {base : Heap} {A : Ads}
/-! ### rooms, shifts, bounds -/
def roomP (fr : Bool) (m : List Str) (z : Str) : Int := if fr = true then (m.length : Int) - 1 - (ix m z : Nat) else (ix m z : Nat)
def shiftP (fr : Bool) (zs : List Str) (z : Str) (s : Int) : Int := if fr = true then -(((ix zs z : Nat) : Int) - s) else ((ix zs z : Nat) : Int) - s
def lowP (fr : Bool) (zs m : List Str) (z : Str) : Int := if fr = true then (ix zs z : Nat) else ((ix zs z : Nat) : Int) - roomP fr m z
def highP (fr : Bool) (zs m : List Str) (z : Str) : Int := if fr = true then ((ix zs z : Nat) : Int) + roomP fr m z else (ix zs z : Nat)
/-- the index of the record of an item -/
def sl : List Rc → Str → Int
  | [], _ => 0
  | r :: rs, z => if item r = z then slot r else sl rs z
theorem sl_at : ∀ {rs : List Rc} {i : Nat} {r : Rc}, (rs.map item).Nodup → rs[i]? = some r → sl rs (item r) = slot r
  | r0 :: rs, 0, r, nd, h => by simp at h; subst h; simp [sl]
  | r0 :: rs, i + 1, r, nd, h => by
    have h : rs[i]? = some r := by simpa using h
    have nd' : ¬ item r0 ∈ rs.map item ∧ (rs.map item).Nodup := List.nodup_cons.mp nd
    unfold sl
    rw [if_neg (fun e => nd'.1 (by rw [e]; exact List.mem_map.mpr ⟨r, List.mem_of_getElem? h, rfl⟩))]
    exact sl_at nd'.2 h
theorem ix_filter (f : Str → Bool) : ∀ {zs : List Str} {z : Str}, zs.Nodup → z ∈ zs → f z = true → ix (zs.filter f) z = ((zs.take (ix zs z)).filter f).length
  | y :: zs, z, nd, h, hf => by
    have nd' := List.nodup_cons.mp nd
    by_cases e : y = z
    · subst e
      rw [List.filter_cons_of_pos hf]
      simp [ix]
    · have hz : z ∈ zs := by rcases List.mem_cons.mp h with e2 | e2; exact absurd e2.symm e; exact e2
      have ih := ix_filter f nd'.2 hz hf
      have e1 : ix (y :: zs) z = ix zs z + 1 := by simp [ix, e]
      rw [e1, List.take_succ_cons]
      cases c : f y with
      | true => rw [List.filter_cons_of_pos c, List.filter_cons_of_pos c, List.length_cons, ← ih]; simp [ix, e]
      | false => rw [List.filter_cons_of_neg (by simp [c]), List.filter_cons_of_neg (by simp [c]), ← ih]
theorem ix_bounds (f : Str → Bool) {zs : List Str} {z : Str} (nd : zs.Nodup) (h : z ∈ zs) (hf : f z = true) : ix (zs.filter f) z ≤ ix zs z ∧ (zs.filter f).length - ix (zs.filter f) z ≤ zs.length - ix zs z ∧ ix (zs.filter f) z < (zs.filter f).length := by
  have e := ix_filter f nd h hf
  have l := ix_lt h
  refine ⟨?_, ?_, ix_lt (List.mem_filter.mpr ⟨h, hf⟩)⟩
  · rw [e]
    exact Nat.le_trans (List.length_filter_le _ _) (by simp; omega)
  · have e2 : (zs.filter f).length = ((zs.take (ix zs z)).filter f).length + ((zs.drop (ix zs z)).filter f).length := by
      rw [← List.length_append, ← List.filter_append, List.take_append_drop]
    have e3 : ((zs.drop (ix zs z)).filter f).length ≤ zs.length - ix zs z := Nat.le_trans (List.length_filter_le _ _) (by simp)
    omega
theorem frame_range {zs : List Str} {rs : List Rc} {z : Str} (hz : Its zs) (h : z ∈ mkd zs rs) (fr : Bool) : 0 ≤ lowP fr zs (mkd zs rs) z ∧ lowP fr zs (mkd zs rs) z ≤ highP fr zs (mkd zs rs) z ∧ highP fr zs (mkd zs rs) z ≤ 59 := by
  obtain ⟨h1, h2⟩ := List.mem_filter.mp h
  obtain ⟨b1, b2, b3⟩ := ix_bounds (fun z => decide (z ∈ rs.map item)) hz.nd h1 h2
  have l := ix_lt h1
  have few := hz.few
  unfold lowP highP roomP
  unfold mkd
  cases fr
  · simp only [Bool.false_eq_true, if_false]
    refine ⟨?_, ?_, ?_⟩ <;> omega
  · simp only [if_true]
    refine ⟨?_, ?_, ?_⟩ <;> omega
def sp_room (A : Ads) : Sp := fun vs H Q _ => ∃ (p : Addr) (z : Str) (fr : Bool) (zs : List Str) (as : List Addr) (rs : List Rc), vs = [.ref p, .str z] ∧ Fm A H p fr zs as rs ∧ z ∈ mkd zs rs ∧ Q (.int (roomP fr (mkd zs rs) z)) H
theorem p_room (T : Tx K mg A) : Pur N_Frame_room ps_Frame_room (t_Frame_room P w K mg base A) (sp_room A) := by
  intro vs H Q E h
  obtain ⟨p, z, fr, zs, as, rs, rfl, F, hz, q⟩ := h
  refine ⟨rfl, ?_⟩
  obtain ⟨dx, pb, pm, pp, kb, kp, h1, h2, h3, h4, h5⟩ := F.ex
  show t_Frame_room P w K mg base A E _ [some (.ref p), some (.str z), none] H
  unfold t_Frame_room
  walk_at "rd"
  refine ⟨p, _, rfl, att_f T h1 T.n_Frame_marked (l_mk _ _ _), .inl ⟨rfl, _, .inl (.inl h3)⟩, index_ok (.inl (.inl h3)) hz ?_⟩
  refine ⟨p, _, rfl, att_f T h1 T.n_Frame_is_fronted (l_fr _ _ _ _ _), fr, rfl, ?_⟩
  cases fr
  · rw [if_neg (by decide)]
    exact q
  · rw [if_pos rfl]
    refine ⟨p, _, rfl, att_f T h1 T.n_Frame_marked (l_mk _ _ _), _, .inl (.inl (.inl h3)), ?_⟩
    rw [List.length_map]
    exact q
theorem mth_room (T : Tx K mg A) : Mth P w K mg base 3 A.cFrame "room" (sp_room A) := T.m_Frame_room.mth sc_Frame_room (fun hr => d_Frame_room T.G hr) (p_room T)
def sp_shift (A : Ads) : Sp := fun vs H Q _ => ∃ (p : Addr) (i : Nat) (a : Addr) (r : Rc) (fr : Bool) (zs : List Str) (as : List Addr) (rs : List Rc), vs = [.ref p, .str (item r)] ∧ Fm A H p fr zs as rs ∧ as[i]? = some a ∧ rs[i]? = some r ∧ Rec A H a r.1 r.2.1 r.2.2 ∧ item r ∈ mkd zs rs ∧ Q (.int (shiftP fr zs (item r) (slot r))) H
theorem p_shift (T : Tx K mg A) : Pur N_Frame_shift ps_Frame_shift (t_Frame_shift P w K mg base A) (sp_shift A) := by
  intro vs H Q E h
  obtain ⟨p, i, a, r, fr, zs, as, rs, rfl, F, ha, hr, rc, hz, q⟩ := h
  refine ⟨rfl, ?_⟩
  obtain ⟨dx, pb, pm, pp, kb, kp, h1, h2, h3, h4, h5, h6, h7⟩ := F.ex
  show t_Frame_shift P w K mg base A E _ [some (.ref p), some (.str (item r)), none] H
  unfold t_Frame_shift
  walk_at "rd"
  have g1 := DGet.k (k := .inr (item r)) h4
  rw [h7 _ hz] at g1
  have g2 := DGet.k (k := .inr (item r)) h2
  rw [h5 i a r ha hr] at g2
  refine ⟨p, _, rfl, att_f T h1 T.n_Frame_places (l_pl _ _ _ _), pp, _, rfl, g1, ?_⟩
  refine ⟨p, _, rfl, att_f T h1 T.n_Frame_by_item (l_by _ _), pb, _, rfl, g2, _, _, rfl, att_slot T rc, ?_⟩
  refine ⟨p, _, rfl, att_f T h1 T.n_Frame_is_fronted (l_fr _ _ _ _ _), fr, rfl, ?_⟩
  cases fr
  · rw [if_neg (by decide)]
    exact q
  · rw [if_pos rfl]
    exact q
theorem mth_shift (T : Tx K mg A) : Mth P w K mg base 3 A.cFrame "shift" (sp_shift A) := T.m_Frame_shift.mth sc_Frame_shift (fun hr => d_Frame_shift T.G hr) (p_shift T)
theorem fr_no {m : Str} {pb pm pp : Addr} {fr : Bool} (h1 : (m == ("by_item" : Str)) = false) (h2 : (m == ("marked" : Str)) = false) (h3 : (m == ("places" : Str)) = false) (h4 : (m == ("is_fronted" : Str)) = false) : (frF pb pm pp fr).lookup m = none := l_no _ _ _ _ h1 h2 h3 h4
/-! ### a log and a known list of it -/
structure Known (rs : List Rc) (zs : List Str) : Prop where
  log : isLog rs = true
  kind : ∀ r ∈ rs, r.1 < 3
  nd : (rs.map item).Nodup
  ok : ∀ r ∈ rs, RcOk r
  its : Its zs
  sub : ∀ r ∈ rs, item r ∈ zs
theorem Known.mk' {rs : List Rc} {zs : List Str} (k : Known rs zs) {r : Rc} (h : r ∈ rs) : item r ∈ mkd zs rs := List.mem_filter.mpr ⟨k.sub r h, decide_eq_true (List.mem_map.mpr ⟨r, h, rfl⟩)⟩
theorem mkd_in {rs : List Rc} {zs : List Str} {z : Str} (h : z ∈ mkd zs rs) : ∃ (i : Nat) (r : Rc), rs[i]? = some r ∧ item r = z := by
  have := of_decide_eq_true (List.mem_filter.mp h).2
  obtain ⟨r, hr, e⟩ := List.mem_map.mp this
  obtain ⟨i, hi, e2⟩ := List.mem_iff_getElem.mp hr
  exact ⟨i, r, by rw [List.getElem?_eq_getElem hi, e2], e⟩
end
end K
namespace K
open PySem PySem.Spec PyProof.Rows L2 U ClX M
local macro_rules | `(tactic| walk_at "rd") => `(tactic| simp only [tSeq, tRet, tIfS, tAsg, tDrop, tNext, tNever, tRetN, tAndV, tOrV, tNotV, tAnd, tOr, tNot, tB, tTest, tChain, tCB, tCons, tNil, tVar, tC, tOp, tUn, tIf, gName, uLe, uLt, uGe, uGt, uCmp, uAdd, uSub, uMul, uDiv, uMod, uPow, uNeg, uEq, uNe, uIs, uIsNot, uIx, uIn, cIsi, cLen, cAll, cMax, cMin, cAbs, cSort, cSortD, cInt, cTuple, cRepr, cDict, cList, cSortS, tRevL, tDGet, tLstRg, tTupRg, tRg1, tRg2, sDPut, tDNewK, tAug, ipI, iZip, tLst, tTup, tPar, U.tPar3, tFn, tMkr, tMth, tFnK, tMthK, tAtt, sFld, tYes, tLc_eq, tFor_eq, iList, iStr, iRng1, iRng2, iEnum, tLenSetT, tSl, tPart, tNoPart, gTup, gCons, gNil, gSub, tBM, tBM0, List.getElem?_cons_zero, List.getElem?_cons_succ, List.set_cons_zero, List.set_cons_succ, Option.some.injEq, V.bl.injEq, V.int.injEq, V.str.injEq, V.ref.injEq, exists_eq_left', exists_eq_left, exists_eq_right, exists_eq_right', and_true, true_and, scal, if_true, Bool.false_eq_true, if_false, List.cons.injEq, exists_const, false_and, and_false, ite_true, ite_false, Bool.not_true, Bool.not_false])
section
variable {P : Program} {w : World} {K : PySem.W.Frag} {mg : Str → Option Value} {base : Heap} {A : Ads}
def sp_low (A : Ads) : Sp := fun vs H Q _ => ∃ (p : Addr) (i : Nat) (a : Addr) (r : Rc) (fr : Bool) (zs : List Str) (as : List Addr) (rs : List Rc), vs = [.ref p, .str (item r)] ∧ Fm A H p fr zs as rs ∧ as[i]? = some a ∧ rs[i]? = some r ∧ Rec A H a r.1 r.2.1 r.2.2 ∧ item r ∈ mkd zs rs ∧ Q (.bl (decide (shiftP fr zs (item r) (slot r) < 0))) H
theorem p_low (T : Tx K mg A) : Pur N_Frame_is_low ps_Frame_is_low (t_Frame_is_low P w K mg base A) (sp_low A) := by
  intro vs H Q E h
  obtain ⟨p, i, a, r, fr, zs, as, rs, rfl, F, ha, hr, rc, hz, q⟩ := h
  refine ⟨rfl, ?_⟩
  obtain ⟨dx, pb, pm, pp, kb, kp, h1, h2, h3, h4, h5, h6, h7⟩ := F.ex
  show t_Frame_is_low P w K mg base A E _ [some (.ref p), some (.str (item r))] H
  unfold t_Frame_is_low
  walk_at "rd"
  exact ⟨p, _, dx, _, 3, _, rfl, h1, mth_shift T, by decide, fr_no (by decide +kernel) (by decide +kernel) (by decide +kernel) (by decide +kernel), p, i, _, r, fr, zs, as, rs, rfl, F, ha, hr, rc, hz, q⟩
theorem mth_low (T : Tx K mg A) : Mth P w K mg base 4 A.cFrame "is_low" (sp_low A) := T.m_Frame_is_low.mth sc_Frame_is_low (fun hr => d_Frame_is_low T.G hr) (p_low T)
def sp_high (A : Ads) : Sp := fun vs H Q _ => ∃ (p : Addr) (i : Nat) (a : Addr) (r : Rc) (fr : Bool) (zs : List Str) (as : List Addr) (rs : List Rc), vs = [.ref p, .str (item r)] ∧ Fm A H p fr zs as rs ∧ as[i]? = some a ∧ rs[i]? = some r ∧ Rec A H a r.1 r.2.1 r.2.2 ∧ item r ∈ mkd zs rs ∧ Q (.bl (decide (roomP fr (mkd zs rs) (item r) < shiftP fr zs (item r) (slot r)))) H
theorem p_high (T : Tx K mg A) : Pur N_Frame_is_high ps_Frame_is_high (t_Frame_is_high P w K mg base A) (sp_high A) := by
  intro vs H Q E h
  obtain ⟨p, i, a, r, fr, zs, as, rs, rfl, F, ha, hr, rc, hz, q⟩ := h
  refine ⟨rfl, ?_⟩
  obtain ⟨dx, pb, pm, pp, kb, kp, h1, h2, h3, h4, h5, h6, h7⟩ := F.ex
  show t_Frame_is_high P w K mg base A E _ [some (.ref p), some (.str (item r))] H
  unfold t_Frame_is_high
  walk_at "rd"
  refine ⟨p, _, dx, _, 3, _, rfl, h1, mth_shift T, by decide, fr_no (by decide +kernel) (by decide +kernel) (by decide +kernel) (by decide +kernel), p, i, _, r, fr, zs, as, rs, rfl, F, ha, hr, rc, hz, ?_⟩
  exact ⟨p, _, dx, _, 3, _, rfl, h1, mth_room T, by decide, fr_no (by decide +kernel) (by decide +kernel) (by decide +kernel) (by decide +kernel), p, _, fr, zs, as, rs, rfl, F, hz, q⟩
theorem mth_high (T : Tx K mg A) : Mth P w K mg base 4 A.cFrame "is_high" (sp_high A) := T.m_Frame_is_high.mth sc_Frame_is_high (fun hr => d_Frame_is_high T.G hr) (p_high T)
/-- the first fault among the items ms: low or not, the item -/
def faultL (fr : Bool) (zs m : List Str) (s : Str → Int) : List Str → Option (Bool × Str)
  | [] => none
  | z :: zs' => if shiftP fr zs z (s z) < 0 then some (true, z) else if roomP fr m z < shiftP fr zs z (s z) then some (false, z) else faultL fr zs m s zs'
def faultP (rs : List Rc) (zs : List Str) : Option (Bool × Str) := faultL (isFr rs) zs (mkd zs rs) (sl rs) (mkd zs rs)
def wordF (b : Bool) : Str := if b = true then "low" else "high"
/-- x is what reason returns for the fault f -/
def FaultV (H : Hp) (x : V) : Option (Bool × Str) → Prop
  | none => x = .non
  | some (b, z) => ∃ t, x = .ref t ∧ H t = some (.tup [.str (wordF b), .str z])
def sp_fault (A : Ads) : Sp := fun vs H Q _ => ∃ (p l : Addr) (as : List Addr) (rs : List Rc) (zs : List Str), vs = [.ref p] ∧ Fm A H p (isFr rs) zs as rs ∧ Book A H l as rs ∧ Known rs zs ∧ ∀ x H', Same H H' → FaultV H' x (faultP rs zs) → Q x H'
theorem p_fault (T : Tx K mg A) : Pur N_Frame_first_fault ps_Frame_first_fault (t_Frame_first_fault P w K mg base A) (sp_fault A) := by
  intro vs H Q E h
  obtain ⟨p, l, as, rs, zs, rfl, F, b, kn, q⟩ := h
  refine ⟨rfl, ?_⟩
  have al := b.len
  obtain ⟨dx, pb, pm, pp, kb, kp, h1, h2, h3, h4, h5, h6, h7⟩ := F.ex
  show t_Frame_first_fault P w K mg base A E _ [some (.ref p), none] H
  unfold t_Frame_first_fault
  refine seqU fun U hU => ?_
  walk_at "rd"
  refine ⟨p, _, rfl, att_f T h1 T.n_Frame_marked (l_mk _ _ _), pm, rfl, ⟨_, .inl (.inl h3)⟩, ?_⟩
  refine for_list (K := K) (a := pm) (xs := (mkd zs rs).map V.str) (fun i σ G => ∃ v1, σ = [some (.ref p), v1] ∧ G = H ∧ faultP rs zs = faultL (isFr rs) zs (mkd zs rs) (sl rs) ((mkd zs rs).drop i)) ⟨_, rfl, rfl, rfl⟩ (fun i σ G _ ⟨_, _, e, _⟩ => by rw [e]; exact .inl (.inl h3)) ?_ ?_
  · rintro i x σ G hx ⟨v1, rfl, rfl, ef⟩
    have hi : i < (mkd zs rs).length := by have := (List.getElem?_eq_some_iff.mp hx).1; simpa using this
    rw [List.getElem?_map, List.getElem?_eq_getElem hi] at hx
    obtain rfl := (Option.some.inj hx).symm
    have hz := List.getElem_mem hi
    rw [List.drop_eq_getElem_cons hi] at ef
    generalize (mkd zs rs)[i] = z at hz ef
    obtain ⟨k, r, hr, rfl⟩ := mkd_in hz
    have hk := (List.getElem?_eq_some_iff.mp hr).1
    have ha : as[k]? = some as[k] := List.getElem?_eq_getElem (by omega)
    have rc := b.at_ k _ r ha hr
    have es := sl_at kn.nd hr
    unfold faultL at ef
    rw [es] at ef
    walk_at "rd"
    refine ⟨p, _, dx, _, 4, _, rfl, h1, mth_low T, by decide, fr_no (by decide +kernel) (by decide +kernel) (by decide +kernel) (by decide +kernel), p, k, _, r, isFr rs, zs, as, rs, rfl, F, ha, hr, rc, hz, _, rfl, ?_⟩
    by_cases c1 : shiftP (isFr rs) zs (item r) (slot r) < 0
    · rw [if_pos c1] at ef
      rw [if_pos (decide_eq_true c1)]
      refine ⟨p, _, dx, _, 4, _, rfl, h1, mth_low T, by decide, fr_no (by decide +kernel) (by decide +kernel) (by decide +kernel) (by decide +kernel), p, k, _, r, isFr rs, zs, as, rs, rfl, F, ha, hr, rc, hz, _, rfl, ?_⟩
      rw [if_pos (decide_eq_true c1)]
      refine ⟨(by show 2 ≤ sizeLine; decide), fun t ht => q _ _ (Same.new ht) ?_⟩
      rw [ef]
      exact ⟨t, rfl, upd_same⟩
    · rw [if_neg c1] at ef
      rw [if_neg (by simpa using c1)]
      refine ⟨p, _, dx, _, 4, _, rfl, h1, mth_high T, by decide, fr_no (by decide +kernel) (by decide +kernel) (by decide +kernel) (by decide +kernel), p, k, _, r, isFr rs, zs, as, rs, rfl, F, ha, hr, rc, hz, _, rfl, ?_⟩
      by_cases c2 : roomP (isFr rs) (mkd zs rs) (item r) < shiftP (isFr rs) zs (item r) (slot r)
      · rw [if_pos c2] at ef
        rw [if_pos (decide_eq_true c2)]
        refine ⟨p, _, dx, _, 4, _, rfl, h1, mth_low T, by decide, fr_no (by decide +kernel) (by decide +kernel) (by decide +kernel) (by decide +kernel), p, k, _, r, isFr rs, zs, as, rs, rfl, F, ha, hr, rc, hz, _, rfl, ?_⟩
        rw [if_neg (by simpa using c1)]
        refine ⟨(by show 2 ≤ sizeLine; decide), fun t ht => q _ _ (Same.new ht) ?_⟩
        rw [ef]
        exact ⟨t, rfl, upd_same⟩
      · rw [if_neg c2] at ef
        rw [if_neg (by simpa using c2)]
        exact ⟨rfl, ef⟩
  · rintro σ G ⟨v1, rfl, rfl, ef⟩
    show U _ _
    rw [hU]
    clear hU
    walk_at "rd"
    rw [List.length_map, List.drop_length] at ef
    exact q _ _ (Same.refl _) (by rw [ef]; rfl)
theorem mth_fault (T : Tx K mg A) : Mth P w K mg base 5 A.cFrame "first_fault" (sp_fault A) := T.m_Frame_first_fault.mth sc_Frame_first_fault (fun hr => d_Frame_first_fault T.G hr) (p_fault T)
def sp_framed (A : Ads) : Sp := fun vs H Q _ => ∃ (l pz : Addr) (as : List Addr) (rs : List Rc) (zs : List Str), vs = [.ref l, .ref pz] ∧ Book A H l as rs ∧ H pz = some (.lst (zs.map V.str)) ∧ Known rs zs ∧ ∀ p H', H p = none → Same H H' → Fm A H' p (isFr rs) zs as rs → Q (.ref p) H'
theorem p_framed (T : Tx K mg A) : Pur N_framed ps_framed (t_framed P w K mg base A) (sp_framed A) := by
  intro vs H Q E h
  obtain ⟨l, pz, as, rs, zs, rfl, b, hz, kn, q⟩ := h
  refine ⟨rfl, ?_⟩
  have h40 := log_40 kn.log
  show t_framed P w K mg base A E _ [some (.ref l), some (.ref pz)] H
  unfold t_framed
  walk_at "rd"
  refine ⟨5, _, fn_need_log T, by decide, l, as, rs, rfl, b, kn.log, kn.kind, fun H1 s1 => ?_⟩
  refine ⟨4, _, fn_need_known T, by decide, l, pz, as, rs, zs, rfl, b.same s1, by omega, s1 _ _ hz, kn.its, kn.sub, fun H2 s2 => ?_⟩
  have b2 := (b.same s1).same s2
  have hz2 := s2 _ _ (s1 _ _ hz)
  refine ⟨4, _, _, mkr_frame T, by decide, fun p dx hp hdx ne => ?_⟩
  have s3 : Same H2 (upd (upd H2 dx (.own p)) p (.ins A.cFrame dx [])) := fun b o e => by rw [upd_ne (ne_of_none e hp), upd_ne (ne_of_none e hdx)]; exact e
  refine ⟨p, dx, l, pz, as, rs, zs, rfl, upd_same, b2.same s3, by omega, kn.nd, s3 _ _ hz2, kn.its, fun H' bt f => ⟨rfl, q p H' ((s1.trans s2).free hp) (fun b o e => ?_) f⟩⟩
  have e2 := s2 _ _ (s1 _ _ e)
  exact bt b o (ne_of_none e2 hp) (s3 _ _ e2)
theorem fn_framed (T : Tx K mg A) : Fn P w K mg base 6 "framed" (sp_framed A) := T.f_framed.fn sc_framed (fun hr => d_framed T.G hr) (p_framed T)
def sp_reason (A : Ads) : Sp := fun vs H Q _ => ∃ (l pz : Addr) (as : List Addr) (rs : List Rc) (zs : List Str), vs = [.ref l, .ref pz] ∧ Book A H l as rs ∧ H pz = some (.lst (zs.map V.str)) ∧ Known rs zs ∧ ∀ x H', Same H H' → FaultV H' x (faultP rs zs) → Q x H'
theorem p_reason (T : Tx K mg A) : Pur N_reason ps_reason (t_reason P w K mg base A) (sp_reason A) := by
  intro vs H Q E h
  obtain ⟨l, pz, as, rs, zs, rfl, b, hz, kn, q⟩ := h
  refine ⟨rfl, ?_⟩
  show t_reason P w K mg base A E _ [some (.ref l), some (.ref pz)] H
  unfold t_reason
  walk_at "rd"
  refine ⟨6, _, fn_framed T, by decide, l, pz, as, rs, zs, rfl, b, hz, kn, fun p H1 hp s1 F => ?_⟩
  have F0 := F
  obtain ⟨dx, pb, pm, pp, kb, kp, h1, h2⟩ := F.ex
  exact ⟨p, _, dx, _, 5, _, rfl, h1, mth_fault T, by decide, fr_no (by decide +kernel) (by decide +kernel) (by decide +kernel) (by decide +kernel), p, l, as, rs, zs, rfl, F0, b.same s1, kn, fun x H2 s2 f => q x H2 (s1.trans s2) f⟩
theorem fn_reason (T : Tx K mg A) : Fn P w K mg base 7 "reason" (sp_reason A) := T.f_reason.fn sc_reason (fun hr => d_reason T.G hr) (p_reason T)
theorem fnK_reason (T : Tx K mg A) : FnK P w K mg base 7 "reason" ["items", "log"] swap2 (sp_reason A) := T.f_reason.fnKG (g := swap2) sc_reason (fun hr => d_reason T.G hr) (p_reason T) swap2_rel fun _ _ _ _ _ _ ws h => match ws, h with | [_, _], _ => rfl
/-! ### what a fault shows -/
def dF : Option (Bool × Str) → PyData
  | none => .none
  | some (b, z) => .tuple [.str (wordF b), .str z]
theorem wordF_ok (b : Bool) : PyData.strOk (wordF b) = true := by cases b <;> decide +kernel
end
end K
namespace K
open PySem PySem.Spec PyProof.Rows L2 U ClX M
local macro_rules | `(tactic| walk_at "rd") => `(tactic| simp only [tSeq, tRet, tIfS, tAsg, tDrop, tNext, tNever, tRetN, tAndV, tOrV, tNotV, tAnd, tOr, tNot, tB, tTest, tChain, tCB, tCons, tNil, tVar, tC, tOp, tUn, tIf, gName, uLe, uLt, uGe, uGt, uCmp, uAdd, uSub, uMul, uDiv, uMod, uPow, uNeg, uEq, uNe, uIs, uIsNot, uIx, uIn, cIsi, cLen, cAll, cMax, cMin, cAbs, cSort, cSortD, cInt, cTuple, cRepr, cDict, cList, cSortS, tRevL, tDGet, tLstRg, tTupRg, tRg1, tRg2, sDPut, tDNewK, tAug, ipI, iZip, tLst, tTup, tPar, U.tPar3, tFn, tMkr, tMth, tFnK, tMthK, tAtt, sFld, tYes, tLc_eq, tFor_eq, iList, iStr, iRng1, iRng2, iEnum, tLenSetT, tSl, tPart, tNoPart, gTup, gCons, gNil, gSub, tBM, tBM0, List.getElem?_cons_zero, List.getElem?_cons_succ, List.set_cons_zero, List.set_cons_succ, Option.some.injEq, V.bl.injEq, V.int.injEq, V.str.injEq, V.ref.injEq, exists_eq_left', exists_eq_left, exists_eq_right, exists_eq_right', and_true, true_and, scal, if_true, Bool.false_eq_true, if_false, List.cons.injEq, exists_const, false_and, and_false, ite_true, ite_false, Bool.not_true, Bool.not_false])
section
variable {P : Program} {w : World} {K : PySem.W.Frag} {mg : Str → Option Value} {base : Heap} {A : Ads}
/-! ### lists of pairs (item, index) -/
structure Prs (H : Hp) (p : Addr) (ts : List Addr) (ps : List (Str × Int)) : Prop where
  lst : H p = some (.lst (ts.map V.ref))
  len : ts.length = ps.length
  at_ : ∀ (i : Nat) (t : Addr) (q : Str × Int), ts[i]? = some t → ps[i]? = some q → H t = some (.tup [.str q.1, .int q.2])
theorem Prs.same {H H' : Hp} {p : Addr} {ts : List Addr} {ps : List (Str × Int)} (h : Prs H p ts ps) (s : Same H H') : Prs H' p ts ps := ⟨s _ _ h.lst, h.len, fun i t q h1 h2 => s _ _ (h.at_ i t q h1 h2)⟩
theorem Tape.nt {H : Hp} {tp t : Addr} {c : Int} {xs : List V} (tp' : Tape H tp c) (h : H t = some (.tup xs)) : t ≠ tp := fun e => by obtain ⟨ys, hy, _⟩ := tp'; rw [e, hy] at h; cases h
theorem Prs.but {H H' : Hp} {p tp : Addr} {c : Int} {ts : List Addr} {ps : List (Str × Int)} (h : Prs H p ts ps) (t : Tape H tp c) (b : But tp H H') (np : p ≠ tp) : Prs H' p ts ps :=
  ⟨b _ _ np h.lst, h.len, fun i t' q h1 h2 => b _ _ (t.nt (h.at_ i t' q h1 h2)) (h.at_ i t' q h1 h2)⟩
theorem Prs.get {H : Hp} {p : Addr} {ts : List Addr} {ps : List (Str × Int)} (h : Prs H p ts ps) {i : Nat} {x : V} (e : (ts.map V.ref)[i]? = some x) : ∃ t q, x = .ref t ∧ ts[i]? = some t ∧ ps[i]? = some q ∧ H t = some (.tup [.str q.1, .int q.2]) := by
  rw [List.getElem?_map] at e
  cases e1 : ts[i]? with
  | none => rw [e1] at e; cases e
  | some t =>
    rw [e1] at e
    have hi : i < ps.length := by rw [← h.len]; exact (List.getElem?_eq_some_iff.mp e1).1
    exact ⟨t, ps[i], (Option.some.inj e).symm, rfl, List.getElem?_eq_getElem hi, h.at_ i t _ e1 (List.getElem?_eq_getElem hi)⟩
/-- one pair more -/
theorem Prs.snoc {H : Hp} {p t : Addr} {ts : List Addr} {ps : List (Str × Int)} {q : Str × Int} (h : Prs H p ts ps) (ht : H t = some (.tup [.str q.1, .int q.2])) (o : HO) (ho : o = .lst (ts.map V.ref ++ [.ref t])) : Prs (upd H p o) p (ts ++ [t]) (ps ++ [q]) := by
  subst ho
  have nt : ∀ {t' : Addr} {xs : List V}, H t' = some (.tup xs) → t' ≠ p := fun {t' xs} z e => by rw [e, h.lst] at z; cases z
  refine ⟨by rw [upd_same, List.map_append]; rfl, by simp [h.len], fun i t' q' h1 h2 => ?_⟩
  have hl := h.len
  by_cases c : i < ts.length
  · rw [List.getElem?_append_left c] at h1
    rw [List.getElem?_append_left (by omega)] at h2
    have z := h.at_ i t' q' h1 h2
    rw [upd_ne (nt z)]; exact z
  · rw [List.getElem?_append_right (by omega)] at h1
    rw [List.getElem?_append_right (by omega)] at h2
    by_cases e : i = ts.length
    · rw [show i - ts.length = 0 by omega] at h1
      rw [show i - ps.length = 0 by omega] at h2
      simp at h1 h2
      subst h1; subst h2
      rw [upd_ne (nt ht)]; exact ht
    · rw [List.getElem?_eq_none (by simp; omega)] at h1
      cases h1
/-- the same pairs in another order -/
theorem Prs.perm {H H' : Hp} {p p' : Addr} {ts : List Addr} {ps : List (Str × Int)} {ys : List V} (h : Prs H p ts ps) (kp : ∀ t, (∃ xs, H t = some (.tup xs)) → H' t = H t) (h' : H' p' = some (.lst ys)) (pm : ys.Perm (ts.map V.ref)) : ∃ ts' ps', Prs H' p' ts' ps' ∧ ps'.Perm ps := by
  let pr : Addr → Str × Int := fun t => match H t with | some (.tup [.str z, .int m]) => (z, m) | _ => ("", 0)
  have refs : ∃ ts' : List Addr, ys = ts'.map V.ref ∧ ts'.Perm ts := by
    have e : ∀ l : List Addr, (l.map V.ref).filterMap (fun v => match v with | .ref a => some a | _ => none) = l := fun l => by
      rw [List.filterMap_map]; exact List.filterMap_some
    refine ⟨ys.filterMap (fun v => match v with | .ref a => some a | _ => none), ?_, by have := pm.filterMap (fun v => match v with | .ref a => some a | _ => none); rwa [e] at this⟩
    have all : ∀ y ∈ ys, ∃ a, y = V.ref a := fun y hy => by obtain ⟨a, _, e⟩ := List.mem_map.mp (pm.mem_iff.mp hy); exact ⟨a, e.symm⟩
    clear pm h'
    induction ys with
    | nil => rfl
    | cons y ys ih =>
      obtain ⟨a, rfl⟩ := all y List.mem_cons_self
      rw [List.filterMap_cons]
      simp only [List.map_cons]
      rw [← ih fun y hy => all y (List.mem_cons_of_mem _ hy)]
  obtain ⟨ts', rfl, pt⟩ := refs
  have ep : ps = ts.map pr := by
    refine List.ext_getElem (by simp [h.len]) fun i h1 h2 => ?_
    have hi : i < ts.length := by simpa using h2
    have z := h.at_ i ts[i] ps[i] (List.getElem?_eq_getElem hi) (List.getElem?_eq_getElem h1)
    rw [List.getElem_map]
    show ps[i] = pr ts[i]
    simp only [pr, z]
  refine ⟨ts', ts'.map pr, ⟨h', by simp, fun i t q h1 h2 => ?_⟩, by rw [ep]; exact pt.map pr⟩
  rw [List.getElem?_map, h1] at h2
  obtain rfl := Option.some.inj h2
  obtain ⟨j, hj, e⟩ := List.mem_iff_getElem.mp (pt.mem_iff.mp (List.mem_of_getElem? h1))
  have hl := h.len
  have z := h.at_ j t ps[j] (by rw [List.getElem?_eq_getElem hj, e]) (List.getElem?_eq_getElem (by omega))
  rw [kp t ⟨_, z⟩]
  show H t = some (.tup [.str (pr t).1, .int (pr t).2])
  simp only [pr, z]
/-! ### the list after a record -/
def playP (kd : Nat) (zs : List Str) (z : Str) (i : Nat) : List Str := match kd with
  | 0 => zs.take i ++ [z] ++ zs.drop i
  | 1 => zs.take i ++ zs.drop (i + 1)
  | _ => [z] ++ (zs.take i ++ zs.drop (i + 1))
def sp_played : Sp := fun vs H Q _ => ∃ (a : Addr) (kd i : Nat) (zs : List Str) (z : Str), vs = [.int kd, .ref a, .str z, .int i] ∧ kd < 3 ∧ H a = some (.lst (zs.map V.str)) ∧ zs.length ≤ 100 ∧ (kd = 0 → z ∉ zs ∧ i ≤ zs.length) ∧ (kd ≠ 0 → zs[i]? = some z) ∧
  ∀ (p : Addr) (H' : Hp), H p = none → Same H H' → H' p = some (.lst ((playP kd zs z i).map V.str)) → Q (.ref p) H'
theorem p_played (T : Tx K mg A) : Pur N_law_played ps_law_played (t_law_played P w K mg base A) sp_played := by
  intro vs H Q E h
  obtain ⟨a, kd, i, zs, z, rfl, hk, ha, zl, c0, c1, q⟩ := h
  refine ⟨rfl, ?_⟩
  show t_law_played P w K mg base A E _ [some (.int kd), some (.ref a), some (.str z), some (.int i), none, none] H
  unfold t_law_played
  refine seqU fun U hU => ?_
  walk_at "rd"
  by_cases k0 : kd = 0
  · subst k0
    obtain ⟨nz, il⟩ := c0 rfl
    rw [if_pos (by decide)]
    refine .inl ⟨_, .inl (.inl (.inl ha)), rfl, flat_strs _, ?_⟩
    rw [inV_str, decide_eq_false nz]
    walk_at "rd"
    refine ⟨_, .inl (.inl (.inl ha)), ?_⟩
    rw [List.length_map, decide_eq_true (show (i : Int) ≤ (zs.length : Nat) by omega)]
    walk_at "rd"
    refine ⟨a, _, rfl, .inl (.inl ha), fun p1 hp1 => ?_⟩
    have u1 := Same.new (o := .lst (cutV (zs.map V.str) none (some (i : Int)))) hp1
    refine ⟨(by show 1 ≤ sizeLine; decide), fun p2 hp2 => ?_⟩
    have u2 := Same.new (o := .lst [.str z]) hp2
    refine ⟨_, _, u2 _ _ upd_same, upd_same, Nat.le_trans (by rw [cut_to]; simp; omega : _ ≤ 1000) (by decide), fun p3 hp3 => ?_⟩
    have u3 := Same.new (o := .lst (cutV (zs.map V.str) none (some (i : Int)) ++ [V.str z])) hp3
    have U3 := (u1.trans u2).trans u3
    refine ⟨a, _, rfl, .inl (.inl (U3 _ _ ha)), fun p4 hp4 => ?_⟩
    have u4 := Same.new (o := .lst (cutV (zs.map V.str) (some (i : Int)) none)) hp4
    refine ⟨_, _, u4 _ _ upd_same, upd_same, Nat.le_trans (by rw [cut_to, cut_from]; simp; omega : _ ≤ 1000) (by decide), fun p5 hp5 => ?_⟩
    refine q p5 _ ((U3.trans u4).free hp5) ((U3.trans u4).trans (Same.new hp5)) ?_
    rw [upd_same, cut_to, cut_from]
    simp [playP]
  · rw [if_neg (by simpa using k0)]
    show U _ _
    rw [hU]
    clear hU
    have hi := c1 k0
    have hil := (List.getElem?_eq_some_iff.mp hi).1
    refine seqU fun U hU => ?_
    walk_at "rd"
    refine ⟨_, .inl (.inl (.inl ha)), ?_⟩
    rw [List.length_map, if_neg (by simp only [decide_eq_true_eq]; omega)]
    refine ⟨_, _, .inl (.inl (.inl ha)), at_of (j := i) rfl (by rw [List.getElem?_map, hi]; rfl), ?_⟩
    walk_at "rd"
    rw [if_neg (by simp)]
    show U _ _
    rw [hU]
    clear hU
    refine seqU fun U hU => ?_
    walk_at "rd"
    refine ⟨a, _, rfl, .inl (.inl ha), fun p1 hp1 => ?_⟩
    have u1 := Same.new (o := .lst (cutV (zs.map V.str) none (some (i : Int)))) hp1
    refine ⟨a, _, rfl, .inl (.inl (u1 _ _ ha)), fun p2 hp2 => ?_⟩
    have e1 : (i : Int) + 1 = ((i + 1 : Nat) : Int) := by push_cast; rfl
    rw [e1] at *
    have u2 := Same.new (o := .lst (cutV (zs.map V.str) (some ((i + 1 : Nat) : Int)) none)) hp2
    refine ⟨_, _, u2 _ _ upd_same, upd_same, Nat.le_trans (by rw [cut_to, cut_from]; simp; omega : _ ≤ 1000) (by decide), fun p3 hp3 => ?_⟩
    have u3 := Same.new (o := .lst (cutV (zs.map V.str) none (some (i : Int)) ++ cutV (zs.map V.str) (some ((i + 1 : Nat) : Int)) none)) hp3
    have U3 := (u1.trans u2).trans u3
    have g3 : upd (upd (upd H p1 (.lst (cutV (zs.map V.str) none (some (i : Int))))) p2 (.lst (cutV (zs.map V.str) (some ((i + 1 : Nat) : Int)) none))) p3 (.lst (cutV (zs.map V.str) none (some (i : Int)) ++ cutV (zs.map V.str) (some ((i + 1 : Nat) : Int)) none)) p3 = some (.lst ((zs.take i ++ zs.drop (i + 1)).map V.str)) := by
      rw [upd_same, cut_to, cut_from]; simp
    have f3 : H p3 = none := (u1.trans u2).free hp3
    generalize upd (upd (upd H p1 (.lst (cutV (zs.map V.str) none (some (i : Int))))) p2 (.lst (cutV (zs.map V.str) (some ((i + 1 : Nat) : Int)) none))) p3 (.lst (cutV (zs.map V.str) none (some (i : Int)) ++ cutV (zs.map V.str) (some ((i + 1 : Nat) : Int)) none)) = H3 at U3 g3
    rw [hU]
    clear hU
    walk_at "rd"
    by_cases k1 : kd = 1
    · subst k1
      rw [if_pos (by decide)]
      exact q p3 H3 f3 U3 g3
    · rw [if_neg (by simp only [decide_eq_true_eq]; omega)]
      obtain rfl : kd = 2 := by omega
      refine ⟨(by show 1 ≤ sizeLine; decide), fun p4 hp4 => ?_⟩
      have u4 := Same.new (o := .lst [.str z]) hp4
      refine ⟨_, _, upd_same, u4 _ _ g3, Nat.le_trans (by simp; omega : _ ≤ 1000) (by decide), fun p5 hp5 => ?_⟩
      refine q p5 _ ((U3.trans u4).free hp5) ((U3.trans u4).trans (Same.new hp5)) ?_
      rw [upd_same]
      simp [playP]
theorem fn_played (T : Tx K mg A) : Fn P w K mg base 2 "_law_played" sp_played := T.f_law_played.fn sc_law_played (fun hr => d_law_played T.G hr) (p_played T)
/-! ### pairs of records -/
def prR (rs : List Rc) : List (Str × Int) := rs.map fun r => (r.2.1, r.2.2)
/-- the pairs as data -/
def dP (ps : List (Str × Int)) : PyData := .list (ps.map fun q => .tuple [.str q.1, .int q.2])
theorem Prs.dp {H : Hp} {p : Addr} {ts : List Addr} {ps : List (Str × Int)} (h : Prs H p ts ps) : Dp K H (.ref p) (dP ps) := by
  refine .lst (.inl (.inl h.lst)) (Rel2.dpa ⟨by simp [h.len], fun i x d h1 h2 => ?_⟩)
  obtain ⟨t, q, rfl, ht, hq, z⟩ := h.get h1
  rw [List.getElem?_map, hq] at h2
  obtain rfl := Option.some.inj h2
  exact .tup (.inl (.inl z)) (.cons (.str _) (.cons (.int _) .nil))
def sp_pairs (A : Ads) : Sp := fun vs H Q _ => ∃ (l : Addr) (as : List Addr) (rs : List Rc), vs = [.ref l] ∧ Book A H l as rs ∧ rs.length ≤ 1000 ∧ ∀ p ts H', H p = none → Same H H' → Prs H' p ts (prR rs) → Q (.ref p) H'
/-- v is the pair q -/
def PrV (H : Hp) (v : V) (q : Str × Int) : Prop := ∃ t, v = .ref t ∧ H t = some (.tup [.str q.1, .int q.2])
theorem prs_of {H : Hp} {p : Addr} {xs : List V} {ps : List (Str × Int)} (h : H p = some (.lst xs)) (r : Rel2 (PrV H) xs ps) : ∃ ts, Prs H p ts ps := by
  suffices q : ∀ (xs : List V) (ps : List (Str × Int)), Rel2 (PrV H) xs ps → ∃ ts : List Addr, xs = ts.map V.ref ∧ ts.length = ps.length ∧ ∀ (i : Nat) (t : Addr) (q : Str × Int), ts[i]? = some t → ps[i]? = some q → H t = some (.tup [.str q.1, .int q.2]) by
    obtain ⟨ts, e, hl, ha⟩ := q xs ps r
    exact ⟨ts, by rw [h, e], hl, ha⟩
  intro xs
  induction xs with
  | nil => intro ps r; exact ⟨[], rfl, by simpa using r.len, fun i a r h => by simp at h⟩
  | cons x xs ih =>
    intro ps r
    cases ps with
    | nil => exact absurd r.len (by simp)
    | cons q0 ps =>
      obtain ⟨a, rfl, ra⟩ := r.at_ 0 x q0 rfl rfl
      obtain ⟨ts, e, hl, ha⟩ := ih ps ⟨by have := r.len; simpa using this, fun i y e h1 h2 => r.at_ (i + 1) y e (by simpa using h1) (by simpa using h2)⟩
      refine ⟨a :: ts, by rw [e]; rfl, by simp [hl], fun i b r' h1 h2 => ?_⟩
      cases i with
      | zero => simp at h1 h2; subst h1; subst h2; exact ra
      | succ i => exact ha i b r' (by simpa using h1) (by simpa using h2)
theorem p_pairs (T : Tx K mg A) : Pur N_law_pairs ps_law_pairs (t_law_pairs P w K mg base A) (sp_pairs A) := by
  intro vs H Q E h
  obtain ⟨l, as, rs, rfl, b, hn, q⟩ := h
  refine ⟨rfl, ?_⟩
  show t_law_pairs P w K mg base A E _ [some (.ref l), none] H
  unfold t_law_pairs
  walk_at "rd"
  refine ⟨⟨_, .inl (.inl b.lst)⟩, ?_⟩
  refine lc_rel (Rl := PrV) (fun _ _ _ _ s ⟨t, e, h⟩ => ⟨t, e, s _ _ h⟩) (goes_list (.inl (.inl b.lst))) (fun i => (rs[i]?).map fun r => (r.2.1, r.2.2)) (by rw [book_len b]; exact Nat.lt_of_le_of_lt hn (by decide)) (fun i x G D hi s hx hD hacc => ?_) fun D G xs hD s hy ry => ?_
  · obtain ⟨a, r, rfl, ha, hr, rc⟩ := (b.same s).get hx
    rw [hr]
    obtain ⟨acc, hacc⟩ := hacc
    refine ⟨[some (.ref l), some (.ref a)], rfl, fun R' h => h, Evt.yes, fun G2 s2 Q' q' => ?_⟩
    walk_at "rd"
    refine ⟨_, _, rfl, att_item T (rc.same s2), _, _, rfl, att_slot T (rc.same s2), (by show 2 ≤ sizeLine; decide), fun p hp => q' _ _ (Same.new hp) ⟨p, rfl, hide_get upd_same (Ne.symm (ne_of_none (s2 _ _ hacc) hp))⟩⟩
  · have e2 : (List.range (as.map V.ref).length).filterMap (fun i => (rs[i]?).map fun r => (r.2.1, r.2.2)) = prR rs := by
      have e := range_list (fun r : Rc => some (r.2.1, r.2.2)) rs
      rw [List.filterMap_eq_map'] at e
      rw [book_len b]
      refine Eq.trans ?_ e
      congr 1
      funext k
      cases rs[k]? <;> rfl
    rw [e2] at ry
    obtain ⟨ts, pr⟩ := prs_of hy (ry.imp fun y r ⟨t, e, h⟩ => ⟨t, e, hide_same _ _ h⟩)
    exact q D ts G hD s pr
theorem fn_pairs (T : Tx K mg A) : Fn P w K mg base 3 "_law_pairs" (sp_pairs A) := T.f_law_pairs.fn sc_law_pairs (fun hr => d_law_pairs T.G hr) (p_pairs T)
end
end K
namespace K
open PySem PySem.Spec PyProof.Rows L2 U ClX M
local macro_rules | `(tactic| walk_at "rd") => `(tactic| simp only [tSeq, tRet, tIfS, tAsg, tDrop, tNext, tNever, tRetN, tAndV, tOrV, tNotV, tAnd, tOr, tNot, tB, tTest, tChain, tCB, tCons, tNil, tVar, tC, tOp, tUn, tIf, gName, uLe, uLt, uGe, uGt, uCmp, uAdd, uSub, uMul, uDiv, uMod, uPow, uNeg, uEq, uNe, uIs, uIsNot, uIx, uIn, cIsi, cLen, cAll, cMax, cMin, cAbs, cSort, cSortD, cInt, cTuple, cRepr, cDict, cList, cSortS, tRevL, tDGet, tLstRg, tTupRg, tRg1, tRg2, sDPut, tDNewK, tAug, ipI, iZip, tLst, tTup, tPar, U.tPar3, tFn, tMkr, tMth, tFnK, tMthK, tAtt, sFld, tYes, tLc_eq, tFor_eq, iList, iStr, iRng1, iRng2, iEnum, tLenSetT, tSl, tPart, tNoPart, gTup, gCons, gNil, gSub, tBM, tBM0, List.getElem?_cons_zero, List.getElem?_cons_succ, List.set_cons_zero, List.set_cons_succ, Option.some.injEq, V.bl.injEq, V.int.injEq, V.str.injEq, V.ref.injEq, exists_eq_left', exists_eq_left, exists_eq_right, exists_eq_right', and_true, true_and, scal, if_true, Bool.false_eq_true, if_false, List.cons.injEq, exists_const, false_and, and_false, ite_true, ite_false, Bool.not_true, Bool.not_false])
section
variable {P : Program} {w : World} {K : PySem.W.Frag} {mg : Str → Option Value} {base : Heap} {A : Ads}
def sp_bounds (A : Ads) : Sp := fun vs H Q _ => ∃ (p : Addr) (z : Str) (fr : Bool) (zs : List Str) (as : List Addr) (rs : List Rc), vs = [.ref p, .str z] ∧ Fm A H p fr zs as rs ∧ z ∈ mkd zs rs ∧ ∀ t, H t = none → Q (.ref t) (upd H t (.tup [.int (lowP fr zs (mkd zs rs) z), .int (highP fr zs (mkd zs rs) z)]))
theorem p_bounds (T : Tx K mg A) : Pur N_Frame_bounds ps_Frame_bounds (t_Frame_bounds P w K mg base A) (sp_bounds A) := by
  intro vs H Q E h
  obtain ⟨p, z, fr, zs, as, rs, rfl, F, hz, q⟩ := h
  refine ⟨rfl, ?_⟩
  obtain ⟨dx, pb, pm, pp, kb, kp, h1, h2, h3, h4, h5, h6, h7⟩ := F.ex
  show t_Frame_bounds P w K mg base A E _ [some (.ref p), some (.str z), none, none] H
  unfold t_Frame_bounds
  walk_at "rd"
  have g1 := DGet.k (k := .inr z) h4
  rw [h7 _ hz] at g1
  refine ⟨p, _, rfl, att_f T h1 T.n_Frame_places (l_pl _ _ _ _), pp, _, rfl, g1, ?_⟩
  refine ⟨p, _, dx, _, 3, _, rfl, h1, mth_room T, by decide, fr_no (by decide +kernel) (by decide +kernel) (by decide +kernel) (by decide +kernel), p, z, fr, zs, as, rs, rfl, F, hz, _, _, ⟨rfl, rfl⟩, ?_⟩
  refine ⟨p, _, rfl, att_f T h1 T.n_Frame_is_fronted (l_fr _ _ _ _ _), fr, rfl, ?_⟩
  cases fr
  · rw [if_neg (by decide)]
    exact ⟨(by show 2 ≤ sizeLine; decide), q⟩
  · rw [if_pos rfl]
    exact ⟨(by show 2 ≤ sizeLine; decide), q⟩
theorem mth_bounds (T : Tx K mg A) : Mth P w K mg base 4 A.cFrame "bounds" (sp_bounds A) := T.m_Frame_bounds.mth sc_Frame_bounds (fun hr => d_Frame_bounds T.G hr) (p_bounds T)
/-! ### index_range -/
def sp_range (A : Ads) : Sp := fun vs H Q _ => ∃ (l pz : Addr) (as : List Addr) (rs : List Rc) (zs : List Str) (z : Str), vs = [.ref l, .ref pz, .str z] ∧ Book A H l as rs ∧ H pz = some (.lst (zs.map V.str)) ∧ Known rs zs ∧ z ∈ mkd zs rs ∧ ∀ t H', H t = none → Same H H' → H' t = some (.tup [.int (lowP (isFr rs) zs (mkd zs rs) z), .int (highP (isFr rs) zs (mkd zs rs) z)]) → Q (.ref t) H'
theorem p_range (T : Tx K mg A) : Pur N_index_range ps_index_range (t_index_range P w K mg base A) (sp_range A) := by
  intro vs H Q E h
  obtain ⟨l, pz, as, rs, zs, z, rfl, b, hz, kn, zm, q⟩ := h
  refine ⟨rfl, ?_⟩
  show t_index_range P w K mg base A E _ [some (.ref l), some (.ref pz), some (.str z), none] H
  unfold t_index_range
  refine seqU fun U hU => ?_
  walk_at "rd"
  refine ⟨6, _, fn_framed T, by decide, l, pz, as, rs, zs, rfl, b, hz, kn, fun p H1 hp s1 F => ?_⟩
  rw [hU]
  clear hU
  have F0 := F
  obtain ⟨dx, pb, pm, pp, kb, kp, h1, h2, h3, h4, h5, h6, h7⟩ := F.ex
  walk_at "rd"
  refine ⟨p, _, rfl, att_f T h1 T.n_Frame_by_item (l_by _ _), Or.inr (Or.inr ⟨_, DGet.k (k := .inr z) h2, ?_⟩)⟩
  obtain ⟨i, r, hr, rfl⟩ := mkd_in zm
  have al := b.len
  have hi := (List.getElem?_eq_some_iff.mp hr).1
  rw [h5 i as[i] r (List.getElem?_eq_getElem (by omega)) hr, if_neg (by simp)]
  refine ⟨p, _, dx, _, 4, _, rfl, h1, mth_bounds T, by decide, fr_no (by decide +kernel) (by decide +kernel) (by decide +kernel) (by decide +kernel), p, _, isFr rs, zs, as, rs, rfl, F0, zm, fun t ht => q t _ (s1.free ht) (s1.trans (Same.new ht)) upd_same⟩
def rev3 {α : Type} : List α → List α | [a, b, c] => [c, b, a] | l => l
theorem rev3_rel {zs : List V} {ws : List Value} (r : Vals zs ws) : Vals (rev3 zs) (rev3 ws) := by
  cases r with
  | nil => exact .nil
  | cons a r =>
    cases r with
    | nil => exact .cons a .nil
    | cons b r =>
      cases r with
      | nil => exact .cons a (.cons b .nil)
      | cons c r =>
        cases r with
        | nil => exact .cons c (.cons b (.cons a .nil))
        | cons d r => exact .cons a (.cons b (.cons c (.cons d r)))
theorem fn_range (T : Tx K mg A) : Fn P w K mg base 7 "index_range" (sp_range A) := T.f_index_range.fn sc_index_range (fun hr => d_index_range T.G hr) (p_range T)
theorem fnK_range (T : Tx K mg A) : FnK P w K mg base 7 "index_range" ["item", "items", "log"] rev3 (sp_range A) := T.f_index_range.fnKG (g := rev3) sc_index_range (fun hr => d_index_range T.G hr) (p_range T) rev3_rel fun _ _ _ _ _ _ ws h => match ws, h with | [_, _, _], _ => rfl
end
end K
namespace K
open PySem PySem.Spec PyProof.Rows L2 U ClX M
local macro_rules | `(tactic| walk_at "rd") => `(tactic| simp only [tSeq, tRet, tIfS, tAsg, tDrop, tNext, tNever, tRetN, tAndV, tOrV, tNotV, tAnd, tOr, tNot, tB, tTest, tChain, tCB, tCons, tNil, tVar, tC, tOp, tUn, tIf, gName, uLe, uLt, uGe, uGt, uCmp, uAdd, uSub, uMul, uDiv, uMod, uPow, uNeg, uEq, uNe, uIs, uIsNot, uIx, uIn, cIsi, cLen, cAll, cMax, cMin, cAbs, cSort, cSortD, cInt, cTuple, cRepr, cDict, cList, cSortS, tRevL, tDGet, tLstRg, tTupRg, tRg1, tRg2, sDPut, tDNewK, tAug, ipI, iZip, tLst, tTup, tPar, U.tPar3, tFn, tMkr, tMth, tFnK, tMthK, tAtt, sFld, tYes, tLc_eq, tFor_eq, iList, iStr, iRng1, iRng2, iEnum, tLenSetT, tSl, tPart, tNoPart, gTup, gCons, gNil, gSub, tBM, tBM0, List.getElem?_cons_zero, List.getElem?_cons_succ, List.set_cons_zero, List.set_cons_succ, Option.some.injEq, V.bl.injEq, V.int.injEq, V.str.injEq, V.ref.injEq, exists_eq_left', exists_eq_left, exists_eq_right, exists_eq_right', and_true, true_and, scal, if_true, Bool.false_eq_true, if_false, List.cons.injEq, exists_const, false_and, and_false, ite_true, ite_false, Bool.not_true, Bool.not_false])
section
variable {P : Program} {w : World} {K : PySem.W.Frag} {mg : Str → Option Value} {base : Heap} {A : Ads}
/-! ### sides -/
def sv : List (Str × Int) → Str → Int
  | [], _ => 0
  | q :: ps, z => if q.1 = z then q.2 else sv ps z
theorem sv_at : ∀ {ps : List (Str × Int)} {i : Nat} {q : Str × Int}, (ps.map (·.1)).Nodup → ps[i]? = some q → sv ps q.1 = q.2
  | q0 :: ps, 0, q, nd, h => by simp at h; subst h; simp [sv]
  | q0 :: ps, i + 1, q, nd, h => by
    have h : ps[i]? = some q := by simpa using h
    have nd' : ¬ q0.1 ∈ ps.map (·.1) ∧ (ps.map (·.1)).Nodup := List.nodup_cons.mp nd
    unfold sv
    rw [if_neg (fun e => nd'.1 (by rw [e]; exact List.mem_map.mpr ⟨q, List.mem_of_getElem? h, rfl⟩))]
    exact sv_at nd'.2 h
def kvP (ps : List (Str × Int)) : List (Key × V) := ps.map fun q => (Sum.inr q.1, V.int q.2)
theorem merge_val : ∀ (ps : List (Str × Int)) (c : List (Key × V)) (z : Str), (ps.map (·.1)).Nodup → valV (mergeK c (kvP ps)) (.inr z) = if z ∈ ps.map (·.1) then some (.int (sv ps z)) else valV c (.inr z)
  | [], c, z, _ => by simp [kvP, mergeK]
  | q :: ps, c, z, nd => by
    have nd' : ¬ q.1 ∈ ps.map (·.1) ∧ (ps.map (·.1)).Nodup := List.nodup_cons.mp nd
    show valV (mergeK (putK c (.inr q.1) (.int q.2)) (kvP ps)) (.inr z) = _
    rw [merge_val ps _ z nd'.2, valV_put]
    by_cases e : z = q.1
    · subst e
      rw [if_neg nd'.1, if_pos rfl, if_pos (by simp)]
      simp [sv]
    · rw [if_neg (fun h => e (Sum.inr.inj h))]
      have e2 : sv (q :: ps) z = sv ps z := by
        show (if q.1 = z then q.2 else sv ps z) = sv ps z
        rw [if_neg (Ne.symm e)]
      rw [e2]
      by_cases c1 : z ∈ ps.map (·.1)
      · rw [if_pos c1, if_pos (by rw [List.map_cons]; exact List.mem_cons_of_mem _ c1)]
      · rw [if_neg c1, if_neg (by rw [List.map_cons, List.mem_cons]; rintro (h | h); exact e h; exact c1 h)]
abbrev Sd := Str × Int × Int
structure Sds (H : Hp) (p : Addr) (us : List Addr) (ss : List Sd) : Prop where
  lst : H p = some (.lst (us.map V.ref))
  len : us.length = ss.length
  at_ : ∀ (i : Nat) (t : Addr) (q : Sd), us[i]? = some t → ss[i]? = some q → H t = some (.tup [.str q.1, .int q.2.1, .int q.2.2])
def mkP (ps : List (Str × Int)) (zs : List Str) : List Str := zs.filter fun z => decide (z ∈ ps.map (·.1))
def sideP (kd : Nat) (ps : List (Str × Int)) (zs : List Str) (z : Str) : Sd := (z, shiftP (decide (kd = 2)) zs z (sv ps z), roomP (decide (kd = 2)) (mkP ps zs) z)
theorem ix_at : ∀ {ys : List Str} {i : Nat} {z : Str}, ys.Nodup → ys[i]? = some z → ix ys z = i
  | y :: ys, 0, z, nd, h => by simp at h; subst h; simp [ix]
  | y :: ys, i + 1, z, nd, h => by
    have h : ys[i]? = some z := by simpa using h
    have nd' := List.nodup_cons.mp nd
    unfold ix
    rw [if_neg (fun e => nd'.1 (by rw [e]; exact List.mem_of_getElem? h)), ix_at nd'.2 h]
theorem for_enum {a : Addr} {xs : List V} {g : TG} {tb : TS} {D : Ends} {σ : L2.St} {H : Hp} (Pv : Nat → L2.St → Hp → Prop) (h0 : Pv 0 σ H) (hl : ∀ i σ H, i ≤ xs.length → Pv i σ H → SqL K H a xs)
    (hs : ∀ (i : Nat) (x : V) (t : Addr) σ H, H t = none → xs[i]? = some x → Pv i σ H → g (.ref t) σ (upd H t (.tup [.int (i : Nat), x])) fun σ2 H2 => tb { D with nx := Pv (i + 1), ct := Pv (i + 1), bk := D.nx } σ2 H2) (hd : ∀ σ H, Pv xs.length σ H → D.nx σ H) : ForB (Ite K a) g tb D σ H := by
  refine ⟨fun i m σ H => m = xs.length - i ∧ i ≤ xs.length ∧ Pv i σ H, ⟨xs.length, by simp, Nat.zero_le _, h0⟩, ?_⟩
  rintro i m σ H ⟨rfl, hi, p⟩
  have q := hl i σ H hi p
  by_cases hlt : i < xs.length
  · refine .inr ⟨⟨xs, xs[i], q, List.getElem?_eq_getElem hlt⟩, Pv (i + 1), fun σ' H' h => ⟨xs.length - (i + 1), by omega, rfl, hlt, h⟩, fun x H' y => ?_⟩
    obtain ⟨T, v, rfl, hn, rfl, y⟩ := y
    exact hs i v T σ H hn (y xs q) p
  · obtain rfl : i = xs.length := by omega
    exact .inl ⟨⟨xs, q, Nat.le_refl _⟩, hd σ H p⟩
def sp_sides (K : PySem.W.Frag) : Sp := fun vs H Q _ => ∃ (pp pk : Addr) (kd : Nat) (ts : List Addr) (ps : List (Str × Int)) (zs : List Str), vs = [.int kd, .ref pp, .ref pk] ∧ kd < 3 ∧ Prs H pp ts ps ∧ ps.length ≤ 100 ∧ (ps.map (·.1)).Nodup ∧ H pk = some (.lst (zs.map V.str)) ∧ Its zs ∧
  ∀ p us H', H p = none → Same H H' → Sds H' p us ((mkP ps zs).map (sideP kd ps zs)) → Q (.ref p) H'
theorem p_sides (T : Tx K mg A) : Pur N_law_sides ps_law_sides (t_law_sides P w K mg base A) (sp_sides K) := by
  intro vs H Q E h
  obtain ⟨pp, pk, kd, ts, ps, zs, rfl, hk, pr, pl, nd, hz, its, q⟩ := h
  refine ⟨rfl, ?_⟩
  have few := its.few
  show t_law_sides P w K mg base A E _ [some (.int kd), some (.ref pp), some (.ref pk), none, none, none, none, none, none] H
  unfold t_law_sides
  refine seqU fun U hU => ?_
  walk_at "rd"
  have pd : Paired (fun p kv => SqT K H p [kV kv.1, kv.2]) ts (kvP ps) := by
    have go : ∀ (ts : List Addr) (ps : List (Str × Int)), ts.length = ps.length → (∀ (i : Nat) (t : Addr) (q : Str × Int), ts[i]? = some t → ps[i]? = some q → H t = some (.tup [.str q.1, .int q.2])) → Paired (fun p kv => SqT K H p [kV kv.1, kv.2]) ts (kvP ps) := by
      intro ts
      induction ts with
      | nil => intro ps hl _; cases ps with | nil => exact .nil | cons _ _ => simp at hl
      | cons t ts ih =>
        intro ps hl h
        cases ps with
        | nil => simp at hl
        | cons q ps => exact .cons (.inl (.inl (h 0 t q rfl rfl))) (ih ps (by simpa using hl) fun i t' q' h1 h2 => h (i + 1) t' q' (by simpa using h1) (by simpa using h2))
    exact go ts ps pr.len pr.at_
  refine ⟨ts, kvP ps, .inl (.inl pr.lst), pd, fun pd' hpd => ⟨by decide, fun F hF => ⟨(by show 2 ≤ sizeLine; decide), fun p3 hp3 => ?_⟩⟩⟩
  refine ⟨p3, _, rfl, .inl (.inl upd_same), rfl, _, _, rfl, _, _, rfl, rfl, ?_⟩
  rw [hU]
  clear hU
  have u1 := Same.new (o := .dK (mergeK [] (kvP ps))) hpd
  have u2 := Same.new (o := .lst []) hF
  have u3 := Same.new (o := .tup [.ref pd', .ref F]) hp3
  have U3 := u1.trans (u2.trans u3)
  have gd := u3 _ _ (u2 _ _ (upd_same (H := H) (a := pd') (o := .dK (mergeK [] (kvP ps)))))
  have gF := u3 _ _ (upd_same (H := upd H pd' (.dK (mergeK [] (kvP ps)))) (a := F) (o := .lst []))
  have fF : H F = none := u1.free hF
  have ndF : pd' ≠ F := ne_of_none (H := upd H pd' (.dK (mergeK [] (kvP ps)))) upd_same hF
  generalize upd (upd (upd H pd' (.dK (mergeK [] (kvP ps)))) F (.lst [])) p3 (.tup [.ref pd', .ref F]) = H3 at U3 gd gF
  have mv : ∀ z, valV (mergeK [] (kvP ps)) (.inr z) = if z ∈ ps.map (·.1) then some (.int (sv ps z)) else none := fun z => merge_val ps [] z nd
  generalize mergeK [] (kvP ps) = km at gd mv
  have hz3 := U3 _ _ hz
  refine seqU fun U hU => ?_
  walk_at "rd"
  refine ⟨⟨_, .inl (.inl hz3)⟩, lc_lst (fun v => match v with | .str z => if z ∈ ps.map (·.1) then some (V.str z) else none | _ => none) (.inl (.inl hz3)) (by rw [List.length_map]; exact Nat.lt_of_le_of_lt few (by decide)) (fun x H4 hx s4 => ?_) fun D4 H4 hD4 s4 hl4 => ?_⟩
  · obtain ⟨z, hz', rfl⟩ := List.mem_map.mp hx
    have ev : Evt (tTest (tOp (uIn K false) (tVar 7) (tVar 3))) [some (.int kd), some (.ref pp), some (.ref pk), some (.ref pd'), some (.ref F), none, none, some (.str z), none] H4 (decide (z ∈ ps.map (·.1))) := by
      intro Q' q'
      walk_at "rd"
      refine .inr (.inr ⟨_, DGet.k (k := .inr z) (s4 _ _ gd), ?_⟩)
      have e : (valV km (.inr z)).isSome = decide (z ∈ ps.map (·.1)) := by
        rw [mv]
        by_cases c : z ∈ ps.map (·.1)
        · rw [if_pos c, decide_eq_true c]; rfl
        · rw [if_neg c, decide_eq_false c]; rfl
      rw [e]
      exact q' H4 (Same.refl _)
    refine ⟨[some (.int kd), some (.ref pp), some (.ref pk), some (.ref pd'), some (.ref F), none, none, some (.str z), none], rfl, fun R' h => h, ?_⟩
    show match (if z ∈ ps.map (·.1) then some (V.str z) else none) with | some y => _ | none => _
    by_cases c : z ∈ ps.map (·.1)
    · rw [decide_eq_true c] at ev
      rw [if_pos c]
      exact ⟨ev, fun H5 s5 Q' q' => ⟨_, rfl, q' H5 (Same.refl _)⟩⟩
    · rw [decide_eq_false c] at ev
      rw [if_neg c]
      exact ev
  have hl4 : H4 D4 = some (.lst ((mkP ps zs).map V.str)) := by
    unfold mkP
    rw [← fm_filter]
    exact hl4
  rw [hU]
  clear hU
  have ml : (mkP ps zs).length ≤ 60 := Nat.le_trans (List.length_filter_le _ _) few
  have mn : (mkP ps zs).Nodup := its.nd.sublist List.filter_sublist
  have S4 := U3.trans s4
  refine seqU fun U hU => ?_
  walk_at "rd"
  refine ⟨D4, _, rfl, .inl (.inl hl4), ?_⟩
  have gd4 := s4 _ _ gd
  have nDF : D4 ≠ F := Ne.symm (ne_of_none gF hD4)
  refine for_enum (K := K) (a := D4) (xs := (mkP ps zs).map V.str) (fun i σ G => ∃ (us : List Addr) (v6 v7 v8 : Option V), σ = [some (.int kd), some (.ref pp), some (.ref pk), some (.ref pd'), some (.ref F), some (.ref D4), v6, v7, v8] ∧ Same H G ∧ G D4 = some (.lst ((mkP ps zs).map V.str)) ∧ G pd' = some (.dK km) ∧ us.length = i ∧ G F = some (.lst (us.map V.ref)) ∧ ∀ (j : Nat) (t : Addr) (q : Sd), us[j]? = some t → ((mkP ps zs).map (sideP kd ps zs))[j]? = some q → G t = some (.tup [.str q.1, .int q.2.1, .int q.2.2])) ⟨[], _, _, _, rfl, S4, hl4, gd4, rfl, s4 _ _ gF, fun j t q h => by simp at h⟩ (fun i σ G _ ⟨_, _, _, _, _, _, h, _⟩ => .inl (.inl h)) ?_ ?_
  · rintro i x t σ G ht hx ⟨us, v6, v7, v8, rfl, sG, g4, gdG, ul, gFG, tups⟩
    have hi : i < (mkP ps zs).length := by have := (List.getElem?_eq_some_iff.mp hx).1; simpa using this
    rw [List.getElem?_map, List.getElem?_eq_getElem hi] at hx
    obtain rfl := (Option.some.inj hx).symm
    have hzi := List.getElem_mem hi
    have hzin := (List.mem_filter.mp hzi)
    have hin : (mkP ps zs)[i] ∈ ps.map (·.1) := of_decide_eq_true hzin.2
    have eix : ix (mkP ps zs) (mkP ps zs)[i] = i := ix_at mn (List.getElem?_eq_getElem hi)
    have esd : ((mkP ps zs).map (sideP kd ps zs))[i]? = some (sideP kd ps zs (mkP ps zs)[i]) := by rw [List.getElem?_map, List.getElem?_eq_getElem hi]; rfl
    generalize (mkP ps zs)[i] = z at hzi hzin hin eix esd ht
    have u5 := Same.new (o := .tup [.int (i : Nat), .str z]) ht
    refine ⟨t, _, rfl, .inl (.inl upd_same), rfl, _, _, rfl, _, _, rfl, rfl, ?_⟩
    have sG1 := sG.trans u5
    have g41 := u5 _ _ g4
    have gd1 := u5 _ _ gdG
    have gF1 := u5 _ _ gFG
    have tups1 := fun (j : Nat) (t' : Addr) (q : Sd) (h1 : us[j]? = some t') (h2 : ((mkP ps zs).map (sideP kd ps zs))[j]? = some q) => u5 _ _ (tups j t' q h1 h2)
    generalize upd G t (.tup [.int (i : Nat), .str z]) = G1 at sG1 g41 gd1 gF1 tups1
    have hzk := sG1 _ _ hz
    refine seqU fun U2 hU2 => ?_
    walk_at "rd"
    refine ⟨.inl ⟨rfl, _, .inl (.inl hzk)⟩, index_ok (.inl (.inl hzk)) hzin.1 ?_⟩
    rw [hU2]
    clear hU2
    have dg := DGet.k (k := .inr z) gd1
    rw [mv, if_pos hin] at dg
    have fin : ∀ (s r : Int), sideP kd ps zs z = (z, s, r) → ∀ p5, G1 p5 = none → upd G1 p5 (.tup [.str z, .int s, .int r]) F = some (.lst (us.map V.ref)) ∧ Same H (upd (upd G1 p5 (.tup [.str z, .int s, .int r])) F (.lst (us.map V.ref ++ [.ref p5]))) ∧ upd (upd G1 p5 (.tup [.str z, .int s, .int r])) F (.lst (us.map V.ref ++ [.ref p5])) D4 = some (.lst ((mkP ps zs).map V.str)) ∧ upd (upd G1 p5 (.tup [.str z, .int s, .int r])) F (.lst (us.map V.ref ++ [.ref p5])) pd' = some (.dK km) ∧ (us ++ [p5]).length = i + 1 ∧ upd (upd G1 p5 (.tup [.str z, .int s, .int r])) F (.lst (us.map V.ref ++ [.ref p5])) F = some (.lst ((us ++ [p5]).map V.ref)) ∧ ∀ (j : Nat) (t : Addr) (q : Sd), (us ++ [p5])[j]? = some t → ((mkP ps zs).map (sideP kd ps zs))[j]? = some q → upd (upd G1 p5 (.tup [.str z, .int s, .int r])) F (.lst (us.map V.ref ++ [.ref p5])) t = some (.tup [.str q.1, .int q.2.1, .int q.2.2]) := by
      intro s r es p5 hp5
      have u6 := Same.new (o := .tup [.str z, .int s, .int r]) hp5
      have n5 : p5 ≠ F := Ne.symm (ne_of_none gF1 hp5)
      have nt : ∀ {t' : Addr} {xs : List V}, upd G1 p5 (.tup [.str z, .int s, .int r]) t' = some (.tup xs) → t' ≠ F := fun {t' xs} y e => by rw [e, u6 _ _ gF1] at y; cases y
      refine ⟨u6 _ _ gF1, (sG1.trans u6).mut fF, ?_, ?_, by simp [ul], ?_, fun j t' q' h1 h2 => ?_⟩
      · rw [upd_ne nDF]; exact u6 _ _ g41
      · rw [upd_ne ndF]; exact u6 _ _ gd1
      · rw [upd_same, List.map_append]; rfl
      · by_cases c : j < us.length
        · rw [List.getElem?_append_left c] at h1
          have y := u6 _ _ (tups1 j t' q' h1 h2)
          rw [upd_ne (nt y)]; exact y
        · rw [List.getElem?_append_right (by omega)] at h1
          by_cases e : j = us.length
          · rw [show j - us.length = 0 by omega] at h1
            simp at h1
            subst h1
            rw [e, ul, esd] at h2
            obtain rfl := Option.some.inj h2
            rw [es, upd_ne n5, upd_same]
          · rw [List.getElem?_eq_none (by simp; omega)] at h1
            cases h1
    have ull : (us.map V.ref).length < sizeLine := Nat.lt_of_le_of_lt (by rw [List.length_map]; omega : _ ≤ 100) (by decide)
    walk_at "rd"
    by_cases c2 : (kd : Int) < 2
    · rw [if_pos (decide_eq_true c2)]
      refine ⟨.inl ⟨rfl, _, .inl (.inl gF1)⟩, pd', _, rfl, dg, (by show 3 ≤ sizeLine; decide), fun p5 hp5 => ?_⟩
      obtain ⟨f1, f2⟩ := fin (((ix zs z : Nat) : Int) - sv ps z) (i : Nat) (by
        unfold sideP shiftP roomP
        rw [decide_eq_false (by omega), eix]
        rfl) p5 hp5
      exact ⟨F, us.map V.ref, _, rfl, rfl, f1, ull, us ++ [p5], _, _, _, ⟨rfl, rfl, rfl⟩, f2⟩
    · rw [if_neg (by simpa using c2)]
      refine ⟨.inl ⟨rfl, _, .inl (.inl gF1)⟩, pd', _, rfl, dg, _, .inl (.inl (.inl g41)), (by show 3 ≤ sizeLine; decide), fun p5 hp5 => ?_⟩
      rw [List.length_map]
      obtain ⟨f1, f2⟩ := fin (sv ps z - ((ix zs z : Nat) : Int)) ((((mkP ps zs).length : Nat) : Int) - 1 - (i : Nat)) (by
        unfold sideP shiftP roomP
        rw [decide_eq_true (show kd = 2 by omega), eix]
        simp only [if_true]
        rw [Int.neg_sub]) p5 hp5
      exact ⟨F, us.map V.ref, _, rfl, rfl, f1, ull, us ++ [p5], _, _, _, ⟨rfl, rfl, rfl⟩, f2⟩
  · rintro σ G ⟨us, v6, v7, v8, rfl, sG, g4, gdG, ul, gFG, tups⟩
    show U _ _
    rw [hU]
    clear hU
    walk_at "rd"
    rw [List.length_map] at ul
    exact q F us G fF sG ⟨gFG, by rw [List.length_map]; exact ul, tups⟩
theorem fn_sides (T : Tx K mg A) : Fn P w K mg base 2 "_law_sides" (sp_sides K) := T.f_law_sides.fn sc_law_sides (fun hr => d_law_sides T.G hr) (p_sides T)
end
end K
namespace K
open PySem PySem.Spec PyProof.Rows L2 U ClX M
local macro_rules | `(tactic| walk_at "rd") => `(tactic| simp only [tSeq, tRet, tIfS, tAsg, tDrop, tNext, tNever, tRetN, tAndV, tOrV, tNotV, tAnd, tOr, tNot, tB, tTest, tChain, tCB, tCons, tNil, tVar, tC, tOp, tUn, tIf, gName, uLe, uLt, uGe, uGt, uCmp, uAdd, uSub, uMul, uDiv, uMod, uPow, uNeg, uEq, uNe, uIs, uIsNot, uIx, uIn, cIsi, cLen, cAll, cMax, cMin, cAbs, cSort, cSortD, cInt, cTuple, cRepr, cDict, cList, cSortS, tRevL, tDGet, tLstRg, tTupRg, tRg1, tRg2, sDPut, tDNewK, tAug, ipI, iZip, tLst, tTup, tPar, U.tPar3, tFn, tMkr, tMth, tFnK, tMthK, tAtt, sFld, tYes, tLc_eq, tFor_eq, iList, iStr, iRng1, iRng2, iEnum, tLenSetT, tSl, tPart, tNoPart, gTup, gCons, gNil, gSub, tBM, tBM0, List.getElem?_cons_zero, List.getElem?_cons_succ, List.set_cons_zero, List.set_cons_succ, Option.some.injEq, V.bl.injEq, V.int.injEq, V.str.injEq, V.ref.injEq, exists_eq_left', exists_eq_left, exists_eq_right, exists_eq_right', and_true, true_and, scal, if_true, Bool.false_eq_true, if_false, List.cons.injEq, exists_const, false_and, and_false, ite_true, ite_false, Bool.not_true, Bool.not_false])
section
variable {P : Program} {w : World} {K : PySem.W.Frag} {mg : Str → Option Value} {base : Heap} {A : Ads}
theorem fm_filterB (f : Str → Bool) (zs : List Str) : (zs.map V.str).filterMap (fun v => match v with | .str z => if f z = true then some (V.str z) else none | _ => none) = (zs.filter f).map V.str := by
  induction zs with
  | nil => rfl
  | cons z zs ih =>
    rw [List.map_cons, List.filterMap_cons]
    cases c : f z with
    | true => rw [List.filter_cons_of_pos c, List.map_cons, ← ih]; simp [c]
    | false => rw [List.filter_cons_of_neg (by simp [c]), ← ih]; simp [c]
/-- pairs that belong to a known list -/
structure HP (ps : List (Str × Int)) (ks : List Str) : Prop where
  nd : (ps.map (·.1)).Nodup
  sub : ∀ q ∈ ps, q.1 ∈ ks
  lo : ∀ q ∈ ps, 0 ≤ q.2 ∧ q.2 ≤ 60
  few : ps.length ≤ 40
/-- the list here, behind i of the names ms -/
def HereI (kd : Nat) (zs h0 ms hs : List Str) (i : Nat) : Prop := match kd with
  | 0 => hs.Perm (h0 ++ ms.take i)
  | 1 => (hs ++ ms.take i).Perm zs
  | _ => hs.Perm zs
theorem len_split (f : Str → Bool) (zs : List Str) : (zs.filter f).length + (zs.filter fun z => !f z).length = zs.length := by
  induction zs with
  | nil => rfl
  | cons z zs ih =>
    cases c : f z with
    | true => rw [List.filter_cons_of_pos c, List.filter_cons_of_neg (by simp [c])]; simp; omega
    | false => rw [List.filter_cons_of_neg (by simp [c]), List.filter_cons_of_pos (by simp [c])]; simp; omega
theorem filter_len {zs ns : List Str} (hz : zs.Nodup) (hn : ns.Nodup) (sub : ∀ n ∈ ns, n ∈ zs) : (zs.filter fun y => decide (y ∈ ns)).length = ns.length := by
  refine List.Perm.length_eq ((List.perm_ext_iff_of_nodup (hz.sublist List.filter_sublist) hn).mpr fun a => ?_)
  rw [List.mem_filter]
  simp only [decide_eq_true_eq]
  exact ⟨fun h => h.2, fun h => ⟨sub a h, h⟩⟩
theorem ins_perm (hs : List Str) (z : Str) (i : Nat) : (hs.take i ++ [z] ++ hs.drop i).Perm (hs ++ [z]) := by
  have e : (hs.take i ++ [z] ++ hs.drop i).Perm (hs.take i ++ hs.drop i ++ [z]) := by
    rw [List.append_assoc, List.append_assoc]
    exact List.perm_append_comm.append_left _
  rwa [List.take_append_drop] at e
theorem del_perm {hs : List Str} {z : Str} {i : Nat} (h : hs[i]? = some z) : ((hs.take i ++ hs.drop (i + 1)) ++ [z]).Perm hs := by
  obtain ⟨hi, e⟩ := List.getElem?_eq_some_iff.mp h
  have e2 : hs = hs.take i ++ (hs[i] :: hs.drop (i + 1)) := by rw [← List.drop_eq_getElem_cons hi, List.take_append_drop]
  rw [e] at e2
  conv => rhs; rw [e2]
  rw [List.append_assoc]
  exact (List.perm_append_comm (l₁ := hs.drop (i + 1)) (l₂ := [z])).append_left _
theorem HereI.next {kd : Nat} (hk : kd < 3) {zs h0 ms hs : List Str} {i j : Nat} (hi : i < ms.length) (I : HereI kd zs h0 ms hs i) (hj : kd ≠ 0 → hs[j]? = some ms[i]) : HereI kd zs h0 ms (playP kd hs ms[i] j) (i + 1) := by
  match kd, hk, I, hj with
  | 0, _, I, _ =>
    show (hs.take j ++ [ms[i]] ++ hs.drop j).Perm (h0 ++ ms.take (i + 1))
    rw [List.take_succ_eq_append_getElem hi, ← List.append_assoc]
    exact (ins_perm hs _ j).trans (I.append_right _)
  | 1, _, I, hj =>
    show ((hs.take j ++ hs.drop (j + 1)) ++ ms.take (i + 1)).Perm zs
    rw [List.take_succ_eq_append_getElem hi]
    refine List.Perm.trans ?_ I
    refine List.Perm.trans ?_ ((del_perm (hj (by decide))).append_right _)
    have key : ∀ (A B : List Str) (x : Str), (A ++ (B ++ [x])).Perm (A ++ [x] ++ B) := fun A B x => by
      rw [List.append_assoc]
      exact List.perm_append_comm.append_left A
    exact key _ _ _
  | 2, _, I, hj =>
    show ([ms[i]] ++ (hs.take j ++ hs.drop (j + 1))).Perm zs
    exact List.perm_append_comm.trans ((del_perm (hj (by decide))).trans I)
theorem HereI.has {kd : Nat} (hk : kd < 3) (k0 : kd ≠ 0) {zs h0 ms hs : List Str} {i : Nat} (hi : i < ms.length) (nd : ms.Nodup) (sub : ∀ m ∈ ms, m ∈ zs) (I : HereI kd zs h0 ms hs i) : ms[i] ∈ hs := by
  match kd, hk, k0, I with
  | 1, _, _, I =>
    have I : (hs ++ ms.take i).Perm zs := I
    rcases List.mem_append.mp (I.mem_iff.mpr (sub _ (List.getElem_mem hi))) with h | h
    · exact h
    · exfalso
      obtain ⟨j, hj, e⟩ := List.mem_iff_getElem.mp h
      rw [List.getElem_take] at e
      have hj' : j < i := by rw [List.length_take] at hj; omega
      exact List.pairwise_iff_getElem.mp nd j i (by omega) hi hj' e
  | 2, _, _, I => exact (show hs.Perm zs from I).mem_iff.mpr (sub _ (List.getElem_mem hi))
theorem HereI.len {kd : Nat} (hk : kd < 3) {zs h0 ms hs : List Str} {i : Nat} (I : HereI kd zs h0 ms hs i) (h : (h0 ++ ms).length ≤ 60) (hz : zs.length ≤ 60) : hs.length ≤ 60 := by
  match kd, hk, I with
  | 0, _, I => have := (show hs.Perm (h0 ++ ms.take i) from I).length_eq; rw [List.length_append, List.length_take] at this; rw [List.length_append] at h; omega
  | 1, _, I => have := (show (hs ++ ms.take i).Perm zs from I).length_eq; rw [List.length_append] at this; omega
  | 2, _, I => have := (show hs.Perm zs from I).length_eq; omega
def sp_history : Sp := fun vs H Q _ => ∃ (tp : Addr) (kd mo me : Nat) (c : Int), vs = [.ref tp, .int kd, .int mo, .int me] ∧ kd < 3 ∧ mo ≤ 40 ∧ me ≤ 20 ∧ Tape H tp c ∧ c ≤ 700000 ∧
  ∀ (p pp pk : Addr) (ts : List Addr) (ps : List (Str × Int)) (ks : List Str) (H' : Hp), H' p = some (.tup [.ref pp, .ref pk]) → Prs H' pp ts ps → H' pk = some (.lst (ks.map V.str)) → Its ks → HP ps ks → H pp = none → H pk = none → Tape H' tp (c + 400) → But tp H H' → Q (.ref p) H'
theorem p_history (T : Tx K mg A) : Pur N_law_history ps_law_history (t_law_history P w K mg base A) sp_history := by
  intro vs H Q E h
  obtain ⟨tp, kd, mo, me, c, rfl, hk, mo40, me20, t, hc, q⟩ := h
  refine ⟨rfl, ?_⟩
  show t_law_history P w K mg base A E _ [some (.ref tp), some (.int kd), some (.int mo), some (.int me), none, none, none, none, none, none, none, none, none, none] H
  unfold t_law_history
  refine seqU fun U hU => ?_
  walk_at "rd"
  refine ⟨2, _, fn_pick T, by decide, next_ok t (by omega) (by omega) (by omega) fun sz G1 z0 z1 t1 b1 e1 => ?_⟩
  refine ⟨2, _, fn_pick T, by decide, next_ok t1 (by omega) (by omega) (by omega) fun ot G2 o0 o1 t2 b2 e2 => ⟨_, _, ⟨rfl, rfl⟩, ?_⟩⟩
  obtain ⟨sz, rfl⟩ : ∃ m : Nat, sz = m := ⟨sz.toNat, by omega⟩
  obtain ⟨ot, rfl⟩ : ∃ m : Nat, ot = m := ⟨ot.toNat, by omega⟩
  rw [hU]
  clear hU
  refine seqU fun U hU => ?_
  walk_at "rd"
  refine ⟨3, _, fn_words T, by decide, tp, _, sz + ot, by push_cast; rfl, t2, by omega, by omega, fun pn zs G3 hpn zl nz it3 g3 t3 b3 => ?_⟩
  rw [hU]
  clear hU
  have B3 : But tp H G3 := (b1.trans b2).trans b3
  have npn : pn ≠ tp := t2.ne hpn
  refine seqU fun U hU => ?_
  walk_at "rd"
  refine ⟨3, _, fn_mixed T, by decide, tp, pn, _, _, rfl, t3, by omega, g3, by rw [List.length_map]; omega, fun pm ys G4 hpm pym g4 t4 b4 => ?_⟩
  obtain ⟨all, rfl⟩ := strs_of pym
  have pa : all.Perm zs := perm_strs pym
  refine ⟨pm, _, rfl, .inl (.inl g4), fun p7 hp7 => ?_⟩
  have u5 := Same.new (o := .lst (cutV (all.map V.str) none (some (sz : Int)))) hp7
  have g5 : upd G4 p7 (.lst (cutV (all.map V.str) none (some (sz : Int)))) p7 = some (.lst ((all.take sz).map V.str)) := by rw [upd_same, cut_to, List.map_take]
  have n7 : p7 ≠ tp := t4.ne hp7
  have t5 := t4.same u5
  have gn5 := u5 _ _ (b4 _ _ npn g3)
  have B5 : But tp H (upd G4 p7 (.lst (cutV (all.map V.str) none (some (sz : Int))))) := (B3.trans b4).trans (But.same u5)
  generalize upd G4 p7 (.lst (cutV (all.map V.str) none (some (sz : Int)))) = G5 at g5 t5 gn5 B5
  rw [hU]
  clear hU
  have nms : (all.take sz).Nodup := (pa.nodup_iff.mpr nz).sublist (List.take_sublist _ _)
  have msub : ∀ m ∈ all.take sz, m ∈ zs := fun m hm => pa.mem_iff.mp ((List.take_sublist _ _).subset hm)
  have msl : (all.take sz).length = sz := by rw [List.length_take, pa.length_eq]; omega
  generalize all.take sz = ms at g5 nms msub msl
  refine seqU fun U hU => ?_
  walk_at "rd"
  refine ⟨2, _, fn_pick T, by decide, next_ok t5 (by omega) (by decide) (by decide) fun st G6 st0 st1 t6 b6 e6 => ?_⟩
  rw [hU]
  clear hU
  have g56 := b6 _ _ n7 g5
  have gn6 := b6 _ _ npn gn5
  have B6 := B5.trans b6
  refine seqU fun U hU => ?_
  walk_at "rd"
  refine ⟨⟨_, .inl (.inl gn6)⟩, lc_lst (fun v => match v with | .str z => if (decide (0 < (kd : Int)) || !decide (z ∈ ms)) = true then some (V.str z) else none | _ => none) (.inl (.inl gn6)) (by rw [List.length_map]; exact Nat.lt_of_le_of_lt (by omega : zs.length ≤ 60) (by decide)) (fun x G7 hx s7 => ?_) fun D7 G7 hD7 s7 hl7 => ?_⟩
  · obtain ⟨z, hz', rfl⟩ := List.mem_map.mp hx
    have ev : Evt (tOr (tTest (tOp uGt (tVar 1) (tC (.int 0)))) (tTest (tOp (uIn K true) (tVar 12) (tVar 7)))) [some (.ref tp), some (.int kd), some (.int mo), some (.int me), some (.int sz), some (.int ot), some (.ref pn), some (.ref p7), some (.int st), none, none, none, some (.str z), none] G7 (decide (0 < (kd : Int)) || !decide (z ∈ ms)) := by
      intro Q' q'
      walk_at "rd"
      by_cases c0 : 0 < (kd : Int)
      · rw [if_pos (decide_eq_true c0)]
        rw [decide_eq_true c0, Bool.true_or] at q'
        exact q' G7 (Same.refl _)
      · rw [if_neg (by simpa using c0)]
        refine .inl ⟨_, .inl (.inl (.inl (s7 _ _ g56))), rfl, flat_strs _, ?_⟩
        rw [inV_str]
        rw [decide_eq_false c0, Bool.false_or] at q'
        exact q' G7 (Same.refl _)
    refine ⟨[some (.ref tp), some (.int kd), some (.int mo), some (.int me), some (.int sz), some (.int ot), some (.ref pn), some (.ref p7), some (.int st), none, none, none, some (.str z), none], rfl, fun R' h => h, ?_⟩
    show match (if (decide (0 < (kd : Int)) || !decide (z ∈ ms)) = true then some (V.str z) else none) with | some y => _ | none => _
    cases cc : (decide (0 < (kd : Int)) || !decide (z ∈ ms)) with
    | true =>
      rw [cc] at ev
      rw [if_pos rfl]
      exact ⟨ev, fun H4 s4 Q' q' => ⟨_, rfl, q' H4 (Same.refl _)⟩⟩
    | false =>
      rw [cc] at ev
      rw [if_neg (by decide)]
      exact ev
  have hl7 : G7 D7 = some (.lst ((zs.filter fun z => decide (0 < (kd : Int)) || !decide (z ∈ ms)).map V.str)) := by rw [← fm_filterB]; exact hl7
  rw [hU]
  clear hU
  have n7D : D7 ≠ tp := t6.ne hD7
  have B7 := B6.trans (But.same s7)
  have t7 := t6.same s7
  have g57 := s7 _ _ g56
  have h0k : kd ≠ 0 → (zs.filter fun z => decide (0 < (kd : Int)) || !decide (z ∈ ms)) = zs := fun k => List.filter_eq_self.mpr fun z _ => by rw [decide_eq_true (by omega), Bool.true_or]
  have h0z : kd = 0 → (zs.filter fun z => decide (0 < (kd : Int)) || !decide (z ∈ ms)) = zs.filter fun z => !decide (z ∈ ms) := fun k => by
    subst k
    exact List.filter_congr fun z _ => by simp
  have h0s : ∀ z ∈ (zs.filter fun z => decide (0 < (kd : Int)) || !decide (z ∈ ms)), z ∈ zs := fun z hz => (List.mem_filter.mp hz).1
  generalize (zs.filter fun z => decide (0 < (kd : Int)) || !decide (z ∈ ms)) = h0 at hl7 h0k h0z h0s
  have h0n : kd = 0 → (h0 ++ ms).Nodup := fun k => by
    rw [h0z k, List.nodup_append]
    exact ⟨nz.sublist List.filter_sublist, nms, fun a ha b hb e => by have := (List.mem_filter.mp ha).2; simp [e, hb] at this⟩
  have h0l : kd = 0 → (h0 ++ ms).length ≤ 60 := fun k => by
    have e1 := len_split (fun z => decide (z ∈ ms)) zs
    have e2 := filter_len nz nms msub
    rw [h0z k, List.length_append]
    omega
  refine seqU fun U hU => ?_
  walk_at "rd"
  refine ⟨_, .inl (.inl (.inl hl7)), fun pk hpk => ⟨by decide, fun pp hpp => ⟨_, _, ⟨rfl, rfl⟩, ?_⟩⟩⟩
  rw [hU]
  clear hU
  have u8 := Same.new (o := .lst (h0.map V.str)) hpk
  have u9 := Same.new (o := .lst []) hpp
  have g8k := u9 _ _ (upd_same (H := G7) (a := pk) (o := .lst (h0.map V.str)))
  have g8p := upd_same (H := upd G7 pk (.lst (h0.map V.str))) (a := pp) (o := .lst [])
  have U9 := u8.trans u9
  have g8h := U9 _ _ hl7
  have g8m := U9 _ _ g57
  have B9 := B7.trans (But.same U9)
  have t9 := t7.same U9
  have npp : pp ≠ tp := (t7.same u8).ne hpp
  have npk : pk ≠ tp := t7.ne hpk
  have fpp : H pp = none := (B7.trans (But.same u8)).free hpp npp
  have fpk : H pk = none := B7.free hpk npk
  have nkp : pk ≠ pp := ne_of_none (H := upd G7 pk (.lst (h0.map V.str))) upd_same hpp
  have nhp : D7 ≠ pp := ne_of_none (u8 _ _ hl7) hpp
  have nmp : p7 ≠ pp := ne_of_none (u8 _ _ g57) hpp
  generalize upd (upd G7 pk (.lst (h0.map V.str))) pp (.lst []) = G9 at g8k g8p g8h g8m B9 t9
  refine seqU fun U hU => ?_
  walk_at "rd"
  refine ⟨⟨_, .inl (.inl g8m)⟩, ?_⟩
  have I0 : HereI kd zs h0 ms h0 0 := by
    match kd, hk with
    | 0, _ => show h0.Perm (h0 ++ []); rw [List.append_nil]
    | 1, _ => show (h0 ++ []).Perm zs; rw [List.append_nil, h0k (by decide)]
    | 2, _ => show h0.Perm zs; rw [h0k (by decide)]
  refine for_list (K := K) (a := p7) (xs := ms.map V.str) (fun i σ G => ∃ (ph : Addr) (hs : List Str) (ts : List Addr) (ps : List (Str × Int)) (v4 v12 v13 : Option V), σ = [some (.ref tp), some (.int kd), some (.int mo), some (.int me), v4, some (.int ot), some (.ref pn), some (.ref p7), some (.int st), some (.ref ph), some (.ref pk), some (.ref pp), v12, v13] ∧ But tp H G ∧ Tape G tp (c + 210 + 2 * i) ∧ G p7 = some (.lst (ms.map V.str)) ∧ G pk = some (.lst (h0.map V.str)) ∧ Prs G pp ts ps ∧ ps.map (·.1) = ms.take i ∧ (∀ q ∈ ps, 0 ≤ q.2 ∧ q.2 ≤ 60) ∧ G ph = some (.lst (hs.map V.str)) ∧ ph ≠ pp ∧ H ph = none ∧ HereI kd zs h0 ms hs i) ⟨D7, h0, [], [], _, _, _, rfl, B9, t9.mono (by omega), g8m, g8k, ⟨g8p, rfl, fun i t q h => by simp at h⟩, rfl, (fun _ h => nomatch h), g8h, nhp, B6.free hD7 n7D, I0⟩ (fun i σ G _ ⟨_, _, _, _, _, _, _, _, _, _, h, _⟩ => .inl (.inl h)) ?_ ?_
  · rintro i x σ G hx ⟨ph, hs, ts, ps, v4, v12, v13, rfl, bG, tG, gm, gk, pr, pe, lo, gh, nph, fph, I⟩
    have npt : ph ≠ tp := t.ne fph
    have hi : i < ms.length := by have := (List.getElem?_eq_some_iff.mp hx).1; simpa using this
    rw [List.getElem?_map, List.getElem?_eq_getElem hi] at hx
    obtain rfl := (Option.some.inj hx).symm
    have hl60 : hs.length ≤ 60 := by
      rcases Nat.eq_zero_or_pos kd with k | k
      · exact I.len hk (h0l k) (by omega)
      · match kd, hk, k, I with
        | 1, _, _, I => have := (show (hs ++ ms.take i).Perm zs from I).length_eq; rw [List.length_append] at this; omega
        | 2, _, _, I => have := (show hs.Perm zs from I).length_eq; omega
    simp only [gName]
    refine seqU fun U2 hU2 => ?_
    walk_at "rd"
    refine ⟨_, .inl (.inl (.inl gh)), ?_⟩
    rw [List.length_map, hU2]
    clear hU2
    refine seqU fun U2 hU2 => ?_
    walk_at "rd"
    refine ⟨2, _, fn_pick T, by decide, next_ok tG (by omega) (by omega) (by omega) fun r1 Ga a0 a1 ta ba ea => ?_⟩
    refine ⟨2, _, fn_pick T, by decide, next_ok ta (by omega) (by decide) (by decide) fun r2 Gb c0 c1 tb bb eb => ⟨(by show 4 ≤ sizeLine; decide), fun q3 hq3 => ?_⟩⟩
    have u3 := Same.new (o := .lst [.int r1, .int 0, .int (hs.length : Nat), .int r2]) hq3
    obtain ⟨vv, hvv, vv0⟩ : ∃ vv : Int, atI [V.int r1, V.int 0, V.int (hs.length : Nat), V.int r2] st = some (.int vv) ∧ 0 ≤ vv := by
      have : st = 0 ∨ st = 1 ∨ st = 2 ∨ st = 3 := by omega
      rcases this with rfl | rfl | rfl | rfl
      · exact ⟨r1, rfl, a0⟩
      · exact ⟨0, rfl, by decide⟩
      · exact ⟨_, rfl, by omega⟩
      · exact ⟨r2, rfl, c0⟩
    refine ⟨_, _, .inl (.inl (.inl upd_same)), hvv, ?_⟩
    obtain ⟨ii, hii, eii⟩ : ∃ ii : Nat, ii ≤ hs.length ∧ (if vv < (hs.length : Nat) then vv else ((hs.length : Nat) : Int)) = (ii : Int) := by
      by_cases z : vv < (hs.length : Nat)
      · exact ⟨vv.toNat, by omega, by rw [if_pos z]; omega⟩
      · exact ⟨hs.length, Nat.le_refl _, by rw [if_neg z]⟩
    walk_at "rd"
    rw [eii, hU2]
    clear hU2
    have Bc : But tp G (upd Gb q3 (.lst [.int r1, .int 0, .int (hs.length : Nat), .int r2])) := (ba.trans bb).trans (But.same u3)
    have tc := tb.same u3
    generalize upd Gb q3 (.lst [.int r1, .int 0, .int (hs.length : Nat), .int r2]) = Gc at Bc tc
    have nm7 : p7 ≠ tp := n7
    have gmc := Bc _ _ nm7 gm
    have gkc := Bc _ _ npk gk
    have ghc := Bc _ _ npt gh
    have prc := pr.but tG Bc npp
    refine seqU fun U2 hU2 => ?_
    have ky : ∀ j : Nat, (kd = 0 → j ≤ hs.length) → (kd ≠ 0 → hs[j]? = some ms[i]) → j ≤ 60 → U2 [some (.ref tp), some (.int kd), some (.int mo), some (.int me), some (.int (hs.length : Nat)), some (.int ot), some (.ref pn), some (.ref p7), some (.int st), some (.ref ph), some (.ref pk), some (.ref pp), some (.str ms[i]), some (.int j)] Gc := by
      intro j j0 j1 j60
      rw [hU2]
      clear hU2
      refine seqU fun U3 hU3 => ?_
      walk_at "rd"
      refine ⟨.inl ⟨rfl, _, .inl (.inl prc.lst)⟩, (by show 2 ≤ sizeLine; decide), fun p4 hp4 => ?_⟩
      have u4 := Same.new (o := .tup [.str ms[i], .int (j : Nat)]) hp4
      have tsl : ts.length = i := by rw [pr.len, ← List.length_map (f := fun q : Str × Int => q.1), pe, List.length_take]; omega
      refine ⟨pp, ts.map V.ref, _, rfl, rfl, u4 _ _ prc.lst, Nat.lt_of_le_of_lt (by rw [List.length_map]; omega : _ ≤ 100) (by decide), ?_⟩
      rw [hU3]
      clear hU3
      have pr5 := (prc.same u4).snoc (q := (ms[i], (j : Int))) (t := p4) upd_same _ rfl
      have gm5 : upd (upd Gc p4 (.tup [.str ms[i], .int (j : Nat)])) pp (.lst (ts.map V.ref ++ [.ref p4])) p7 = some (.lst (ms.map V.str)) := by rw [upd_ne nmp]; exact u4 _ _ gmc
      have gk5 : upd (upd Gc p4 (.tup [.str ms[i], .int (j : Nat)])) pp (.lst (ts.map V.ref ++ [.ref p4])) pk = some (.lst (h0.map V.str)) := by rw [upd_ne nkp]; exact u4 _ _ gkc
      have gh5 : upd (upd Gc p4 (.tup [.str ms[i], .int (j : Nat)])) pp (.lst (ts.map V.ref ++ [.ref p4])) ph = some (.lst (hs.map V.str)) := by rw [upd_ne nph]; exact u4 _ _ ghc
      have B5' : But tp H (upd (upd Gc p4 (.tup [.str ms[i], .int (j : Nat)])) pp (.lst (ts.map V.ref ++ [.ref p4]))) := ((bG.trans Bc).trans (But.same u4)).mut fpp
      have t5' := (tc.same u4).other (o := .lst (ts.map V.ref ++ [.ref p4])) npp
      generalize upd (upd Gc p4 (.tup [.str ms[i], .int (j : Nat)])) pp (.lst (ts.map V.ref ++ [.ref p4])) = Gd at pr5 gm5 gk5 gh5 B5' t5'
      walk_at "rd"
      have c00 : kd = 0 → ms[i] ∉ hs ∧ j ≤ hs.length := fun k => ⟨fun hin => by
        subst k
        have pmh : hs.Perm (h0 ++ ms.take i) := I
        have hm' := pmh.mem_iff.mp hin
        have nd0 := h0n rfl
        rcases List.mem_append.mp hm' with y | y
        · exact (List.nodup_append.mp nd0).2.2 _ y _ (List.getElem_mem hi) rfl
        · obtain ⟨k', hk', e⟩ := List.mem_iff_getElem.mp y
          rw [List.getElem_take] at e
          have hj' : k' < i := by rw [List.length_take] at hk'; omega
          exact List.pairwise_iff_getElem.mp nms k' i (by omega) hi hj' e, j0 k⟩
      refine ⟨2, _, fn_played T, by decide, ph, kd, j, hs, ms[i], rfl, hk, gh5, by omega, c00, j1, fun p6 G6' hp6 s6 g6 => ?_⟩
      refine ⟨p6, _, ts ++ [p4], ps ++ [(ms[i], (j : Int))], _, _, _, ⟨rfl, rfl, rfl, rfl⟩, B5'.trans (But.same s6), (t5'.same s6).mono (by push_cast; omega), s6 _ _ gm5, s6 _ _ gk5, pr5.same s6, ?_, ?_, g6, Ne.symm (ne_of_none pr5.lst hp6), B5'.free hp6 (t5'.ne hp6), I.next hk hi j1⟩
      · rw [List.map_append, pe, List.take_succ_eq_append_getElem hi]; rfl
      · intro q' hq'
        rcases List.mem_append.mp hq' with y | y
        · exact lo q' y
        · obtain rfl := List.mem_singleton.mp y; exact ⟨by show (0 : Int) ≤ (j : Nat); omega, by show ((j : Nat) : Int) ≤ 60; omega⟩
    walk_at "rd"
    by_cases k0 : kd = 0
    · rw [if_neg (by simp only [decide_eq_true_eq]; omega)]
      exact ky ii (fun _ => hii) (fun k => absurd k0 k) (by omega)
    · rw [if_pos (decide_eq_true (by omega))]
      have hin := I.has hk k0 hi nms msub
      refine ⟨.inl ⟨rfl, _, .inl (.inl ghc)⟩, index_ok (.inl (.inl ghc)) hin ?_⟩
      have := ix_lt hin
      exact ky (ix hs ms[i]) (fun k => absurd k k0) (fun _ => ix_get hin) (by omega)
  · rintro σ G ⟨ph, hs, ts, ps, v4, v12, v13, rfl, bG, tG, gm, gk, pr, pe, lo, gh, nph, fph, I⟩
    show U _ _
    rw [hU]
    clear hU
    rw [List.length_map] at pe tG
    rw [List.length_map] at I
    rw [List.take_length] at pe
    have hp : ∀ ks : List Str, (∀ m ∈ ms, m ∈ ks) → HP ps ks := fun ks hks => ⟨by rw [pe]; exact nms, fun q' hq' => hks _ (by rw [← pe]; exact List.mem_map.mpr ⟨q', hq', rfl⟩), lo, by have := congrArg List.length pe; rw [List.length_map] at this; omega⟩
    walk_at "rd"
    by_cases k0 : kd = 0
    · rw [if_pos (decide_eq_true (by omega))]
      subst k0
      have pmh : hs.Perm (h0 ++ ms) := by have I' : hs.Perm (h0 ++ ms.take ms.length) := I; rwa [List.take_length] at I'
      refine ⟨(by show 2 ≤ sizeLine; decide), fun p hp' => ?_⟩
      have up := Same.new (o := .tup [.ref pp, .ref ph]) hp'
      refine q p pp ph ts ps hs _ upd_same (pr.same up) (up _ _ gh) ⟨pmh.nodup_iff.mpr (h0n rfl), fun z hz => ?_, ?_⟩ (hp hs fun m hm => pmh.mem_iff.mpr (List.mem_append_right _ hm)) fpp fph ((tG.same up).mono (by omega)) (bG.trans (But.same up))
      · exact it3 z ((List.mem_append.mp (pmh.mem_iff.mp hz)).elim (h0s z) (msub z))
      · rw [pmh.length_eq]; exact h0l rfl
    · rw [if_neg (by simp only [decide_eq_true_eq]; omega)]
      refine ⟨(by show 2 ≤ sizeLine; decide), fun p hp' => ?_⟩
      have up := Same.new (o := .tup [.ref pp, .ref pk]) hp'
      refine q p pp pk ts ps h0 _ upd_same (pr.same up) (up _ _ gk) ⟨?_, ?_, ?_⟩ (hp h0 ?_) fpp fpk ((tG.same up).mono (by omega)) (bG.trans (But.same up))
      · rw [h0k k0]; exact nz
      · rw [h0k k0]; exact it3
      · rw [h0k k0]; omega
      · rw [h0k k0]; exact msub
theorem fn_history (T : Tx K mg A) : Fn P w K mg base 4 "_law_history" sp_history := T.f_law_history.fn sc_law_history (fun hr => d_law_history T.G hr) (p_history T)
end
end K
namespace K
open PySem PySem.Spec PyProof.Rows L2 U ClX M
local macro_rules | `(tactic| walk_at "rd") => `(tactic| simp only [tSeq, tRet, tIfS, tAsg, tDrop, tNext, tNever, tRetN, tAndV, tOrV, tNotV, tAnd, tOr, tNot, tB, tTest, tChain, tCB, tCons, tNil, tVar, tC, tOp, tUn, tIf, gName, uLe, uLt, uGe, uGt, uCmp, uAdd, uSub, uMul, uDiv, uMod, uPow, uNeg, uEq, uNe, uIs, uIsNot, uIx, uIn, cIsi, cLen, cAll, cMax, cMin, cAbs, cSort, cSortD, cInt, cTuple, cRepr, cDict, cList, cSortS, tRevL, tDGet, tLstRg, tTupRg, tRg1, tRg2, sDPut, tDNewK, tAug, ipI, iZip, tLst, tTup, tPar, U.tPar3, tFn, tMkr, tMth, tFnK, tMthK, tAtt, sFld, tYes, tLc_eq, tFor_eq, iList, iStr, iRng1, iRng2, iEnum, tLenSetT, tSl, tPart, tNoPart, gTup, gCons, gNil, gSub, tBM, tBM0, List.getElem?_cons_zero, List.getElem?_cons_succ, List.set_cons_zero, List.set_cons_succ, Option.some.injEq, V.bl.injEq, V.int.injEq, V.str.injEq, V.ref.injEq, exists_eq_left', exists_eq_left, exists_eq_right, exists_eq_right', and_true, true_and, scal, if_true, Bool.false_eq_true, if_false, List.cons.injEq, exists_const, false_and, and_false, ite_true, ite_false, Bool.not_true, Bool.not_false])
section
variable {P : Program} {w : World} {K : PySem.W.Frag} {mg : Str → Option Value} {base : Heap} {A : Ads}
/-! ### the log -/
def RcN (A : Ads) (X H : Hp) (y : V) (r : Rc) : Prop := ∃ a, y = .ref a ∧ X a = none ∧ Rec A H a r.1 r.2.1 r.2.2
theorem rel_bookN {X H : Hp} {l : Addr} {xs : List V} {rs : List Rc} (h : H l = some (.lst xs)) (r : Rel2 (RcN A X H) xs rs) : ∃ as, Book A H l as rs ∧ ∀ a ∈ as, X a = none := by
  suffices q : ∀ (xs : List V) (rs : List Rc), Rel2 (RcN A X H) xs rs → ∃ as : List Addr, xs = as.map V.ref ∧ as.length = rs.length ∧ (∀ a ∈ as, X a = none) ∧ ∀ (i : Nat) (a : Addr) (r : Rc), as[i]? = some a → rs[i]? = some r → Rec A H a r.1 r.2.1 r.2.2 by
    obtain ⟨as, e, hl, hx, ha⟩ := q xs rs r
    exact ⟨as, ⟨by rw [h, e], hl, ha⟩, hx⟩
  intro xs
  induction xs with
  | nil => intro rs r; exact ⟨[], rfl, by simpa using r.len, (fun _ h => nomatch h), fun i a r h => by simp at h⟩
  | cons x xs ih =>
    intro rs r
    cases rs with
    | nil => exact absurd r.len (by simp)
    | cons r0 rs =>
      obtain ⟨a, rfl, na, ra⟩ := r.at_ 0 x r0 rfl rfl
      obtain ⟨as, e, hl, hx, ha⟩ := ih rs ⟨by have := r.len; simpa using this, fun i y e h1 h2 => r.at_ (i + 1) y e (by simpa using h1) (by simpa using h2)⟩
      refine ⟨a :: as, by rw [e]; rfl, by simp [hl], fun b hb => ?_, fun i b r' h1 h2 => ?_⟩
      · rcases List.mem_cons.mp hb with rfl | hb
        · exact na
        · exact hx b hb
      · cases i with
        | zero => simp at h1 h2; subst h1; subst h2; exact ra
        | succ i => exact ha i b r' (by simpa using h1) (by simpa using h2)
/-- records of the kind kd that belong to the known list ks -/
structure HR (kd : Nat) (rs : List Rc) (ks : List Str) : Prop where
  kind : ∀ r ∈ rs, r.1 = kd
  nd : (rs.map item).Nodup
  sub : ∀ r ∈ rs, item r ∈ ks
  lo : ∀ r ∈ rs, 0 ≤ slot r ∧ slot r ≤ 60
  few : rs.length ≤ 40
theorem HR.known {kd : Nat} (hk : kd < 3) {rs : List Rc} {ks : List Str} (h : HR kd rs ks) (its : Its ks) : Known rs ks :=
  ⟨isLog_of h.kind h.nd h.few, fun r hr => by rw [h.kind r hr]; exact hk, h.nd, fun r hr => ⟨its.it _ (h.sub r hr), h.lo r hr⟩, its, h.sub⟩
theorem HR.of {kd : Nat} {rs : List Rc} {ps : List (Str × Int)} {ks : List Str} (hk : ∀ r ∈ rs, r.1 = kd) (pm : (prR rs).Perm ps) (h : HP ps ks) : HR kd rs ks := by
  have ei : rs.map item = (prR rs).map (·.1) := by unfold prR; rw [List.map_map]; rfl
  have mem : ∀ r ∈ rs, (r.2.1, r.2.2) ∈ ps := fun r hr => pm.mem_iff.mp (List.mem_map.mpr ⟨r, hr, rfl⟩)
  refine ⟨hk, by rw [ei]; exact (pm.map _).nodup_iff.mpr h.nd, fun r hr => h.sub _ (mem r hr), fun r hr => h.lo _ (mem r hr), ?_⟩
  have := pm.length_eq
  unfold prR at this
  rw [List.length_map] at this
  rw [this]; exact h.few
theorem set_items {rs : List Rc} {i : Nat} {kd : Nat} {z : Str} {m n : Int} (h : rs[i]? = some (kd, z, m)) : (rs.set i (kd, z, n)).map item = rs.map item := by
  apply List.ext_getElem?
  intro j
  rw [List.getElem?_map, List.getElem?_map]
  by_cases e : j = i
  · subst e; rw [List.getElem?_set_self (List.getElem?_eq_some_iff.mp h).1, h]; rfl
  · rw [List.getElem?_set_ne (Ne.symm e)]
theorem HR.set {kd : Nat} {rs : List Rc} {ks : List Str} {i : Nat} {z : Str} {m n : Int} (h : HR kd rs ks) (hr : rs[i]? = some (kd, z, m)) (hn : 0 ≤ n ∧ n ≤ 60) : HR kd (rs.set i (kd, z, n)) ks := by
  have mem : ∀ r ∈ rs.set i (kd, z, n), r ∈ rs ∨ r = (kd, z, n) := fun r hr => List.mem_or_eq_of_mem_set hr
  have hz := h.sub _ (List.mem_of_getElem? hr)
  refine ⟨fun r q => ?_, by rw [set_items hr]; exact h.nd, fun r q => ?_, fun r q => ?_, by rw [List.length_set]; exact h.few⟩
  · rcases mem r q with q | rfl; exact h.kind r q; rfl
  · rcases mem r q with q | rfl; exact h.sub r q; exact hz
  · rcases mem r q with q | rfl; exact h.lo r q; exact hn
theorem HR.erase {kd : Nat} {rs : List Rc} {ks : List Str} (h : HR kd rs ks) (i : Nat) : HR kd (rs.eraseIdx i) ks := by
  have sb : (rs.eraseIdx i).Sublist rs := List.eraseIdx_sublist _ _
  exact ⟨fun r q => h.kind r (sb.subset q), h.nd.sublist (sb.map _), fun r q => h.sub r (sb.subset q), fun r q => h.lo r (sb.subset q), Nat.le_trans sb.length_le h.few⟩
theorem HR.rev {kd : Nat} {rs : List Rc} {ks : List Str} (h : HR kd rs ks) : HR kd rs ks.reverse := ⟨h.kind, h.nd, fun r q => List.mem_reverse.mpr (h.sub r q), h.lo, h.few⟩
theorem Its.rev {ks : List Str} (h : Its ks) : Its ks.reverse := ⟨(List.reverse_perm ks).nodup_iff.mpr h.nd, fun z hz => h.it z (List.mem_reverse.mp hz), by rw [List.length_reverse]; exact h.few⟩
/-- different items stand at different addresses -/
theorem book_nodup {H : Hp} {l : Addr} {as : List Addr} {rs : List Rc} (b : Book A H l as rs) (nd : (rs.map item).Nodup) : as.Nodup := by
  refine List.pairwise_iff_getElem.mpr fun i j hi hj lt e => ?_
  have hl := b.len
  obtain ⟨_, d1, h1⟩ := b.at_ i as[i] rs[i] (List.getElem?_eq_getElem hi) (List.getElem?_eq_getElem (by omega))
  obtain ⟨_, d2, h2⟩ := b.at_ j as[j] rs[j] (List.getElem?_eq_getElem hj) (List.getElem?_eq_getElem (by omega))
  rw [e, h2] at h1
  have e2 : rs[j].2.1 = rs[i].2.1 := by
    have := Option.some.inj h1
    simp [recF] at this
    exact this.2.2.1
  exact List.pairwise_iff_getElem.mp nd i j (by simp; omega) (by simp; omega) lt (by simpa using e2.symm)
def sp_log (A : Ads) : Sp := fun vs H Q _ => ∃ (tp pp : Addr) (kd : Nat) (c : Int) (ts : List Addr) (ps : List (Str × Int)) (ks : List Str), vs = [.ref tp, .int kd, .ref pp] ∧ kd < 3 ∧ Tape H tp c ∧ c ≤ 700000 ∧ Prs H pp ts ps ∧ pp ≠ tp ∧ Its ks ∧ HP ps ks ∧
  ∀ D as rs H', H D = none → Book A H' D as rs → (∀ a ∈ as, H a = none) → (∀ a ∈ as, a ≠ D) → HR kd rs ks → (prR rs).Perm ps → But tp H H' → Tape H' tp (c + 100) → Q (.ref D) H'
theorem p_log (T : Tx K mg A) : Pur N_law_log ps_law_log (t_law_log P w K mg base A) (sp_log A) := by
  intro vs H Q E h
  obtain ⟨tp, pp, kd, c, ts, ps, ks, rfl, hk, t, hc, pr, npp, its, hp, q⟩ := h
  refine ⟨rfl, ?_⟩
  have pl := hp.few
  show t_law_log P w K mg base A E _ [some (.ref tp), some (.int kd), some (.ref pp), none, none] H
  unfold t_law_log
  walk_at "rd"
  refine ⟨3, _, fn_mixed T, by decide, tp, pp, _, _, rfl, t, by omega, pr.lst, by rw [List.length_map, pr.len]; omega, fun pm ys G1 hpm pym g1 t1 b1 => ?_⟩
  obtain ⟨ts', ps', pr', pm'⟩ := pr.perm (H' := G1) (p' := pm) (fun t' ⟨xs, hx⟩ => by rw [hx]; exact b1 _ _ (t.nt hx) hx) g1 pym
  have pl' : ps'.length = ps.length := pm'.length_eq
  refine ⟨pm, rfl, ⟨_, .inl (.inl pr'.lst)⟩, ?_⟩
  refine lc_rel (Rl := RcN A H) (fun _ _ _ _ s ⟨a, e, n, r⟩ => ⟨a, e, n, r.same s⟩) (goes_list (.inl (.inl pr'.lst))) (fun i => (ps'[i]?).map fun q => ((kd, q.1, q.2) : Rc)) (by rw [List.length_map, pr'.len]; exact Nat.lt_of_le_of_lt (by omega : _ ≤ 40) (by decide)) (fun i x G D hi s hx hD hacc => ?_) fun D G xs hD s hy ry => ?_
  · obtain ⟨t', q', rfl, ht', hq', z⟩ := (pr'.same s).get hx
    rw [hq']
    obtain ⟨acc, hacc⟩ := hacc
    have hqm := pm'.mem_iff.mp (List.mem_of_getElem? hq')
    refine ⟨[some (.ref tp), some (.int kd), some (.ref pp), some (.str q'.1), some (.int q'.2)], rfl, fun R' h => ⟨t', _, rfl, .inl (.inl z), rfl, _, _, rfl, _, _, rfl, rfl, h⟩, Evt.yes, fun G2 s2 Q' qq => ?_⟩
    walk_at "rd"
    have lo := hp.lo q' hqm
    refine ⟨5, _, fn_made T, by decide, kd, _, _, rfl, hk, its.it _ (hp.sub _ hqm), lo.1, lo.2, fun p G3 hp3 s3 r3 => qq _ _ s3 ⟨p, rfl, ?_, ?_⟩⟩
    · have f1 : G1 p = none := (s.trans s2).free hp3
      exact b1.free f1 (t1.ne f1)
    · obtain ⟨hk, dx2, h2⟩ := r3
      exact ⟨hk, dx2, hide_get h2 (Ne.symm (ne_of_none (s2 _ _ hacc) hp3))⟩
  · have e2 : (List.range (ts'.map V.ref).length).filterMap (fun i => (ps'[i]?).map fun q => ((kd, q.1, q.2) : Rc)) = ps'.map fun q => ((kd, q.1, q.2) : Rc) := by
      have e := range_list (fun q : Str × Int => some ((kd, q.1, q.2) : Rc)) ps'
      rw [List.filterMap_eq_map'] at e
      rw [List.length_map, pr'.len]
      refine Eq.trans ?_ e
      congr 1
      funext k
      cases ps'[k]? <;> rfl
    rw [e2] at ry
    obtain ⟨as, bh, fr⟩ := rel_bookN (A := A) (X := H) (H := G) (l := D) hy (ry.imp fun y r ⟨a, e, n, h⟩ => ⟨a, e, n, h.same hide_same⟩)
    have ep : prR (ps'.map fun q => ((kd, q.1, q.2) : Rc)) = ps' := by unfold prR; rw [List.map_map]; exact List.map_id' _
    refine q D as _ G (b1.free hD (t1.ne hD)) bh fr (fun a ha e => ?_) (HR.of (fun r hr => by obtain ⟨z, _, rfl⟩ := List.mem_map.mp hr; rfl) (by rw [ep]; exact pm') hp) (by rw [ep]; exact pm') (b1.trans (But.same s)) ((t1.same s).mono (by omega))
    obtain ⟨i, hi, e2⟩ := List.mem_iff_getElem.mp ha
    obtain ⟨_, d2, h2⟩ := bh.at_ i a _ (by rw [List.getElem?_eq_getElem hi, e2]) (List.getElem?_eq_getElem (by rw [← bh.len]; exact hi))
    rw [e, hy] at h2
    cases h2
theorem fn_log (T : Tx K mg A) : Fn P w K mg base 6 "_law_log" (sp_log A) := T.f_law_log.fn sc_law_log (fun hr => d_law_log T.G hr) (p_log T)
/-! ### bent -/
def sp_bent : Sp := fun vs H Q _ => ∃ (tp pp : Addr) (c : Int) (ts : List Addr) (ps : List (Str × Int)) (ks : List Str), vs = [.ref tp, .ref pp] ∧ Tape H tp c ∧ c ≤ 700000 ∧ Prs H pp ts ps ∧ pp ≠ tp ∧ HP ps ks ∧
  ∀ p ts' ps' H', H p = none → Prs H' p ts' ps' → HP ps' ks → But tp H H' → Tape H' tp (c + 100) → Q (.ref p) H'
theorem p_bent (T : Tx K mg A) : Pur N_law_bent ps_law_bent (t_law_bent P w K mg base A) sp_bent := by
  intro vs H Q E h
  obtain ⟨tp, pp, c, ts, ps, ks, rfl, t, hc, pr, npp, hp, q⟩ := h
  refine ⟨rfl, ?_⟩
  have few := hp.few
  show t_law_bent P w K mg base A E _ [some (.ref tp), some (.ref pp), none, none, none, none] H
  unfold t_law_bent
  refine seqU fun U hU => ?_
  walk_at "rd"
  refine ⟨by decide, fun F hF => ?_⟩
  rw [hU]
  clear hU
  have s1 := Same.new (o := .lst []) hF
  have gF := upd_same (H := H) (a := F) (o := .lst [])
  have nF : F ≠ tp := t.ne hF
  have t1 := t.same s1
  have npF : pp ≠ F := ne_of_none pr.lst hF
  generalize upd H F (.lst []) = H1 at s1 gF t1
  refine seqU fun U hU => ?_
  walk_at "rd"
  refine ⟨⟨_, .inl (.inl (s1 _ _ pr.lst))⟩, ?_⟩
  refine for_list (K := K) (a := pp) (xs := ts.map V.ref) (fun i σ G => ∃ (ts' : List Addr) (ps' : List (Str × Int)) (v3 v4 v5 : Option V), σ = [some (.ref tp), some (.ref pp), some (.ref F), v3, v4, v5] ∧ But tp H G ∧ Tape G tp (c + 2 * i) ∧ Prs G F ts' ps' ∧ ps'.map (·.1) = (ps.map (·.1)).take i ∧ ∀ q ∈ ps', 0 ≤ q.2 ∧ q.2 ≤ 60) ⟨[], [], _, _, _, rfl, But.same s1, by simpa using t1, ⟨gF, rfl, fun i t q h => by simp at h⟩, rfl, (fun _ h => nomatch h)⟩ (fun i σ G _ ⟨_, _, _, _, _, _, bG, _⟩ => .inl (.inl (bG _ _ npp pr.lst))) ?_ ?_
  · rintro i x σ G hx ⟨ts', ps', v3, v4, v5, rfl, bG, tG, prF, pe, lo⟩
    obtain ⟨t', q', rfl, ht', hq', z⟩ := (pr.but t bG npp).get hx
    have hi : i < ps.length := (List.getElem?_eq_some_iff.mp hq').1
    have ql := hp.lo q' (List.mem_of_getElem? hq')
    refine ⟨t', _, rfl, .inl (.inl z), rfl, _, _, rfl, _, _, rfl, rfl, ?_⟩
    refine seqU fun U2 hU2 => ?_
    walk_at "rd"
    refine ⟨2, _, fn_pick T, by decide, next_ok tG (by omega) (by decide) (by decide) fun wy Ga w0 w1 ta ba ea => ?_⟩
    rw [hU2]
    clear hU2
    have prFa := prF.but tG ba nF
    walk_at "rd"
    refine ⟨.inl ⟨rfl, _, .inl (.inl prFa.lst)⟩, 2, _, fn_pick T, by decide, next_ok ta (by omega) (by decide) (by decide) fun r Gb r0 r1 tb bb eb => ⟨(by show 6 ≤ sizeLine; decide), fun p3 hp3 => ?_⟩⟩
    have prFb := prFa.but ta bb nF
    have u3 := Same.new (o := .lst [.int q'.2, .int q'.2, .int q'.2, .int (if q'.2 - 1 > 0 then q'.2 - 1 else 0), .int (if q'.2 + 1 < 60 then q'.2 + 1 else 60), .int r]) hp3
    obtain ⟨vv, hvv, v0, v60⟩ : ∃ vv : Int, atI [V.int q'.2, V.int q'.2, V.int q'.2, V.int (if q'.2 - 1 > 0 then q'.2 - 1 else 0), V.int (if q'.2 + 1 < 60 then q'.2 + 1 else 60), V.int r] wy = some (.int vv) ∧ 0 ≤ vv ∧ vv ≤ 60 := by
      have : wy = 0 ∨ wy = 1 ∨ wy = 2 ∨ wy = 3 ∨ wy = 4 ∨ wy = 5 := by omega
      rcases this with rfl | rfl | rfl | rfl | rfl | rfl
      · exact ⟨_, rfl, ql.1, ql.2⟩
      · exact ⟨_, rfl, ql.1, ql.2⟩
      · exact ⟨_, rfl, ql.1, ql.2⟩
      · exact ⟨_, rfl, by split <;> omega, by split <;> omega⟩
      · exact ⟨_, rfl, by split <;> omega, by split <;> omega⟩
      · exact ⟨_, rfl, r0, by omega⟩
    refine ⟨_, _, .inl (.inl (.inl upd_same)), hvv, (by show 2 ≤ sizeLine; decide), fun p4 hp4 => ?_⟩
    have u4 := Same.new (o := .tup [.str q'.1, .int vv]) hp4
    have U4 := u3.trans u4
    have tsl : ts'.length = i := by rw [prF.len, ← List.length_map (f := fun q : Str × Int => q.1), pe, List.length_take, List.length_map]; omega
    refine ⟨F, ts'.map V.ref, _, rfl, rfl, U4 _ _ prFb.lst, Nat.lt_of_le_of_lt (by rw [List.length_map]; omega : _ ≤ 100) (by decide), ts' ++ [p4], ps' ++ [(q'.1, vv)], _, _, _, ⟨rfl, rfl, rfl⟩, ((((bG.trans ba).trans bb).trans (But.same U4))).mut hF, ((tb.same U4).other nF).mono (by push_cast; omega), (prFb.same U4).snoc (q := (q'.1, vv)) (t := p4) upd_same _ rfl, ?_, fun q2 hq2 => ?_⟩
    · rw [List.map_append, pe, List.take_succ_eq_append_getElem (by simpa using hi)]
      have : (ps.map (·.1))[i]'(by simpa using hi) = q'.1 := by
        rw [List.getElem_map]
        obtain ⟨_, e⟩ := List.getElem?_eq_some_iff.mp hq'
        rw [e]
      rw [this]; rfl
    · rcases List.mem_append.mp hq2 with y | y
      · exact lo q2 y
      · obtain rfl := List.mem_singleton.mp y; exact ⟨v0, v60⟩
  · rintro σ G ⟨ts', ps', v3, v4, v5, rfl, bG, tG, prF, pe, lo⟩
    show U _ _
    rw [hU]
    clear hU
    walk_at "rd"
    rw [List.length_map, pr.len] at pe tG
    have pe' : ps'.map (·.1) = ps.map (·.1) := by rw [pe]; rw [show ps.length = (ps.map (·.1)).length by simp, List.take_length]
    refine q F ts' ps' G hF prF ⟨by rw [pe']; exact hp.nd, fun q' hq' => ?_, lo, ?_⟩ bG (tG.mono (by omega))
    · have : q'.1 ∈ ps.map (·.1) := by rw [← pe']; exact List.mem_map.mpr ⟨q', hq', rfl⟩
      obtain ⟨q2, h2, e⟩ := List.mem_map.mp this
      rw [← e]; exact hp.sub q2 h2
    · have := congrArg List.length pe'
      rw [List.length_map, List.length_map] at this
      omega
theorem fn_bent (T : Tx K mg A) : Fn P w K mg base 3 "_law_bent" sp_bent := T.f_law_bent.fn sc_law_bent (fun hr => d_law_bent T.G hr) (p_bent T)
/-! ### one call -/
def dS (zs : List Str) : PyData := .list (zs.map .str)
theorem dp_dS {H : Hp} {a : Addr} {zs : List Str} (h : SqL K H a (zs.map V.str)) : Dp K H (.ref a) (dS zs) := .lst h (dpa_map zs fun x _ => .str x)
theorem item_ok {z : Str} (h : isItem z = true) : PyData.strOk z = true := by
  unfold isItem at h
  simp only [Bool.and_eq_true, List.all_eq_true, decide_eq_true_eq] at h
  unfold PyData.strOk
  rw [← Array.all_toList, List.all_eq_true]
  intro c hc
  have := h.2 c hc
  exact decide_eq_true (by omega)
theorem okI {z : Str} {n : Nat} (h : isItem z = true) : okR n 10 (.str z) := (okR.str (item_ok h)).mono (Nat.le_refl _) (Nat.le_trans (item_len h).2 (by decide))
theorem dS_ok {zs : List Str} (h : ∀ z ∈ zs, isItem z = true) (hl : zs.length ≤ 100) : okR 1 1100 (dS zs) := by
  have q : okR 1 ((10 + 1) * (zs.map PyData.str).length) (dS zs) := okR.list (n := 0) (k := 10) fun d hd => by
    obtain ⟨z, hz, rfl⟩ := List.mem_map.mp hd
    exact okI (h z hz)
  exact q.mono (Nat.le_refl _) (by rw [List.length_map]; omega)
theorem dP_ok {ps : List (Str × Int)} (h : ∀ q ∈ ps, isItem q.1 = true ∧ 0 ≤ q.2 ∧ q.2 ≤ 60) (hl : ps.length ≤ 100) : okR 2 2300 (dP ps) := by
  have q : okR 2 ((22 + 1) * (ps.map fun q => PyData.tuple [.str q.1, .int q.2]).length) (dP ps) := okR.list (n := 1) (k := 22) fun d hd => by
    obtain ⟨q, hq, rfl⟩ := List.mem_map.mp hd
    obtain ⟨h1, h2, h3⟩ := h q hq
    exact okR.tuple (n := 0) (k := 10) (ds := [.str q.1, .int q.2]) fun d hd => by
      rcases List.mem_cons.mp hd with rfl | hd
      · exact okI h1
      · obtain rfl := List.mem_singleton.mp hd; exact okR.int (by omega)
  exact q.mono (Nat.le_refl _) (by rw [List.length_map]; omega)
/-- what is shown of a log and a known list -/
def dK2 (rs : List Rc) (ks : List Str) : PyData := .list [dP (prR rs), dS ks]
theorem dK2_ok {rs : List Rc} {ks : List Str} (kn : Known rs ks) : okR 3 5000 (dK2 rs ks) := by
  have few := kn.its.few
  have h40 := log_40 kn.log
  have q : okR 3 ((2300 + 1) * 2) (dK2 rs ks) := okR.list (n := 2) (k := 2300) (ds := [dP (prR rs), dS ks]) fun d hd => by
    rcases List.mem_cons.mp hd with rfl | hd
    · exact dP_ok (fun q hq => by obtain ⟨r, hr, rfl⟩ := List.mem_map.mp hq; exact kn.ok r hr) (by unfold prR; rw [List.length_map]; omega)
    · obtain rfl := List.mem_singleton.mp hd
      exact (dS_ok kn.its.it (by omega)).mono (by decide) (by decide)
  exact q.mono (Nat.le_refl _) (by decide)
end
end K
namespace K
open PySem PySem.Spec PyProof.Rows L2 U ClX M
local macro_rules | `(tactic| walk_at "rd") => `(tactic| simp only [tSeq, tRet, tIfS, tAsg, tDrop, tNext, tNever, tRetN, tAndV, tOrV, tNotV, tAnd, tOr, tNot, tB, tTest, tChain, tCB, tCons, tNil, tVar, tC, tOp, tUn, tIf, gName, uLe, uLt, uGe, uGt, uCmp, uAdd, uSub, uMul, uDiv, uMod, uPow, uNeg, uEq, uNe, uIs, uIsNot, uIx, uIn, cIsi, cLen, cAll, cMax, cMin, cAbs, cSort, cSortD, cInt, cTuple, cRepr, cDict, cList, cSortS, tRevL, tDGet, tLstRg, tTupRg, tRg1, tRg2, sDPut, tDNewK, tAug, ipI, iZip, tLst, tTup, tPar, U.tPar3, tFn, tMkr, tMth, tFnK, tMthK, tAtt, sFld, tYes, tLc_eq, tFor_eq, iList, iStr, iRng1, iRng2, iEnum, tLenSetT, tSl, tPart, tNoPart, gTup, gCons, gNil, gSub, tBM, tBM0, List.getElem?_cons_zero, List.getElem?_cons_succ, List.set_cons_zero, List.set_cons_succ, Option.some.injEq, V.bl.injEq, V.int.injEq, V.str.injEq, V.ref.injEq, exists_eq_left', exists_eq_left, exists_eq_right, exists_eq_right', and_true, true_and, scal, if_true, Bool.false_eq_true, if_false, List.cons.injEq, exists_const, false_and, and_false, ite_true, ite_false, Bool.not_true, Bool.not_false])
section
variable {P : Program} {w : World} {K : PySem.W.Frag} {mg : Str → Option Value} {base : Heap} {A : Ads}
/-! ### fitting -/
/-- the pairs with another index for z -/
def putP (ps : List (Str × Int)) (z : Str) (i : Int) : List (Str × Int) := ps.map fun q => (q.1, if q.1 = z then i else q.2)
theorem putP_names (ps : List (Str × Int)) (z : Str) (i : Int) : (putP ps z i).map (·.1) = ps.map (·.1) := by unfold putP; rw [List.map_map]; rfl
theorem putP_mk (ps : List (Str × Int)) (z : Str) (i : Int) (zs : List Str) : mkP (putP ps z i) zs = mkP ps zs := by unfold mkP; rw [putP_names]
theorem sv_put (z : Str) (i : Int) : ∀ {ps : List (Str × Int)}, z ∈ ps.map (·.1) → sv (putP ps z i) z = i
  | q :: ps, h => by
    show (if q.1 = z then (if q.1 = z then i else q.2) else sv (putP ps z i) z) = i
    by_cases e : q.1 = z
    · rw [if_pos e, if_pos e]
    · rw [if_neg e]
      exact sv_put z i (by rcases List.mem_cons.mp h with h | h; exact absurd h.symm e; exact h)
theorem one_of {β : Type} (c : Str → β) {z : Str} : ∀ {m : List Str}, m.Nodup → z ∈ m → m.filterMap (fun y => if y = z then some (c y) else none) = [c z]
  | y :: m, nd, h => by
    have nd' := List.nodup_cons.mp nd
    rw [List.filterMap_cons]
    by_cases e : y = z
    · subst e
      rw [if_pos rfl]
      have : m.filterMap (fun y' => if y' = y then some (c y') else none) = [] := List.filterMap_eq_nil_iff.mpr fun a ha => if_neg fun e => nd'.1 (by rw [← e]; exact ha)
      simp [this]
    · rw [if_neg e]
      exact one_of c nd'.2 (by rcases List.mem_cons.mp h with h | h; exact absurd h.symm e; exact h)
def fitB (kd : Nat) (ps : List (Str × Int)) (zs : List Str) (z : Str) (i : Int) : Bool := decide (0 ≤ shiftP (decide (kd = 2)) zs z i) && decide (shiftP (decide (kd = 2)) zs z i ≤ roomP (decide (kd = 2)) (mkP ps zs) z)
def fitL (kd : Nat) (ps : List (Str × Int)) (zs : List Str) (z : Str) (n : Nat) : List Int := ((List.range n).map Int.ofNat).filter (fitB kd ps zs z)
theorem fitL_succ (kd : Nat) (ps : List (Str × Int)) (zs : List Str) (z : Str) (n : Nat) : fitL kd ps zs z (n + 1) = if fitB kd ps zs z n = true then fitL kd ps zs z n ++ [(n : Int)] else fitL kd ps zs z n := by
  unfold fitL
  rw [List.range_succ, List.map_append, List.filter_append]
  show _ ++ List.filter (fitB kd ps zs z) [(n : Int)] = _
  by_cases c : fitB kd ps zs z n = true
  · rw [if_pos c, List.filter_cons_of_pos c]; rfl
  · rw [if_neg c, List.filter_cons_of_neg c]; simp
theorem fitL_len (kd : Nat) (ps : List (Str × Int)) (zs : List Str) (z : Str) (n : Nat) : (fitL kd ps zs z n).length ≤ n := by
  refine Nat.le_trans (List.length_filter_le _ _) ?_
  simp
def Pr2 (H : Hp) (v : V) (q : Int × Int) : Prop := ∃ t, v = .ref t ∧ H t = some (.tup [.int q.1, .int q.2])
def sp_fitting : Sp := fun vs H Q _ => ∃ (pp pk : Addr) (kd : Nat) (ts : List Addr) (ps : List (Str × Int)) (ks : List Str) (z : Str), vs = [.int kd, .ref pp, .ref pk, .str z] ∧ kd < 3 ∧ Prs H pp ts ps ∧ HP ps ks ∧ H pk = some (.lst (ks.map V.str)) ∧ Its ks ∧ z ∈ ps.map (·.1) ∧
  ∀ p H', H p = none → Same H H' → H' p = some (.lst ((fitL kd ps ks z 61).map V.int)) → Q (.ref p) H'
theorem p_fitting (T : Tx K mg A) : Pur N_law_fitting ps_law_fitting (t_law_fitting P w K mg base A) sp_fitting := by
  intro vs H Q E h
  obtain ⟨pp, pk, kd, ts, ps, ks, z, rfl, hk, pr, hp, hpk, its, hz, q⟩ := h
  refine ⟨rfl, ?_⟩
  have few := hp.few
  have zk : z ∈ ks := by obtain ⟨q', hq', e⟩ := List.mem_map.mp hz; rw [← e]; exact hp.sub q' hq'
  have zm : z ∈ mkP ps ks := List.mem_filter.mpr ⟨zk, decide_eq_true hz⟩
  have mnd : (mkP ps ks).Nodup := its.nd.sublist List.filter_sublist
  have mlen : (mkP ps ks).length ≤ 60 := Nat.le_trans (List.length_filter_le _ _) its.few
  show t_law_fitting P w K mg base A E _ [some (.int kd), some (.ref pp), some (.ref pk), some (.str z), none, none, none, none, none, none, none, none] H
  unfold t_law_fitting
  refine seqU fun U hU => ?_
  walk_at "rd"
  refine ⟨by decide, fun F hF => ?_⟩
  rw [hU]
  clear hU
  have s1 := Same.new (o := .lst []) hF
  have gF := upd_same (H := H) (a := F) (o := .lst [])
  generalize upd H F (.lst []) = H1 at s1 gF
  refine seqU fun U hU => ?_
  walk_at "rd"
  refine ⟨by decide, by decide, ?_⟩
  refine for_range (n := 61) (fun i σ G => ∃ (v5 v6 v7 v8 v9 : Option V), σ = [some (.int kd), some (.ref pp), some (.ref pk), some (.str z), some (.ref F), v5, v6, v7, v8, v9, none, none] ∧ Same H G ∧ G F = some (.lst ((fitL kd ps ks z i).map V.int))) ⟨_, _, _, _, _, rfl, s1, gF⟩ ?_ ?_
  · rintro i σ G hi ⟨v5, v6, v7, v8, v9, rfl, sG, gFG⟩
    simp only [gName]
    refine seqU fun U2 hU2 => ?_
    walk_at "rd"
    have prG := pr.same sG
    refine ⟨⟨_, .inl (.inl prG.lst)⟩, ?_⟩
    refine lc_rel (Rl := PrV) (fun _ _ _ _ s ⟨t, e, h⟩ => ⟨t, e, s _ _ h⟩) (goes_list (.inl (.inl prG.lst))) (fun k => (ps[k]?).map fun q => (q.1, if q.1 = z then (i : Int) else q.2)) (by rw [List.length_map, prG.len]; exact Nat.lt_of_le_of_lt few (by decide)) (fun k x G2 D hk' s hx hD hacc => ?_) fun D G2 xs hD s2 hy ry => ?_
    · obtain ⟨t', q', rfl, ht', hq', zt⟩ := (prG.same s).get hx
      rw [hq']
      obtain ⟨acc, hacc⟩ := hacc
      refine ⟨[some (.int kd), some (.ref pp), some (.ref pk), some (.str z), some (.ref F), some (.int (0 + i)), v6, v7, v8, v9, some (.str q'.1), some (.int q'.2)], rfl, fun R' h => ⟨t', _, rfl, .inl (.inl zt), rfl, _, _, rfl, _, _, rfl, rfl, h⟩, Evt.yes, fun G3 s3 Q' qq => ?_⟩
      walk_at "rd"
      by_cases c : q'.1 = z
      · rw [if_pos (by simpa using c)]
        refine ⟨(by show 2 ≤ sizeLine; decide), fun p hp => qq _ _ (Same.new hp) ⟨p, rfl, ?_⟩⟩
        show _ = some (HO.tup [.str q'.1, .int (if q'.1 = z then (i : Int) else q'.2)])
        rw [hide_get upd_same (Ne.symm (ne_of_none (s3 _ _ hacc) hp)), if_pos c, Int.zero_add]
      · rw [if_neg (by simpa using c)]
        refine ⟨(by show 2 ≤ sizeLine; decide), fun p hp => qq _ _ (Same.new hp) ⟨p, rfl, ?_⟩⟩
        show _ = some (HO.tup [.str q'.1, .int (if q'.1 = z then (i : Int) else q'.2)])
        rw [hide_get upd_same (Ne.symm (ne_of_none (s3 _ _ hacc) hp)), if_neg c]
    · have e2 : (List.range (ts.map V.ref).length).filterMap (fun k => (ps[k]?).map fun q => (q.1, if q.1 = z then (i : Int) else q.2)) = putP ps z i := by
        have e := range_list (fun q : Str × Int => some (q.1, if q.1 = z then (i : Int) else q.2)) ps
        rw [List.filterMap_eq_map'] at e
        rw [List.length_map, prG.len]
        refine Eq.trans ?_ e
        congr 1
        funext k
        cases ps[k]? <;> rfl
      rw [e2] at ry
      obtain ⟨ts2, pr2⟩ := prs_of hy (ry.imp fun y r ⟨t, e, h⟩ => ⟨t, e, hide_same _ _ h⟩)
      rw [hU2]
      clear hU2
      have S2 := sG.trans s2
      refine seqU fun U2 hU2 => ?_
      walk_at "rd"
      refine ⟨2, _, fn_sides T, by decide, D, pk, kd, ts2, _, ks, rfl, hk, pr2, by unfold putP; rw [List.length_map]; omega, by rw [putP_names]; exact hp.nd, S2 _ _ hpk, its, fun pS us G3 hpS s3 sd => ?_⟩
      rw [putP_mk] at sd
      refine ⟨pS, rfl, ⟨_, .inl (.inl sd.lst)⟩, ?_⟩
      have ul : us.length = (mkP ps ks).length := by rw [sd.len, List.length_map]
      refine lc_rel (Rl := Pr2) (fun _ _ _ _ s ⟨t, e, h⟩ => ⟨t, e, s _ _ h⟩) (goes_list (.inl (.inl sd.lst))) (fun k => ((mkP ps ks)[k]?).bind fun y => if y = z then some (shiftP (decide (kd = 2)) ks y (sv (putP ps z i) y), roomP (decide (kd = 2)) (mkP ps ks) y) else none) (by rw [List.length_map, ul]; exact Nat.lt_of_le_of_lt mlen (by decide)) (fun k x G4 D4 hk4 s4 hx hD4 hacc => ?_) fun D4 G4 xs4 hD4 s4 hy4 ry4 => ?_
      · rw [List.getElem?_map] at hx
        cases eu : us[k]? with
        | none => rw [eu] at hx; cases hx
        | some t' =>
        rw [eu] at hx
        obtain rfl := (Option.some.inj hx).symm
        have kl : k < (mkP ps ks).length := by rw [← ul]; exact (List.getElem?_eq_some_iff.mp eu).1
        have em : (mkP ps ks)[k]? = some (mkP ps ks)[k] := List.getElem?_eq_getElem kl
        have zt := s4 _ _ (sd.at_ k t' _ eu (by rw [List.getElem?_map, em]; rfl))
        rw [em]
        obtain ⟨acc, hacc⟩ := hacc
        generalize (mkP ps ks)[k] = y at zt
        unfold sideP at zt
        rw [putP_mk] at zt
        refine ⟨[some (.int kd), some (.ref pp), some (.ref pk), some (.str z), some (.ref F), some (.int (0 + i)), some (.ref D), v7, some (.int (shiftP (decide (kd = 2)) ks y (sv (putP ps z i) y))), some (.int (roomP (decide (kd = 2)) (mkP ps ks) y)), some (.str y), none], rfl, fun R' h => ⟨t', _, rfl, .inl (.inl zt), rfl, _, _, rfl, _, _, rfl, _, _, rfl, rfl, h⟩, ?_⟩
        have ev : Evt (tTest (tOp (uEq K) (tVar 10) (tVar 3))) [some (.int kd), some (.ref pp), some (.ref pk), some (.str z), some (.ref F), some (.int (0 + i)), some (.ref D), v7, some (.int (shiftP (decide (kd = 2)) ks y (sv (putP ps z i) y))), some (.int (roomP (decide (kd = 2)) (mkP ps ks) y)), some (.str y), none] G4 (decide (y = z)) := by
          intro Q' q'
          walk_at "rd"
          exact q' _ (Same.refl _)
        rw [Option.bind_some]
        by_cases c : y = z
        · rw [decide_eq_true c] at ev
          rw [if_pos c]
          refine ⟨ev, fun G5 s5 Q' qq => ?_⟩
          walk_at "rd"
          refine ⟨(by show 2 ≤ sizeLine; decide), fun p hp => qq _ _ (Same.new hp) ⟨p, rfl, hide_get upd_same (Ne.symm (ne_of_none (s5 _ _ hacc) hp))⟩⟩
        · rw [decide_eq_false c] at ev
          rw [if_neg c]
          exact ev
      · rw [List.length_map, ul, range_list (fun y => if y = z then some (shiftP (decide (kd = 2)) ks y (sv (putP ps z i) y), roomP (decide (kd = 2)) (mkP ps ks) y) else none), one_of (fun y => (shiftP (decide (kd = 2)) ks y (sv (putP ps z i) y), roomP (decide (kd = 2)) (mkP ps ks) y)) mnd zm, sv_put z i hz] at ry4
        match xs4, ry4.len with
        | [x4], _ =>
        obtain ⟨t4, rfl, zt⟩ := ry4.at_ 0 _ _ rfl rfl
        replace zt := hide_same _ _ zt
        rw [hU2]
        clear hU2
        refine seqU fun U2 hU2 => ?_
        walk_at "rd"
        refine ⟨_, _, .inl (.inl (.inl hy4)), at_of (j := 0) rfl rfl, t4, _, rfl, .inl (.inl zt), rfl, _, _, rfl, _, _, rfl, rfl, ?_⟩
        show U2 _ _
        rw [hU2]
        clear hU2
        have S4 := S2.trans (s3.trans s4)
        have gF4 := s4 _ _ (s3 _ _ (s2 _ _ gFG))
        walk_at "rd"
        have es := fitL_succ kd ps ks z i
        have fl := fitL_len kd ps ks z i
        unfold fitB at es
        by_cases c1 : 0 ≤ shiftP (decide (kd = 2)) ks z i
        · rw [if_pos (decide_eq_true c1)]
          rw [decide_eq_true c1, Bool.true_and] at es
          by_cases c2 : shiftP (decide (kd = 2)) ks z i ≤ roomP (decide (kd = 2)) (mkP ps ks) z
          · rw [if_pos (by simpa using c2)]
            rw [if_pos (decide_eq_true c2)] at es
            refine ⟨.inl ⟨rfl, _, .inl (.inl gF4)⟩, F, _, _, rfl, rfl, gF4, Nat.lt_of_le_of_lt (by rw [List.length_map]; omega : _ ≤ 100) (by decide), ?_⟩
            refine ⟨_, _, _, _, _, ⟨rfl, rfl, rfl, rfl, rfl⟩, S4.mut hF, ?_⟩
            rw [upd_same, es, List.map_append, Int.zero_add]; rfl
          · rw [if_neg (by simpa using c2)]
            rw [if_neg (by simpa using c2)] at es
            exact ⟨_, _, _, _, _, ⟨rfl, rfl, rfl, rfl, rfl⟩, S4, by rw [es]; exact gF4⟩
        · rw [if_neg (by simpa using c1)]
          rw [decide_eq_false c1, Bool.false_and, if_neg (by decide)] at es
          exact ⟨_, _, _, _, _, ⟨rfl, rfl, rfl, rfl, rfl⟩, S4, by rw [es]; exact gF4⟩
  · rintro σ G ⟨v5, v6, v7, v8, v9, rfl, sG, gFG⟩
    show U _ _
    rw [hU]
    clear hU
    walk_at "rd"
    exact q F G hF sG gFG
theorem fn_fitting (T : Tx K mg A) : Fn P w K mg base 4 "_law_fitting" sp_fitting := T.f_law_fitting.fn sc_law_fitting (fun hr => d_law_fitting T.G hr) (p_fitting T)
end
end K
namespace K
open PySem PySem.Spec PyProof.Rows L2 U ClX M
local macro_rules | `(tactic| walk_at "rd") => `(tactic| simp only [tSeq, tRet, tIfS, tAsg, tDrop, tNext, tNever, tRetN, tAndV, tOrV, tNotV, tAnd, tOr, tNot, tB, tTest, tChain, tCB, tCons, tNil, tVar, tC, tOp, tUn, tIf, gName, uLe, uLt, uGe, uGt, uCmp, uAdd, uSub, uMul, uDiv, uMod, uPow, uNeg, uEq, uNe, uIs, uIsNot, uIx, uIn, cIsi, cLen, cAll, cMax, cMin, cAbs, cSort, cSortD, cInt, cTuple, cRepr, cDict, cList, cSortS, tRevL, tDGet, tLstRg, tTupRg, tRg1, tRg2, sDPut, tDNewK, tAug, ipI, iZip, tLst, tTup, tPar, U.tPar3, tFn, tMkr, tMth, tFnK, tMthK, tAtt, sFld, tYes, tLc_eq, tFor_eq, iList, iStr, iRng1, iRng2, iEnum, tLenSetT, tSl, tPart, tNoPart, gTup, gCons, gNil, gSub, tBM, tBM0, List.getElem?_cons_zero, List.getElem?_cons_succ, List.set_cons_zero, List.set_cons_succ, Option.some.injEq, V.bl.injEq, V.int.injEq, V.str.injEq, V.ref.injEq, exists_eq_left', exists_eq_left, exists_eq_right, exists_eq_right', and_true, true_and, scal, if_true, Bool.false_eq_true, if_false, List.cons.injEq, exists_const, false_and, and_false, ite_true, ite_false, Bool.not_true, Bool.not_false])
section
variable {P : Program} {w : World} {K : PySem.W.Frag} {mg : Str → Option Value} {base : Heap} {A : Ads}
/-! ### the plain law of the ranges -/
theorem within_iff (fr : Bool) (zs m : List Str) (z : Str) (i : Int) : (0 ≤ shiftP fr zs z i ∧ shiftP fr zs z i ≤ roomP fr m z) ↔ (lowP fr zs m z ≤ i ∧ i ≤ highP fr zs m z) := by
  unfold shiftP roomP lowP highP roomP
  cases fr
  · simp only [Bool.false_eq_true, if_false]; omega
  · simp only [if_true]; omega
theorem filter_rg (a b : Nat) : ∀ n : Nat, (List.range n).filter (fun k => decide (a ≤ k) && decide (k ≤ b)) = List.range' a (min n (b + 1) - a)
  | 0 => by simp
  | n + 1 => by
    rw [List.range_succ, List.filter_append, filter_rg a b n]
    by_cases c : a ≤ n ∧ n ≤ b
    · rw [List.filter_cons_of_pos (by simp [c.1, c.2])]
      rw [show min (n + 1) (b + 1) - a = (min n (b + 1) - a) + 1 by omega, List.range'_1_concat]
      rw [show a + (min n (b + 1) - a) = n by omega]; simp
    · rw [List.filter_cons_of_neg (by simp only [Bool.and_eq_true, decide_eq_true_eq]; exact c)]
      rw [show min (n + 1) (b + 1) - a = min n (b + 1) - a by omega]; simp
def loK (kd : Nat) (ps : List (Str × Int)) (ks : List Str) (z : Str) : Int := lowP (decide (kd = 2)) ks (mkP ps ks) z
def hiK (kd : Nat) (ps : List (Str × Int)) (ks : List Str) (z : Str) : Int := highP (decide (kd = 2)) ks (mkP ps ks) z
theorem mkP_range {kd : Nat} {ps : List (Str × Int)} {ks : List Str} {z : Str} (its : Its ks) (h : z ∈ mkP ps ks) : 0 ≤ loK kd ps ks z ∧ loK kd ps ks z ≤ hiK kd ps ks z ∧ hiK kd ps ks z ≤ 59 := by
  have em : mkP ps ks = mkd ks (ps.map fun q => ((0, q.1, q.2) : Rc)) := by unfold mkP mkd; rw [List.map_map]; rfl
  unfold loK hiK
  rw [em] at h ⊢
  exact frame_range its h _
theorem fit_rg {kd : Nat} {ps : List (Str × Int)} {ks : List Str} {z : Str} (its : Its ks) (h : z ∈ mkP ps ks) : fitL kd ps ks z 61 = (List.range (hiK kd ps ks z + 1 - loK kd ps ks z).toNat).map (fun k : Nat => loK kd ps ks z + (k : Int)) := by
  obtain ⟨h0, h1, h2⟩ := mkP_range (kd := kd) its h
  have e : fitL kd ps ks z 61 = ((List.range 61).filter (fun k => decide ((loK kd ps ks z).toNat ≤ k) && decide (k ≤ (hiK kd ps ks z).toNat))).map Int.ofNat := by
    unfold fitL
    rw [List.filter_map]
    congr 1
    apply List.filter_congr
    intro k _
    show fitB kd ps ks z (k : Int) = _
    unfold fitB
    rw [Bool.eq_iff_iff, Bool.and_eq_true, Bool.and_eq_true, decide_eq_true_eq, decide_eq_true_eq, decide_eq_true_eq, decide_eq_true_eq, within_iff]
    show loK kd ps ks z ≤ k ∧ (k : Int) ≤ hiK kd ps ks z ↔ _
    omega
  rw [e, filter_rg, List.range'_eq_map_range, List.map_map]
  rw [show min 61 ((hiK kd ps ks z).toNat + 1) - (loK kd ps ks z).toNat = (hiK kd ps ks z + 1 - loK kd ps ks z).toNat by omega]
  apply List.map_congr_left
  intro k _
  show ((loK kd ps ks z).toNat + k : Nat) = loK kd ps ks z + (k : Int)
  omega
theorem faultL_none {fr : Bool} {zs m : List Str} {s : Str → Int} : ∀ {l : List Str}, faultL fr zs m s l = none ↔ ∀ z ∈ l, 0 ≤ shiftP fr zs z (s z) ∧ shiftP fr zs z (s z) ≤ roomP fr m z
  | [] => by simp [faultL]
  | y :: l => by
    unfold faultL
    rw [List.forall_mem_cons]
    by_cases c1 : shiftP fr zs y (s y) < 0
    · rw [if_pos c1]; simp; omega
    · rw [if_neg c1]
      by_cases c2 : roomP fr m y < shiftP fr zs y (s y)
      · rw [if_pos c2]; simp; omega
      · rw [if_neg c2, faultL_none]
        exact ⟨fun h => ⟨⟨by omega, by omega⟩, h⟩, fun h => h.2⟩
theorem isFr_kd {kd : Nat} (hk : kd < 3) {rs : List Rc} (hr : ∀ r ∈ rs, r.1 = kd) (ne : rs ≠ []) : isFr rs = decide (kd = 2) := by
  match rs, ne with
  | r :: rs, _ =>
    have := hr r List.mem_cons_self
    show decide (sgn r.1 = "^") = decide (kd = 2)
    rw [this]
    match kd, hk with
    | 0, _ => decide +kernel
    | 1, _ => decide +kernel
    | 2, _ => decide +kernel
theorem fault_none {kd : Nat} (hk : kd < 3) {rs : List Rc} {ps : List (Str × Int)} {ks : List Str} (kn : Known rs ks) (hr : ∀ r ∈ rs, r.1 = kd) (em : mkd ks rs = mkP ps ks) : faultP rs ks = none ↔ ∀ r ∈ rs, loK kd ps ks (item r) ≤ slot r ∧ slot r ≤ hiK kd ps ks (item r) := by
  by_cases ne : rs = []
  · subst ne
    have : mkd ks ([] : List Rc) = [] := List.filter_eq_nil_iff.mpr fun z _ => by simp
    unfold faultP
    rw [this]
    simp [faultL]
  unfold faultP
  rw [isFr_kd hk hr ne, faultL_none]
  have one : ∀ r ∈ rs, sl rs (item r) = slot r := fun r h => by
    obtain ⟨i, hi, e⟩ := List.mem_iff_getElem.mp h
    exact sl_at kn.nd (by rw [List.getElem?_eq_getElem hi, e])
  constructor
  · intro h r hr'
    have := h _ (kn.mk' hr')
    rw [one r hr', em, within_iff] at this
    exact this
  · intro h z hz
    obtain ⟨i, r, hr', rfl⟩ := mkd_in hz
    have hm := List.mem_of_getElem? hr'
    rw [one r hm, em, within_iff]
    exact h r hm
theorem mk_of {rs : List Rc} {ps : List (Str × Int)} {ks : List Str} (h : ∀ z, z ∈ rs.map item ↔ z ∈ ps.map (·.1)) : mkd ks rs = mkP ps ks := by
  unfold mkd mkP
  apply List.filter_congr
  intro z _
  rw [decide_eq_decide]
  exact h z
theorem names_perm {rs : List Rc} {ps : List (Str × Int)} (pm : (prR rs).Perm ps) : (rs.map item).Perm (ps.map (·.1)) := by
  have := pm.map (fun q : Str × Int => q.1)
  unfold prR at this
  rw [List.map_map] at this
  exact this
/-! ### the ends -/
structure Ens (H : Hp) (E : Addr) (us : List Addr) (zs : List Str) (lo hi : Str → Int) : Prop where
  lst : H E = some (.lst (us.map V.ref))
  len : us.length = zs.length
  at_ : ∀ (i : Nat) (u : Addr) (z : Str), us[i]? = some u → zs[i]? = some z → ∃ t, H u = some (.tup [.str z, .ref t]) ∧ H t = some (.tup [.int (lo z), .int (hi z)])
theorem Ens.same {H H' : Hp} {E : Addr} {us : List Addr} {zs : List Str} {lo hi : Str → Int} (h : Ens H E us zs lo hi) (s : Same H H') : Ens H' E us zs lo hi := ⟨s _ _ h.lst, h.len, fun i u z h1 h2 => let ⟨t, a, b⟩ := h.at_ i u z h1 h2; ⟨t, s _ _ a, s _ _ b⟩⟩
theorem Ens.but {H H' : Hp} {E tp : Addr} {c : Int} {us : List Addr} {zs : List Str} {lo hi : Str → Int} (h : Ens H E us zs lo hi) (t : Tape H tp c) (b : But tp H H') (n : E ≠ tp) : Ens H' E us zs lo hi := ⟨b _ _ n h.lst, h.len, fun i u z h1 h2 => let ⟨t', a, b'⟩ := h.at_ i u z h1 h2; ⟨t', b _ _ (t.nt a) a, b _ _ (t.nt b') b'⟩⟩
theorem Ens.get {H : Hp} {E : Addr} {us : List Addr} {zs : List Str} {lo hi : Str → Int} (h : Ens H E us zs lo hi) {i : Nat} {x : V} (e : (us.map V.ref)[i]? = some x) : ∃ u z t, x = .ref u ∧ us[i]? = some u ∧ zs[i]? = some z ∧ H u = some (.tup [.str z, .ref t]) ∧ H t = some (.tup [.int (lo z), .int (hi z)]) := by
  rw [List.getElem?_map] at e
  cases eu : us[i]? with
  | none => rw [eu] at e; cases e
  | some u =>
    rw [eu] at e
    have hi' : i < zs.length := by rw [← h.len]; exact (List.getElem?_eq_some_iff.mp eu).1
    obtain ⟨t, a, b⟩ := h.at_ i u zs[i] eu (List.getElem?_eq_getElem hi')
    exact ⟨u, zs[i], t, (Option.some.inj e).symm, rfl, List.getElem?_eq_getElem hi', a, b⟩
theorem Ens.snoc {H : Hp} {E u t : Addr} {us : List Addr} {zs : List Str} {z : Str} {lo hi : Str → Int} (h : Ens H E us zs lo hi) (hu : H u = some (.tup [.str z, .ref t])) (ht : H t = some (.tup [.int (lo z), .int (hi z)])) : Ens (upd H E (.lst (us.map V.ref ++ [.ref u]))) E (us ++ [u]) (zs ++ [z]) lo hi := by
  have ne : ∀ {x : Addr} {xs : List V}, H x = some (.tup xs) → x ≠ E := fun h' e => by rw [e, h.lst] at h'; cases h'
  refine ⟨by rw [upd_same, List.map_append]; rfl, by simp [h.len], fun i v y h1 h2 => ?_⟩
  by_cases c : i < us.length
  · rw [List.getElem?_append_left c] at h1
    rw [List.getElem?_append_left (by rw [← h.len]; exact c)] at h2
    obtain ⟨t', a, b⟩ := h.at_ i v y h1 h2
    exact ⟨t', by rw [upd_ne (ne a)]; exact a, by rw [upd_ne (ne b)]; exact b⟩
  · rw [List.getElem?_append_right (by omega)] at h1
    rw [List.getElem?_append_right (by rw [← h.len]; omega), ← h.len] at h2
    cases hh : i - us.length with
    | zero =>
      rw [hh] at h1 h2
      simp at h1 h2; subst h1; subst h2
      exact ⟨t, by rw [upd_ne (ne hu)]; exact hu, by rw [upd_ne (ne ht)]; exact ht⟩
    | succ n => rw [hh] at h1; simp at h1
end
end K
namespace K
open PySem PySem.Spec PyProof.Rows L2 U ClX M
local macro_rules | `(tactic| walk_at "rd") => `(tactic| simp only [tSeq, tRet, tIfS, tAsg, tDrop, tNext, tNever, tRetN, tAndV, tOrV, tNotV, tAnd, tOr, tNot, tB, tTest, tChain, tCB, tCons, tNil, tVar, tC, tOp, tUn, tIf, gName, uLe, uLt, uGe, uGt, uCmp, uAdd, uSub, uMul, uDiv, uMod, uPow, uNeg, uEq, uNe, uIs, uIsNot, uIx, uIn, cIsi, cLen, cAll, cMax, cMin, cAbs, cSort, cSortD, cInt, cTuple, cRepr, cDict, cList, cSortS, tRevL, tDGet, tLstRg, tTupRg, tRg1, tRg2, sDPut, tDNewK, tAug, ipI, iZip, tLst, tTup, tPar, U.tPar3, tFn, tMkr, tMth, tFnK, tMthK, tAtt, sFld, tYes, tLc_eq, tFor_eq, iList, iStr, iRng1, iRng2, iEnum, tLenSetT, tSl, tPart, tNoPart, gTup, gCons, gNil, gSub, tBM, tBM0, List.getElem?_cons_zero, List.getElem?_cons_succ, List.set_cons_zero, List.set_cons_succ, Option.some.injEq, V.bl.injEq, V.int.injEq, V.str.injEq, V.ref.injEq, exists_eq_left', exists_eq_left, exists_eq_right, exists_eq_right', and_true, true_and, scal, if_true, Bool.false_eq_true, if_false, List.cons.injEq, exists_const, false_and, and_false, ite_true, ite_false, Bool.not_true, Bool.not_false])
section
variable {P : Program} {w : World} {K : PySem.W.Frag} {mg : Str → Option Value} {base : Heap} {A : Ads}
/-! ### one log: all ranges -/
def dR (a b : Int) : PyData := .tuple [.int a, .int b]
theorem dR_ok {a b : Int} (h0 : 0 ≤ a) (h1 : a ≤ 60) (h2 : 0 ≤ b) (h3 : b ≤ 60) : okR 1 30 (dR a b) := by
  have q : okR 1 ((10 + 1) * 2) (dR a b) := okR.tuple (n := 0) (k := 10) (ds := [.int a, .int b]) fun d hd => by
    rcases List.mem_cons.mp hd with rfl | hd
    · exact okR.int (by omega)
    · obtain rfl := List.mem_singleton.mp hd; exact okR.int (by omega)
  exact q.mono (Nat.le_refl _) (by decide)
theorem dp_dR {H : Hp} {t : Addr} {a b : Int} (h : H t = some (.tup [.int a, .int b])) : Dp K H (.ref t) (dR a b) := .tup (.inl (.inl h)) (.cons (.int _) (.cons (.int _) .nil))
theorem rg_len (lo hi : Int) : (((List.range (hi + 1 - lo).toNat).map (fun k : Nat => lo + (k : Int))).map V.int).length = (hi + 1 - lo).toNat := by simp
theorem rg_first {lo hi : Int} (h : lo ≤ hi) : atI (((List.range (hi + 1 - lo).toNat).map (fun k : Nat => lo + (k : Int))).map V.int) 0 = some (.int lo) := by
  refine at_of (j := 0) rfl ?_
  rw [List.getElem?_map, List.getElem?_map, List.getElem?_range (by omega)]
  simp
theorem rg_last {lo hi : Int} (h : lo ≤ hi) : atI (((List.range (hi + 1 - lo).toNat).map (fun k : Nat => lo + (k : Int))).map V.int) (-1) = some (.int hi) := by
  unfold atI
  rw [rg_len]
  have e : ixN (hi + 1 - lo).toNat (-1) = some ((hi + 1 - lo).toNat - 1) := by
    unfold ixN
    rw [if_neg (by omega), if_pos (by omega)]
    congr 1
    omega
  rw [e, Option.bind_some, List.getElem?_map, List.getElem?_map, List.getElem?_range (by omega)]
  simp only [Option.map_some]
  congr 2
  omega
theorem rgV_is (lo hi : Int) : rgV lo (hi + 1) = ((List.range (hi + 1 - lo).toNat).map (fun k : Nat => lo + (k : Int))).map V.int := by
  unfold rgV
  rw [List.map_map]
  rfl
theorem Book.snoc {G : Hp} {L p : Addr} {as : List Addr} {rs : List Rc} {r : Rc} (b : Book A G L as rs) (rc : Rec A G p r.1 r.2.1 r.2.2) : Book A (upd G L (.lst (as.map V.ref ++ [.ref p]))) L (as ++ [p]) (rs ++ [r]) := by
  have nl : ∀ {a : Addr} {k : Nat} {z : Str} {m : Int}, Rec A G a k z m → a ≠ L := fun q e => by
    obtain ⟨_, dx, h⟩ := q
    rw [e, b.lst] at h; cases h
  have up : ∀ {a : Addr} {k : Nat} {z : Str} {m : Int}, Rec A G a k z m → Rec A (upd G L (.lst (as.map V.ref ++ [.ref p]))) a k z m := fun q => by
    have n := nl q
    obtain ⟨hk, dx, h⟩ := q
    exact ⟨hk, dx, by rw [upd_ne n]; exact h⟩
  refine ⟨by rw [upd_same, List.map_append]; rfl, by simp [b.len], fun i a r' h1 h2 => ?_⟩
  by_cases c : i < as.length
  · rw [List.getElem?_append_left c] at h1
    rw [List.getElem?_append_left (by rw [← b.len]; exact c)] at h2
    exact up (b.at_ i a r' h1 h2)
  · rw [List.getElem?_append_right (by omega)] at h1
    rw [List.getElem?_append_right (by rw [← b.len]; omega), ← b.len] at h2
    cases hh : i - as.length with
    | zero => rw [hh] at h1 h2; simp at h1 h2; subst h1; subst h2; exact up rc
    | succ n => rw [hh] at h1; simp at h1
def kvE (qs : List (Str × Addr)) : List (Key × V) := qs.map fun q => (Sum.inr q.1, V.ref q.2)
theorem merge_not : ∀ (qs : List (Str × Addr)) (c : List (Key × V)) (z : Str), z ∉ qs.map (·.1) → valV (mergeK c (kvE qs)) (.inr z) = valV c (.inr z)
  | [], c, z, _ => by simp [kvE, mergeK]
  | q :: qs, c, z, h => by
    rw [List.map_cons, List.mem_cons, not_or] at h
    show valV (mergeK (putK c (.inr q.1) (.ref q.2)) (kvE qs)) (.inr z) = _
    rw [merge_not qs _ z h.2, valV_put, if_neg (fun e => h.1 (Sum.inr.inj e))]
theorem merge_get : ∀ (qs : List (Str × Addr)) (c : List (Key × V)) (i : Nat) (q : Str × Addr), (qs.map (·.1)).Nodup → qs[i]? = some q → valV (mergeK c (kvE qs)) (.inr q.1) = some (.ref q.2)
  | q0 :: qs, c, 0, q, nd, h => by
    simp at h; subst h
    have nd' : ¬ q0.1 ∈ qs.map (·.1) ∧ (qs.map (·.1)).Nodup := List.nodup_cons.mp nd
    show valV (mergeK (putK c (.inr q0.1) (.ref q0.2)) (kvE qs)) (.inr q0.1) = _
    rw [merge_not qs _ _ nd'.1, valV_put, if_pos rfl]
  | q0 :: qs, c, i + 1, q, nd, h => by
    have nd' : ¬ q0.1 ∈ qs.map (·.1) ∧ (qs.map (·.1)).Nodup := List.nodup_cons.mp nd
    show valV (mergeK (putK c (.inr q0.1) (.ref q0.2)) (kvE qs)) (.inr q.1) = _
    exact merge_get qs _ i q nd'.2 (by simpa using h)
/-- what dict(ends) needs and gives -/
theorem Ens.dict {H : Hp} {E : Addr} {us : List Addr} {zs : List Str} {lo hi : Str → Int} (h : Ens H E us zs lo hi) (nd : zs.Nodup) : ∃ qs : List (Str × Addr), Paired (fun p kv => SqT K H p [kV kv.1, kv.2]) us (kvE qs) ∧ ∀ z ∈ zs, ∃ t, valV (mergeK [] (kvE qs)) (.inr z) = some (.ref t) ∧ H t = some (.tup [.int (lo z), .int (hi z)]) := by
  have go : ∀ (us : List Addr) (zs : List Str), us.length = zs.length → (∀ (i : Nat) (u : Addr) (z : Str), us[i]? = some u → zs[i]? = some z → ∃ t, H u = some (.tup [.str z, .ref t]) ∧ H t = some (.tup [.int (lo z), .int (hi z)])) →
      ∃ qs : List (Str × Addr), qs.map (·.1) = zs ∧ Paired (fun p kv => SqT K H p [kV kv.1, kv.2]) us (kvE qs) ∧ ∀ q ∈ qs, H q.2 = some (.tup [.int (lo q.1), .int (hi q.1)]) := by
    intro us
    induction us with
    | nil => intro zs hl _; cases zs with | nil => exact ⟨[], rfl, .nil, (fun _ h => nomatch h)⟩ | cons _ _ => simp at hl
    | cons u us ih =>
      intro zs hl h
      cases zs with
      | nil => simp at hl
      | cons z zs =>
        obtain ⟨t, h1, h2⟩ := h 0 u z rfl rfl
        obtain ⟨qs, e, pd, hq⟩ := ih zs (by simpa using hl) fun i t' q' h1 h2 => h (i + 1) t' q' (by simpa using h1) (by simpa using h2)
        refine ⟨(z, t) :: qs, by rw [List.map_cons, e], .cons (.inl (.inl h1)) pd, fun q hq' => ?_⟩
        rcases List.mem_cons.mp hq' with rfl | hq'
        · exact h2
        · exact hq q hq'
  obtain ⟨qs, e, pd, hq⟩ := go us zs h.len h.at_
  refine ⟨qs, pd, fun z hz => ?_⟩
  rw [← e] at hz
  obtain ⟨q, hq', rfl⟩ := List.mem_map.mp hz
  obtain ⟨i, hi, eq⟩ := List.mem_iff_getElem.mp hq'
  exact ⟨q.2, merge_get qs [] i q (by rw [e]; exact nd) (by rw [List.getElem?_eq_getElem hi, eq]), hq q hq'⟩
end
end K
namespace K
open PySem PySem.Spec PyProof.Rows L2 U ClX M
local macro_rules | `(tactic| walk_at "rd") => `(tactic| simp only [tSeq, tRet, tIfS, tAsg, tDrop, tNext, tNever, tRetN, tAndV, tOrV, tNotV, tAnd, tOr, tNot, tB, tTest, tChain, tCB, tCons, tNil, tVar, tC, tOp, tUn, tIf, gName, uLe, uLt, uGe, uGt, uCmp, uAdd, uSub, uMul, uDiv, uMod, uPow, uNeg, uEq, uNe, uIs, uIsNot, uIx, uIn, cIsi, cLen, cAll, cMax, cMin, cAbs, cSort, cSortD, cInt, cTuple, cRepr, cDict, cList, cSortS, tRevL, tDGet, tLstRg, tTupRg, tRg1, tRg2, sDPut, tDNewK, tAug, ipI, iZip, tLst, tTup, tPar, U.tPar3, tFn, tMkr, tMth, tFnK, tMthK, tAtt, sFld, tYes, tLc_eq, tFor_eq, iList, iStr, iRng1, iRng2, iEnum, tLenSetT, tSl, tPart, tNoPart, gTup, gCons, gNil, gSub, tBM, tBM0, List.getElem?_cons_zero, List.getElem?_cons_succ, List.set_cons_zero, List.set_cons_succ, Option.some.injEq, V.bl.injEq, V.int.injEq, V.str.injEq, V.ref.injEq, exists_eq_left', exists_eq_left, exists_eq_right, exists_eq_right', and_true, true_and, scal, if_true, Bool.false_eq_true, if_false, List.cons.injEq, exists_const, false_and, and_false, ite_true, ite_false, Bool.not_true, Bool.not_false])
section
variable {P : Program} {w : World} {K : PySem.W.Frag} {mg : Str → Option Value} {base : Heap} {A : Ads}
theorem fm_if {α : Type} (f : α → Bool) : ∀ l : List α, l.filterMap (fun q => if f q = true then some q else none) = l.filter f
  | [] => rfl
  | x :: l => by
    rw [List.filterMap_cons]
    by_cases c : f x = true
    · rw [if_pos c, List.filter_cons_of_pos c, fm_if f l]
    · rw [if_neg c, List.filter_cons_of_neg c, fm_if f l]
theorem at2 {a b : Int} : ∀ {i : Nat}, i < 2 → atI [V.int a, V.int b] (0 + (i : Int)) = some (.int (if i = 0 then a else b))
  | 0, _ => rfl
  | 1, _ => rfl
def sp_right (A : Ads) : Sp := fun vs H Q _ => ∃ (tp pp pk : Addr) (kd : Nat) (c : Int) (ts : List Addr) (ps : List (Str × Int)) (ks : List Str), vs = [.ref tp, .int kd, .ref pp, .ref pk] ∧ kd < 3 ∧ Tape H tp c ∧ c ≤ 700000 ∧ Prs H pp ts ps ∧ pp ≠ tp ∧ H pk = some (.lst (ks.map V.str)) ∧ pk ≠ tp ∧ Its ks ∧ HP ps ks ∧
  ∀ H', But tp H H' → Tape H' tp (c + 400) → Q (.bl true) H'
theorem p_right (T : Tx K mg A) : Pur N_law_right ps_law_right (t_law_right P w K mg base A) (sp_right A) := by
  intro vs H Q E0' h
  obtain ⟨tp, pp, pk, kd, c, ts, ps, ks, rfl, hk, t, hc, pr, npp, hpk, npk, its, hp, q⟩ := h
  refine ⟨rfl, ?_⟩
  have few := hp.few
  show t_law_right P w K mg base A E0' _ [some (.ref tp), some (.int kd), some (.ref pp), some (.ref pk), none, none, none, none, none, none, none, none, none, none, none, none, none] H
  unfold t_law_right
  refine seqU fun U hU => ?_
  walk_at "rd"
  refine ⟨6, _, fn_log T, by decide, tp, pp, kd, c, ts, ps, ks, rfl, hk, t, hc, pr, npp, its, hp, fun D as rs H1 hD bk fr ne hr pm b1 t1 => ?_⟩
  rw [hU]
  clear hU
  have pk1 := b1 _ _ npk hpk
  have pr1 := pr.but t b1 npp
  have kn := hr.known hk its
  have rl : rs.length ≤ 40 := hr.few
  obtain ⟨k1, k2, k3, k4⟩ := (dK2_ok kn).repr (by decide) (by decide)
  have npm := names_perm pm
  have em : mkd ks rs = mkP ps ks := mk_of fun z => npm.mem_iff
  have zmem : ∀ z ∈ ps.map (·.1), z ∈ mkP ps ks := fun z hz => List.mem_filter.mpr ⟨by obtain ⟨q', hq', e⟩ := List.mem_map.mp hz; rw [← e]; exact hp.sub q' hq', decide_eq_true hz⟩
  have zit : ∀ z ∈ ps.map (·.1), isItem z = true := fun z hz => its.it z (List.mem_filter.mp (zmem z hz)).1
  have rgs : ∀ z ∈ ps.map (·.1), 0 ≤ loK kd ps ks z ∧ loK kd ps ks z ≤ hiK kd ps ks z ∧ hiK kd ps ks z ≤ 59 := fun z hz => mkP_range its (zmem z hz)
  have frk : ∀ z ∈ ps.map (·.1), isFr rs = decide (kd = 2) := fun z hz => isFr_kd hk hr.kind fun e => by
    subst e
    have := npm.mem_iff.mpr hz
    cases this
  have shown : ∀ {G G1 : Hp} {p : Addr} {ts : List Addr} {p2 : Addr}, Same H1 G → Same G G1 → Prs G1 p ts (prR rs) → G1 p2 = none → Dp K (upd G1 p2 (.lst [.ref p, .ref pk])) (.ref p2) (dK2 rs ks) := by
    intro G G1 p ts p2 sG s1 pr hp2
    have u2 := Same.new (o := .lst [.ref p, .ref pk]) hp2
    exact .lst (.inl (.inl upd_same)) (.cons (pr.same u2).dp (.cons (dp_dS (.inl (.inl (u2 _ _ (s1 _ _ (sG _ _ pk1)))))) .nil))
  refine seqU fun U hU => ?_
  walk_at "rd"
  refine ⟨3, _, fn_pairs T, by decide, D, as, rs, rfl, bk, by omega, fun p1 ts1 H2 hp1 s2 pr2 => ⟨(by show 2 ≤ sizeLine; decide), fun p2 hp2 => ?_⟩⟩
  refine ⟨dK2 rs ks, shown (Same.refl _) s2 pr2 hp2, k1, k2, k3, k4, ?_⟩
  have s3 := s2.trans (Same.new (o := .lst [.ref p1, .ref pk]) hp2)
  generalize upd H2 p2 (.lst [.ref p1, .ref pk]) = H3 at s3
  rw [hU]
  clear hU pr2
  refine seqU fun U hU => ?_
  walk_at "rd"
  refine ⟨by decide, fun E hE => ?_⟩
  rw [hU]
  clear hU
  have fE : H1 E = none := s3.free hE
  have u4 := Same.new (o := .lst []) hE
  have e4 := upd_same (H := H3) (a := E) (o := .lst [])
  have s4 := s3.trans u4
  generalize upd H3 E (.lst []) = H4 at u4 e4 s4
  have nE : E ≠ tp := t1.ne fE
  refine seqU fun U hU => ?_
  walk_at "rd"
  refine ⟨⟨_, .inl (.inl (s4 _ _ pr1.lst))⟩, ?_⟩
  refine for_list (K := K) (a := pp) (xs := ts.map V.ref) (fun i σ G => ∃ (us : List Addr) (v7 v8 v9 : Option V), σ = [some (.ref tp), some (.int kd), some (.ref pp), some (.ref pk), some (.ref D), some (.str (dK2 rs ks).shown), some (.ref E), v7, v8, v9, none, none, none, none, none, none, none] ∧ Same H1 G ∧ Ens G E us ((ps.map (·.1)).take i) (loK kd ps ks) (hiK kd ps ks)) ⟨[], _, _, _, rfl, s4, e4, rfl, fun i u z h => by simp at h⟩ (fun i σ G _ ⟨_, _, _, _, _, sG, _⟩ => .inl (.inl (sG _ _ pr1.lst))) ?_ ?_
  · rintro i x σ G hx ⟨us, v7, v8, v9, rfl, sG, en⟩
    obtain ⟨t', q', rfl, ht', hq', zt⟩ := (pr1.same sG).get hx
    have hi : i < ps.length := (List.getElem?_eq_some_iff.mp hq').1
    have zm : q'.1 ∈ ps.map (·.1) := List.mem_map.mpr ⟨q', List.mem_of_getElem? hq', rfl⟩
    have zd : q'.1 ∈ mkd ks rs := by rw [em]; exact zmem _ zm
    obtain ⟨r0, r1, r2⟩ := rgs _ zm
    obtain ⟨g1, g2, g3, g4⟩ := (dR_ok r0 (by omega : _ ≤ (60 : Int)) (by omega : 0 ≤ hiK kd ps ks q'.1) (by omega)).repr (by decide) (by decide)
    refine ⟨t', _, rfl, .inl (.inl zt), rfl, _, _, rfl, _, _, rfl, rfl, ?_⟩
    refine seqU fun U2 hU2 => ?_
    walk_at "rd"
    refine ⟨7, _, fn_range T, by decide, D, pk, as, rs, ks, q'.1, rfl, bk.same sG, sG _ _ pk1, kn, zd, fun t5 G5 ht5 s5 e5 => ?_⟩
    rw [em, frk _ zm] at e5
    replace e5 : G5 t5 = some (.tup [.int (loK kd ps ks q'.1), .int (hiK kd ps ks q'.1)]) := e5
    rw [hU2]
    clear hU2
    refine seqU fun U2 hU2 => ?_
    walk_at "rd"
    have en5 := en.same s5
    have usl : us.length ≤ 40 := by rw [en.len, List.length_take]; have := hp.few; omega
    refine ⟨.inl ⟨rfl, _, .inl (.inl en5.lst)⟩, (by show 2 ≤ sizeLine; decide), fun u6 hu6 => ?_⟩
    have w6 := Same.new (o := .tup [.str q'.1, .ref t5]) hu6
    have S6 := sG.trans (s5.trans w6)
    refine ⟨E, _, _, rfl, rfl, w6 _ _ en5.lst, Nat.lt_of_le_of_lt (by rw [List.length_map]; omega : _ ≤ 100) (by decide), ?_⟩
    have en6 := (en5.same w6).snoc upd_same (w6 _ _ e5)
    have S7 : Same H1 (upd (upd G5 u6 (.tup [.str q'.1, .ref t5])) E (.lst (us.map V.ref ++ [.ref u6]))) := S6.mut fE
    have ntE : t5 ≠ E := fun e => by rw [e, en5.lst] at e5; cases e5
    have e7 : upd (upd G5 u6 (.tup [.str q'.1, .ref t5])) E (.lst (us.map V.ref ++ [.ref u6])) t5 = some (.tup [.int (loK kd ps ks q'.1), .int (hiK kd ps ks q'.1)]) := by rw [upd_ne ntE]; exact w6 _ _ e5
    show U2 _ (upd (upd G5 u6 (.tup [.str q'.1, .ref t5])) E (.lst (us.map V.ref ++ [.ref u6])))
    rw [hU2]
    clear hU2
    generalize upd (upd G5 u6 (.tup [.str q'.1, .ref t5])) E (.lst (us.map V.ref ++ [.ref u6])) = G7 at en6 S7 e7
    refine seqU fun U2 hU2 => ?_
    walk_at "rd"
    refine ⟨dR (loK kd ps ks q'.1) (hiK kd ps ks q'.1), dp_dR e7, g1, g2, g3, g4, ?_⟩
    refine ⟨7, _, _, fnK_range T, by decide, rfl, D, pk, as, rs, ks, q'.1, rfl, bk.same S7, S7 _ _ pk1, kn, zd, fun t8 G8 ht8 s8 e8 => ?_⟩
    rw [em, frk _ zm] at e8
    refine ⟨dR (loK kd ps ks q'.1) (hiK kd ps ks q'.1), dp_dR e8, g1, g2, g3, g4, ?_⟩
    show if _ then _ else _
    rw [if_neg (by simp)]
    show U2 _ _
    rw [hU2]
    clear hU2
    walk_at "rd"
    have S8 := S7.trans s8
    refine ⟨3, _, fn_pairs T, by decide, D, as, rs, rfl, bk.same S8, by omega, fun p9 ts9 G9 hp9 s9 pr9 => ⟨(by show 2 ≤ sizeLine; decide), fun p10 hp10 => ?_⟩⟩
    refine ⟨dK2 rs ks, shown S8 s9 pr9 hp10, k1, k2, k3, k4, ?_⟩
    show if _ then _ else _
    rw [if_neg (by simp)]
    have s10 := s8.trans (s9.trans (Same.new (o := .lst [.ref p9, .ref pk]) hp10))
    refine ⟨us ++ [u6], _, _, _, ⟨rfl, rfl, rfl⟩, S7.trans s10, ?_⟩
    rw [List.take_succ_eq_append_getElem (by simpa using hi)]
    have : (ps.map (·.1))[i]'(by simpa using hi) = q'.1 := by
      rw [List.getElem_map]
      obtain ⟨_, e⟩ := List.getElem?_eq_some_iff.mp hq'
      rw [e]
    rw [this]
    exact en6.same s10
  · rintro σ G ⟨us, v7, v8, v9, rfl, sG, en⟩
    rw [List.length_map, pr1.len, show ps.length = (ps.map (·.1)).length by simp, List.take_length] at en
    show U _ _
    rw [hU]
    clear hU
    have tG := t1.same sG
    have usl : us.length = ps.length := by rw [en.len, List.length_map]
    refine seqU fun U hU => ?_
    walk_at "rd"
    refine ⟨3, _, fn_mixed T, by decide, tp, E, _, _, rfl, tG, by omega, en.lst, by rw [List.length_map]; omega, fun pm5 ys G5 hpm5 pym g5 t5 b5 => ?_⟩
    have en5 := en.but tG b5 nE
    refine ⟨pm5, _, rfl, .inl (.inl g5), fun p6 hp6 => ?_⟩
    have u6 := Same.new (o := .lst (cutV ys none (some 3))) hp6
    have e6 : upd G5 p6 (.lst (cutV ys none (some 3))) p6 = some (.lst (ys.take 3)) := by rw [upd_same]; exact congrArg (fun l => some (HO.lst l)) (cut_to ys 3)
    have en6 := en5.same u6
    have t6 := t5.same u6
    have nD : D ≠ tp := t.ne hD
    have nt : ∀ a ∈ as, a ≠ tp := fun a ha => t.ne (fr a ha)
    have bk6 := ((bk.same sG).but b5 nD nt).same u6
    have pk6 := u6 _ _ (b5 _ _ npk (sG _ _ pk1))
    have pr6 := ((pr1.same sG).but tG b5 npp).same u6
    have B6 : But tp H (upd G5 p6 (.lst (cutV ys none (some 3)))) := ((b1.trans (But.same sG)).trans b5).trans (But.same u6)
    generalize upd G5 p6 (.lst (cutV ys none (some 3))) = G6 at u6 e6 en6 t6 bk6 pk6 pr6 B6
    clear en tG bk pk1 pr1 sG en5 g5 u6 shown
    refine ⟨p6, rfl, ⟨_, .inl (.inl e6)⟩, ?_⟩
    refine for_list (K := K) (a := p6) (xs := ys.take 3) (fun i σ G => ∃ (v7 v9 v10 : Option V), σ = [some (.ref tp), some (.int kd), some (.ref pp), some (.ref pk), some (.ref D), some (.str (dK2 rs ks).shown), some (.ref E), v7, v8, v9, v10, none, none, none, none, none, none] ∧ Same G6 G) ⟨_, _, _, rfl, Same.refl _⟩ (fun i σ G _ ⟨_, _, _, _, sG⟩ => .inl (.inl (sG _ _ e6))) ?_ ?_
    · rintro i x σ G hx ⟨v7, v9, v10, rfl, sG⟩
      obtain ⟨j, hj⟩ : ∃ j, (us.map V.ref)[j]? = some x := List.mem_iff_getElem?.mp (pym.mem_iff.mp (List.mem_of_mem_take (List.mem_of_getElem? hx)))
      obtain ⟨u, z, tt, rfl, hu, hzj, zu, ztt⟩ := (en6.same sG).get hj
      have zm : z ∈ ps.map (·.1) := List.mem_of_getElem? hzj
      obtain ⟨r0, r1, r2⟩ := rgs _ zm
      obtain ⟨g1, g2, g3, g4⟩ := (dR_ok r0 (by omega : _ ≤ (60 : Int)) (by omega : 0 ≤ hiK kd ps ks z) (by omega)).repr (by decide) (by decide)
      refine ⟨u, _, rfl, .inl (.inl zu), rfl, _, _, rfl, _, _, rfl, rfl, ?_⟩
      refine seqU fun U2 hU2 => ?_
      walk_at "rd"
      refine ⟨4, _, fn_fitting T, by decide, pp, pk, kd, ts, ps, ks, z, rfl, hk, pr6.same sG, hp, sG _ _ pk6, its, zm, fun p7 G7 hp7 s7 e7 => ?_⟩
      rw [fit_rg its (zmem z zm)] at e7
      rw [hU2]
      clear hU2
      walk_at "rd"
      refine ⟨dR (loK kd ps ks z) (hiK kd ps ks z), dp_dR (s7 _ _ ztt), g1, g2, g3, g4, ?_⟩
      refine ⟨_, _, .inl (.inl (.inl e7)), rg_first r1, _, _, .inl (.inl (.inl e7)), rg_last r1, (by show 2 ≤ sizeLine; decide), fun p8 hp8 => ?_⟩
      have u8 := Same.new (o := .tup [.int (loK kd ps ks z), .int (hiK kd ps ks z)]) hp8
      refine ⟨dR (loK kd ps ks z) (hiK kd ps ks z), dp_dR upd_same, g1, g2, g3, g4, ?_⟩
      show if _ then _ else _
      rw [if_neg (by simp)]
      have e8 := u8 _ _ e7
      refine ⟨_, _, .inl (.inl (.inl e8)), rg_first r1, ?_⟩
      refine ⟨_, _, .inl (.inl (.inl e8)), rg_last r1, _, _, rfl, rfl, RgOk.of_le r0 (by omega) (by omega) (by omega), fun q9 hq9 => ?_⟩
      have u9 := Same.new (o := .lst (rgV (loK kd ps ks z) (hiK kd ps ks z + 1))) hq9
      refine .inl ⟨_, _, dp_dI (.inl (.inl (u9 _ _ e8))), dp_dI (r := (List.range (hiK kd ps ks z + 1 - loK kd ps ks z).toNat).map (fun k : Nat => loK kd ps ks z + (k : Int))) (.inl (.inl (by rw [upd_same, rgV_is]))), (dI_ok _).shaped (by decide), (dI_ok _).shaped (by decide), ?_⟩
      rw [if_pos rfl, eqv_dI, decide_eq_true rfl]
      refine ⟨false, rfl, ?_⟩
      rw [if_neg (by decide)]
      exact ⟨_, _, _, ⟨rfl, rfl, rfl⟩, (sG.trans s7).trans (u8.trans u9)⟩
    · rintro σ G ⟨v7, v9, v10, rfl, sG⟩
      show U _ _
      rw [hU]
      clear hU
      have en7 := en6.same sG
      have t7 := t6.same sG
      have bk7 := bk6.same sG
      have pk7 := sG _ _ pk6
      have pr7 := pr6.same sG
      have B7 := B6.trans (But.same sG)
      clear en6 t6 bk6 pk6 pr6 B6 e6
      have zl : (ps.map (·.1)).length ≤ 40 := by rw [List.length_map]; omega
      have made_hr : ∀ {rs' : List Rc}, (∀ r ∈ rs', r.1 = kd) → rs'.map item = ps.map (·.1) → (∀ r ∈ rs', loK kd ps ks (item r) ≤ slot r ∧ slot r ≤ hiK kd ps ks (item r)) → Known rs' ks ∧ faultP rs' ks = none := by
        intro rs' h1 h2 h3
        have im : ∀ r ∈ rs', item r ∈ ps.map (·.1) := fun r hr => by rw [← h2]; exact List.mem_map.mpr ⟨r, hr, rfl⟩
        have hr' : HR kd rs' ks := ⟨h1, by rw [h2]; exact hp.nd, fun r hr => (List.mem_filter.mp (zmem _ (im r hr))).1, fun r hr => by
          obtain ⟨a, b, c⟩ := rgs _ (im r hr)
          obtain ⟨d, e⟩ := h3 r hr
          exact ⟨by omega, by omega⟩, by have := congrArg List.length h2; rw [List.length_map] at this; omega⟩
        have kn' := hr'.known hk its
        exact ⟨kn', (fault_none hk kn' h1 (mk_of fun z => by rw [h2])).mpr h3⟩
      refine seqU fun U hU => ?_
      walk_at "rd"
      refine ⟨by decide, by decide, ?_⟩
      refine for_range (n := 2) (fun i σ G2 => ∃ (v11 v12 : Option V), σ = [some (.ref tp), some (.int kd), some (.ref pp), some (.ref pk), some (.ref D), some (.str (dK2 rs ks).shown), some (.ref E), v7, v8, v9, v10, v11, v12, none, none, none, none] ∧ Same G G2) ⟨_, _, rfl, Same.refl _⟩ ?_ ?_
      · rintro i σ G2 hi ⟨v11, v12, rfl, s2⟩
        simp only [gName]
        refine seqU fun U2 hU2 => ?_
        walk_at "rd"
        have en8 := en7.same s2
        refine ⟨⟨_, .inl (.inl en8.lst)⟩, ?_⟩
        refine lc_rel (Rl := RcN A G2) (fun _ _ _ _ s ⟨a, e, n, r⟩ => ⟨a, e, n, r.same s⟩) (goes_list (.inl (.inl en8.lst))) (fun k => ((ps.map (·.1))[k]?).map fun z => ((kd, z, if i = 0 then loK kd ps ks z else hiK kd ps ks z) : Rc)) (by rw [List.length_map, usl]; exact Nat.lt_of_le_of_lt few (by decide)) (fun k x G3 D3 hk3 s3 hx hD3 hacc => ?_) fun D3 G3 xs hD3 s3 hy ry => ?_
        · obtain ⟨u, z, tt, rfl, hu, hzj, zu, ztt⟩ := (en8.same s3).get hx
          rw [hzj]
          obtain ⟨acc, hacc⟩ := hacc
          have zm : z ∈ ps.map (·.1) := List.mem_of_getElem? hzj
          obtain ⟨r0, r1, r2⟩ := rgs _ zm
          refine ⟨[some (.ref tp), some (.int kd), some (.ref pp), some (.ref pk), some (.ref D), some (.str (dK2 rs ks).shown), some (.ref E), some (.str z), v8, some (.ref tt), v10, some (.int (0 + i)), v12, none, none, none, none], rfl, fun R' h => ⟨u, _, rfl, .inl (.inl zu), rfl, _, _, rfl, _, _, rfl, rfl, h⟩, Evt.yes, fun G4 s4 Q' qq => ?_⟩
          walk_at "rd"
          refine ⟨5, _, fn_made T, by decide, _, _, .inr (.inl (.inl (s4 _ _ ztt))), at2 hi, kd, z, _, rfl, hk, zit z zm, by split <;> omega, by split <;> omega, fun p G5 hp5 s5 r5 => qq _ _ s5 ⟨p, rfl, (s3.trans s4).free hp5, ?_⟩⟩
          obtain ⟨hk, dx2, h2⟩ := r5
          exact ⟨hk, dx2, hide_get h2 (Ne.symm (ne_of_none (s4 _ _ hacc) hp5))⟩
        · have e2 : (List.range (us.map V.ref).length).filterMap (fun k => ((ps.map (·.1))[k]?).map fun z => ((kd, z, if i = 0 then loK kd ps ks z else hiK kd ps ks z) : Rc)) = (ps.map (·.1)).map fun z => ((kd, z, if i = 0 then loK kd ps ks z else hiK kd ps ks z) : Rc) := by
            have e := range_list (fun z : Str => some ((kd, z, if i = 0 then loK kd ps ks z else hiK kd ps ks z) : Rc)) (ps.map (·.1))
            rw [List.filterMap_eq_map'] at e
            rw [List.length_map, usl, show ps.length = (ps.map (·.1)).length by simp]
            refine Eq.trans ?_ e
            congr 1
            funext k
            cases (ps.map (·.1))[k]? <;> rfl
          rw [e2] at ry
          obtain ⟨as', bk3, _⟩ := rel_bookN (A := A) (X := G2) (H := G3) (l := D3) hy (ry.imp fun y r ⟨a, e, n, h⟩ => ⟨a, e, n, h.same hide_same⟩)
          obtain ⟨kn3, fn3⟩ := made_hr (rs' := (ps.map (·.1)).map fun z => ((kd, z, if i = 0 then loK kd ps ks z else hiK kd ps ks z) : Rc)) (fun r hr => by obtain ⟨z, _, rfl⟩ := List.mem_map.mp hr; rfl) (by rw [List.map_map]; exact List.map_id' _) (fun r hr => by
            obtain ⟨z, hz, rfl⟩ := List.mem_map.mp hr
            obtain ⟨r0, r1, r2⟩ := rgs _ hz
            show loK kd ps ks z ≤ (if i = 0 then loK kd ps ks z else hiK kd ps ks z) ∧ (if i = 0 then loK kd ps ks z else hiK kd ps ks z) ≤ hiK kd ps ks z
            split <;> omega)
          rw [hU2]
          clear hU2
          walk_at "rd"
          refine ⟨7, _, fn_reason T, by decide, D3, pk, as', _, ks, rfl, bk3, s3 _ _ (s2 _ _ pk7), kn3, fun x G5 s5 fv => ?_⟩
          rw [fn3] at fv
          obtain rfl : x = .non := fv
          rw [if_neg (by simp)]
          exact ⟨_, _, ⟨rfl, rfl⟩, s2.trans (s3.trans s5)⟩
      · rintro σ G2 ⟨v11, v12, rfl, s2⟩
        show U _ _
        rw [hU]
        clear hU
        have en8 := en7.same s2
        have t8 := t7.same s2
        have bk8 := bk7.same s2
        have pk8 := s2 _ _ pk7
        have pr8 := pr7.same s2
        have B8 := B7.trans (But.same s2)
        clear en7 t7 bk7 pk7 pr7 B7 s2
        refine seqU fun U hU => ?_
        walk_at "rd"
        refine ⟨⟨_, .inl (.inl en8.lst)⟩, ?_⟩
        show LcB _ _ _ _ _ _ _ _
        intro D9 hD9
        have nD9 : D9 ≠ tp := t8.ne hD9
        have nE9 : E ≠ D9 := ne_of_none en8.lst hD9
        refine L2.lc_list (K := K) (a := E) (xs := us.map V.ref) (fun k G3 => ∃ (as' : List Addr) (rs' : List Rc), But tp G2 G3 ∧ Tape G3 tp (c + 200 + k) ∧ Book A G3 D9 as' rs' ∧ (∀ a ∈ as', a ≠ tp) ∧ (∀ r ∈ rs', r.1 = kd) ∧ rs'.map item = (ps.map (·.1)).take k ∧ ∀ r ∈ rs', loK kd ps ks (item r) ≤ slot r ∧ slot r ≤ hiK kd ps ks (item r)) ⟨[], [], But.refl.mut hD9, (t8.other nD9).mono (by simp; omega), ⟨upd_same, rfl, fun i t q h => by simp at h⟩, (fun _ h => nomatch h), (fun _ h => nomatch h), rfl, (fun _ h => nomatch h)⟩ (fun k G3 _ ⟨_, _, bG, _⟩ => .inl (.inl (bG _ _ nE en8.lst))) ?_ ?_
        · rintro k x G3 hx ⟨as', rs', bG, tG, bkG, ntG, kdG, inG, wiG⟩
          obtain ⟨u, z, tt, rfl, hu, hzj, zu, ztt⟩ := (en8.but t8 bG nE).get hx
          have zm : z ∈ ps.map (·.1) := List.mem_of_getElem? hzj
          have hkl : k < ps.length := by have := (List.getElem?_eq_some_iff.mp hzj).1; simpa using this
          obtain ⟨r0, r1, r2⟩ := rgs _ zm
          refine ⟨u, _, rfl, .inl (.inl zu), rfl, _, _, rfl, _, _, rfl, rfl, ?_⟩
          refine ⟨rfl, ?_⟩
          show tYes [some (.ref tp), some (.int kd), some (.ref pp), some (.ref pk), some (.ref D), some (.str (dK2 rs ks).shown), some (.ref E), some (.str z), v8, some (.ref tt), v10, v11, v12, none, none, none, none] G3 _
          walk_at "rd"
          refine ⟨5, _, fn_made T, by decide, _, rfl, _, rfl, _, rfl, ?_⟩
          refine ⟨_, _, .inr (.inl (.inl ztt)), rfl, ?_⟩
          refine ⟨2, _, fn_pick T, by decide, _, rfl, _, rfl, ?_⟩
          refine ⟨_, _, .inr (.inl (.inl ztt)), rfl, _, rfl, ?_⟩
          refine ⟨_, _, .inr (.inl (.inl ztt)), rfl, ?_⟩
          refine next_ok (sz := hiK kd ps ks z - loK kd ps ks z + 1) tG (by omega) (by omega) (by omega) fun r G4 q0 q1 t4 b4 _ => ?_
          refine ⟨kd, z, loK kd ps ks z + r, rfl, hk, zit z zm, by omega, by omega, fun p G5 hp5 s5 rc5 => ?_⟩
          have asl : as'.length ≤ 40 := by
            have e1 := bkG.len
            have e2 := congrArg List.length inG
            rw [List.length_map, List.length_take] at e2
            omega
          refine ⟨as'.map V.ref, s5 _ _ (b4 _ _ nD9 bkG.lst), Nat.lt_of_le_of_lt (by rw [List.length_map]; omega : _ ≤ 100) (by decide), as' ++ [p], rs' ++ [(kd, z, loK kd ps ks z + r)], ((bG.trans b4).trans (But.same s5)).mut hD9, ((t4.same s5).other nD9).mono (by push_cast; omega), ((bkG.but b4 nD9 ntG).same s5).snoc rc5, fun a ha => ?_, fun r' hr' => ?_, ?_, fun r' hr' => ?_⟩
          · rcases List.mem_append.mp ha with h | h
            · exact ntG a h
            · obtain rfl := List.mem_singleton.mp h; exact t4.ne hp5
          · rcases List.mem_append.mp hr' with h | h
            · exact kdG r' h
            · obtain rfl := List.mem_singleton.mp h; rfl
          · rw [List.map_append, inG, List.take_succ_eq_append_getElem (by simpa using hkl)]
            obtain ⟨_, e⟩ := List.getElem?_eq_some_iff.mp hzj
            rw [e]; rfl
          · rcases List.mem_append.mp hr' with h | h
            · exact wiG r' h
            · obtain rfl := List.mem_singleton.mp h
              exact ⟨(by show _ ≤ loK kd ps ks z + r; show loK kd ps ks z ≤ _; omega), (by show loK kd ps ks z + r ≤ hiK kd ps ks z; omega)⟩
        · rintro G3 ⟨as', rs', b9, t9, bk9, nt9, kd9, in9, wi9⟩
          rw [List.length_map, usl] at in9 t9
          rw [show ps.length = (ps.map (·.1)).length by simp, List.take_length] at in9
          obtain ⟨kn9, fn9⟩ := made_hr kd9 in9 wi9
          have en9 := en8.but t8 b9 nE
          have bk9' := bk8.but b9 nD nt
          have pk9 := b9 _ _ npk pk8
          have pr9 := pr8.but t8 b9 npp
          have B9 := B8.trans b9
          show U _ _
          rw [hU]
          clear hU
          clear en8 t8 bk8 pk8 pr8 B8 b9
          refine seqU fun U hU => ?_
          walk_at "rd"
          refine ⟨7, _, fn_reason T, by decide, D9, pk, as', _, ks, rfl, bk9, pk9, kn9, fun x G5 s5 fv => ?_⟩
          rw [fn9] at fv
          obtain rfl : x = .non := fv
          rw [if_neg (by simp)]
          rw [hU]
          clear hU
          refine seqU fun U hU => ?_
          walk_at "rd"
          obtain ⟨qs, pd, dv⟩ := (en9.same s5).dict (K := K) hp.nd
          refine ⟨us, kvE qs, .inl (.inl (s5 _ _ en9.lst)), pd, fun l hl => ?_⟩
          have u6 := Same.new (o := .dK (mergeK [] (kvE qs))) hl
          have e6 := upd_same (H := G5) (a := l) (o := .dK (mergeK [] (kvE qs)))
          have S6 := s5.trans u6
          generalize mergeK [] (kvE qs) = km at dv u6 e6 S6
          generalize upd G5 l (.dK km) = G6 at u6 e6 S6
          rw [hU]
          clear hU
          have pr10 := pr9.same S6
          refine seqU fun U hU => ?_
          walk_at "rd"
          refine ⟨⟨_, .inl (.inl pr10.lst)⟩, ?_⟩
          refine lc_rel (Rl := fun _ _ (_ : Str × Int) => True) (fun _ _ _ _ _ h => h) (goes_list (.inl (.inl pr10.lst))) (fun k => (ps[k]?).bind fun q => if (decide (loK kd ps ks q.1 ≤ q.2) && decide (q.2 ≤ hiK kd ps ks q.1)) = true then some q else none) (by rw [List.length_map, pr10.len]; exact Nat.lt_of_le_of_lt few (by decide)) (fun k x G7 D7 hk7 s7 hx hD7 hacc => ?_) fun D7 G7 xs hD7 s7 hy ry => ?_
          · obtain ⟨t', q', rfl, ht', hq', zt⟩ := (pr10.same s7).get hx
            have zm : q'.1 ∈ ps.map (·.1) := List.mem_map.mpr ⟨q', List.mem_of_getElem? hq', rfl⟩
            rw [hq', Option.bind_some]
            obtain ⟨tt, vt, ht⟩ := dv _ zm
            have g1 := DGet.k (k := .inr q'.1) (s7 _ _ e6)
            rw [vt] at g1
            have ht7 := s7 _ _ (u6 _ _ ht)
            refine ⟨[some (.ref tp), some (.int kd), some (.ref pp), some (.ref pk), some (.ref D), some (.str (dK2 rs ks).shown), some (.ref E), v7, v8, v9, v10, v11, v12, some (.ref D9), some (.ref l), none, some (.ref t')], rfl, fun R' h => h, ?_⟩
            have ev : Evt (tTest (tChain uLe uLe (tOp (uIx K) (tDGet (tVar 14) (tOp (uIx K) (tVar 16) (tC (.int 0)))) (tC (.int 0))) (tOp (uIx K) (tVar 16) (tC (.int 1))) (tOp (uIx K) (tDGet (tVar 14) (tOp (uIx K) (tVar 16) (tC (.int 0)))) (tC (.int 1))))) [some (.ref tp), some (.int kd), some (.ref pp), some (.ref pk), some (.ref D), some (.str (dK2 rs ks).shown), some (.ref E), v7, v8, v9, v10, v11, v12, some (.ref D9), some (.ref l), none, some (.ref t')] G7 (decide (loK kd ps ks q'.1 ≤ q'.2) && decide (q'.2 ≤ hiK kd ps ks q'.1)) := by
              intro Q' q2
              walk_at "rd"
              refine ⟨_, _, .inr (.inl (.inl zt)), rfl, l, _, rfl, g1, ?_⟩
              refine ⟨_, _, .inr (.inl (.inl ht7)), rfl, _, _, .inr (.inl (.inl zt)), rfl, ?_⟩
              show if _ then _ else _
              by_cases c1 : loK kd ps ks q'.1 ≤ q'.2
              · rw [if_pos (decide_eq_true c1)]
                rw [decide_eq_true c1, Bool.true_and] at q2
                refine ⟨_, _, .inr (.inl (.inl zt)), rfl, l, _, rfl, g1, ?_⟩
                refine ⟨_, _, .inr (.inl (.inl ht7)), rfl, ?_⟩
                exact q2 _ (Same.refl _)
              · rw [if_neg (by simpa using c1)]
                rw [decide_eq_false c1, Bool.false_and] at q2
                exact q2 _ (Same.refl _)
            cases c1 : (decide (loK kd ps ks q'.1 ≤ q'.2) && decide (q'.2 ≤ hiK kd ps ks q'.1)) with
            | true =>
              rw [c1] at ev
              rw [if_pos rfl]
              exact ⟨ev, fun G8 s8 Q' qq => ⟨_, rfl, qq _ _ (Same.refl _) trivial⟩⟩
            | false =>
              rw [c1] at ev
              rw [if_neg (by decide)]
              exact ev
          · rw [List.length_map, pr10.len, range_list (fun q : Str × Int => if (decide (loK kd ps ks q.1 ≤ q.2) && decide (q.2 ≤ hiK kd ps ks q.1)) = true then some q else none), fm_if (fun q : Str × Int => (decide (loK kd ps ks q.1 ≤ q.2) && decide (q.2 ≤ hiK kd ps ks q.1)))] at ry
            have gl := ry.len
            rw [hU]
            clear hU
            walk_at "rd"
            have S7 := S6.trans s7
            refine ⟨7, _, fn_reason T, by decide, D, pk, as, rs, ks, rfl, bk9'.same S7, S7 _ _ pk9, kn, fun x G8 s8 fv => ?_⟩
            refine ⟨xs, .inl (.inl (.inl (s8 _ _ hy))), _, .inl (.inl (.inl (s8 _ _ (S7 _ _ pr9.lst)))), ?_⟩
            have a1 : x = V.non ↔ faultP rs ks = none := by
              cases hf : faultP rs ks with
              | none => rw [hf] at fv; exact ⟨fun _ => rfl, fun _ => fv⟩
              | some f =>
                rw [hf] at fv
                obtain ⟨b', z'⟩ := f
                obtain ⟨t', rfl, _⟩ := fv
                exact ⟨(fun h => nomatch h), (fun h => nomatch h)⟩
            have a2 := fault_none hk kn hr.kind em
            have a3 : (∀ r ∈ rs, loK kd ps ks (item r) ≤ slot r ∧ slot r ≤ hiK kd ps ks (item r)) ↔ ∀ q ∈ ps, (decide (loK kd ps ks q.1 ≤ q.2) && decide (q.2 ≤ hiK kd ps ks q.1)) = true := by
              constructor
              · intro h q' hq'
                obtain ⟨r, hr', rfl⟩ := List.mem_map.mp (pm.mem_iff.mpr hq')
                obtain ⟨h1, h2⟩ := h r hr'
                rw [Bool.and_eq_true]
                exact ⟨decide_eq_true h1, decide_eq_true h2⟩
              · intro h r hr'
                have := h (r.2.1, r.2.2) (pm.mem_iff.mp (List.mem_map.mpr ⟨r, hr', rfl⟩))
                rw [Bool.and_eq_true] at this
                exact ⟨of_decide_eq_true this.1, of_decide_eq_true this.2⟩
            have a4 : (xs.length : Int) = ((ts.map V.ref).length : Int) ↔ ∀ q ∈ ps, (decide (loK kd ps ks q.1 ≤ q.2) && decide (q.2 ≤ hiK kd ps ks q.1)) = true := by
              rw [← List.length_filter_eq_length_iff, gl, List.length_map, pr9.len]
              omega
            rw [decide_eq_true (decide_eq_decide.mpr (a1.trans (a2.trans (a3.trans a4.symm))))]
            exact q _ (B9.trans (But.same (S7.trans s8))) ((t9.same (S7.trans s8)).mono (by omega))
theorem fn_right (T : Tx K mg A) : Fn P w K mg base 9 "_law_right" (sp_right A) := T.f_law_right.fn sc_law_right (fun hr => d_law_right T.G hr) (p_right T)
end
end K
namespace K
open PySem PySem.Spec PyProof.Rows L2 U ClX M
local macro_rules | `(tactic| walk_at "rd") => `(tactic| simp only [tSeq, tRet, tIfS, tAsg, tDrop, tNext, tNever, tRetN, tAndV, tOrV, tNotV, tAnd, tOr, tNot, tB, tTest, tChain, tCB, tCons, tNil, tVar, tC, tOp, tUn, tIf, gName, uLe, uLt, uGe, uGt, uCmp, uAdd, uSub, uMul, uDiv, uMod, uPow, uNeg, uEq, uNe, uIs, uIsNot, uIx, uIn, cIsi, cLen, cAll, cMax, cMin, cAbs, cSort, cSortD, cInt, cTuple, cRepr, cDict, cList, cSortS, tRevL, tDGet, tLstRg, tTupRg, tRg1, tRg2, sDPut, tDNewK, tAug, ipI, iZip, tLst, tTup, tPar, U.tPar3, tFn, tMkr, tMth, tFnK, tMthK, tAtt, sFld, tYes, tLc_eq, tFor_eq, iList, iStr, iRng1, iRng2, iEnum, tLenSetT, tSl, tPart, tNoPart, gTup, gCons, gNil, gSub, tBM, tBM0, List.getElem?_cons_zero, List.getElem?_cons_succ, List.set_cons_zero, List.set_cons_succ, Option.some.injEq, V.bl.injEq, V.int.injEq, V.str.injEq, V.ref.injEq, exists_eq_left', exists_eq_left, exists_eq_right, exists_eq_right', and_true, true_and, scal, if_true, Bool.false_eq_true, if_false, List.cons.injEq, exists_const, false_and, and_false, ite_true, ite_false, Bool.not_true, Bool.not_false])
section
variable {P : Program} {w : World} {K : PySem.W.Frag} {mg : Str → Option Value} {base : Heap} {A : Ads}
theorem HP.perm {ps : List (Str × Int)} {ks ks' : List Str} (h : HP ps ks) (pm : ks'.Perm ks) : HP ps ks' := ⟨h.nd, fun q hq => pm.mem_iff.mpr (h.sub q hq), h.lo, h.few⟩
theorem Its.perm {ks ks' : List Str} (h : Its ks) (pm : ks'.Perm ks) : Its ks' := ⟨pm.nodup_iff.mpr h.nd, fun z hz => h.it z (pm.mem_iff.mp hz), by rw [pm.length_eq]; exact h.few⟩
def sp_law (K : PySem.W.Frag) : Sp := fun vs H Q _ => ∃ (a : Addr) (ns : List Int), vs = [.ref a] ∧ SqL K H a (ns.map V.int) ∧ ns.length ≤ 63 ∧ ∀ H', Q (.bl true) H'
theorem p_law (T : Tx K mg A) : Pur N_law ["_law_script"] (t_law P w K mg base A) (sp_law K) := by
  intro vs H Q E h
  obtain ⟨a, ns, rfl, hs, hl, q⟩ := h
  refine ⟨rfl, ?_⟩
  show t_law P w K mg base A E _ [some (.ref a), none, none, none, none, none, none, none, none, none, none, none] H
  unfold t_law
  refine seqU fun U hU => ?_
  walk_at "rd"
  refine ⟨_, .inl hs, ?_⟩
  rw [List.length_map]
  obtain ⟨n, hn, en⟩ : ∃ n : Nat, n ≤ 3 ∧ (if (if (ns.length : Int) < 3 then (ns.length : Int) else 3) > 1 then (if (ns.length : Int) < 3 then (ns.length : Int) else 3) else 1) = (n : Int) := ⟨(if (if (ns.length : Int) < 3 then (ns.length : Int) else 3) > 1 then (if (ns.length : Int) < 3 then (ns.length : Int) else 3) else 1).toNat, by split <;> split <;> omega, by split <;> split <;> omega⟩
  rw [en]
  refine ⟨by omega, by omega, ?_⟩
  rw [Int.toNat_natCast]
  refine for_range (n := n) (fun i σ G => ∃ v1 v2 v3 v4 v5 v6 v7 v8, σ = [some (.ref a), v1, v2, v3, v4, v5, v6, v7, v8, none, none, none] ∧ Same H G) ⟨_, _, _, _, _, _, _, _, rfl, Same.refl _⟩ ?_ ?_
  · rintro i σ G hi ⟨v1, v2, v3, v4, v5, v6, v7, v8, rfl, sG⟩
    walk_at "rd"
    refine ⟨2, _, fn_tape T, by decide, a, ns, _, rfl, sG.seq hs, by omega, by omega, fun tp xs htp hxs => ?_⟩
    walk_at "rd"
    refine ⟨by decide, by decide, ?_⟩
    have ft : H tp = none := sG.free htp
    refine for_range (n := 3) (fun j σ G2 => ∃ v3 v4 v5 v6 v7 v8, σ = [some (.ref a), some (.int (0 + i)), some (.ref tp), v3, v4, v5, v6, v7, v8, none, none, none] ∧ Same H G2 ∧ Tape G2 tp (5000 * j)) ⟨_, _, _, _, _, _, rfl, sG.trans (Same.new htp), xs, upd_same, by simpa using hxs⟩ ?_ ?_
    · rintro j σ G2 hj ⟨v3, v4, v5, v6, v7, v8, rfl, s2, t2⟩
      have nt : ∀ {b : Addr} {o : HO}, H b = some o → b ≠ tp := fun e => ne_of_none e ft
      have sb : ∀ {X Y : Hp}, Same H X → But tp X Y → Same H Y := fun s b a o e => b a o (nt e) (s a o e)
      simp only [gName]
      refine seqU fun U hU => ?_
      walk_at "rd"
      refine ⟨(by show 2 ≤ sizeLine; decide), fun q1 hq1 => ?_⟩
      have u1 := Same.new (o := .lst [.int 8, .int 40]) hq1
      obtain ⟨wd, hwd, wd0, wd1⟩ : ∃ wd : Nat, atI [V.int 8, V.int 40] (if decide ((0 : Int) + i = 0) = true then 1 else 0) = some (.int (wd : Int)) ∧ 0 < wd ∧ wd ≤ 40 := by
        by_cases c : (0 : Int) + i = 0
        · rw [decide_eq_true c]; exact ⟨40, rfl, by decide, by decide⟩
        · rw [decide_eq_false c]; exact ⟨8, rfl, by decide, by decide⟩
      refine ⟨_, _, .inl (.inl (.inl upd_same)), hwd, (by show 2 ≤ sizeLine; decide), fun q2 hq2 => ?_⟩
      have u2 := Same.new (o := .lst [.int 5, .int wd]) hq2
      have e2 := upd_same (H := upd G2 q1 (.lst [.int 8, .int 40])) (a := q2) (o := .lst [.int 5, .int wd])
      have U2 := u1.trans u2
      have n2 : q2 ≠ tp := (t2.same u1).ne hq2
      have t2' := t2.same U2
      generalize upd (upd G2 q1 (.lst [.int 8, .int 40])) q2 (.lst [.int 5, .int wd]) = G3 at U2 e2 t2'
      refine ⟨2, _, fn_pick T, by decide, next_ok t2' (by omega) (by decide) (by decide) fun x4 G4 x40 x41 t4 b4 _ => ?_⟩
      obtain ⟨mo, hmo, mo1⟩ : ∃ mo : Nat, atI [V.int 5, V.int (wd : Int)] x4 = some (.int (mo : Int)) ∧ mo ≤ 40 := by
        have : x4 = 0 ∨ x4 = 1 := by omega
        rcases this with rfl | rfl
        · exact ⟨5, rfl, by decide⟩
        · exact ⟨wd, rfl, wd1⟩
      refine ⟨_, _, .inl (.inl (.inl (b4 _ _ n2 e2))), hmo, ?_⟩
      have s4 : Same H G4 := sb (s2.trans U2) b4
      rw [hU]
      clear hU
      clear u1 u2 U2 e2 t2' b4 hq2 hq1 t2 s2
      refine seqU fun U hU => ?_
      walk_at "rd"
      refine ⟨4, _, fn_history T, by decide, (by show 2 ≤ sizeLine; decide), fun q5 hq5 => ?_⟩
      have u5 := Same.new (o := .lst [.int 2, .int 20]) hq5
      have e5 := upd_same (H := G4) (a := q5) (o := .lst [.int 2, .int 20])
      have n5 : q5 ≠ tp := t4.ne hq5
      have t5 := t4.same u5
      generalize upd G4 q5 (.lst [.int 2, .int 20]) = G5 at u5 e5 t5
      refine ⟨2, _, fn_pick T, by decide, next_ok t5 (by omega) (by decide) (by decide) fun x6 G6 x60 x61 t6 b6 _ => ?_⟩
      obtain ⟨me, hme, me1⟩ : ∃ me : Nat, atI [V.int 2, V.int 20] x6 = some (.int (me : Int)) ∧ me ≤ 20 := by
        have : x6 = 0 ∨ x6 = 1 := by omega
        rcases this with rfl | rfl
        · exact ⟨2, rfl, by decide⟩
        · exact ⟨20, rfl, by decide⟩
      refine ⟨_, _, .inl (.inl (.inl (b6 _ _ n5 e5))), hme, ?_⟩
      have s6 : Same H G6 := sb (s4.trans u5) b6
      refine ⟨tp, j, mo, me, _, by rw [Int.zero_add], hj, mo1, me1, t6, by omega, fun p7 pp pk ts ps ks G7 h7 pr7 pk7 its hp fpp fpk t7 b7 => ?_⟩
      have s7 : Same H G7 := sb s6 b7
      have npp : pp ≠ tp := t6.ne fpp
      have npk : pk ≠ tp := t6.ne fpk
      have pl : ps.length ≤ 40 := hp.few
      refine ⟨p7, _, rfl, .inl (.inl h7), rfl, _, _, rfl, _, _, rfl, rfl, ?_⟩
      show U _ _
      rw [hU]
      clear hU
      clear t5 u5 e5 b6 b7 t6 hq5 t4 s4 s6 h7
      refine seqU fun U hU => ?_
      walk_at "rd"
      refine ⟨⟨_, .inl (.inl pr7.lst)⟩, ?_⟩
      show LcB _ _ _ _ _ _ _ _
      intro D hD
      have nD : D ≠ tp := t7.ne hD
      refine L2.lc_list (K := K) (a := pp) (xs := ts.map V.ref) (fun k G => ∃ (ts' : List Addr) (ps' : List (Str × Int)), But tp G7 G ∧ Tape G tp (5000 * j + 500 + k) ∧ Prs G D ts' ps' ∧ ps'.map (·.1) = (ps.map (·.1)).take k ∧ ∀ q ∈ ps', 0 ≤ q.2 ∧ q.2 ≤ 60) ⟨[], [], But.refl.mut hD, (t7.other nD).mono (by simp; omega), ⟨upd_same, rfl, fun i t q h => by simp at h⟩, rfl, (fun _ h => nomatch h)⟩ (fun k G _ ⟨_, _, bG, _⟩ => .inl (.inl (bG _ _ npp pr7.lst))) ?_ ?_
      · rintro k x G hx ⟨ts', ps', bG, tG, prD, pe, lo⟩
        obtain ⟨t', q', rfl, ht', hq', z⟩ := (pr7.but t7 bG npp).get hx
        have hk : k < ps.length := (List.getElem?_eq_some_iff.mp hq').1
        refine ⟨t', _, rfl, .inl (.inl z), rfl, _, _, rfl, _, _, rfl, rfl, ?_⟩
        refine ⟨rfl, ?_⟩
        show tYes _ G _
        walk_at "rd"
        refine ⟨_, rfl, 2, _, fn_pick T, by decide, _, rfl, next_ok tG (by omega) (by decide) (by decide) fun r Gb r0 r1 tb bb _ => ⟨(by show 2 ≤ sizeLine; decide), fun p4 hp4 => ?_⟩⟩
        have prDb := prD.but tG bb nD
        have u4 := Same.new (o := .tup [.str q'.1, .int r]) hp4
        have tsl : ts'.length = k := by rw [prD.len, ← List.length_map (f := fun q : Str × Int => q.1), pe, List.length_take, List.length_map]; omega
        refine ⟨ts'.map V.ref, u4 _ _ prDb.lst, Nat.lt_of_le_of_lt (by rw [List.length_map]; omega : _ ≤ 100) (by decide), ts' ++ [p4], ps' ++ [(q'.1, r)], ((bG.trans bb).trans (But.same u4)).mut hD, ((tb.same u4).other nD).mono (by push_cast; omega), (prDb.same u4).snoc (q := (q'.1, r)) (t := p4) upd_same _ rfl, ?_, fun q2 hq2 => ?_⟩
        · rw [List.map_append, pe, List.take_succ_eq_append_getElem (by simpa using hk)]
          have : (ps.map (·.1))[k]'(by simpa using hk) = q'.1 := by
            rw [List.getElem_map]
            obtain ⟨_, e⟩ := List.getElem?_eq_some_iff.mp hq'
            rw [e]
          rw [this]; rfl
        · rcases List.mem_append.mp hq2 with y | y
          · exact lo q2 y
          · obtain rfl := List.mem_singleton.mp y; exact ⟨r0, by omega⟩
      · rintro G14 ⟨ts', ps', b14, t14, prD, pe, lo⟩
        rw [List.length_map, pr7.len] at pe t14
        have pe' : ps'.map (·.1) = ps.map (·.1) := by rw [pe]; rw [show ps.length = (ps.map (·.1)).length by simp, List.take_length]
        have hp' : HP ps' ks := ⟨by rw [pe']; exact hp.nd, fun q' hq' => by
          have : q'.1 ∈ ps.map (·.1) := by rw [← pe']; exact List.mem_map.mpr ⟨q', hq', rfl⟩
          obtain ⟨q2, h2, e⟩ := List.mem_map.mp this
          rw [← e]; exact hp.sub q2 h2, lo, by
          have := congrArg List.length pe'
          rw [List.length_map, List.length_map] at this
          omega⟩
        show U _ _
        rw [hU]
        clear hU
        have pr14 := pr7.but t7 b14 npp
        have pk14 := b14 _ _ npk pk7
        have s14 : Same H G14 := sb s7 b14
        clear t7 pr7 pk7 b14
        refine seqU fun U hU => ?_
        walk_at "rd"
        refine ⟨3, _, fn_bent T, by decide, tp, pp, _, ts, ps, ks, rfl, t14, by omega, pr14, npp, hp, fun pa ta pas G8 hpa pra hpa' b8 t8 => ?_⟩
        have npa : pa ≠ tp := t14.ne hpa
        refine ⟨(by show 2 ≤ sizeLine; decide), fun p10 hp10 => ?_⟩
        have u10 := Same.new (o := .lst [.ref pa, .ref D]) hp10
        have e10 := upd_same (H := G8) (a := p10) (o := .lst [.ref pa, .ref D])
        have n10 : p10 ≠ tp := t8.ne hp10
        have b10 : But tp G14 (upd G8 p10 (.lst [.ref pa, .ref D])) := b8.trans (But.same u10)
        have t10 := t8.same u10
        have prs : ∀ x ∈ [V.ref pa, V.ref D], ∃ (p : Addr) (ts : List Addr) (ps : List (Str × Int)), x = .ref p ∧ p ≠ tp ∧ Prs (upd G8 p10 (.lst [.ref pa, .ref D])) p ts ps ∧ HP ps ks := by
          intro x hx
          simp only [List.mem_cons, List.not_mem_nil, or_false] at hx
          rcases hx with rfl | rfl
          · exact ⟨pa, ta, pas, rfl, npa, pra.same u10, hpa'⟩
          · exact ⟨D, ts', ps', rfl, nD, (prD.but t14 b8 nD).same u10, hp'⟩
        have pk10 := b10 _ _ npk pk14
        have pr10 := pr14.but t14 b10 npp
        have s10 := sb s14 b10
        generalize upd G8 p10 (.lst [.ref pa, .ref D]) = G10 at u10 e10 t10 b10 prs pk10 pr10 s10
        refine ⟨⟨_, .inl (.inl e10)⟩, ?_⟩
        refine for_list (K := K) (a := p10) (xs := [.ref pa, .ref D]) (fun k σ G => ∃ v8, σ = [some (.ref a), some (.int (0 + i)), some (.ref tp), some (.int (0 + j)), some (.int mo), some (.ref pp), some (.ref pk), some (.ref D), v8, none, none, none] ∧ But tp G10 G ∧ Tape G tp (5000 * j + 800 + 500 * k)) ⟨_, rfl, But.refl, t10.mono (by omega)⟩ (fun k σ G _ ⟨_, _, bG, _⟩ => .inl (.inl (bG _ _ n10 e10))) ?_ ?_
        · rintro k x σ G hx ⟨v8, rfl, bG, tG⟩
          have hk3 : k < 2 := (List.getElem?_eq_some_iff.mp hx).1
          obtain ⟨p, ts2, ps2, rfl, np, pr2, hp2⟩ := prs x (List.mem_of_getElem? hx)
          simp only [gName]
          walk_at "rd"
          refine ⟨9, _, fn_right T, by decide, tp, p, pk, j, _, ts2, ps2, ks, by rw [Int.zero_add], hj, tG, by omega, pr2.but t10 bG np, np, bG _ _ npk pk10, npk, its, hp2, fun G11 b11 t11 => ⟨true, rfl, ?_⟩⟩
          rw [if_neg (by decide)]
          exact ⟨bG.trans b11, t11.mono (by push_cast; omega)⟩
        · rintro σ G11 ⟨v8, rfl, b11, t11⟩
          show U _ _
          rw [hU]
          clear hU
          have pk11 := b11 _ _ npk pk10
          have pr11 := pr10.but t10 b11 npp
          have s11 : Same H G11 := sb s10 b11
          walk_at "rd"
          refine ⟨9, _, fn_right T, by decide, 3, _, fn_mixed T, by decide, tp, pk, _, _, rfl, t11, by simp only [List.length_cons, List.length_nil]; omega, pk11, by rw [List.length_map]; have := its.few; omega, fun pm ys G12 hpm pym g12 t12 b12 => ?_⟩
          obtain ⟨all, rfl⟩ := strs_of pym
          have pa' : all.Perm ks := perm_strs pym
          have npm : pm ≠ tp := t11.ne hpm
          refine ⟨tp, pp, pm, j, _, ts, ps, all, by rw [Int.zero_add], hj, t12, by simp only [List.length_cons, List.length_nil]; omega, pr11.but t11 b12 npp, npp, g12, npm, its.perm pa', hp.perm pa', fun G13 b13 t13 => ⟨true, rfl, ?_⟩⟩
          rw [if_neg (by decide)]
          exact ⟨_, _, _, _, _, _, ⟨rfl, rfl, rfl, rfl, rfl, rfl⟩, sb s11 (b12.trans b13), t13.mono (by simp only [List.length_cons, List.length_nil]; push_cast; omega)⟩
    · rintro σ G2 ⟨v3, v4, v5, v6, v7, v8, rfl, s2, t2⟩
      exact ⟨_, _, _, _, _, _, _, _, rfl, s2⟩
  · rintro σ G ⟨v1, v2, v3, v4, v5, v6, v7, v8, rfl, sG⟩
    show U _ _
    rw [hU]
    clear hU
    refine seqU fun U hU => ?_
    walk_at "rd"
    refine ⟨3, _, _, mkr T (k := 2) (by decide), by decide, fun p1 dx1 hp1 hdx1 ne1 => made_at (by decide) hp1 hdx1 (by decide +kernel) (by decide) (by decide) fun G1 s1 r1 => ?_⟩
    refine ⟨3, _, _, mkr T (k := 2) (by decide), by decide, fun p2 dx2 hp2 hdx2 ne2 => made_at (by decide) hp2 hdx2 (by decide +kernel) (by decide) (by decide) fun G3 s3 r3 => ⟨(by show 2 ≤ sizeLine; decide), fun L hL => ?_⟩⟩
    have u4 := Same.new (o := .lst [.ref p1, .ref p2]) hL
    have bk : Book A (upd G3 L (.lst [.ref p1, .ref p2])) L [p1, p2] [(2, "a", 9), (2, "b", 9)] := ⟨upd_same, rfl, fun i a r h1 h2 => by
      match i with
      | 0 => simp at h1 h2; subst h1; subst h2; exact (r1.same s3).same u4
      | 1 => simp at h1 h2; subst h1; subst h2; exact r3.same u4
      | i + 2 => simp at h1⟩
    show U _ (upd G3 L (.lst [.ref p1, .ref p2]))
    rw [hU]
    clear hU
    generalize upd G3 L (.lst [.ref p1, .ref p2]) = G4 at bk
    have iy : Its ["x", "b", "y", "a"] := ⟨by decide +kernel, fun z hz => by simp only [List.mem_cons, List.not_mem_nil, or_false] at hz; rcases hz with rfl | rfl | rfl | rfl <;> decide +kernel, by decide⟩
    have hr : HR 2 [(2, "a", 9), (2, "b", 9)] ["x", "b", "y", "a"] := ⟨fun r hr => by simp only [List.mem_cons, List.not_mem_nil, or_false] at hr; rcases hr with rfl | rfl <;> rfl, by decide +kernel, by decide +kernel, by decide +kernel, by decide⟩
    have kn := hr.known (by decide) iy
    walk_at "rd"
    refine ⟨(by show 2 ≤ sizeLine; decide), fun t5 ht5 => ⟨t5, rfl, ⟨_, .inl (.inl upd_same)⟩, ?_⟩⟩
    have u5 := Same.new (o := .tup [.str "a", .str "b"]) ht5
    have e5 := upd_same (H := G4) (a := t5) (o := .tup [.str "a", .str "b"])
    have bk5 := bk.same u5
    generalize upd G4 t5 (.tup [.str "a", .str "b"]) = G5 at u5 e5 bk5
    refine lc_rel (Rl := Pr2) (fun _ _ _ _ s ⟨t, e, h⟩ => ⟨t, e, s _ _ h⟩) (goes_tup (.inl (.inl e5))) (fun i => some (if i = 0 then ((3, 3) : Int × Int) else (1, 2))) (by show 2 < sizeLine; decide) (fun i x G6 D hi s hx hD hacc => ?_) fun D G6 xs hD s6 hy ry => ?_
    · obtain ⟨z, rfl, zm, lw⟩ : ∃ z : Str, x = .str z ∧ z ∈ mkd ["x", "b", "y", "a"] ([(2, "a", 9), (2, "b", 9)] : List Rc) ∧ (lowP (isFr ([(2, "a", 9), (2, "b", 9)] : List Rc)) ["x", "b", "y", "a"] (mkd ["x", "b", "y", "a"] ([(2, "a", 9), (2, "b", 9)] : List Rc)) z, highP (isFr ([(2, "a", 9), (2, "b", 9)] : List Rc)) ["x", "b", "y", "a"] (mkd ["x", "b", "y", "a"] ([(2, "a", 9), (2, "b", 9)] : List Rc)) z) = (if i = 0 then ((3, 3) : Int × Int) else (1, 2)) := by
        match i with
        | 0 => simp at hx; exact ⟨"a", hx.symm, by decide +kernel, by decide +kernel⟩
        | 1 => simp at hx; exact ⟨"b", hx.symm, by decide +kernel, by decide +kernel⟩
        | i + 2 => simp at hx
      obtain ⟨acc, hacc⟩ := hacc
      refine ⟨[some (.ref a), v1, v2, v3, v4, v5, v6, v7, v8, some (.ref L), some (.str z), none], rfl, fun R' h => h, Evt.yes, fun G7 s7 Q' qq => ?_⟩
      walk_at "rd"
      refine ⟨7, _, fn_range T, by decide, (by show 4 ≤ sizeLine; decide), fun p hp => ⟨L, p, _, _, ["x", "b", "y", "a"], z, rfl, (bk5.same (s.trans s7)).same (Same.new hp), upd_same, kn, zm, fun t G8 ht s8 e8 => qq _ _ ((Same.new hp).trans s8) ⟨t, rfl, ?_⟩⟩⟩
      rw [← lw]
      exact hide_get e8 (fun e => by rw [e, ((Same.new hp).trans s8) _ _ (s7 _ _ hacc)] at e8; cases e8)
    · have f6 : (List.range 2).filterMap (fun i => some (if i = 0 then ((3, 3) : Int × Int) else (1, 2))) = [(3, 3), (1, 2)] := by decide
      rw [show [V.str "a", V.str "b"].length = 2 from rfl, f6] at ry
      match xs, ry.len with
      | [x0, x1], _ =>
      obtain ⟨t0, rfl, h0⟩ := ry.at_ 0 _ _ rfl rfl
      obtain ⟨t1, rfl, h1⟩ := ry.at_ 1 _ _ rfl rfl
      replace h0 := hide_same _ _ h0
      replace h1 := hide_same _ _ h1
      refine ⟨(by show 2 ≤ sizeLine; decide), fun q0 hq0 => ⟨(by show 2 ≤ sizeLine; decide), fun q1 hq1 => ⟨(by show 2 ≤ sizeLine; decide), fun q2 hq2 => ?_⟩⟩⟩
      have w0 := Same.new (o := .tup [.int 3, .int 3]) hq0
      have w1 := Same.new (o := .tup [.int 1, .int 2]) hq1
      have w2 := Same.new (o := .lst [.ref q0, .ref q1]) hq2
      have W := w0.trans (w1.trans w2)
      refine .inl ⟨.list [dR 3 3, dR 1 2], .list [dR 3 3, dR 1 2], .lst (.inl (.inl (W _ _ hy))) (.cons (dp_dR (W _ _ h0)) (.cons (dp_dR (W _ _ h1)) .nil)), .lst (.inl (.inl upd_same)) (.cons (dp_dR ((w1.trans w2) _ _ upd_same)) (.cons (dp_dR (w2 _ _ upd_same)) .nil)), (by decide +kernel), (by decide +kernel), ?_⟩
      exact q _
theorem fn_law (T : Tx K mg A) : Fn P w K mg base 10 "law" (sp_law K) := T.f_law.fn sc_law (fun hr => d_law T.G hr) (p_law T)
end
end K
namespace K
open PySem PySem.Spec PyProof.Rows L2 U ClX M
theorem all_mk {l : PySem.W.OpenLaw} {w : World} {K : PySem.W.Frag} {h : Heap} {mg : Str → Option Value} {fa C0 C1 C2 C3 : Addr} (X : K.In h) (G : h.Ns mainGlobals mg) (hfa : mg "law" = some (.ref fa))
    {oc0 kV0 dc0 pm0 cd0 ct0 : Value} {od0 an0 : Option Addr} {sl0 : Array (Option Value)} {f0 : Addr} {oc1 kV1 dc1 pm1 cd1 ct1 : Value} {od1 an1 : Option Addr} {sl1 : Array (Option Value)} {f1 : Addr} {oc2 kV2 dc2 pm2 cd2 ct2 : Value} {od2 an2 : Option Addr} {sl2 : Array (Option Value)} {f2 : Addr} {oc3 kV3 dc3 pm3 cd3 ct3 : Value} {od3 an3 : Option Addr} {sl3 : Array (Option Value)} {f3 : Addr} {oc4 kV4 dc4 pm4 cd4 ct4 : Value} {od4 an4 : Option Addr} {sl4 : Array (Option Value)} {f4 : Addr} {oc5 kV5 dc5 pm5 cd5 ct5 : Value} {od5 an5 : Option Addr} {sl5 : Array (Option Value)} {f5 : Addr} {oc6 kV6 dc6 pm6 cd6 ct6 : Value} {od6 an6 : Option Addr} {sl6 : Array (Option Value)} {f6 : Addr} {oc7 kV7 dc7 pm7 cd7 ct7 : Value} {od7 an7 : Option Addr} {sl7 : Array (Option Value)} {f7 : Addr} {oc8 kV8 dc8 pm8 cd8 ct8 : Value} {od8 an8 : Option Addr} {sl8 : Array (Option Value)} {f8 : Addr} {oc9 kV9 dc9 pm9 cd9 ct9 : Value} {od9 an9 : Option Addr} {sl9 : Array (Option Value)} {f9 : Addr} {oc10 kV10 dc10 pm10 cd10 ct10 : Value} {od10 an10 : Option Addr} {sl10 : Array (Option Value)} {f10 : Addr} {oc11 kV11 dc11 pm11 cd11 ct11 : Value} {od11 an11 : Option Addr} {sl11 : Array (Option Value)} {f11 : Addr} {oc12 kV12 dc12 pm12 cd12 ct12 : Value} {od12 an12 : Option Addr} {sl12 : Array (Option Value)} {f12 : Addr} {oc13 kV13 dc13 pm13 cd13 ct13 : Value} {od13 an13 : Option Addr} {sl13 : Array (Option Value)} {f13 : Addr} {oc14 kV14 dc14 pm14 cd14 ct14 : Value} {od14 an14 : Option Addr} {sl14 : Array (Option Value)} {f14 : Addr} {oc15 kV15 dc15 pm15 cd15 ct15 : Value} {od15 an15 : Option Addr} {sl15 : Array (Option Value)} {f15 : Addr} {oc16 kV16 dc16 pm16 cd16 ct16 : Value} {od16 an16 : Option Addr} {sl16 : Array (Option Value)} {f16 : Addr} {oc17 kV17 dc17 pm17 cd17 ct17 : Value} {od17 an17 : Option Addr} {sl17 : Array (Option Value)} {f17 : Addr} {oc18 kV18 dc18 pm18 cd18 ct18 : Value} {od18 an18 : Option Addr} {sl18 : Array (Option Value)} {f18 : Addr} {oc19 kV19 dc19 pm19 cd19 ct19 : Value} {od19 an19 : Option Addr} {sl19 : Array (Option Value)} {f19 : Addr} {oc20 kV20 dc20 pm20 cd20 ct20 : Value} {od20 an20 : Option Addr} {sl20 : Array (Option Value)} {f20 : Addr} {oc21 kV21 dc21 pm21 cd21 ct21 : Value} {od21 an21 : Option Addr} {sl21 : Array (Option Value)} {f21 : Addr} {oc22 kV22 dc22 pm22 cd22 ct22 : Value} {od22 an22 : Option Addr} {sl22 : Array (Option Value)} {f22 : Addr} {oc23 kV23 dc23 pm23 cd23 ct23 : Value} {od23 an23 : Option Addr} {sl23 : Array (Option Value)} {f23 : Addr} {oc24 kV24 dc24 pm24 cd24 ct24 : Value} {od24 an24 : Option Addr} {sl24 : Array (Option Value)} {f24 : Addr} {oc25 kV25 dc25 pm25 cd25 ct25 : Value} {od25 an25 : Option Addr} {sl25 : Array (Option Value)} {f25 : Addr} {pI pS : Addr} {tkC0 : Tok} {tkC1 : Tok} {tkC2 : Tok} {tkC3 : Tok} {rspI : List Value} {rspS : List Value} {ocI kVI dcI pmI cdI ctI : Value} {odI anI : Option Addr} {slI : Array (Option Value)} {fI : Addr} {ocP kVP dcP pmP cdP ctP : Value} {odP anP : Option Addr} {slP : Array (Option Value)} {fP : Addr} {ocS kVS dcS pmS cdS ctS : Value} {odS anS : Option Addr} {slS : Array (Option Value)} {fS : Addr} {ocMmv kVMmv dcMmv pmMmv cdMmv ctMmv : Value} {odMmv anMmv : Option Addr} {slMmv : Array (Option Value)} {fMmv : Addr} {tkM : Tok} {XFrame : Addr} {XImpossible : Addr} {XLogError : Addr} {XNoIndex : Addr} {XNoItem : Addr} {XNoList : Addr} {XNoLog : Addr} {XNoText : Addr} {ocNFrame kVNFrame dcNFrame pmNFrame cdNFrame ctNFrame : Value} {odNFrame anNFrame : Option Addr} {slNFrame : Array (Option Value)} {fNFrame : Addr} {ocWFrame_room kVWFrame_room dcWFrame_room pmWFrame_room cdWFrame_room ctWFrame_room : Value} {odWFrame_room anWFrame_room : Option Addr} {slWFrame_room : Array (Option Value)} {fWFrame_room : Addr} {ocWFrame_shift kVWFrame_shift dcWFrame_shift pmWFrame_shift cdWFrame_shift ctWFrame_shift : Value} {odWFrame_shift anWFrame_shift : Option Addr} {slWFrame_shift : Array (Option Value)} {fWFrame_shift : Addr} {ocWFrame_is_low kVWFrame_is_low dcWFrame_is_low pmWFrame_is_low cdWFrame_is_low ctWFrame_is_low : Value} {odWFrame_is_low anWFrame_is_low : Option Addr} {slWFrame_is_low : Array (Option Value)} {fWFrame_is_low : Addr} {ocWFrame_is_high kVWFrame_is_high dcWFrame_is_high pmWFrame_is_high cdWFrame_is_high ctWFrame_is_high : Value} {odWFrame_is_high anWFrame_is_high : Option Addr} {slWFrame_is_high : Array (Option Value)} {fWFrame_is_high : Addr} {ocWFrame_first_fault kVWFrame_first_fault dcWFrame_first_fault pmWFrame_first_fault cdWFrame_first_fault ctWFrame_first_fault : Value} {odWFrame_first_fault anWFrame_first_fault : Option Addr} {slWFrame_first_fault : Array (Option Value)} {fWFrame_first_fault : Addr} {ocWFrame_bounds kVWFrame_bounds dcWFrame_bounds pmWFrame_bounds cdWFrame_bounds ctWFrame_bounds : Value} {odWFrame_bounds anWFrame_bounds : Option Addr} {slWFrame_bounds : Array (Option Value)} {fWFrame_bounds : Addr} {tk_FRONTED : Tok} {tk_HIGH : Tok} {tk_LETTERS : Tok} {tk_LOW : Tok} {tk_MOST_ITEMS : Tok} {tk_MOST_LETTERS : Tok} {tk_MOST_LOG : Tok}
    (a0 : PySem.W.nsIn K mainGlobals "is_integer" = some (some (.ref f0)))
    (l0 : K.lookup f0 = some ⟨oc0, od0, .func (PySem.W.fnOf "is_integer" "is_integer" (defArgs s_is_integer) (defBody s_is_integer) (defScope s_is_integer) .none kV0 dc0 pm0 an0 cd0 ct0), sl0⟩)
    (c0 : PySem.W.codeIn K cd0 "is_integer" = true)
    (k0 : PySem.W.keepIn K (.ref f0) = true)
    (a1 : PySem.W.nsIn K mainGlobals "is_item" = some (some (.ref f1)))
    (l1 : K.lookup f1 = some ⟨oc1, od1, .func (PySem.W.fnOf "is_item" "is_item" (defArgs s_is_item) (defBody s_is_item) (defScope s_is_item) .none kV1 dc1 pm1 an1 cd1 ct1), sl1⟩)
    (c1 : PySem.W.codeIn K cd1 "is_item" = true)
    (k1 : PySem.W.keepIn K (.ref f1) = true)
    (a2 : PySem.W.nsIn K mainGlobals "are_records" = some (some (.ref f2)))
    (l2 : K.lookup f2 = some ⟨oc2, od2, .func (PySem.W.fnOf "are_records" "are_records" (defArgs s_are_records) (defBody s_are_records) (defScope s_are_records) .none kV2 dc2 pm2 an2 cd2 ct2), sl2⟩)
    (c2 : PySem.W.codeIn K cd2 "are_records" = true)
    (k2 : PySem.W.keepIn K (.ref f2) = true)
    (a3 : PySem.W.nsIn K mainGlobals "sign_of" = some (some (.ref f3)))
    (l3 : K.lookup f3 = some ⟨oc3, od3, .func (PySem.W.fnOf "sign_of" "sign_of" (defArgs s_sign_of) (defBody s_sign_of) (defScope s_sign_of) .none kV3 dc3 pm3 an3 cd3 ct3), sl3⟩)
    (c3 : PySem.W.codeIn K cd3 "sign_of" = true)
    (k3 : PySem.W.keepIn K (.ref f3) = true)
    (a4 : PySem.W.nsIn K mainGlobals "items_of" = some (some (.ref f4)))
    (l4 : K.lookup f4 = some ⟨oc4, od4, .func (PySem.W.fnOf "items_of" "items_of" (defArgs s_items_of) (defBody s_items_of) (defScope s_items_of) .none kV4 dc4 pm4 an4 cd4 ct4), sl4⟩)
    (c4 : PySem.W.codeIn K cd4 "items_of" = true)
    (k4 : PySem.W.keepIn K (.ref f4) = true)
    (a5 : PySem.W.nsIn K mainGlobals "is_log" = some (some (.ref f5)))
    (l5 : K.lookup f5 = some ⟨oc5, od5, .func (PySem.W.fnOf "is_log" "is_log" (defArgs s_is_log) (defBody s_is_log) (defScope s_is_log) .none kV5 dc5 pm5 an5 cd5 ct5), sl5⟩)
    (c5 : PySem.W.codeIn K cd5 "is_log" = true)
    (k5 : PySem.W.keepIn K (.ref f5) = true)
    (a6 : PySem.W.nsIn K mainGlobals "need_log" = some (some (.ref f6)))
    (l6 : K.lookup f6 = some ⟨oc6, od6, .func (PySem.W.fnOf "need_log" "need_log" (defArgs s_need_log) (defBody s_need_log) (defScope s_need_log) .none kV6 dc6 pm6 an6 cd6 ct6), sl6⟩)
    (c6 : PySem.W.codeIn K cd6 "need_log" = true)
    (k6 : PySem.W.keepIn K (.ref f6) = true)
    (a7 : PySem.W.nsIn K mainGlobals "are_items" = some (some (.ref f7)))
    (l7 : K.lookup f7 = some ⟨oc7, od7, .func (PySem.W.fnOf "are_items" "are_items" (defArgs s_are_items) (defBody s_are_items) (defScope s_are_items) .none kV7 dc7 pm7 an7 cd7 ct7), sl7⟩)
    (c7 : PySem.W.codeIn K cd7 "are_items" = true)
    (k7 : PySem.W.keepIn K (.ref f7) = true)
    (a8 : PySem.W.nsIn K mainGlobals "need_known" = some (some (.ref f8)))
    (l8 : K.lookup f8 = some ⟨oc8, od8, .func (PySem.W.fnOf "need_known" "need_known" (defArgs s_need_known) (defBody s_need_known) (defScope s_need_known) .none kV8 dc8 pm8 an8 cd8 ct8), sl8⟩)
    (c8 : PySem.W.codeIn K cd8 "need_known" = true)
    (k8 : PySem.W.keepIn K (.ref f8) = true)
    (a9 : PySem.W.nsIn K mainGlobals "framed" = some (some (.ref f9)))
    (l9 : K.lookup f9 = some ⟨oc9, od9, .func (PySem.W.fnOf "framed" "framed" (defArgs s_framed) (defBody s_framed) (defScope s_framed) .none kV9 dc9 pm9 an9 cd9 ct9), sl9⟩)
    (c9 : PySem.W.codeIn K cd9 "framed" = true)
    (k9 : PySem.W.keepIn K (.ref f9) = true)
    (a10 : PySem.W.nsIn K mainGlobals "reason" = some (some (.ref f10)))
    (l10 : K.lookup f10 = some ⟨oc10, od10, .func (PySem.W.fnOf "reason" "reason" (defArgs s_reason) (defBody s_reason) (defScope s_reason) .none kV10 dc10 pm10 an10 cd10 ct10), sl10⟩)
    (c10 : PySem.W.codeIn K cd10 "reason" = true)
    (k10 : PySem.W.keepIn K (.ref f10) = true)
    (a11 : PySem.W.nsIn K mainGlobals "index_range" = some (some (.ref f11)))
    (l11 : K.lookup f11 = some ⟨oc11, od11, .func (PySem.W.fnOf "index_range" "index_range" (defArgs s_index_range) (defBody s_index_range) (defScope s_index_range) .none kV11 dc11 pm11 an11 cd11 ct11), sl11⟩)
    (c11 : PySem.W.codeIn K cd11 "index_range" = true)
    (k11 : PySem.W.keepIn K (.ref f11) = true)
    (a12 : PySem.W.nsIn K mainGlobals "_law_source" = some (some (.ref f12)))
    (l12 : K.lookup f12 = some ⟨oc12, od12, .func (PySem.W.fnOf "_law_source" "_law_source" (defArgs s_law_source) (defBody s_law_source) (defScope s_law_source) .none kV12 dc12 pm12 an12 cd12 ct12), sl12⟩)
    (c12 : PySem.W.codeIn K cd12 "_law_source" = true)
    (k12 : PySem.W.keepIn K (.ref f12) = true)
    (a13 : PySem.W.nsIn K mainGlobals "_law_pick" = some (some (.ref f13)))
    (l13 : K.lookup f13 = some ⟨oc13, od13, .func (PySem.W.fnOf "_law_pick" "_law_pick" (defArgs s_law_pick) (defBody s_law_pick) (defScope s_law_pick) .none kV13 dc13 pm13 an13 cd13 ct13), sl13⟩)
    (c13 : PySem.W.codeIn K cd13 "_law_pick" = true)
    (k13 : PySem.W.keepIn K (.ref f13) = true)
    (a14 : PySem.W.nsIn K mainGlobals "_law_mixed" = some (some (.ref f14)))
    (l14 : K.lookup f14 = some ⟨oc14, od14, .func (PySem.W.fnOf "_law_mixed" "_law_mixed" (defArgs s_law_mixed) (defBody s_law_mixed) (defScope s_law_mixed) .none kV14 dc14 pm14 an14 cd14 ct14), sl14⟩)
    (c14 : PySem.W.codeIn K cd14 "_law_mixed" = true)
    (k14 : PySem.W.keepIn K (.ref f14) = true)
    (a15 : PySem.W.nsIn K mainGlobals "_law_words" = some (some (.ref f15)))
    (l15 : K.lookup f15 = some ⟨oc15, od15, .func (PySem.W.fnOf "_law_words" "_law_words" (defArgs s_law_words) (defBody s_law_words) (defScope s_law_words) .none kV15 dc15 pm15 an15 cd15 ct15), sl15⟩)
    (c15 : PySem.W.codeIn K cd15 "_law_words" = true)
    (k15 : PySem.W.keepIn K (.ref f15) = true)
    (a16 : PySem.W.nsIn K mainGlobals "_law_made" = some (some (.ref f16)))
    (l16 : K.lookup f16 = some ⟨oc16, od16, .func (PySem.W.fnOf "_law_made" "_law_made" (defArgs s_law_made) (defBody s_law_made) (defScope s_law_made) .none kV16 dc16 pm16 an16 cd16 ct16), sl16⟩)
    (c16 : PySem.W.codeIn K cd16 "_law_made" = true)
    (k16 : PySem.W.keepIn K (.ref f16) = true)
    (a17 : PySem.W.nsIn K mainGlobals "_law_played" = some (some (.ref f17)))
    (l17 : K.lookup f17 = some ⟨oc17, od17, .func (PySem.W.fnOf "_law_played" "_law_played" (defArgs s_law_played) (defBody s_law_played) (defScope s_law_played) .none kV17 dc17 pm17 an17 cd17 ct17), sl17⟩)
    (c17 : PySem.W.codeIn K cd17 "_law_played" = true)
    (k17 : PySem.W.keepIn K (.ref f17) = true)
    (a18 : PySem.W.nsIn K mainGlobals "_law_history" = some (some (.ref f18)))
    (l18 : K.lookup f18 = some ⟨oc18, od18, .func (PySem.W.fnOf "_law_history" "_law_history" (defArgs s_law_history) (defBody s_law_history) (defScope s_law_history) .none kV18 dc18 pm18 an18 cd18 ct18), sl18⟩)
    (c18 : PySem.W.codeIn K cd18 "_law_history" = true)
    (k18 : PySem.W.keepIn K (.ref f18) = true)
    (a19 : PySem.W.nsIn K mainGlobals "_law_log" = some (some (.ref f19)))
    (l19 : K.lookup f19 = some ⟨oc19, od19, .func (PySem.W.fnOf "_law_log" "_law_log" (defArgs s_law_log) (defBody s_law_log) (defScope s_law_log) .none kV19 dc19 pm19 an19 cd19 ct19), sl19⟩)
    (c19 : PySem.W.codeIn K cd19 "_law_log" = true)
    (k19 : PySem.W.keepIn K (.ref f19) = true)
    (a20 : PySem.W.nsIn K mainGlobals "_law_pairs" = some (some (.ref f20)))
    (l20 : K.lookup f20 = some ⟨oc20, od20, .func (PySem.W.fnOf "_law_pairs" "_law_pairs" (defArgs s_law_pairs) (defBody s_law_pairs) (defScope s_law_pairs) .none kV20 dc20 pm20 an20 cd20 ct20), sl20⟩)
    (c20 : PySem.W.codeIn K cd20 "_law_pairs" = true)
    (k20 : PySem.W.keepIn K (.ref f20) = true)
    (a21 : PySem.W.nsIn K mainGlobals "_law_sides" = some (some (.ref f21)))
    (l21 : K.lookup f21 = some ⟨oc21, od21, .func (PySem.W.fnOf "_law_sides" "_law_sides" (defArgs s_law_sides) (defBody s_law_sides) (defScope s_law_sides) .none kV21 dc21 pm21 an21 cd21 ct21), sl21⟩)
    (c21 : PySem.W.codeIn K cd21 "_law_sides" = true)
    (k21 : PySem.W.keepIn K (.ref f21) = true)
    (a22 : PySem.W.nsIn K mainGlobals "_law_bent" = some (some (.ref f22)))
    (l22 : K.lookup f22 = some ⟨oc22, od22, .func (PySem.W.fnOf "_law_bent" "_law_bent" (defArgs s_law_bent) (defBody s_law_bent) (defScope s_law_bent) .none kV22 dc22 pm22 an22 cd22 ct22), sl22⟩)
    (c22 : PySem.W.codeIn K cd22 "_law_bent" = true)
    (k22 : PySem.W.keepIn K (.ref f22) = true)
    (a23 : PySem.W.nsIn K mainGlobals "_law_fitting" = some (some (.ref f23)))
    (l23 : K.lookup f23 = some ⟨oc23, od23, .func (PySem.W.fnOf "_law_fitting" "_law_fitting" (defArgs s_law_fitting) (defBody s_law_fitting) (defScope s_law_fitting) .none kV23 dc23 pm23 an23 cd23 ct23), sl23⟩)
    (c23 : PySem.W.codeIn K cd23 "_law_fitting" = true)
    (k23 : PySem.W.keepIn K (.ref f23) = true)
    (a24 : PySem.W.nsIn K mainGlobals "_law_right" = some (some (.ref f24)))
    (l24 : K.lookup f24 = some ⟨oc24, od24, .func (PySem.W.fnOf "_law_right" "_law_right" (defArgs s_law_right) (defBody s_law_right) (defScope s_law_right) .none kV24 dc24 pm24 an24 cd24 ct24), sl24⟩)
    (c24 : PySem.W.codeIn K cd24 "_law_right" = true)
    (k24 : PySem.W.keepIn K (.ref f24) = true)
    (a25 : PySem.W.nsIn K mainGlobals "law" = some (some (.ref f25)))
    (l25 : K.lookup f25 = some ⟨oc25, od25, .func (PySem.W.fnOf "law" "law" (defArgs s_law) (defBody s_law) (defScope s_law) .none kV25 dc25 pm25 an25 cd25 ct25), sl25⟩)
    (c25 : PySem.W.codeIn K cd25 "law" = true)
    (k25 : PySem.W.keepIn K (.ref f25) = true)
    (ocg : PySem.W.specialIn K (.builtin "object.__class__") "__get__" = some (some (.builtin "getset_descriptor.__get__")))
    (oct : PySem.W.takesIn K (.builtin "object.__class__") = some true)
    (nC0 : PySem.W.nsIn K mainGlobals "Inserted" = some (some (.ref C0)))
    (pgC0 : PySem.W.plainGet K C0 Str.empty = true)
    (hdC0 : PySem.W.hasDictIn K C0 = true)
    (poC0 : PySem.W.plainOver K C0 = true)
    (saC0 : PySem.W.findIn K (.ref C0) "__setattr__" = some (some (.builtin "object.__setattr__")))
    (ocC0 : PySem.W.findIn K (.ref C0) "__class__" = some (some (.builtin "object.__class__")))
    (moC0 : PySem.W.mroIn K C0 (.type "object") = some true)
    (mkC0 : PySem.W.makesIn K C0 = true)
    (kcC0 : PySem.W.keepIn K (.ref C0) = true)
    (inC0 : PySem.W.findIn K (.ref C0) "__init__" = some (some (.ref fI)))
    (itC0 : PySem.W.findIn K (.ref C0) "item" = some (some (.ref pI)))
    (stC0 : PySem.W.findIn K (.ref C0) "slot" = some (some (.ref pS)))
    (niC0 : PySem.W.findIn K (.ref C0) "held_item" = some none)
    (nsC0 : PySem.W.findIn K (.ref C0) "held_slot" = some none)
    (sgC0 : PySem.W.findIn K (.ref C0) "SIGN" = some (some (.str "+" tkC0)))
    (spC0 : PySem.W.specialIn K (.str "+" tkC0) "__get__" = some none)
    (mmvC0 : PySem.W.findIn K (.ref C0) "move_to" = some (some (.ref fMmv)))
    (nC1 : PySem.W.nsIn K mainGlobals "Removed" = some (some (.ref C1)))
    (pgC1 : PySem.W.plainGet K C1 Str.empty = true)
    (hdC1 : PySem.W.hasDictIn K C1 = true)
    (poC1 : PySem.W.plainOver K C1 = true)
    (saC1 : PySem.W.findIn K (.ref C1) "__setattr__" = some (some (.builtin "object.__setattr__")))
    (ocC1 : PySem.W.findIn K (.ref C1) "__class__" = some (some (.builtin "object.__class__")))
    (moC1 : PySem.W.mroIn K C1 (.type "object") = some true)
    (mkC1 : PySem.W.makesIn K C1 = true)
    (kcC1 : PySem.W.keepIn K (.ref C1) = true)
    (inC1 : PySem.W.findIn K (.ref C1) "__init__" = some (some (.ref fI)))
    (itC1 : PySem.W.findIn K (.ref C1) "item" = some (some (.ref pI)))
    (stC1 : PySem.W.findIn K (.ref C1) "slot" = some (some (.ref pS)))
    (niC1 : PySem.W.findIn K (.ref C1) "held_item" = some none)
    (nsC1 : PySem.W.findIn K (.ref C1) "held_slot" = some none)
    (sgC1 : PySem.W.findIn K (.ref C1) "SIGN" = some (some (.str "-" tkC1)))
    (spC1 : PySem.W.specialIn K (.str "-" tkC1) "__get__" = some none)
    (mmvC1 : PySem.W.findIn K (.ref C1) "move_to" = some (some (.ref fMmv)))
    (nC2 : PySem.W.nsIn K mainGlobals "Fronted" = some (some (.ref C2)))
    (pgC2 : PySem.W.plainGet K C2 Str.empty = true)
    (hdC2 : PySem.W.hasDictIn K C2 = true)
    (poC2 : PySem.W.plainOver K C2 = true)
    (saC2 : PySem.W.findIn K (.ref C2) "__setattr__" = some (some (.builtin "object.__setattr__")))
    (ocC2 : PySem.W.findIn K (.ref C2) "__class__" = some (some (.builtin "object.__class__")))
    (moC2 : PySem.W.mroIn K C2 (.type "object") = some true)
    (mkC2 : PySem.W.makesIn K C2 = true)
    (kcC2 : PySem.W.keepIn K (.ref C2) = true)
    (inC2 : PySem.W.findIn K (.ref C2) "__init__" = some (some (.ref fI)))
    (itC2 : PySem.W.findIn K (.ref C2) "item" = some (some (.ref pI)))
    (stC2 : PySem.W.findIn K (.ref C2) "slot" = some (some (.ref pS)))
    (niC2 : PySem.W.findIn K (.ref C2) "held_item" = some none)
    (nsC2 : PySem.W.findIn K (.ref C2) "held_slot" = some none)
    (sgC2 : PySem.W.findIn K (.ref C2) "SIGN" = some (some (.str "^" tkC2)))
    (spC2 : PySem.W.specialIn K (.str "^" tkC2) "__get__" = some none)
    (mmvC2 : PySem.W.findIn K (.ref C2) "move_to" = some (some (.ref fMmv)))
    (nC3 : PySem.W.nsIn K mainGlobals "Record" = some (some (.ref C3)))
    (pgC3 : PySem.W.plainGet K C3 Str.empty = true)
    (hdC3 : PySem.W.hasDictIn K C3 = true)
    (poC3 : PySem.W.plainOver K C3 = true)
    (saC3 : PySem.W.findIn K (.ref C3) "__setattr__" = some (some (.builtin "object.__setattr__")))
    (ocC3 : PySem.W.findIn K (.ref C3) "__class__" = some (some (.builtin "object.__class__")))
    (moC3 : PySem.W.mroIn K C3 (.type "object") = some true)
    (mkC3 : PySem.W.makesIn K C3 = true)
    (kcC3 : PySem.W.keepIn K (.ref C3) = true)
    (inC3 : PySem.W.findIn K (.ref C3) "__init__" = some (some (.ref fI)))
    (itC3 : PySem.W.findIn K (.ref C3) "item" = some (some (.ref pI)))
    (stC3 : PySem.W.findIn K (.ref C3) "slot" = some (some (.ref pS)))
    (niC3 : PySem.W.findIn K (.ref C3) "held_item" = some none)
    (nsC3 : PySem.W.findIn K (.ref C3) "held_slot" = some none)
    (sgC3 : PySem.W.findIn K (.ref C3) "SIGN" = some (some (.str "" tkC3)))
    (spC3 : PySem.W.specialIn K (.str "" tkC3) "__get__" = some none)
    (mmvC3 : PySem.W.findIn K (.ref C3) "move_to" = some (some (.ref fMmv)))
    (gtpI : PySem.W.specialIn K (.ref pI) "__get__" = some (some (.builtin "property.__get__")))
    (tkpI : PySem.W.takesIn K (.ref pI) = some true)
    (rcpI : PySem.W.recIn K pI "property" = some (.ref fP :: rspI))
    (gtpS : PySem.W.specialIn K (.ref pS) "__get__" = some (some (.builtin "property.__get__")))
    (tkpS : PySem.W.takesIn K (.ref pS) = some true)
    (rcpS : PySem.W.recIn K pS "property" = some (.ref fS :: rspS))
    (lI : K.lookup fI = some ⟨ocI, odI, .func (PySem.W.fnOf "__init__" "Record.__init__" (defArgs s_Record_init) (defBody s_Record_init) (defScope s_Record_init) .none kVI dcI pmI anI cdI ctI), slI⟩)
    (cI : PySem.W.codeIn K cdI "Record.__init__" = true)
    (kI : PySem.W.keepIn K (.ref fI) = true)
    (lP : K.lookup fP = some ⟨ocP, odP, .func (PySem.W.fnOf "item" "Record.item" (defArgs s_Record_item) (defBody s_Record_item) (defScope s_Record_item) .none kVP dcP pmP anP cdP ctP), slP⟩)
    (cP : PySem.W.codeIn K cdP "Record.item" = true)
    (kP : PySem.W.keepIn K (.ref fP) = true)
    (lS : K.lookup fS = some ⟨ocS, odS, .func (PySem.W.fnOf "slot" "Record.slot" (defArgs s_Record_slot) (defBody s_Record_slot) (defScope s_Record_slot) .none kVS dcS pmS anS cdS ctS), slS⟩)
    (cS : PySem.W.codeIn K cdS "Record.slot" = true)
    (kS : PySem.W.keepIn K (.ref fS) = true)
    (lMmv : K.lookup fMmv = some ⟨ocMmv, odMmv, .func (PySem.W.fnOf "move_to" "Record.move_to" (defArgs s_Record_move_to) (defBody s_Record_move_to) (defScope s_Record_move_to) .none kVMmv dcMmv pmMmv anMmv cdMmv ctMmv), slMmv⟩)
    (cMmv : PySem.W.codeIn K cdMmv "Record.move_to" = true)
    (kMmv : PySem.W.keepIn K (.ref fMmv) = true)
    (iI : PySem.W.isFn K (.ref fI) = true)
    (iMmv : PySem.W.isFn K (.ref fMmv) = true)
    (kt00 : PySem.W.subIn K (.ref C0) (.ref C0) = some true)
    (kt01 : PySem.W.subIn K (.ref C0) (.ref C1) = some false)
    (kt02 : PySem.W.subIn K (.ref C0) (.ref C2) = some false)
    (kt03 : PySem.W.subIn K (.ref C0) (.ref C3) = some true)
    (kt10 : PySem.W.subIn K (.ref C1) (.ref C0) = some false)
    (kt11 : PySem.W.subIn K (.ref C1) (.ref C1) = some true)
    (kt12 : PySem.W.subIn K (.ref C1) (.ref C2) = some false)
    (kt13 : PySem.W.subIn K (.ref C1) (.ref C3) = some true)
    (kt20 : PySem.W.subIn K (.ref C2) (.ref C0) = some false)
    (kt21 : PySem.W.subIn K (.ref C2) (.ref C1) = some false)
    (kt22 : PySem.W.subIn K (.ref C2) (.ref C2) = some true)
    (kt23 : PySem.W.subIn K (.ref C2) (.ref C3) = some true)
    (kt30 : PySem.W.subIn K (.ref C3) (.ref C0) = some false)
    (kt31 : PySem.W.subIn K (.ref C3) (.ref C1) = some false)
    (kt32 : PySem.W.subIn K (.ref C3) (.ref C2) = some false)
    (kt33 : PySem.W.subIn K (.ref C3) (.ref C3) = some true)
    (ic0 : PySem.W.isClsIn K C0 = true)
    (tc0 : PySem.W.typeIn K (.ref C0) = some (.type "type"))
    (ic1 : PySem.W.isClsIn K C1 = true)
    (tc1 : PySem.W.typeIn K (.ref C1) = some (.type "type"))
    (ic2 : PySem.W.isClsIn K C2 = true)
    (tc2 : PySem.W.typeIn K (.ref C2) = some (.type "type"))
    (ic3 : PySem.W.isClsIn K C3 = true)
    (tc3 : PySem.W.typeIn K (.ref C3) = some (.type "type"))
    (rdR : PySem.W.readsIn K C3 (.type "type") = true)
    (gaR : PySem.W.specialIn K (.ref C3) "__getattribute__" = some (some (.builtin "type.__getattribute__")))
    (msR : PySem.W.findCls K (.ref C3) (.type "type") "MOST" = some (.val (.int 60 tkM)))
    (xFrame : PySem.W.nsIn K mainGlobals "Frame" = some (some (.ref XFrame)))
    (xImpossible : PySem.W.nsIn K mainGlobals "Impossible" = some (some (.ref XImpossible)))
    (xLogError : PySem.W.nsIn K mainGlobals "LogError" = some (some (.ref XLogError)))
    (xNoIndex : PySem.W.nsIn K mainGlobals "NoIndex" = some (some (.ref XNoIndex)))
    (xNoItem : PySem.W.nsIn K mainGlobals "NoItem" = some (some (.ref XNoItem)))
    (xNoList : PySem.W.nsIn K mainGlobals "NoList" = some (some (.ref XNoList)))
    (xNoLog : PySem.W.nsIn K mainGlobals "NoLog" = some (some (.ref XNoLog)))
    (xNoText : PySem.W.nsIn K mainGlobals "NoText" = some (some (.ref XNoText)))
    (pgXFrame : PySem.W.plainGet K XFrame Str.empty = true)
    (hdXFrame : PySem.W.hasDictIn K XFrame = true)
    (poXFrame : PySem.W.plainOver K XFrame = true)
    (saXFrame : PySem.W.findIn K (.ref XFrame) "__setattr__" = some (some (.builtin "object.__setattr__")))
    (mkXFrame : PySem.W.makesIn K XFrame = true)
    (kcXFrame : PySem.W.keepIn K (.ref XFrame) = true)
    (inXFrame : PySem.W.findIn K (.ref XFrame) "__init__" = some (some (.ref fNFrame)))
    (nfFrame_by_item : PySem.W.findIn K (.ref XFrame) "by_item" = some none)
    (nfFrame_marked : PySem.W.findIn K (.ref XFrame) "marked" = some none)
    (nfFrame_places : PySem.W.findIn K (.ref XFrame) "places" = some none)
    (nfFrame_is_fronted : PySem.W.findIn K (.ref XFrame) "is_fronted" = some none)
    (mmFrame_room : PySem.W.findIn K (.ref XFrame) "room" = some (some (.ref fWFrame_room)))
    (mmFrame_shift : PySem.W.findIn K (.ref XFrame) "shift" = some (some (.ref fWFrame_shift)))
    (mmFrame_is_low : PySem.W.findIn K (.ref XFrame) "is_low" = some (some (.ref fWFrame_is_low)))
    (mmFrame_is_high : PySem.W.findIn K (.ref XFrame) "is_high" = some (some (.ref fWFrame_is_high)))
    (mmFrame_first_fault : PySem.W.findIn K (.ref XFrame) "first_fault" = some (some (.ref fWFrame_first_fault)))
    (mmFrame_bounds : PySem.W.findIn K (.ref XFrame) "bounds" = some (some (.ref fWFrame_bounds)))
    (lNFrame : K.lookup fNFrame = some ⟨ocNFrame, odNFrame, .func (PySem.W.fnOf "__init__" "Frame.__init__" (defArgs s_Frame_init) (defBody s_Frame_init) (defScope s_Frame_init) .none kVNFrame dcNFrame pmNFrame anNFrame cdNFrame ctNFrame), slNFrame⟩)
    (cNFrame : PySem.W.codeIn K cdNFrame "Frame.__init__" = true)
    (kNFrame : PySem.W.keepIn K (.ref fNFrame) = true)
    (iNFrame : PySem.W.isFn K (.ref fNFrame) = true)
    (lWFrame_room : K.lookup fWFrame_room = some ⟨ocWFrame_room, odWFrame_room, .func (PySem.W.fnOf "room" "Frame.room" (defArgs s_Frame_room) (defBody s_Frame_room) (defScope s_Frame_room) .none kVWFrame_room dcWFrame_room pmWFrame_room anWFrame_room cdWFrame_room ctWFrame_room), slWFrame_room⟩)
    (cWFrame_room : PySem.W.codeIn K cdWFrame_room "Frame.room" = true)
    (kWFrame_room : PySem.W.keepIn K (.ref fWFrame_room) = true)
    (iWFrame_room : PySem.W.isFn K (.ref fWFrame_room) = true)
    (lWFrame_shift : K.lookup fWFrame_shift = some ⟨ocWFrame_shift, odWFrame_shift, .func (PySem.W.fnOf "shift" "Frame.shift" (defArgs s_Frame_shift) (defBody s_Frame_shift) (defScope s_Frame_shift) .none kVWFrame_shift dcWFrame_shift pmWFrame_shift anWFrame_shift cdWFrame_shift ctWFrame_shift), slWFrame_shift⟩)
    (cWFrame_shift : PySem.W.codeIn K cdWFrame_shift "Frame.shift" = true)
    (kWFrame_shift : PySem.W.keepIn K (.ref fWFrame_shift) = true)
    (iWFrame_shift : PySem.W.isFn K (.ref fWFrame_shift) = true)
    (lWFrame_is_low : K.lookup fWFrame_is_low = some ⟨ocWFrame_is_low, odWFrame_is_low, .func (PySem.W.fnOf "is_low" "Frame.is_low" (defArgs s_Frame_is_low) (defBody s_Frame_is_low) (defScope s_Frame_is_low) .none kVWFrame_is_low dcWFrame_is_low pmWFrame_is_low anWFrame_is_low cdWFrame_is_low ctWFrame_is_low), slWFrame_is_low⟩)
    (cWFrame_is_low : PySem.W.codeIn K cdWFrame_is_low "Frame.is_low" = true)
    (kWFrame_is_low : PySem.W.keepIn K (.ref fWFrame_is_low) = true)
    (iWFrame_is_low : PySem.W.isFn K (.ref fWFrame_is_low) = true)
    (lWFrame_is_high : K.lookup fWFrame_is_high = some ⟨ocWFrame_is_high, odWFrame_is_high, .func (PySem.W.fnOf "is_high" "Frame.is_high" (defArgs s_Frame_is_high) (defBody s_Frame_is_high) (defScope s_Frame_is_high) .none kVWFrame_is_high dcWFrame_is_high pmWFrame_is_high anWFrame_is_high cdWFrame_is_high ctWFrame_is_high), slWFrame_is_high⟩)
    (cWFrame_is_high : PySem.W.codeIn K cdWFrame_is_high "Frame.is_high" = true)
    (kWFrame_is_high : PySem.W.keepIn K (.ref fWFrame_is_high) = true)
    (iWFrame_is_high : PySem.W.isFn K (.ref fWFrame_is_high) = true)
    (lWFrame_first_fault : K.lookup fWFrame_first_fault = some ⟨ocWFrame_first_fault, odWFrame_first_fault, .func (PySem.W.fnOf "first_fault" "Frame.first_fault" (defArgs s_Frame_first_fault) (defBody s_Frame_first_fault) (defScope s_Frame_first_fault) .none kVWFrame_first_fault dcWFrame_first_fault pmWFrame_first_fault anWFrame_first_fault cdWFrame_first_fault ctWFrame_first_fault), slWFrame_first_fault⟩)
    (cWFrame_first_fault : PySem.W.codeIn K cdWFrame_first_fault "Frame.first_fault" = true)
    (kWFrame_first_fault : PySem.W.keepIn K (.ref fWFrame_first_fault) = true)
    (iWFrame_first_fault : PySem.W.isFn K (.ref fWFrame_first_fault) = true)
    (lWFrame_bounds : K.lookup fWFrame_bounds = some ⟨ocWFrame_bounds, odWFrame_bounds, .func (PySem.W.fnOf "bounds" "Frame.bounds" (defArgs s_Frame_bounds) (defBody s_Frame_bounds) (defScope s_Frame_bounds) .none kVWFrame_bounds dcWFrame_bounds pmWFrame_bounds anWFrame_bounds cdWFrame_bounds ctWFrame_bounds), slWFrame_bounds⟩)
    (cWFrame_bounds : PySem.W.codeIn K cdWFrame_bounds "Frame.bounds" = true)
    (kWFrame_bounds : PySem.W.keepIn K (.ref fWFrame_bounds) = true)
    (iWFrame_bounds : PySem.W.isFn K (.ref fWFrame_bounds) = true)
    (b_abs : PySem.W.nsIn K mainGlobals "abs" = some none)
    (b_all : PySem.W.nsIn K mainGlobals "all" = some none)
    (b_bool : PySem.W.nsIn K mainGlobals "bool" = some none)
    (b_dict : PySem.W.nsIn K mainGlobals "dict" = some none)
    (b_enumerate : PySem.W.nsIn K mainGlobals "enumerate" = some none)
    (b_int : PySem.W.nsIn K mainGlobals "int" = some none)
    (b_isinstance : PySem.W.nsIn K mainGlobals "isinstance" = some none)
    (b_len : PySem.W.nsIn K mainGlobals "len" = some none)
    (b_list : PySem.W.nsIn K mainGlobals "list" = some none)
    (b_max : PySem.W.nsIn K mainGlobals "max" = some none)
    (b_min : PySem.W.nsIn K mainGlobals "min" = some none)
    (b_range : PySem.W.nsIn K mainGlobals "range" = some none)
    (b_repr : PySem.W.nsIn K mainGlobals "repr" = some none)
    (b_set : PySem.W.nsIn K mainGlobals "set" = some none)
    (b_str : PySem.W.nsIn K mainGlobals "str" = some none)
    (v_FRONTED : PySem.W.nsIn K mainGlobals "FRONTED" = some (some (.str "^" tk_FRONTED)))
    (v_HIGH : PySem.W.nsIn K mainGlobals "HIGH" = some (some (.str "high" tk_HIGH)))
    (v_LETTERS : PySem.W.nsIn K mainGlobals "LETTERS" = some (some (.str "abcdefghijklmnopqrstuvwxyz" tk_LETTERS)))
    (v_LOW : PySem.W.nsIn K mainGlobals "LOW" = some (some (.str "low" tk_LOW)))
    (v_MOST_ITEMS : PySem.W.nsIn K mainGlobals "MOST_ITEMS" = some (some (.int 60 tk_MOST_ITEMS)))
    (v_MOST_LETTERS : PySem.W.nsIn K mainGlobals "MOST_LETTERS" = some (some (.int 8 tk_MOST_LETTERS)))
    (v_MOST_LOG : PySem.W.nsIn K mainGlobals "MOST_LOG" = some (some (.int 40 tk_MOST_LOG))) :
    ∃ fd : FuncData, (∀ (s : Shared) (v : Value), BindsTo s fd ⟨[v], []⟩ [("_law_script", v)]) ∧ ∀ base : Heap, K.In base → base.Ns mainGlobals mg → FnG l.prog w K mg base 10 fa fd ["_law_script"] (sp_law K) := by
  have e := hfa.symm.trans (PySem.W.mg_of X G a25)
  cases e
  have F0 := fun_mk (st := s_is_integer) l0 c0 k0
  have B0 := F0.binds (ps := ["thing", "least", "most"]) fun _ _ _ _ _ _ us hl => match us, hl with | [_, _, _], _ => rfl
  have D0 : Df K mg "is_integer" s_is_integer ["thing", "least", "most"] := ⟨_, _, F0, PySem.W.mg_of X G a0, B0⟩
  have F1 := fun_mk (st := s_is_item) l1 c1 k1
  have B1 := F1.binds (ps := ["thing"]) fun _ _ _ _ _ _ us hl => match us, hl with | [_], _ => rfl
  have D1 : Df K mg "is_item" s_is_item ["thing"] := ⟨_, _, F1, PySem.W.mg_of X G a1, B1⟩
  have F2 := fun_mk (st := s_are_records) l2 c2 k2
  have B2 := F2.binds (ps := ["thing", "most"]) fun _ _ _ _ _ _ us hl => match us, hl with | [_, _], _ => rfl
  have D2 : Df K mg "are_records" s_are_records ["thing", "most"] := ⟨_, _, F2, PySem.W.mg_of X G a2, B2⟩
  have F3 := fun_mk (st := s_sign_of) l3 c3 k3
  have B3 := F3.binds (ps := ["log"]) fun _ _ _ _ _ _ us hl => match us, hl with | [_], _ => rfl
  have D3 : Df K mg "sign_of" s_sign_of ["log"] := ⟨_, _, F3, PySem.W.mg_of X G a3, B3⟩
  have F4 := fun_mk (st := s_items_of) l4 c4 k4
  have B4 := F4.binds (ps := ["log"]) fun _ _ _ _ _ _ us hl => match us, hl with | [_], _ => rfl
  have D4 : Df K mg "items_of" s_items_of ["log"] := ⟨_, _, F4, PySem.W.mg_of X G a4, B4⟩
  have F5 := fun_mk (st := s_is_log) l5 c5 k5
  have B5 := F5.binds (ps := ["thing"]) fun _ _ _ _ _ _ us hl => match us, hl with | [_], _ => rfl
  have D5 : Df K mg "is_log" s_is_log ["thing"] := ⟨_, _, F5, PySem.W.mg_of X G a5, B5⟩
  have F6 := fun_mk (st := s_need_log) l6 c6 k6
  have B6 := F6.binds (ps := ["thing"]) fun _ _ _ _ _ _ us hl => match us, hl with | [_], _ => rfl
  have D6 : Df K mg "need_log" s_need_log ["thing"] := ⟨_, _, F6, PySem.W.mg_of X G a6, B6⟩
  have F7 := fun_mk (st := s_are_items) l7 c7 k7
  have B7 := F7.binds (ps := ["thing"]) fun _ _ _ _ _ _ us hl => match us, hl with | [_], _ => rfl
  have D7 : Df K mg "are_items" s_are_items ["thing"] := ⟨_, _, F7, PySem.W.mg_of X G a7, B7⟩
  have F8 := fun_mk (st := s_need_known) l8 c8 k8
  have B8 := F8.binds (ps := ["log", "items"]) fun _ _ _ _ _ _ us hl => match us, hl with | [_, _], _ => rfl
  have D8 : Df K mg "need_known" s_need_known ["log", "items"] := ⟨_, _, F8, PySem.W.mg_of X G a8, B8⟩
  have F9 := fun_mk (st := s_framed) l9 c9 k9
  have B9 := F9.binds (ps := ["log", "items"]) fun _ _ _ _ _ _ us hl => match us, hl with | [_, _], _ => rfl
  have D9 : Df K mg "framed" s_framed ["log", "items"] := ⟨_, _, F9, PySem.W.mg_of X G a9, B9⟩
  have F10 := fun_mk (st := s_reason) l10 c10 k10
  have B10 := F10.binds (ps := ["log", "items"]) fun _ _ _ _ _ _ us hl => match us, hl with | [_, _], _ => rfl
  have D10 : Df K mg "reason" s_reason ["log", "items"] := ⟨_, _, F10, PySem.W.mg_of X G a10, B10⟩
  have F11 := fun_mk (st := s_index_range) l11 c11 k11
  have B11 := F11.binds (ps := ["log", "items", "item"]) fun _ _ _ _ _ _ us hl => match us, hl with | [_, _, _], _ => rfl
  have D11 : Df K mg "index_range" s_index_range ["log", "items", "item"] := ⟨_, _, F11, PySem.W.mg_of X G a11, B11⟩
  have F12 := fun_mk (st := s_law_source) l12 c12 k12
  have B12 := F12.binds (ps := ["_law_script", "_law_k"]) fun _ _ _ _ _ _ us hl => match us, hl with | [_, _], _ => rfl
  have D12 : Df K mg "_law_source" s_law_source ["_law_script", "_law_k"] := ⟨_, _, F12, PySem.W.mg_of X G a12, B12⟩
  have F13 := fun_mk (st := s_law_pick) l13 c13 k13
  have B13 := F13.binds (ps := ["_law_source_here", "_law_size"]) fun _ _ _ _ _ _ us hl => match us, hl with | [_, _], _ => rfl
  have D13 : Df K mg "_law_pick" s_law_pick ["_law_source_here", "_law_size"] := ⟨_, _, F13, PySem.W.mg_of X G a13, B13⟩
  have F14 := fun_mk (st := s_law_mixed) l14 c14 k14
  have B14 := F14.binds (ps := ["_law_source_here", "_law_row"]) fun _ _ _ _ _ _ us hl => match us, hl with | [_, _], _ => rfl
  have D14 : Df K mg "_law_mixed" s_law_mixed ["_law_source_here", "_law_row"] := ⟨_, _, F14, PySem.W.mg_of X G a14, B14⟩
  have F15 := fun_mk (st := s_law_words) l15 c15 k15
  have B15 := F15.binds (ps := ["_law_source_here", "_law_size"]) fun _ _ _ _ _ _ us hl => match us, hl with | [_, _], _ => rfl
  have D15 : Df K mg "_law_words" s_law_words ["_law_source_here", "_law_size"] := ⟨_, _, F15, PySem.W.mg_of X G a15, B15⟩
  have F16 := fun_mk (st := s_law_made) l16 c16 k16
  have B16 := F16.binds (ps := ["_law_kind", "_law_name", "_law_index"]) fun _ _ _ _ _ _ us hl => match us, hl with | [_, _, _], _ => rfl
  have D16 : Df K mg "_law_made" s_law_made ["_law_kind", "_law_name", "_law_index"] := ⟨_, _, F16, PySem.W.mg_of X G a16, B16⟩
  have F17 := fun_mk (st := s_law_played) l17 c17 k17
  have B17 := F17.binds (ps := ["_law_kind", "_law_here", "_law_name", "_law_index"]) fun _ _ _ _ _ _ us hl => match us, hl with | [_, _, _, _], _ => rfl
  have D17 : Df K mg "_law_played" s_law_played ["_law_kind", "_law_here", "_law_name", "_law_index"] := ⟨_, _, F17, PySem.W.mg_of X G a17, B17⟩
  have F18 := fun_mk (st := s_law_history) l18 c18 k18
  have B18 := F18.binds (ps := ["_law_source_here", "_law_kind", "_law_most", "_law_more"]) fun _ _ _ _ _ _ us hl => match us, hl with | [_, _, _, _], _ => rfl
  have D18 : Df K mg "_law_history" s_law_history ["_law_source_here", "_law_kind", "_law_most", "_law_more"] := ⟨_, _, F18, PySem.W.mg_of X G a18, B18⟩
  have F19 := fun_mk (st := s_law_log) l19 c19 k19
  have B19 := F19.binds (ps := ["_law_source_here", "_law_kind", "_law_pairs_here"]) fun _ _ _ _ _ _ us hl => match us, hl with | [_, _, _], _ => rfl
  have D19 : Df K mg "_law_log" s_law_log ["_law_source_here", "_law_kind", "_law_pairs_here"] := ⟨_, _, F19, PySem.W.mg_of X G a19, B19⟩
  have F20 := fun_mk (st := s_law_pairs) l20 c20 k20
  have B20 := F20.binds (ps := ["_law_notes"]) fun _ _ _ _ _ _ us hl => match us, hl with | [_], _ => rfl
  have D20 : Df K mg "_law_pairs" s_law_pairs ["_law_notes"] := ⟨_, _, F20, PySem.W.mg_of X G a20, B20⟩
  have F21 := fun_mk (st := s_law_sides) l21 c21 k21
  have B21 := F21.binds (ps := ["_law_kind", "_law_pairs_here", "_law_known"]) fun _ _ _ _ _ _ us hl => match us, hl with | [_, _, _], _ => rfl
  have D21 : Df K mg "_law_sides" s_law_sides ["_law_kind", "_law_pairs_here", "_law_known"] := ⟨_, _, F21, PySem.W.mg_of X G a21, B21⟩
  have F22 := fun_mk (st := s_law_bent) l22 c22 k22
  have B22 := F22.binds (ps := ["_law_source_here", "_law_pairs_here"]) fun _ _ _ _ _ _ us hl => match us, hl with | [_, _], _ => rfl
  have D22 : Df K mg "_law_bent" s_law_bent ["_law_source_here", "_law_pairs_here"] := ⟨_, _, F22, PySem.W.mg_of X G a22, B22⟩
  have F23 := fun_mk (st := s_law_fitting) l23 c23 k23
  have B23 := F23.binds (ps := ["_law_kind", "_law_pairs_here", "_law_known", "_law_name"]) fun _ _ _ _ _ _ us hl => match us, hl with | [_, _, _, _], _ => rfl
  have D23 : Df K mg "_law_fitting" s_law_fitting ["_law_kind", "_law_pairs_here", "_law_known", "_law_name"] := ⟨_, _, F23, PySem.W.mg_of X G a23, B23⟩
  have F24 := fun_mk (st := s_law_right) l24 c24 k24
  have B24 := F24.binds (ps := ["_law_source_here", "_law_kind", "_law_pairs_here", "_law_known"]) fun _ _ _ _ _ _ us hl => match us, hl with | [_, _, _, _], _ => rfl
  have D24 : Df K mg "_law_right" s_law_right ["_law_source_here", "_law_kind", "_law_pairs_here", "_law_known"] := ⟨_, _, F24, PySem.W.mg_of X G a24, B24⟩
  have F25 := fun_mk (st := s_law) l25 c25 k25
  have B25 := F25.binds (ps := ["_law_script"]) fun _ _ _ _ _ _ us hl => match us, hl with | [_], _ => rfl
  have D25 : Df K mg "law" s_law ["_law_script"] := ⟨_, _, F25, PySem.W.mg_of X G a25, B25⟩
  have FI := fun_mk (st := s_Record_init) lI cI kI
  have BI := FI.binds (ps := ["self", "item", "slot"]) fun _ _ _ _ _ _ us hl => match us, hl with | [_, _, _], _ => rfl
  have FP := fun_mk (st := s_Record_item) lP cP kP
  have BP := FP.binds (ps := ["self"]) fun _ _ _ _ _ _ us hl => match us, hl with | [_], _ => rfl
  have FS := fun_mk (st := s_Record_slot) lS cS kS
  have BS := FS.binds (ps := ["self"]) fun _ _ _ _ _ _ us hl => match us, hl with | [_], _ => rfl
  have FMmv := fun_mk (st := s_Record_move_to) lMmv cMmv kMmv
  have BMmv := FMmv.binds (ps := ["self", "slot"]) fun _ _ _ _ _ _ us hl => match us, hl with | [_, _], _ => rfl
  have FNFrame := fun_mk (st := s_Frame_init) lNFrame cNFrame kNFrame
  have BNFrame := FNFrame.binds (ps := ["self", "log", "items"]) fun _ _ _ _ _ _ us hl => match us, hl with | [_, _, _], _ => rfl
  have FWFrame_room := fun_mk (st := s_Frame_room) lWFrame_room cWFrame_room kWFrame_room
  have BWFrame_room := FWFrame_room.binds (ps := ["self", "item"]) fun _ _ _ _ _ _ us hl => match us, hl with | [_, _], _ => rfl
  have FWFrame_shift := fun_mk (st := s_Frame_shift) lWFrame_shift cWFrame_shift kWFrame_shift
  have BWFrame_shift := FWFrame_shift.binds (ps := ["self", "item"]) fun _ _ _ _ _ _ us hl => match us, hl with | [_, _], _ => rfl
  have FWFrame_is_low := fun_mk (st := s_Frame_is_low) lWFrame_is_low cWFrame_is_low kWFrame_is_low
  have BWFrame_is_low := FWFrame_is_low.binds (ps := ["self", "item"]) fun _ _ _ _ _ _ us hl => match us, hl with | [_, _], _ => rfl
  have FWFrame_is_high := fun_mk (st := s_Frame_is_high) lWFrame_is_high cWFrame_is_high kWFrame_is_high
  have BWFrame_is_high := FWFrame_is_high.binds (ps := ["self", "item"]) fun _ _ _ _ _ _ us hl => match us, hl with | [_, _], _ => rfl
  have FWFrame_first_fault := fun_mk (st := s_Frame_first_fault) lWFrame_first_fault cWFrame_first_fault kWFrame_first_fault
  have BWFrame_first_fault := FWFrame_first_fault.binds (ps := ["self"]) fun _ _ _ _ _ _ us hl => match us, hl with | [_], _ => rfl
  have FWFrame_bounds := fun_mk (st := s_Frame_bounds) lWFrame_bounds cWFrame_bounds kWFrame_bounds
  have BWFrame_bounds := FWFrame_bounds.binds (ps := ["self", "item"]) fun _ _ _ _ _ _ us hl => match us, hl with | [_, _], _ => rfl
  let A : Ads := { cInserted := C0, cRemoved := C1, cFronted := C2, cRecord := C3, cFrame := XFrame, cImpossible := XImpossible, cLogError := XLogError, cNoIndex := XNoIndex, cNoItem := XNoItem, cNoList := XNoList, cNoLog := XNoLog, cNoText := XNoText }
  have GG : Gm mg A := { g_abs := PySem.W.mg_none_of X G b_abs, g_all := PySem.W.mg_none_of X G b_all, g_bool := PySem.W.mg_none_of X G b_bool, g_dict := PySem.W.mg_none_of X G b_dict, g_enumerate := PySem.W.mg_none_of X G b_enumerate, g_int := PySem.W.mg_none_of X G b_int, g_isinstance := PySem.W.mg_none_of X G b_isinstance, g_len := PySem.W.mg_none_of X G b_len, g_list := PySem.W.mg_none_of X G b_list, g_max := PySem.W.mg_none_of X G b_max, g_min := PySem.W.mg_none_of X G b_min, g_range := PySem.W.mg_none_of X G b_range, g_repr := PySem.W.mg_none_of X G b_repr, g_set := PySem.W.mg_none_of X G b_set, g_str := PySem.W.mg_none_of X G b_str, g_FRONTED := ⟨_, PySem.W.mg_of X G v_FRONTED, ⟨_, rfl⟩⟩, g_HIGH := ⟨_, PySem.W.mg_of X G v_HIGH, ⟨_, rfl⟩⟩, g_LETTERS := ⟨_, PySem.W.mg_of X G v_LETTERS, ⟨_, rfl⟩⟩, g_LOW := ⟨_, PySem.W.mg_of X G v_LOW, ⟨_, rfl⟩⟩, g_MOST_ITEMS := ⟨_, PySem.W.mg_of X G v_MOST_ITEMS, ⟨_, rfl⟩⟩, g_MOST_LETTERS := ⟨_, PySem.W.mg_of X G v_MOST_LETTERS, ⟨_, rfl⟩⟩, g_MOST_LOG := ⟨_, PySem.W.mg_of X G v_MOST_LOG, ⟨_, rfl⟩⟩, cInserted := PySem.W.mg_of X G nC0, cRemoved := PySem.W.mg_of X G nC1, cFronted := PySem.W.mg_of X G nC2, cRecord := PySem.W.mg_of X G nC3, cFrame := PySem.W.mg_of X G xFrame, cImpossible := PySem.W.mg_of X G xImpossible, cLogError := PySem.W.mg_of X G xLogError, cNoIndex := PySem.W.mg_of X G xNoIndex, cNoItem := PySem.W.mg_of X G xNoItem, cNoList := PySem.W.mg_of X G xNoList, cNoLog := PySem.W.mg_of X G xNoLog, cNoText := PySem.W.mg_of X G xNoText }
  have K0 : Kd K mg A 0 := { cls := ⟨pgC0, hdC0, poC0, saC0⟩, ty := ⟨ocC0, ocg, oct, moC0⟩, made := ⟨_, _, FI, ⟨mkC0, inC0, iI, kcC0⟩, PySem.W.mg_of X G nC0, BI⟩, sign := ⟨_, sgC0, ⟨_, rfl⟩, spC0, by decide +kernel⟩, ni := niC0, ns := nsC0, item := ⟨_, _, _, ⟨itC0, gtpI, tkpI, _, rcpI⟩, FP, BP⟩, slot := ⟨_, _, _, ⟨stC0, gtpS, tkpS, _, rcpS⟩, FS, BS⟩, mv := ⟨⟨pgC0, hdC0, poC0, saC0⟩, _, _, FMmv, ⟨mmvC0, iMmv, kMmv⟩, BMmv⟩ }
  have K1 : Kd K mg A 1 := { cls := ⟨pgC1, hdC1, poC1, saC1⟩, ty := ⟨ocC1, ocg, oct, moC1⟩, made := ⟨_, _, FI, ⟨mkC1, inC1, iI, kcC1⟩, PySem.W.mg_of X G nC1, BI⟩, sign := ⟨_, sgC1, ⟨_, rfl⟩, spC1, by decide +kernel⟩, ni := niC1, ns := nsC1, item := ⟨_, _, _, ⟨itC1, gtpI, tkpI, _, rcpI⟩, FP, BP⟩, slot := ⟨_, _, _, ⟨stC1, gtpS, tkpS, _, rcpS⟩, FS, BS⟩, mv := ⟨⟨pgC1, hdC1, poC1, saC1⟩, _, _, FMmv, ⟨mmvC1, iMmv, kMmv⟩, BMmv⟩ }
  have K2 : Kd K mg A 2 := { cls := ⟨pgC2, hdC2, poC2, saC2⟩, ty := ⟨ocC2, ocg, oct, moC2⟩, made := ⟨_, _, FI, ⟨mkC2, inC2, iI, kcC2⟩, PySem.W.mg_of X G nC2, BI⟩, sign := ⟨_, sgC2, ⟨_, rfl⟩, spC2, by decide +kernel⟩, ni := niC2, ns := nsC2, item := ⟨_, _, _, ⟨itC2, gtpI, tkpI, _, rcpI⟩, FP, BP⟩, slot := ⟨_, _, _, ⟨stC2, gtpS, tkpS, _, rcpS⟩, FS, BS⟩, mv := ⟨⟨pgC2, hdC2, poC2, saC2⟩, _, _, FMmv, ⟨mmvC2, iMmv, kMmv⟩, BMmv⟩ }
  have K3 : Kd K mg A 3 := { cls := ⟨pgC3, hdC3, poC3, saC3⟩, ty := ⟨ocC3, ocg, oct, moC3⟩, made := ⟨_, _, FI, ⟨mkC3, inC3, iI, kcC3⟩, PySem.W.mg_of X G nC3, BI⟩, sign := ⟨_, sgC3, ⟨_, rfl⟩, spC3, by decide +kernel⟩, ni := niC3, ns := nsC3, item := ⟨_, _, _, ⟨itC3, gtpI, tkpI, _, rcpI⟩, FP, BP⟩, slot := ⟨_, _, _, ⟨stC3, gtpS, tkpS, _, rcpS⟩, FS, BS⟩, mv := ⟨⟨pgC3, hdC3, poC3, saC3⟩, _, _, FMmv, ⟨mmvC3, iMmv, kMmv⟩, BMmv⟩ }
  have T : Tx K mg A := { G := GG, kd := fun k hk => match k, hk with | 0, _ => K0 | 1, _ => K1 | 2, _ => K2 | 3, _ => K3, most := ⟨_, _, ⟨rdR, gaR⟩, ⟨msR, ⟨_, rfl⟩⟩⟩, kit := fun i j hi hj => match i, j, hi, hj with | 0, 0, _, _ => kit_mk ic0 tc0 kt00 kt00 | 0, 1, _, _ => kit_mk ic1 tc1 kt01 kt11 | 0, 2, _, _ => kit_mk ic2 tc2 kt02 kt22 | 0, 3, _, _ => kit_mk ic3 tc3 kt03 kt33 | 1, 0, _, _ => kit_mk ic0 tc0 kt10 kt00 | 1, 1, _, _ => kit_mk ic1 tc1 kt11 kt11 | 1, 2, _, _ => kit_mk ic2 tc2 kt12 kt22 | 1, 3, _, _ => kit_mk ic3 tc3 kt13 kt33 | 2, 0, _, _ => kit_mk ic0 tc0 kt20 kt00 | 2, 1, _, _ => kit_mk ic1 tc1 kt21 kt11 | 2, 2, _, _ => kit_mk ic2 tc2 kt22 kt22 | 2, 3, _, _ => kit_mk ic3 tc3 kt23 kt33 | 3, 0, _, _ => kit_mk ic0 tc0 kt30 kt00 | 3, 1, _, _ => kit_mk ic1 tc1 kt31 kt11 | 3, 2, _, _ => kit_mk ic2 tc2 kt32 kt22 | 3, 3, _, _ => kit_mk ic3 tc3 kt33 kt33, cls_Frame := ⟨pgXFrame, hdXFrame, poXFrame, saXFrame⟩, made_Frame := ⟨_, _, FNFrame, ⟨mkXFrame, inXFrame, iNFrame, kcXFrame⟩, PySem.W.mg_of X G xFrame, BNFrame⟩, n_Frame_by_item := nfFrame_by_item, n_Frame_marked := nfFrame_marked, n_Frame_places := nfFrame_places, n_Frame_is_fronted := nfFrame_is_fronted, m_Frame_room := ⟨⟨pgXFrame, hdXFrame, poXFrame, saXFrame⟩, _, _, FWFrame_room, ⟨mmFrame_room, iWFrame_room, kWFrame_room⟩, BWFrame_room⟩, m_Frame_shift := ⟨⟨pgXFrame, hdXFrame, poXFrame, saXFrame⟩, _, _, FWFrame_shift, ⟨mmFrame_shift, iWFrame_shift, kWFrame_shift⟩, BWFrame_shift⟩, m_Frame_is_low := ⟨⟨pgXFrame, hdXFrame, poXFrame, saXFrame⟩, _, _, FWFrame_is_low, ⟨mmFrame_is_low, iWFrame_is_low, kWFrame_is_low⟩, BWFrame_is_low⟩, m_Frame_is_high := ⟨⟨pgXFrame, hdXFrame, poXFrame, saXFrame⟩, _, _, FWFrame_is_high, ⟨mmFrame_is_high, iWFrame_is_high, kWFrame_is_high⟩, BWFrame_is_high⟩, m_Frame_first_fault := ⟨⟨pgXFrame, hdXFrame, poXFrame, saXFrame⟩, _, _, FWFrame_first_fault, ⟨mmFrame_first_fault, iWFrame_first_fault, kWFrame_first_fault⟩, BWFrame_first_fault⟩, m_Frame_bounds := ⟨⟨pgXFrame, hdXFrame, poXFrame, saXFrame⟩, _, _, FWFrame_bounds, ⟨mmFrame_bounds, iWFrame_bounds, kWFrame_bounds⟩, BWFrame_bounds⟩, f_is_integer := D0, f_is_item := D1, f_are_records := D2, f_sign_of := D3, f_items_of := D4, f_is_log := D5, f_need_log := D6, f_are_items := D7, f_need_known := D8, f_framed := D9, f_reason := D10, f_index_range := D11, f_law_source := D12, f_law_pick := D13, f_law_mixed := D14, f_law_words := D15, f_law_made := D16, f_law_played := D17, f_law_history := D18, f_law_log := D19, f_law_pairs := D20, f_law_sides := D21, f_law_bent := D22, f_law_fitting := D23, f_law_right := D24, f_law := D25 }
  exact ⟨_, fun s v => .of_eq rfl, fun base _ _ => fnok_of F25 sc_law (fun hr => d_law T.G hr) (p_law T)⟩
theorem walk {l : PySem.W.OpenLaw} {q : Program} {loose : List Str} {XP : (Str → Option Value) → Heap → Prop} {YP : World → Heap → Prop} {d : DefRec} {K : Params → PySem.W.Frag} (hn : l.most = some 63) (hdf : d.params.defaults = [])
    (hY : ∀ (w : World) (h : Heap), YP w h → (K w.params).In h)
    (F : ∀ (w : World) (mg : Str → Option Value) (fa : Addr) (h : Heap), (K w.params).In h → h.Ns mainGlobals mg → mg d.name = some (.ref fa) →
      ∃ fd : FuncData, (∀ (s : Shared) (u : Value), BindsTo s fd ⟨[u], []⟩ [("_law_script", u)]) ∧ ∀ base : Heap, (K w.params).In base → base.Ns mainGlobals mg → FnG l.prog w (K w.params) mg base 10 fa fd ["_law_script"] (sp_law (K w.params))) :
    PySem.W.WalkO q loose XP YP l.row.toRowW d [] (fun f vs => PySem.call f vs) :=
  walk_g (n := 63) (k := 10) (x := "_law_script") (sp := sp_law) hn (by decide) hdf ⟨rfl, by decide, by decide⟩ hY F fun _ _ a ns hl hS => ⟨a, ns, rfl, hS, hl, fun _ => rfl⟩
end K
open PySem PySem.W PyProof.Rows
set_option maxRecDepth 100000 in
set_option maxHeartbeats 0 in
theorem PySem.Challenge.cw_indexlogs_k29_ranges_of_indices_holds : PySem.Challenge.rw_indexlogs_k29_ranges_of_indices.Holds := by
  w_on; o_law; k_head; (case hw => w_witness2)
  k_fill
  refine K.walk (l := PySem.Challenge.rw_indexlogs_k29_ranges_of_indices) rfl rfl (fun w h Y => PySem.W.kIn_of Y) ?F
  case F =>
    intro w mg fa h KX G hmg
    refine' K.all_mk KX G hmg ?a0 ?l0 ?c0 ?k0 ?a1 ?l1 ?c1 ?k1 ?a2 ?l2 ?c2 ?k2 ?a3 ?l3 ?c3 ?k3 ?a4 ?l4 ?c4 ?k4 ?a5 ?l5 ?c5 ?k5 ?a6 ?l6 ?c6 ?k6 ?a7 ?l7 ?c7 ?k7 ?a8 ?l8 ?c8 ?k8 ?a9 ?l9 ?c9 ?k9 ?a10 ?l10 ?c10 ?k10 ?a11 ?l11 ?c11 ?k11 ?a12 ?l12 ?c12 ?k12 ?a13 ?l13 ?c13 ?k13 ?a14 ?l14 ?c14 ?k14 ?a15 ?l15 ?c15 ?k15 ?a16 ?l16 ?c16 ?k16 ?a17 ?l17 ?c17 ?k17 ?a18 ?l18 ?c18 ?k18 ?a19 ?l19 ?c19 ?k19 ?a20 ?l20 ?c20 ?k20 ?a21 ?l21 ?c21 ?k21 ?a22 ?l22 ?c22 ?k22 ?a23 ?l23 ?c23 ?k23 ?a24 ?l24 ?c24 ?k24 ?a25 ?l25 ?c25 ?k25 ?ocg ?oct ?nC0 ?pgC0 ?hdC0 ?poC0 ?saC0 ?ocC0 ?moC0 ?mkC0 ?kcC0 ?inC0 ?itC0 ?stC0 ?niC0 ?nsC0 ?sgC0 ?spC0 ?mmvC0 ?nC1 ?pgC1 ?hdC1 ?poC1 ?saC1 ?ocC1 ?moC1 ?mkC1 ?kcC1 ?inC1 ?itC1 ?stC1 ?niC1 ?nsC1 ?sgC1 ?spC1 ?mmvC1 ?nC2 ?pgC2 ?hdC2 ?poC2 ?saC2 ?ocC2 ?moC2 ?mkC2 ?kcC2 ?inC2 ?itC2 ?stC2 ?niC2 ?nsC2 ?sgC2 ?spC2 ?mmvC2 ?nC3 ?pgC3 ?hdC3 ?poC3 ?saC3 ?ocC3 ?moC3 ?mkC3 ?kcC3 ?inC3 ?itC3 ?stC3 ?niC3 ?nsC3 ?sgC3 ?spC3 ?mmvC3 ?gtpI ?tkpI ?rcpI ?gtpS ?tkpS ?rcpS ?lI ?cI ?kI ?lP ?cP ?kP ?lS ?cS ?kS ?lMmv ?cMmv ?kMmv ?iI ?iMmv ?kt00 ?kt01 ?kt02 ?kt03 ?kt10 ?kt11 ?kt12 ?kt13 ?kt20 ?kt21 ?kt22 ?kt23 ?kt30 ?kt31 ?kt32 ?kt33 ?ic0 ?tc0 ?ic1 ?tc1 ?ic2 ?tc2 ?ic3 ?tc3 ?rdR ?gaR ?msR ?xFrame ?xImpossible ?xLogError ?xNoIndex ?xNoItem ?xNoList ?xNoLog ?xNoText ?pgXFrame ?hdXFrame ?poXFrame ?saXFrame ?mkXFrame ?kcXFrame ?inXFrame ?nfFrame_by_item ?nfFrame_marked ?nfFrame_places ?nfFrame_is_fronted ?mmFrame_room ?mmFrame_shift ?mmFrame_is_low ?mmFrame_is_high ?mmFrame_first_fault ?mmFrame_bounds ?lNFrame ?cNFrame ?kNFrame ?iNFrame ?lWFrame_room ?cWFrame_room ?kWFrame_room ?iWFrame_room ?lWFrame_shift ?cWFrame_shift ?kWFrame_shift ?iWFrame_shift ?lWFrame_is_low ?cWFrame_is_low ?kWFrame_is_low ?iWFrame_is_low ?lWFrame_is_high ?cWFrame_is_high ?kWFrame_is_high ?iWFrame_is_high ?lWFrame_first_fault ?cWFrame_first_fault ?kWFrame_first_fault ?iWFrame_first_fault ?lWFrame_bounds ?cWFrame_bounds ?kWFrame_bounds ?iWFrame_bounds ?b_abs ?b_all ?b_bool ?b_dict ?b_enumerate ?b_int ?b_isinstance ?b_len ?b_list ?b_max ?b_min ?b_range ?b_repr ?b_set ?b_str ?v_FRONTED ?v_HIGH ?v_LETTERS ?v_LOW ?v_MOST_ITEMS ?v_MOST_LETTERS ?v_MOST_LOG
    (case a0 => k_is)
    (case l0 => k_is)
    (case c0 => k_is)
    (case k0 => k_is)
    (case a1 => k_is)
    (case l1 => k_is)
    (case c1 => k_is)
    (case k1 => k_is)
    (case a2 => k_is)
    (case l2 => k_is)
    (case c2 => k_is)
    (case k2 => k_is)
    (case a3 => k_is)
    (case l3 => k_is)
    (case c3 => k_is)
    (case k3 => k_is)
    (case a4 => k_is)
    (case l4 => k_is)
    (case c4 => k_is)
    (case k4 => k_is)
    (case a5 => k_is)
    (case l5 => k_is)
    (case c5 => k_is)
    (case k5 => k_is)
    (case a6 => k_is)
    (case l6 => k_is)
    (case c6 => k_is)
    (case k6 => k_is)
    (case a7 => k_is)
    (case l7 => k_is)
    (case c7 => k_is)
    (case k7 => k_is)
    (case a8 => k_is)
    (case l8 => k_is)
    (case c8 => k_is)
    (case k8 => k_is)
    (case a9 => k_is)
    (case l9 => k_is)
    (case c9 => k_is)
    (case k9 => k_is)
    (case a10 => k_is)
    (case l10 => k_is)
    (case c10 => k_is)
    (case k10 => k_is)
    (case a11 => k_is)
    (case l11 => k_is)
    (case c11 => k_is)
    (case k11 => k_is)
    (case a12 => k_is)
    (case l12 => k_is)
    (case c12 => k_is)
    (case k12 => k_is)
    (case a13 => k_is)
    (case l13 => k_is)
    (case c13 => k_is)
    (case k13 => k_is)
    (case a14 => k_is)
    (case l14 => k_is)
    (case c14 => k_is)
    (case k14 => k_is)
    (case a15 => k_is)
    (case l15 => k_is)
    (case c15 => k_is)
    (case k15 => k_is)
    (case a16 => k_is)
    (case l16 => k_is)
    (case c16 => k_is)
    (case k16 => k_is)
    (case a17 => k_is)
    (case l17 => k_is)
    (case c17 => k_is)
    (case k17 => k_is)
    (case a18 => k_is)
    (case l18 => k_is)
    (case c18 => k_is)
    (case k18 => k_is)
    (case a19 => k_is)
    (case l19 => k_is)
    (case c19 => k_is)
    (case k19 => k_is)
    (case a20 => k_is)
    (case l20 => k_is)
    (case c20 => k_is)
    (case k20 => k_is)
    (case a21 => k_is)
    (case l21 => k_is)
    (case c21 => k_is)
    (case k21 => k_is)
    (case a22 => k_is)
    (case l22 => k_is)
    (case c22 => k_is)
    (case k22 => k_is)
    (case a23 => k_is)
    (case l23 => k_is)
    (case c23 => k_is)
    (case k23 => k_is)
    (case a24 => k_is)
    (case l24 => k_is)
    (case c24 => k_is)
    (case k24 => k_is)
    (case a25 => k_is)
    (case l25 => k_is)
    (case c25 => k_is)
    (case k25 => k_is)
    (case ocg => k_is)
    (case oct => k_is)
    (case nC0 => k_is)
    (case pgC0 => k_is)
    (case hdC0 => k_is)
    (case poC0 => k_is)
    (case saC0 => k_is)
    (case ocC0 => k_is)
    (case moC0 => k_is)
    (case mkC0 => k_is)
    (case kcC0 => k_is)
    (case inC0 => k_is)
    (case itC0 => k_is)
    (case stC0 => k_is)
    (case niC0 => k_is)
    (case nsC0 => k_is)
    (case sgC0 => k_is)
    (case spC0 => k_is)
    (case mmvC0 => k_is)
    (case nC1 => k_is)
    (case pgC1 => k_is)
    (case hdC1 => k_is)
    (case poC1 => k_is)
    (case saC1 => k_is)
    (case ocC1 => k_is)
    (case moC1 => k_is)
    (case mkC1 => k_is)
    (case kcC1 => k_is)
    (case inC1 => k_is)
    (case itC1 => k_is)
    (case stC1 => k_is)
    (case niC1 => k_is)
    (case nsC1 => k_is)
    (case sgC1 => k_is)
    (case spC1 => k_is)
    (case mmvC1 => k_is)
    (case nC2 => k_is)
    (case pgC2 => k_is)
    (case hdC2 => k_is)
    (case poC2 => k_is)
    (case saC2 => k_is)
    (case ocC2 => k_is)
    (case moC2 => k_is)
    (case mkC2 => k_is)
    (case kcC2 => k_is)
    (case inC2 => k_is)
    (case itC2 => k_is)
    (case stC2 => k_is)
    (case niC2 => k_is)
    (case nsC2 => k_is)
    (case sgC2 => k_is)
    (case spC2 => k_is)
    (case mmvC2 => k_is)
    (case nC3 => k_is)
    (case pgC3 => k_is)
    (case hdC3 => k_is)
    (case poC3 => k_is)
    (case saC3 => k_is)
    (case ocC3 => k_is)
    (case moC3 => k_is)
    (case mkC3 => k_is)
    (case kcC3 => k_is)
    (case inC3 => k_is)
    (case itC3 => k_is)
    (case stC3 => k_is)
    (case niC3 => k_is)
    (case nsC3 => k_is)
    (case sgC3 => k_is)
    (case spC3 => k_is)
    (case mmvC3 => k_is)
    (case gtpI => k_is)
    (case tkpI => k_is)
    (case rcpI => k_is)
    (case gtpS => k_is)
    (case tkpS => k_is)
    (case rcpS => k_is)
    (case lI => k_is)
    (case cI => k_is)
    (case kI => k_is)
    (case lP => k_is)
    (case cP => k_is)
    (case kP => k_is)
    (case lS => k_is)
    (case cS => k_is)
    (case kS => k_is)
    (case lMmv => k_is)
    (case cMmv => k_is)
    (case kMmv => k_is)
    (case iI => k_is)
    (case iMmv => k_is)
    (case kt00 => k_is)
    (case kt01 => k_is)
    (case kt02 => k_is)
    (case kt03 => k_is)
    (case kt10 => k_is)
    (case kt11 => k_is)
    (case kt12 => k_is)
    (case kt13 => k_is)
    (case kt20 => k_is)
    (case kt21 => k_is)
    (case kt22 => k_is)
    (case kt23 => k_is)
    (case kt30 => k_is)
    (case kt31 => k_is)
    (case kt32 => k_is)
    (case kt33 => k_is)
    (case ic0 => k_is)
    (case tc0 => k_is)
    (case ic1 => k_is)
    (case tc1 => k_is)
    (case ic2 => k_is)
    (case tc2 => k_is)
    (case ic3 => k_is)
    (case tc3 => k_is)
    (case rdR => k_is)
    (case gaR => k_is)
    (case msR => k_is)
    (case xFrame => k_is)
    (case xImpossible => k_is)
    (case xLogError => k_is)
    (case xNoIndex => k_is)
    (case xNoItem => k_is)
    (case xNoList => k_is)
    (case xNoLog => k_is)
    (case xNoText => k_is)
    (case pgXFrame => k_is)
    (case hdXFrame => k_is)
    (case poXFrame => k_is)
    (case saXFrame => k_is)
    (case mkXFrame => k_is)
    (case kcXFrame => k_is)
    (case inXFrame => k_is)
    (case nfFrame_by_item => k_is)
    (case nfFrame_marked => k_is)
    (case nfFrame_places => k_is)
    (case nfFrame_is_fronted => k_is)
    (case mmFrame_room => k_is)
    (case mmFrame_shift => k_is)
    (case mmFrame_is_low => k_is)
    (case mmFrame_is_high => k_is)
    (case mmFrame_first_fault => k_is)
    (case mmFrame_bounds => k_is)
    (case lNFrame => k_is)
    (case cNFrame => k_is)
    (case kNFrame => k_is)
    (case iNFrame => k_is)
    (case lWFrame_room => k_is)
    (case cWFrame_room => k_is)
    (case kWFrame_room => k_is)
    (case iWFrame_room => k_is)
    (case lWFrame_shift => k_is)
    (case cWFrame_shift => k_is)
    (case kWFrame_shift => k_is)
    (case iWFrame_shift => k_is)
    (case lWFrame_is_low => k_is)
    (case cWFrame_is_low => k_is)
    (case kWFrame_is_low => k_is)
    (case iWFrame_is_low => k_is)
    (case lWFrame_is_high => k_is)
    (case cWFrame_is_high => k_is)
    (case kWFrame_is_high => k_is)
    (case iWFrame_is_high => k_is)
    (case lWFrame_first_fault => k_is)
    (case cWFrame_first_fault => k_is)
    (case kWFrame_first_fault => k_is)
    (case iWFrame_first_fault => k_is)
    (case lWFrame_bounds => k_is)
    (case cWFrame_bounds => k_is)
    (case kWFrame_bounds => k_is)
    (case iWFrame_bounds => k_is)
    (case b_abs => k_is)
    (case b_all => k_is)
    (case b_bool => k_is)
    (case b_dict => k_is)
    (case b_enumerate => k_is)
    (case b_int => k_is)
    (case b_isinstance => k_is)
    (case b_len => k_is)
    (case b_list => k_is)
    (case b_max => k_is)
    (case b_min => k_is)
    (case b_range => k_is)
    (case b_repr => k_is)
    (case b_set => k_is)
    (case b_str => k_is)
    (case v_FRONTED => k_is)
    (case v_HIGH => k_is)
    (case v_LETTERS => k_is)
    (case v_LOW => k_is)
    (case v_MOST_ITEMS => k_is)
    (case v_MOST_LETTERS => k_is)
    (case v_MOST_LOG => k_is)
