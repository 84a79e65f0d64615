import PyProof.Rows.All
import Wide.All
import OpenK.AllK
import Wide.FinOn
import HandS.ForMost
import HandS.Strs
import HandS.Exc
import HandS.WordsExc
import HandS.ExcOwn
import HandS.Property
import HandS.Ends
import HandS.Defaults
import HandS.IsInst
import HandS.ClsMeth
import HandS.Wide
import HandS.SortInts
import HandS.RaiseMore
import HandS.Deep
import HandS.More
import HandS.Conv
import HandS.Iter
import HandS.DictComp
import HandS.Style
import KE.DatumIndex
import PyProof.ReprReads
import PySem.Challenge.RW_indexlogs_k52_whole_missing_and_counted
set_option Elab.async false
set_option linter.all false
set_option maxRecDepth 100000
set_option maxHeartbeats 4000000
/-! len(set(xs)), xs a list of texts of any length below some thousands -/
namespace U
open PySem PySem.Spec PyProof.Rows L2

/-- the texts of a list, each once -/
def ddS (acc : List Str) (x : Str) : List Str := if acc.any (· == x) = true then acc else acc ++ [x]
def dd (xs : List Str) : List Str := xs.foldl ddS []
theorem ddS_any (acc : List Str) (x k : Str) : (ddS acc x).any (· == k) = (acc.any (· == k) || decide (k = x)) := by
  unfold ddS
  by_cases c : acc.any (· == x) = true
  · rw [if_pos c]
    by_cases q : k = x
    · subst q; rw [c]; simp
    · simp [q]
  · rw [if_neg c, List.any_append]
    by_cases q : k = x
    · subst q; simp
    · have z : (x == k) = false := by
        rw [beq_eq_false_iff_ne]; exact fun e => q e.symm
      simp [z, q]
theorem ddS_len (acc : List Str) (x : Str) : (ddS acc x).length = if acc.any (· == x) = true then acc.length else acc.length + 1 := by
  unfold ddS; split <;> simp
theorem dd_take {xs : List Str} {i : Nat} (h : i < xs.length) : dd (xs.take (i + 1)) = ddS (dd (xs.take i)) (xs.getD i Str.empty) := by
  unfold dd
  have e : xs.take (i + 1) = xs.take i ++ [xs.getD i Str.empty] := by
    rw [List.take_add_one, List.getElem?_eq_getElem h]; simp [List.getD, h]
  rw [e, List.foldl_append]; rfl
theorem dd_le (xs : List Str) : (dd xs).length ≤ xs.length := by
  unfold dd
  suffices h : ∀ (l acc : List Str), (l.foldl ddS acc).length ≤ acc.length + l.length by simpa using h xs []
  intro l
  induction l with
  | nil => intro acc; simp
  | cons x l ih =>
    intro acc
    have h1 := ih (ddS acc x)
    have h2 : (ddS acc x).length ≤ acc.length + 1 := by rw [ddS_len]; split <;> omega
    simp only [List.foldl_cons, List.length_cons]
    omega

section
variable {prog : Program} {w : World} {A : Around} {R : Result → Shared → Prop} {I : Addr} {fp wr : List Addr} {G : Array GenState → Array GenState → Prop} {n : Nat} {P : Nat → Value → Prop} {St : Nat → Shared → Prop}
abbrev HasT (prog : Program) (w : World) (h : Heap) (S : Addr) (l : List Str) : Prop := h.SetOf (PySem.strKind prog w) S (fun k => l.any (· == k)) l.length
theorem HasT.moved {h h' : Heap} {S : Addr} {l : List Str} (x : HasT prog w h S l) (k : ∀ o, h.get? S = some o → h'.get? S = some o) : HasT prog w h' S l := by
  obtain ⟨o, es, ep, t, q, r⟩ := x
  exact ⟨o, es, ep, t, k o q, r⟩
theorem loopT (W : WalksS prog w A.in1 I fp wr G n P St) {S : Addr} (hS : S ∉ fp) {xs : List Str} (hl : xs.length = n) (hb : n + 1 < scanBound) (hv : ∀ i v, P i v → ∃ t, v = .str (xs.getD i Str.empty) t) :
    ∀ (m i : Nat) (s : Shared), m = n - i → i ≤ n → St i s → HasT prog w s.heap S (dd (xs.take i)) →
      (∀ s', Moved (S :: wr) G s s' → HasT prog w s'.heap S (dd xs) → R (.ok (.ret .none)) s') → codeAny (model prog w) A (.builtin "set.update.loop" ⟨[.ref S, .ref I], []⟩) R s := by
  have nw : S ∉ wr := fun z => hS (W.sub _ z)
  have up : ∀ b ∈ wr, b ∈ S :: wr := fun b z => List.mem_cons_of_mem _ z
  intro m
  induction m with
  | zero =>
    intro i s hm hi st x fin
    obtain rfl : i = n := by omega
    refine codeAny_builtin PyProof.Rows.F.entry_set_update_loop ?_
    rw [Around.under_plainId PyProof.Rows.F.plain_set_update_loop _]
    refine (show wpAny _ A.in1 (pyNext (.ref I) >>= _) _ _ s from wpAny_bind (W.done s _ _ st fun s' mv => ?_))
    refine (show wpAny _ A.in1 (ret Value.none) _ _ s' from wpAny_pure (fin s' (mv.mono up) ?_))
    have y := HasT.moved x fun o q => mv.heap S _ nw q
    rwa [← hl, List.take_length] at y
  | succ m ih =>
    intro i s hm hi st x fin
    have lt : i < n := by omega
    refine codeAny_builtin PyProof.Rows.F.entry_set_update_loop ?_
    rw [Around.under_plainId PyProof.Rows.F.plain_set_update_loop _]
    refine (show wpAny _ A.in1 (pyNext (.ref I) >>= _) _ _ s from wpAny_bind (W.item i s _ _ lt st fun v s' pv st' mv => ?_))
    obtain ⟨t, rfl⟩ := hv i v pv
    have y := HasT.moved x fun o q => mv.heap S _ nw q
    refine (show wpAny _ A.in1 (holding [Value.str (xs.getD i Str.empty) t] (setAdd S (.str (xs.getD i Str.empty) t)) >>= _) _ _ s' from wpAny_bind (wpAny_holding ?_))
    unfold setAdd
    refine wpAny_holding (wpAny_bind ((PySem.strKind prog w).pyHash (k := xs.getD i Str.empty) (strKind_is _ _ _ _) ?_))
    have few : (dd (xs.take i)).length + 1 < scanBound := by
      have := dd_le (xs.take i)
      rw [List.length_take] at this
      omega
    refine wpAny_setAddHashed_of (knd := PySem.strKind prog w) (s := { s' with toks := s'.toks + 1 }) (strKind_is _ _ _ _) rfl y few fun h' sb z => ?_
    have z' : HasT prog w h' S (dd (xs.take (i + 1))) := by
      have e := dd_take (xs := xs) (i := i) (by omega)
      exact SetOf_congr z (fun k => by rw [e, ddS_any]) (by rw [e, ddS_len])
    refine wpAny_pure ⟨plainId_quiet PyProof.Rows.F.plain_set_update_loop _, ih (i + 1) _ (by omega) lt (W.frame _ s' _ _ st' (Nat.le_succ _) fun b hb o e => ?_) z' fun s2 mv2 z2 => ?_⟩
    · rw [sb.2 b fun q : b = S => hS (q ▸ hb)]
      exact e
    · refine fin s2 (Moved.trans W.gtrans ((mv.mono up).then_heap (Nat.le_succ _) fun b o hb e => ?_) mv2) z2
      rw [sb.2 b fun q : b = S => hb (q ▸ List.mem_cons_self)]
      exact e
end

section
variable {prog : Program} {w : World} {A : Around} {E : Value → Shared → Prop} {s : Shared}
abbrev nilSet (led : Bool) : Obj := { cls := .type "set", dict := none, data := .set #[] 0 (.fresh 0 0 led) }
set_option maxHeartbeats 6400000 in
theorem set_of_texts {l : Addr} {items : Array Value} {xs : List Str} {Q : Value → Shared → Prop} (calm : A.handled = none) (hl : s.heap.IsList l items) (hi : StrsAre items.toList xs) (hb : xs.length + 1 < scanBound)
    (h : ∀ (h' : Heap) (tk : Nat), HasT prog w h' s.heap.objs.size (dd xs) → (∀ b o, b < s.heap.objs.size → s.heap.get? b = some o → h'.get? b = some o) → Q (.ref s.heap.objs.size) { s with heap := h', toks := tk }) :
    wpAny (model prog w) A (call (.type "set") [.ref l]) Q E s := by
  obtain ⟨c, tl, hmro⟩ := PySem.F.called_set.mro
  have hmade := PySem.F.called_set.made; have hsub := PySem.F.called_set.sub
  refine wpAny_call (codeAny_of_tree (show wpAny _ _ (callAny (.type "set") _) _ _ _ from wpAny_pure ⟨Code.quiet_builtin _ (by decide +kernel), codeAny_builtin PySem.F.entry_type_call ?_⟩))
  rw [Around.under_plain (weight_type_call_type "set" [.ref l] []) rfl]
  have g1 := PySem.F.called_set.notType; have g2 := PySem.F.called_set.canCreate; have g3 := PySem.F.typeCall_set_1 (.ref l)
  repeat (any_goals (first | assumption | wp_step))
  refine codeAny_mono (code_set_new_1 (.ref l) (E := E) (Q₁ := fun obj s₁ => ∃ led : Bool, obj = .ref s.heap.objs.size ∧ s₁ = { s with heap := s.heap.push (nilSet led) }) fun led => ⟨led, rfl, rfl⟩) fun r s₁ hr => ?_
  match r, hr with
  | .error e, hr => exact hr
  | .ok (.ret obj), hr =>
    obtain ⟨led, rfl, rfl⟩ := hr
    have here : (s.heap.push (nilSet led)).get? s.heap.objs.size = some (nilSet led) := Heap.get?_push_size _ rfl
    have ty : Shared.TypeIs { s with heap := s.heap.push (nilSet led) } (.ref s.heap.objs.size) "set" := ⟨_, here, rfl⟩
    have q1 := PySem.F.called_set.init.lookup; have q2 := PySem.F.called_set.init.bind (.ref s.heap.objs.size)
    repeat (any_goals (first | assumption | wp_step))
    refine codeAny_mono (codeAny_call_builtin (R := wants (fun r s₂ => r = .none ∧ ∃ h' tk, s₂ = { s with heap := h', toks := tk } ∧ HasT prog w h' s.heap.objs.size (dd xs) ∧ (∀ b o, b < s.heap.objs.size → s.heap.get? b = some o → h'.get? b = some o)) E)
      PySem.F.called_set.init.plain PySem.F.entry_set_init (check_set_init_1 ty ?_)) fun r₂ s₂ hr₂ => ?_
    · obtain ⟨ol, hol, hcl, nl, hdl⟩ := hl
      obtain ⟨ocls, odict, odata, oslots⟩ := ol
      simp only at hcl hdl
      subst hcl; subst hdl
      have hol' : (s.heap.push (nilSet led)).get? l = some { cls := .type "list", dict := odict, data := .seq items nl, slots := oslots } := Heap.get?_push_of_some _ hol
      have w1 := PySem.F.sub_list_set; have w2 := PySem.F.sub_list_frozenset
      have w3 : (Value.type "list" == Value.type "dict") = false := by decide
      have il : (s.heap.push (nilSet led)).IsList l items := ⟨_, hol', rfl, nl, rfl⟩
      unfold Builtin.«set.__init__» noKeywords Builtin.Frozenset.updateFrom
      generalize hPI : pyIter = PI
      wp_walk
      subst hPI
      refine wpAny_pyIter_list il (wpAny_bind (wpAny_runValue ?_))
      have ll : l < s.heap.objs.size := Heap.lt_size hol
      have c3 : A.in1.in1.in1.handled = none := by simp [calm]
      have ne : l ≠ (s.heap.push (nilSet led)).objs.size := by rw [Heap.size_push]; exact Nat.ne_of_lt (Nat.lt_succ_of_lt ll)
      have nf : s.heap.objs.size ∉ [(s.heap.push (nilSet led)).objs.size, l] := by
        rw [Heap.size_push]
        simp only [List.mem_cons, List.not_mem_nil, or_false, not_or]
        exact ⟨Nat.ne_of_lt (Nat.lt_succ_self _), Nat.ne_of_gt ll⟩
      have sz : xs.length = items.size := by rw [← StrsAre.len_eq hi, Array.length_toList]
      have vl : ∀ (i : Nat) (v : Value), items[i]? = some v → ∃ t, v = .str (xs.getD i Str.empty) t := fun i v hv => SS.strs_at hi i v (by rw [Array.getElem?_toList]; exact hv)
      refine loopT (Walks.list c3 _ l ne items).toS nf sz (by rw [← sz]; exact hb) vl (items.size - 0) 0 _ rfl (Nat.zero_le _) ⟨⟨_, Heap.get?_push_size _ rfl, rfl, rfl⟩, il.push _⟩ ?b0 ?b1
      case b0 =>
        have hget : ((s.heap.push (nilSet led)).push { cls := .type "list_iterator", data := .fields #[.ref l, .int 0 0] }).get? s.heap.objs.size = some (nilSet led) := Heap.get?_push_of_some _ here
        exact SetOf_congr ((setObjOf_fresh (knd := PySem.strKind prog w) led).setOf hget (by unfold scanBound; omega)) (fun _ => rfl) rfl
      case b1 =>
        intro s' mv z
        obtain ⟨h', g', d', tk', os'⟩ := s'
        obtain rfl : g' = s.gens := mv.gens
        obtain rfl : d' = s.drawn := mv.drawn
        obtain rfl : os' = s.os := mv.os
        refine (show wpAny _ _ _ _ _ _ from wpAny_pure (show wpAny _ _ (ret Value.none) _ _ _ from wpAny_pure ⟨rfl, h', tk', rfl, z, fun b o hb e => ?_⟩))
        refine mv.heap b o ?_ (Heap.get?_push_of_some _ (Heap.get?_push_of_some _ e))
        rw [Heap.size_push]
        simp only [List.mem_cons, List.not_mem_nil, or_false, not_or]
        exact ⟨Nat.ne_of_lt hb, Nat.ne_of_lt (Nat.lt_succ_of_lt hb)⟩
    · match r₂, hr₂ with
      | .error e, hr₂ => exact hr₂
      | .ok (.ret r), hr₂ =>
        obtain ⟨rfl, h', tk, rfl, z, k⟩ := hr₂
        repeat (any_goals (first | assumption | wp_step))
        exact h _ _ z k
end

section
variable {X : Cx}
/-- len(set(xs)): how many different texts -/
def tLenSetT (K : PySem.W.Frag) (ta : TE) : TE := fun σ H Q => ta σ H fun x H1 => ∃ l, ∃ xs : List Str, x = .ref l ∧ SqL K H1 l (xs.map V.str) ∧ xs.length ≤ 1000 ∧ Q (.int (dd xs).length) H1
theorem pe_lenSetT {a : Expr} {ta : TE} {p p2 q pos : Pos} (hg : Gl X "len") (hm : X.mg "len" = none) (hg2 : Gl X "set") (hm2 : X.mg "set" = none) (ha : PE X a ta) (hc : X.calm = true := by rfl)
    (na : starEach [a] X.env = (false, eval a X.env) :: starEach [] X.env := by rfl) : PE X (.Call (.Name "len" p) [.Call (.Name "set" p2) [a] [] q] [] pos) (tLenSetT X.K ta) := by
  refine ⟨fun pins s σ H Q I h => Call_ (ld_blt I hg hm boot_len (PyProof.Rows.callWith_builtin1 (PyProof.Rows.args_cons ?_ rfl) rfl rfl))⟩
  refine Call_ (ld_blt I hg2 hm2 boot_set (PyProof.Rows.callWith_type1 (PyProof.Rows.args_cons (thn (ha.run pins s σ H _ I h) fun v s1 ⟨x, H1, I1, r1, q1⟩ => PyProof.Rows.args_nil ?_) na) na rfl))
  obtain ⟨l, xs, rfl, hq, few, q1⟩ := q1
  cases r1
  obtain ⟨its, r, pl, hz⟩ := I1.list hq
  refine set_of_texts (I1.ok.hd hc) pl.isList (by simpa using strsAre_of r) (by unfold scanBound; omega) fun h' tk x k => PyProof.Rows.args_nil ?_
  obtain ⟨o, es, ep, t, ho, hex, hd, _, _, _, hf, hn⟩ := x
  have I2 : Inv X pins σ H1 { s1 with heap := h', toks := tk } := I1.kept fun b o e => k b o (Heap.lt_size e) e
  have dl := dd_le xs
  exact call_len_set ho hex hd hf (by rw [hn] <;> omega) ⟨.int (dd xs).length, H1, I2.tok _, ⟨_, by rw [hn]⟩, q1⟩
end
end U
/-! promises of defs that are called where nothing is being shown (no guard stands): repr of data may be asked within -/
namespace U
open PySem PySem.Spec PyProof.Rows L2
/-- no repr is under way -/
abbrev Quiet (B : Around) : Prop := B.guards = some []
structure FnG (P : Program) (w : World) (K : PySem.W.Frag) (mg : Str → Option Value) (base : Heap) (k : Nat) (f : Addr) (fd : FuncData) (ps : List Str) (sp : Sp) : Prop where
  len : ∀ vs H Q E, sp vs H Q E → vs.length = ps.length
  run : ∀ (B : Around) (outs : List Env) (t : Shared) (H : Hp) (gv : Args) (us : List Value) (vs : List V) (Q : VK) (E : XK), Room k B → Quiet B → Env0 P w K mg base B outs t H →
    BindsTo t fd gv (ps.zip us) → Vals vs us → sp vs H Q E → codeAny (model P w) B (.call (.ref f) gv) (CR (L2.CX P w) outs P w H t Q E) t
section
variable {P : Program} {w : World} {K : PySem.W.Frag} {mg : Str → Option Value} {base : Heap}
theorem FnG.of {k : Nat} {f : Addr} {fd : FuncData} {ps : List Str} {sp : Sp} (F : FnOk P w K mg base (L2.CX P w) k f fd ps sp) : FnG P w K mg base k f fd ps sp :=
  ⟨F.len, fun B outs t H gv us vs Q E r _ => F.run B outs t H gv us vs Q E r⟩
/-- a def by its body, read where no repr is under way -/
theorem fnG_body {k : Nat} {f : Addr} {nm ql : Str} {pr : Arguments} {bd : List Stmt} {sc : Scope} {dV kV doc pm cdv ct oc : Value} {an od : Option Addr} {osl : Array (Option Value)} {N ps : List Str} {sp : Sp}
    (at_ : K.lookup f = some ⟨oc, od, .func (PySem.W.fnOf nm ql pr bd sc dV kV doc pm an cdv ct), osl⟩) (cd : PySem.W.codeIn K cdv ql = true) (S : FnScope N ps sc) (ln : ∀ vs H Q E, sp vs H Q E → vs.length = ps.length)
    (body : ∀ (B : Around) (outs : List Env) (t : Shared) (H : Hp) (vs : List V) (Q : VK) (E : XK), Room k (B.deeper (envOfC ql sc t.heap.objs.size f cdv)) → Quiet (B.deeper (envOfC ql sc t.heap.objs.size f cdv)) → sp vs H Q E →
      ∃ T, PSs (cxOf (L2.CX P w) P w K mg base N ql sc f cdv B outs t H E) bd T ∧ T { nx := fun _ G => Q .non G, rt := Q } (start N vs) H) :
    FnG P w K mg base (k + 1) f (PySem.W.fnOf nm ql pr bd sc dV kV doc pm an cdv ct) ps sp where
  len := ln
  run := fun B outs t H gv us vs Q E rm qt e0 bi rv want => by
    have kin : K.In t.heap := e0.mod.kin.keeps fun b o z => (e0.bs b o z).1
    have unl : t.heap.NoLimit := e0.mod.nolimit.keeps fun b o z => (e0.bs b o z).1
    have kinds : ∀ z ∈ ps.zip us, sc.names.lookup z.1 = some .local ∨ (sc.names.lookup z.1 = some .cell ∧ ((cellsFrom (t.heap.objs.size + 1) sc.names []).lookup z.1).isSome = true) := fun z hz =>
      (S.par z.1 (List.of_mem_zip (a := z.1) (b := z.2) hz).1).imp id fun c => ⟨c, PySem.W.cellsFrom_some _ _ _ (.inl c)⟩
    refine codeAny_call_function rm.depth (kin _ _ at_) rfl S.co S.gen rfl (PySem.W.codeRec_of kin cd) (bi _ _ _ _ (wpAny_newFunctionEnv_cells S.kind kinds ?_))
    intro env ee t1 ic
    cases ee
    refine ⟨unl.keeps ic.toInCall.keep, codeAny_func ?_⟩
    obtain ⟨T, d, hT⟩ := body B outs t H vs Q E (rm.deeper _) qt want
    refine wpAny_mono (d.run [] t1 (start N vs) H _ (inv_start S rm.hd e0 (ln _ _ _ _ want) rv ic) hT) (fun fl t2 z => ?_) fun _ _ z => z
    match fl, z with
    | .ret u, ⟨v, _, G, J, ru, q⟩ => exact ⟨v, G, J.os, J.bare, J.base, J.hok, ru, q⟩
    | .next, ⟨_, G, J, q⟩ => exact ⟨V.non, G, J.os, J.bare, J.base, J.hok, rfl, q⟩
    | .brk, ⟨_, _, _, q⟩ => exact q.elim
    | .cont, ⟨_, _, _, q⟩ => exact q.elim
end
section
variable {X : Cx} {k : Nat} {f C : Addr} {fd : FuncData} {ps : List Str} {sp : Sp} {dvs : List V} {ds : List Value} {E : XK}
def Back (X : Cx) (pins : List (Addr × Obj)) (σ : L2.St) (Q : VK) : Result → Shared → Prop
  | .ok (.ret u), t => EP X pins σ Q u t
  | .ok _, _ => False
  | .error e, t => X.xe e t
theorem back_of {pins : List (Addr × Obj)} {σ : L2.St} {H : Hp} {s s' : Shared} {Q : VK} {r : Result} (I : Inv X pins σ H s) (hx : Passes (L2.CX X.prog X.w) X E) (h : CR (L2.CX X.prog X.w) X.stack X.prog X.w H s Q E r s') :
    Back X pins σ Q r s' := by
  match r, h with
  | .error e, h => exact hx pins σ H s e s' I h
  | .ok (.ret u), h => exact I.after h
  | .ok .next, h => exact h
  | .ok .brk, h => exact h
  | .ok .cont, h => exact h
theorem run_g {pins : List (Addr × Obj)} {σ : L2.St} {H : Hp} {s : Shared} {Q : VK} {us ws : List Value} {kw : List (Str × Value)} {vs : List V} (F : FnG X.prog X.w X.K X.mg X.base k f fd ps sp) (rm : Room k X.A) (qt : Quiet X.A) (hx : Passes (L2.CX X.prog X.w) X E)
    (I : Inv X pins σ H s) (b : BindsTo s fd ⟨us, kw⟩ (ps.zip ws)) (r : Vals vs ws) (h : sp vs H Q E) : wpAny (model X.prog X.w) X.A (call (.ref f) us kw) (EP X pins σ Q) X.xe s := by
  refine wpAny_call (codeAny_mono (F.run X.A X.stack s H _ ws vs Q E rm qt I.env0 b r h) fun r t z => ?_)
  have y := back_of I hx z
  clear z
  match r, y with
  | .error _, y => exact y
  | .ok (.ret _), y => exact y
theorem run_gb {pins : List (Addr × Obj)} {σ : L2.St} {H : Hp} {s : Shared} {Q : VK} {us : List Value} {vs : List V} (F : FnG X.prog X.w X.K X.mg X.base k f fd ps sp) (rm : Room k X.A) (qt : Quiet X.A) (hb : Binds X.K fd ps ds) (hd : Vals dvs ds) (hx : Passes (L2.CX X.prog X.w) X E)
    (I : Inv X pins σ H s) (r : Vals vs us) (h : sp (vs ++ dvs) H Q E) : wpAny (model X.prog X.w) X.A (call (.ref f) us) (EP X pins σ Q) X.xe s := by
  have r2 := r.append hd
  exact run_g F rm qt hx I (hb s us I.kIn (r2.length.symm.trans (F.len _ _ _ _ h))) r2 h
theorem quiet_make {B : Around} (q : Quiet B) (C : Addr) (us : List Value) (kw : List (Str × Value)) : Quiet (B.under (.builtin "type.__call__" ⟨.ref C :: us, kw⟩)) := by
  first | exact q | (simpa [Around.under, Code.guards, Code.isGuard, pushGuards] using q)
theorem run_mkG {pins : List (Addr × Obj)} {σ : L2.St} {H : Hp} {s : Shared} {Q : VK} {us : List Value} {vs : List V} (M : Mk X.K C f) (F : FnG X.prog X.w X.K X.mg X.base k f fd ps sp) (rm : Room (k + 1) X.A) (qt : Quiet X.A) (hb : Binds X.K fd ps []) (hx : Passes (L2.CX X.prog X.w) X E)
    (I : Inv X pins σ H s) (r : Vals vs us) (h : ∀ p dx, H p = none → H dx = none → dx ≠ p → sp (.ref p :: vs) (upd (upd H dx (.own p)) p (.ins C dx [])) (fun v G => v = .non ∧ Q (.ref p) G) E) :
    wpAny (model X.prog X.w) X.A (call (.ref C) us) (EP X pins σ Q) X.xe s := by
  have J := Inv.made (C := C) I
  have want := h _ _ (I.hok.fresh (Nat.le_succ _)) (I.hok.fresh (Nat.le_refl _)) (Nat.ne_of_lt (Nat.lt_succ_self _))
  have r2 : Vals (V.ref (s.heap.objs.size + 1) :: vs) (Value.ref (s.heap.objs.size + 1) :: us) := .cons rfl r
  have bi := hb { s with heap := (s.heap.push PySem.W.emptyDict).push (PySem.W.instObj C s.heap.objs.size) } (Value.ref (s.heap.objs.size + 1) :: us) J.kIn (by rw [List.append_nil, ← r2.length]; exact F.len _ _ _ _ want)
  rw [List.append_nil] at bi
  refine wpAny_call (make_map (f := f) I.kIn M.makes M.init (beq_iff_eq.mp M.fn) (codeAny_mono (F.run _ X.stack _ _ _ _ _ _ E (rm.make C us []) (quiet_make qt C us []) (J.env0.make C us []) bi r2 want) fun r t z => ?_))
  have y := back_of J hx z
  clear z
  match r, y with
  | .error _, y => exact y
  | .ok (.ret u), y =>
    obtain ⟨v, G, J2, ru, ev, q⟩ := y
    subst ev
    exact ⟨ru, V.ref (s.heap.objs.size + 1), G, J2, rfl, q⟩
end
/-- the head: the law's def is called where no repr is under way -/
theorem law_callG {P : Program} {w : World} {K : PySem.W.Frag} {mg mb : Str → Option Value} {k : Nat} {fa a : Addr} {fd : FuncData} {x : Str} {sp : Sp} {t : Shared} {vs : List Value} {ns : List Int}
    (kin : K.In t.heap) (gN : t.heap.Ns mainGlobals mg) (bN : t.heap.Ns builtinsNs mb) (bB : ∀ x : Str, x ≠ "__name__" → mb x = bootBuiltins x) (nl : t.heap.NoLimit) (gz : t.gens = #[])
    (ob : t.heap.get? a = some { cls := .type "list", data := .seq vs.toArray }) (inz : IntsAre vs ns) (fits : ns.length ≤ sizeLine) (rm : Room k callerA)
    (F : ∀ base : Heap, K.In base → base.Ns mainGlobals mg → FnG P w K mg base k fa fd [x] sp) (bi : ∀ (s : Shared) (u : Value), BindsTo s fd ⟨[u], []⟩ [(x, u)])
    (want : ∀ H : Hp, SqL K H a (ns.map V.int) → sp [.ref a] H (fun v _ => v = .bl true) fun _ _ _ => False) :
    codeAny (model P w) callerA (.call (.ref fa) ⟨[.ref a], []⟩) (fun r s' => r = .ok (.ret (.bool true)) ∧ OldK t.heap s'.heap ∧ s'.os = t.os ∧ AllBare s'.gens) t := by
  have vals := vals_ints inz
  have len := inz.length
  suffices go : ∀ H : Hp, (∀ b u, H b = some u → b = a ∧ K.lookup a = none ∧ u = .frz { cls := .type "list", data := .seq vs.toArray } (.lst (ns.map V.int))) → SqL K H a (ns.map V.int) → HOk P w H t.heap →
      codeAny (model P w) callerA (.call (.ref fa) ⟨[.ref a], []⟩) (fun r s' => r = .ok (.ret (.bool true)) ∧ OldK t.heap s'.heap ∧ s'.os = t.os ∧ AllBare s'.gens) t by
    cases lk : K.lookup a with
    | some o =>
      have z := kin a o lk
      rw [ob] at z
      cases z
      exact go (fun _ => none) (fun b u z => nomatch z) (.inr ⟨_, vs.toArray, _, lk, rfl, rfl, rfl, by rw [List.size_toArray, len]; exact fits, by simpa using vals⟩) fun b u z => nomatch z
    | none =>
      have at_ : ∀ b u, (if b = a then some (HO.frz { cls := .type "list", data := .seq vs.toArray } (.lst (ns.map V.int))) else none) = some u → b = a ∧ u = .frz { cls := .type "list", data := .seq vs.toArray } (.lst (ns.map V.int)) := fun b u z => by
        split at z
        · rename_i e; cases z; exact ⟨e, rfl⟩
        · cases z
      refine go (fun b => if b = a then some (.frz { cls := .type "list", data := .seq vs.toArray } (.lst (ns.map V.int))) else none) (fun b u z => ⟨(at_ b u z).1, lk, (at_ b u z).2⟩) (.inl (.inr ⟨_, if_pos rfl⟩)) fun b u z => ?_
      obtain ⟨rfl, rfl⟩ := at_ b u z
      exact ⟨ob, by rw [List.length_map]; exact fits, vs, _, vals, ob⟩
  intro H only sq hok
  have free : ∀ {b : Addr} {o : Obj}, t.heap.get? b = some o → o.data ≠ .seq vs.toArray → H b = none := fun {b o} z ne => by
    cases e : H b with
    | none => rfl
    | some u => obtain ⟨rfl, _⟩ := only b u e; rw [ob] at z; cases z; exact absurd rfl ne
  have names : ∀ {b : Addr} {m : Str → Option Value}, t.heap.Ns b m → (hidT t.heap H).Ns b m := fun {b m} ⟨o, es, ep, z, d, r⟩ => ⟨o, es, ep, hidT_get z (free z (by rw [d]; exact fun z => nomatch z)), d, r⟩
  have kin2 : K.In (hidT t.heap H) := fun b o z => hidT_get (kin b o z) (by
    cases e : H b with
    | none => rfl
    | some u => obtain ⟨rfl, z2, _⟩ := only b u e; rw [z2] at z; cases z)
  have md : Mod K mg (hidT t.heap H) := ⟨kin2, names gN, ⟨mb, names bN, bB⟩, let ⟨mc, z1, z2⟩ := nl; ⟨mc, names z1, z2⟩⟩
  have e0 : Env0 P w K mg (hidT t.heap H) callerA [] t H := ⟨rfl, md, fun b o z => of_hidT z, Nat.le_of_eq (hidT_size _ _), trivial, fun b z => absurd (show b ∈ ([] : List Addr) from z) (by simp), hok, .of_eq gz⟩
  refine codeAny_mono ((F _ kin2 (names gN)).run callerA [] t H ⟨[.ref a], []⟩ [.ref a] [.ref a] _ _ rm rfl e0 (bi t (.ref a)) (.cons rfl .nil) (want H sq)) fun r s' z => ?_
  match r, z with
  | .error e, z => obtain ⟨_, _, _, _, _, _, _, _, _, _, _, _, z⟩ := z; exact z.elim
  | .ok (.ret u), ⟨v, G, os, bare, un, hok', ru, q⟩ =>
    have q : v = .bl true := q
    subst q
    obtain rfl : u = Value.bool true := ru
    refine ⟨rfl, OldK.of_keep fun b o z => ?_, os, bare⟩
    cases e : H b with
    | none => exact un.keep b o z e (by intro y; exact absurd (show b ∈ ([] : List Addr) from y) (by simp)) (by simp)
    | some u =>
      obtain ⟨rfl, _, rfl⟩ := only b u e
      obtain ⟨z2, _⟩ := hok' _ _ (un.frzs _ _ _ e)
      rw [ob] at z
      cases z
      exact z2
theorem walk_g {l : PySem.W.OpenLaw} {n k : Nat} {q : Program} {loose : List Str} {XP : (Str → Option Value) → Heap → Prop} {YP : World → Heap → Prop} {d : DefRec} {K : Params → PySem.W.Frag} {sp : PySem.W.Frag → Sp} {x : Str}
    (hn : l.most = some n) (hn2 : n ≤ sizeLine) (hdf : d.params.defaults = []) (rm : Room k callerA) (hY : ∀ (w : World) (h : Heap), YP w h → (K w.params).In h)
    (F : ∀ (w : World) (mg : Str → Option Value) (fa : Addr) (h : Heap), (K w.params).In h → h.Ns mainGlobals mg → mg d.name = some (.ref fa) →
      ∃ fd : FuncData, (∀ (s : Shared) (u : Value), BindsTo s fd ⟨[u], []⟩ [(x, u)]) ∧ ∀ base : Heap, (K w.params).In base → base.Ns mainGlobals mg → FnG l.prog w (K w.params) mg base k fa fd [x] (sp (K w.params)))
    (want : ∀ (K : PySem.W.Frag) (H : Hp) (a : Addr) (ns : List Int), ns.length ≤ n → SqL K H a (ns.map V.int) → sp K [.ref a] H (fun v _ => v = .bl true) fun _ _ _ => False) :
    PySem.W.WalkO q loose XP YP l.row.toRowW d [] (fun f vs => PySem.call f vs) := by
  refine Att.attach_call hn hdf fun w s₀ t mg mb fa o pm cd doc a vs ns G Y ho hd hcd hmg ob inz hl gz => ?_
  obtain ⟨fd, bi, hF⟩ := F w mg fa _ (hY w _ Y) G.T.g hmg
  exact law_callG (hY w _ Y) G.T.g G.T.b G.T.builtins G.T.nolimit gz ob inz (Nat.le_trans hl hn2) rm hF bi fun H sq => want _ H a ns hl sq
end U
/-! rules by the construct alone: what is asked is found by the values -/
namespace U
open PySem PySem.Spec PyProof.Rows L2 ClX

/-! ### defs, classes, methods as they may be called; what they may raise goes to E -/
structure Fn (P : Program) (w : World) (K : PySem.W.Frag) (mg : Str → Option Value) (base : Heap) (k : Nat) (x : Str) (sp : Sp) : Prop where
  ex : ∃ (f : Addr) (fd : FuncData) (ps : List Str) (ds : List Value) (dvs : List V) (sp' : Sp), FnG P w K mg base k f fd ps sp' ∧ mg x = some (.ref f) ∧ PySem.W.keepIn K (.ref f) = true ∧ Binds K fd ps ds ∧ Vals dvs ds ∧ ∀ vs H Q E, sp vs H Q E → sp' (vs ++ dvs) H Q E
structure Mkr (P : Program) (w : World) (K : PySem.W.Frag) (mg : Str → Option Value) (base : Heap) (k : Nat) (x : Str) (C : Addr) (sp : Sp) : Prop where
  ex : ∃ (f : Addr) (fd : FuncData) (ps : List Str), Mk K C f ∧ FnG P w K mg base k f fd ps sp ∧ mg x = some (.ref C) ∧ Binds K fd ps []
structure Mth (P : Program) (w : World) (K : PySem.W.Frag) (mg : Str → Option Value) (base : Heap) (k : Nat) (C : Addr) (m : Str) (sp : Sp) : Prop where
  ex : ∃ (f : Addr) (fd : FuncData) (ps : List Str), Cls K C ∧ Meth K C m f ∧ FnG P w K mg base k f fd ps sp ∧ Binds K fd ps []

/-- where a call stands: the level at hand and what becomes of an exception (E); in a comprehension's block E is E0 -/
structure At (X : Cx) (j : Nat) (E : XK) : Prop where
  hr : Room j X.A
  hx : Passes (L2.CX X.prog X.w) X E
  qt : Quiet X.A
theorem At.e0 {X : Cx} {j : Nat} (hr : Room j X.A) (qt : Quiet X.A) : At X j E0 := ⟨hr, passL, qt⟩
theorem At.of {X : Cx} {j : Nat} {E : XK} (hr : Room j X.A) (qt : Quiet X.A) (tk : Takes X (fun cls d _ H => E cls d H)) : At X j E := ⟨hr, passes_call tk fun _ _ _ _ h => h, qt⟩

def tFn (P : Program) (w : World) (K : PySem.W.Frag) (mg : Str → Option Value) (base : Heap) (x : Str) (j : Nat) (E : XK) (t : TA) : TE := fun σ H Q => ∃ k sp, Fn P w K mg base k x sp ∧ k ≤ j ∧ t σ H fun vs H1 => sp vs H1 Q E
def tMkr (P : Program) (w : World) (K : PySem.W.Frag) (mg : Str → Option Value) (base : Heap) (x : Str) (j : Nat) (E : XK) (t : TA) : TE := fun σ H Q => ∃ k C sp, Mkr P w K mg base k x C sp ∧ k + 1 ≤ j ∧ t σ H fun vs H1 =>
  ∀ p dx, H1 p = none → H1 dx = none → dx ≠ p → sp (.ref p :: vs) (upd (upd H1 dx (.own p)) p (.ins C dx [])) (fun v H' => v = .non ∧ Q (.ref p) H') E
def tMth (P : Program) (w : World) (K : PySem.W.Frag) (mg : Str → Option Value) (base : Heap) (m : Str) (j : Nat) (E : XK) (ta : TE) (t : TA) : TE := fun σ H Q => ta σ H fun x H1 => ∃ a C dx fs k sp, x = .ref a ∧ H1 a = some (.ins C dx fs) ∧ Mth P w K mg base k C m sp ∧ k ≤ j ∧ fs.lookup m = none ∧
  t σ H1 fun vs H2 => sp (.ref a :: vs) H2 Q E

section
variable {X : Cx} {j : Nat} {E : XK} {x m : Str} {e o : Expr} {es : List Expr} {t : TA} {ta tb te : TE} {p pos apos : Pos}
theorem pe_fn (a : At X j E) (hg : Gl X x) (ha : PA X (e :: es) t)
    (hdb : (x == ("__debug__" : Str)) = false := by decide) (he : starEach (e :: es) X.env = (false, eval e X.env) :: starEach es X.env := by rfl) (hpl : (backTo pos (starEach es X.env)).any (·.1) = false := by rfl) :
    PE X (.Call (.Name x p) (e :: es) [] pos) (tFn X.prog X.w X.K X.mg X.base x j E t) := by
  refine ⟨fun pins s σ H Q I h => ?_⟩
  obtain ⟨k, sp, F, hk, h⟩ := h
  obtain ⟨f, fd, ps, ds, dvs, sp', F, hm, kp, b, rd, im⟩ := F.ex
  refine wpAny_Call_Name_kw (ld_glob I hg hm (PySem.W.callWith_K (h₀ := X.base) I.ok.mod.kin kp (thn (ha.run pos pins s σ H _ I h) fun us s1 ⟨vs, H1, I1, r, q⟩ => ⟨I1.kIn, ?_⟩) he hpl) hdb)
  exact run_gb F (a.hr.mono hk) a.qt b rd a.hx I1 r (im _ _ _ _ q)
theorem pe_fn0 (a : At X j E) (hg : Gl X x) (hdb : (x == ("__debug__" : Str)) = false := by decide) : PE X (.Call (.Name x p) [] [] pos) (tFn X.prog X.w X.K X.mg X.base x j E tNil) := by
  refine ⟨fun pins s σ H Q I h => ?_⟩
  obtain ⟨k, sp, F, hk, h⟩ := h
  obtain ⟨f, fd, ps, ds, dvs, sp', F, hm, kp, b, rd, im⟩ := F.ex
  exact wpAny_Call_Name_kw (ld_glob I hg hm (PySem.W.callWith_K0 I.kIn kp (run_gb (us := []) F (a.hr.mono hk) a.qt b rd a.hx I .nil (im _ _ _ _ h))) hdb)
theorem pe_mkr (a : At X j E) (hg : Gl X x) (ha : PA X (e :: es) t)
    (hdb : (x == ("__debug__" : Str)) = false := by decide) (he : starEach (e :: es) X.env = (false, eval e X.env) :: starEach es X.env := by rfl) (hpl : (backTo pos (starEach es X.env)).any (·.1) = false := by rfl) :
    PE X (.Call (.Name x p) (e :: es) [] pos) (tMkr X.prog X.w X.K X.mg X.base x j E t) := by
  refine ⟨fun pins s σ H Q I h => ?_⟩
  obtain ⟨k, C, sp, F, hk, h⟩ := h
  obtain ⟨f, fd, ps, M, F, hm, b⟩ := F.ex
  refine wpAny_Call_Name_kw (ld_glob I hg hm (PySem.W.callWith_K (h₀ := X.base) I.ok.mod.kin M.kp (thn (ha.run pos pins s σ H _ I h) fun us s1 ⟨vs, H1, I1, r, q⟩ => ⟨I1.kIn, ?_⟩) he hpl) hdb)
  exact run_mkG M F (a.hr.mono hk) a.qt b a.hx I1 r q
theorem pe_mkr0 (a : At X j E) (hg : Gl X x) (hdb : (x == ("__debug__" : Str)) = false := by decide) : PE X (.Call (.Name x p) [] [] pos) (tMkr X.prog X.w X.K X.mg X.base x j E tNil) := by
  refine ⟨fun pins s σ H Q I h => ?_⟩
  obtain ⟨k, C, sp, F, hk, h⟩ := h
  obtain ⟨f, fd, ps, M, F, hm, b⟩ := F.ex
  exact wpAny_Call_Name_kw (ld_glob I hg hm (PySem.W.callWith_K0 I.kIn M.kp (run_mkG (us := []) M F (a.hr.mono hk) a.qt b a.hx I .nil h)) hdb)
theorem pe_mth {pl : Sem Bool} (a : At X j E) (ho : PE X o ta) (ha : PA X (e :: es) t)
    (hst : starEach (e :: es) X.env = (false, eval e X.env) :: starEach es X.env := by rfl) (hpl : (backTo pos (starEach es X.env)).any (·.1) = false := by rfl)
    (ht : eval (.Call (.Attribute o m apos) (e :: es) [] pos) X.env = (do
      let ov ← eval o X.env
      standAt apos.atName
      let (f, first) ← holding [ov] (getMethod ov m pl)
      callWith pos f first (backTo pos (starEach (e :: es) X.env)) (backToKw pos (keywordEach [] X.env))) := by rfl) :
    PE X (.Call (.Attribute o m apos) (e :: es) [] pos) (tMth X.prog X.w X.K X.mg X.base m j E ta t) := by
  refine ⟨fun pins s σ H Q I h => PySem.W.methodCall_KW (pl := pl) (thn (ho.run pins s σ H _ I h) fun u s1 ⟨x, H1, I1, rx, y, C, dx, fs, k, sp, ex, ea, M, hk, l, q⟩ => ?_) ht⟩
  subst ex
  obtain rfl : u = Value.ref y := rx
  obtain ⟨f, fd, ps, c, hm, F, b⟩ := M.ex
  refine getmeth_ok I1 ea c hm l (PySem.W.callWith_K (first := [.ref y]) (h₀ := X.base) I.ok.mod.kin hm.kp (thn (ha.run pos pins s1 σ H1 _ I1 q) fun us s2 ⟨vs, H2, I2, r, q2⟩ => ⟨I2.kIn, ?_⟩) hst hpl)
  exact run_gb (us := .ref y :: us) (vs := .ref y :: vs) F (a.hr.mono hk) a.qt b .nil a.hx I2 (.cons rfl r) (by rw [List.append_nil]; exact q2)
theorem pe_mth0 {pl : Sem Bool} (a : At X j E) (ho : PE X o ta)
    (ht : eval (.Call (.Attribute o m apos) [] [] pos) X.env = (do
      let ov ← eval o X.env
      standAt apos.atName
      let (f, first) ← holding [ov] (getMethod ov m pl)
      callWith pos f first (backTo pos (starEach [] X.env)) (backToKw pos (keywordEach [] X.env))) := by rfl) :
    PE X (.Call (.Attribute o m apos) [] [] pos) (tMth X.prog X.w X.K X.mg X.base m j E ta tNil) := by
  refine ⟨fun pins s σ H Q I h => PySem.W.methodCall_KW (pl := pl) (thn (ho.run pins s σ H _ I h) fun u s1 ⟨x, H1, I1, rx, y, C, dx, fs, k, sp, ex, ea, M, hk, l, q⟩ => ?_) ht⟩
  subst ex
  obtain rfl : u = Value.ref y := rx
  obtain ⟨f, fd, ps, c, hm, F, b⟩ := M.ex
  exact getmeth_ok I1 ea c hm l (PySem.W.callWith_K0 (first := [.ref y]) I1.kIn hm.kp (run_gb (us := [.ref y]) (vs := [.ref y]) F (a.hr.mono hk) a.qt b .nil a.hx I1 (.cons rfl .nil) q))

/-! ### attributes -/
/-- reading the attribute f of what stands at a gives v -/
inductive Att (P : Program) (w : World) (K : PySem.W.Frag) (mg : Str → Option Value) (base : Heap) (H : Hp) (a : Addr) (f : Str) (v : V) : Prop where
  | fld {C dx : Addr} {fs : List (Str × V)} (h : H a = some (.ins C dx fs)) (c : Cls K C) (n : NoAttr K C f) (l : fs.lookup f = some v)
  | con {C dx : Addr} {fs : List (Str × V)} {u : Value} (h : H a = some (.ins C dx fs)) (c : Cls K C) (k : Con K C f v u) (l : fs.lookup f = none)
  | prop {C dx p g : Addr} {fs : List (Str × V)} {f' : Str} {fd : FuncData} (h : H a = some (.ins C dx fs)) (c : Cls K C) (pr : PropOf K C f p g) (F : FnOk P w K mg base (L2.CX P w) 1 g fd ["self"] (getSp C f')) (b : Binds K fd ["self"] []) (l : fs.lookup f' = some v)
  | cls {mc u : Value} (r : CRead K a mc) (k : CVal K a mc f v u)
def tAtt (P : Program) (w : World) (K : PySem.W.Frag) (mg : Str → Option Value) (base : Heap) (f : Str) (ta : TE) : TE := fun σ H Q => ta σ H fun x H1 => ∃ a v, x = .ref a ∧ Att P w K mg base H1 a f v ∧ Q v H1
theorem pe_att {f : Str} (hr : Room j X.A) (he : PE X e ta) (hj : 2 ≤ j := by decide) (hab : attributeBase e f X.env (eval e X.env) = eval e X.env := by rfl) : PE X (.Attribute e f pos) (tAtt X.prog X.w X.K X.mg X.base f ta) := by
  refine ⟨fun pins s σ H Q I h => attr_of hab (thn (he.run pins s σ H _ I h) fun u s1 ⟨x, H1, I1, rx, a, v, ex, at_, q⟩ => ?_)⟩
  subst ex
  obtain rfl : u = Value.ref a := rx
  cases at_ with
  | fld h c n l => exact getattr_ok I1 h c n l fun u' s2 I2 ru => ⟨v, H1, I2, ru, q⟩
  | con h c k l => exact getcon_ok I1 h c k l fun s2 I2 => ⟨v, H1, I2, k.rel, q⟩
  | prop h c pr F b l => exact getprop_ok (E := E0) (dvs := []) I1 h c pr F (hr.mono hj) b .nil passL ⟨a, _, _, v, rfl, h, l, q⟩
  | cls r k => exact getcval_ok I1 r k fun s2 I2 => ⟨v, H1, I2, k.rel, q⟩

/-! ### operators by the values -/
def uAdd : R2 := fun x y H Q => match x, y with
  | .int i, .int j => Q (.int (i + j)) H
  | .str a, .str b => a.length + b.length ≤ sizeLine ∧ Q (.str (a ++ b)) H
  | .ref l, .ref b => ∃ xs zs, H l = some (.lst xs) ∧ H b = some (.lst zs) ∧ xs.length + zs.length ≤ sizeLine ∧ ∀ p, H p = none → Q (.ref p) (upd H p (.lst (xs ++ zs)))
  | _, _ => False
theorem op_uAdd : OpR X (binaryOp .Add) uAdd := by
  intro pins s σ H x y v u Q I rx ry h
  match x, y, h with
  | .int i, .int j, h => exact op_add pins s σ H _ _ v u Q I rx ry ⟨i, j, rfl, rfl, h⟩
  | .str a, .str b, h => exact op_add_str pins s σ H _ _ v u Q I rx ry ⟨a, b, rfl, rfl, h⟩
  | .ref l, .ref b, h =>
    obtain ⟨xs, zs, h⟩ := h
    exact op_cat pins s σ H _ _ v u Q I rx ry ⟨l, b, xs, zs, rfl, rfl, h⟩
def uSub : R2 := fun x y H Q => match x, y with
  | .int i, .int j => Q (.int (i - j)) H
  | _, _ => False
theorem op_uSub : OpR X (binaryOp .Sub) uSub := by
  intro pins s σ H x y v u Q I rx ry h
  match x, y, h with
  | .int i, .int j, h => exact op_sub pins s σ H _ _ v u Q I rx ry ⟨i, j, rfl, rfl, h⟩
def uMul : R2 := fun x y H Q => match x, y with
  | .int i, .int j => CMul i j ∧ Q (.int (i * j)) H
  | .ref l, .int k => ∃ xs, H l = some (.lst xs) ∧ -(2 ^ 63) ≤ k ∧ k < 2 ^ 63 ∧ xs.length * k.toNat ≤ sizeLine ∧ ∀ p, H p = none → Q (.ref p) (upd H p (.lst (List.replicate k.toNat xs).flatten))
  | _, _ => False
theorem op_uMul : OpR X (binaryOp .Mult) uMul := by
  intro pins s σ H x y v u Q I rx ry h
  match x, y, h with
  | .int i, .int j, h => exact op_mul pins s σ H _ _ v u Q I rx ry ⟨i, j, rfl, rfl, h⟩
  | .ref l, .int k, h =>
    obtain ⟨xs, h⟩ := h
    exact op_rep pins s σ H _ _ v u Q I rx ry ⟨l, k, xs, rfl, rfl, h⟩
def uDiv : R2 := fun x y H Q => match x, y with
  | .int i, .int j => (0 < j ∧ j.natAbs.log2 < 9000) ∧ Q (.int (i / j)) H
  | _, _ => False
theorem op_uDiv : OpR X (binaryOp .FloorDiv) uDiv := by
  intro pins s σ H x y v u Q I rx ry h
  match x, y, h with
  | .int i, .int j, h => exact op_fdivW pins s σ H _ _ v u Q I rx ry ⟨i, j, rfl, rfl, h⟩
def uMod : R2 := fun x y H Q => match x, y with
  | .int i, .int j => 0 < j ∧ Q (.int (i % j)) H
  | _, _ => False
theorem op_uMod : OpR X (binaryOp .Mod) uMod := by
  intro pins s σ H x y v u Q I rx ry h
  match x, y, h with
  | .int i, .int j, h => exact op_mod pins s σ H _ _ v u Q I rx ry ⟨i, j, rfl, rfl, h⟩
def uPow : R2 := fun x y H Q => match x, y with
  | .int i, .int j => (0 ≤ j ∧ (Builtin.Int.intBits i : Int) * j ≤ 2 ^ 27) ∧ Q (.int (i ^ j.toNat)) H
  | _, _ => False
theorem op_uPow : OpR X (binaryOp .Pow) uPow := by
  intro pins s σ H x y v u Q I rx ry h
  match x, y, h with
  | .int i, .int j, h =>
    exact opI (C := fun i j => 0 ≤ j ∧ (Builtin.Int.intBits i : Int) * j ≤ 2 ^ 27) (g := fun i j => i ^ j.toNat) (fun _ _ _ _ _ _ _ hc q => pow_int hc.1 hc.2 q) pins s σ H _ _ v u Q I rx ry ⟨i, j, rfl, rfl, h⟩
def uCmp (g : Int → Int → Bool) (gs : List Nat → List Nat → Bool) : R2 := fun x y H Q => match x, y with
  | .int i, .int j => Q (.bl (g i j)) H
  | .str a, .str b => Q (.bl (gs a.cps.toList b.cps.toList)) H
  | _, _ => False
def uLt : R2 := uCmp (fun i j => decide (i < j)) (fun a b => decide (a < b))
def uLe : R2 := uCmp (fun i j => decide (i ≤ j)) (fun a b => !decide (b < a))
def uGt : R2 := uCmp (fun i j => decide (j < i)) (fun a b => decide (b < a))
def uGe : R2 := uCmp (fun i j => decide (j ≤ i)) (fun a b => !decide (a < b))
theorem op_uLt : OpR X (compareOp .Lt) uLt := by
  intro pins s σ H x y v u Q I rx ry h
  match x, y, h with
  | .int i, .int j, h => exact op_lt pins s σ H _ _ v u Q I rx ry ⟨i, j, rfl, rfl, h⟩
  | .str i, .str j, h => exact op_lt_str pins s σ H _ _ v u Q I rx ry ⟨i, j, rfl, rfl, h⟩
theorem op_uLe : OpR X (compareOp .LtE) uLe := by
  intro pins s σ H x y v u Q I rx ry h
  match x, y, h with
  | .int i, .int j, h => exact op_le pins s σ H _ _ v u Q I rx ry ⟨i, j, rfl, rfl, h⟩
  | .str i, .str j, h => exact op_le_str pins s σ H _ _ v u Q I rx ry ⟨i, j, rfl, rfl, h⟩
theorem op_uGt : OpR X (compareOp .Gt) uGt := by
  intro pins s σ H x y v u Q I rx ry h
  match x, y, h with
  | .int i, .int j, h => exact op_gt pins s σ H _ _ v u Q I rx ry ⟨i, j, rfl, rfl, h⟩
  | .str i, .str j, h => exact op_gt_str pins s σ H _ _ v u Q I rx ry ⟨i, j, rfl, rfl, h⟩
theorem op_uGe : OpR X (compareOp .GtE) uGe := by
  intro pins s σ H x y v u Q I rx ry h
  match x, y, h with
  | .int i, .int j, h => exact op_ge pins s σ H _ _ v u Q I rx ry ⟨i, j, rfl, rfl, h⟩
  | .str i, .str j, h => exact op_ge_str pins s σ H _ _ v u Q I rx ry ⟨i, j, rfl, rfl, h⟩
/-- x == y: scalars; else data of any depth, or two lists of unlike lengths -/
def uEqB (K : PySem.W.Frag) (neg : Bool) : R2 := fun x y H Q =>
  (∃ d e, Dp K H x d ∧ Dp K H y e ∧ SeqAt.shaped d = true ∧ SeqAt.shaped e = true ∧ Q (.bl (if neg = true then !PyData.eqv d e else PyData.eqv d e)) H) ∨
  (∃ p q xs ys, x = .ref p ∧ y = .ref q ∧ SqL K H p xs ∧ SqL K H q ys ∧ xs.length ≠ ys.length ∧ Q (.bl neg) H)
def uEq (K : PySem.W.Frag) : R2 := fun x y H Q => if scal x y = true then Q (.bl (decide (x = y))) H else uEqB K false x y H Q
def uNe (K : PySem.W.Frag) : R2 := fun x y H Q => if scal x y = true then Q (.bl (!decide (x = y))) H else uEqB K true x y H Q
theorem len_ne {p q : Addr} {xs ys : List V} {pins : List (Addr × Obj)} {s : Shared} {σ : L2.St} {H : Hp} (I : Inv X pins σ H s) (h1 : SqL X.K H p xs) (h2 : SqL X.K H q ys) (hn : xs.length ≠ ys.length) :
    ∃ its its2 : Array Value, s.heap.IsList p its ∧ s.heap.IsList q its2 ∧ (its.size != its2.size) = true := by
  obtain ⟨its, r, pl, _⟩ := I.list h1
  obtain ⟨its2, r2, pl2, _⟩ := I.list h2
  refine ⟨_, _, pl.isList, pl2.isList, ?_⟩
  have e1 := r.length
  have e2 := r2.length
  simp only [List.size_toArray, bne_iff_ne, ne_eq]
  omega
theorem op_uEq (hr : Room j X.A) : OpR X (compareOp .Eq) (uEq X.K) := by
  intro pins s σ H x y v u Q I rx ry h
  unfold uEq at h
  split at h
  · rename_i c; exact op_eq pins s σ H _ _ v u Q I rx ry ⟨c, h⟩
  · rcases h with h | ⟨p, q, xs, ys, rfl, rfl, h1, h2, hn, h⟩
    · exact op_eqD hr.units pins s σ H _ _ v u Q I rx ry h
    · cases rx
      cases ry
      obtain ⟨its, its2, l1, l2, ne⟩ := len_ne I h1 h2 hn
      exact SeqAt.RcAt.lists_lengths l1 l2 ne hr.units0 X.prog X.w _ _ ⟨.bl false, H, I, rfl, h⟩
theorem op_uNe (hr : Room j X.A) : OpR X (compareOp .NotEq) (uNe X.K) := by
  intro pins s σ H x y v u Q I rx ry h
  unfold uNe at h
  split at h
  · rename_i c; exact op_ne pins s σ H _ _ v u Q I rx ry ⟨c, h⟩
  · rcases h with h | ⟨p, q, xs, ys, rfl, rfl, h1, h2, hn, h⟩
    · exact op_neD hr.units pins s σ H _ _ v u Q I rx ry h
    · cases rx
      cases ry
      obtain ⟨its, its2, l1, l2, ne⟩ := len_ne I h1 h2 hn
      exact SeqAt.RcNeAt.lists_lengths l1 l2 ne hr.units0 X.prog X.w _ _ ⟨.bl true, H, I, rfl, h⟩
/-- in, not in: a sign in a text, a flat value in a list or tuple -/
def uIn (K : PySem.W.Frag) (neg : Bool) : R2 := fun x y H Q => match y with
  | .str z => ∃ c : Nat, x = .str ⟨#[c]⟩ ∧ Q (.bl (if neg = true then !decide (c ∈ z.cps.toList) else decide (c ∈ z.cps.toList))) H
  | .ref p => (∃ xs, (SqL K H p xs ∨ SqT K H p xs) ∧ flatV x = true ∧ xs.all flatV = true ∧ Q (.bl (if neg = true then !inV x xs else inV x xs)) H) ∨
    (∃ d ds, Dp K H x d ∧ Dp K H (.ref p) (.list ds) ∧ SeqAt.shaped d = true ∧ SeqAt.shaped (.list ds) = true ∧ Q (.bl (if neg = true then !ds.any fun z => PyData.eqv z d else ds.any fun z => PyData.eqv z d)) H) ∨
    ∃ o, DGet H p x o ∧ Q (.bl (if neg = true then !o.isSome else o.isSome)) H
  | _ => False
theorem units65 (hr : Room j X.A) : X.A.units + 65 < cLine := by
  have := hr.un
  omega
theorem op_uIn (hr : Room j X.A) : OpR X (compareOp .In) (uIn X.K false) := by
  intro pins s σ H x y v u Q I rx ry h
  match y, h with
  | .str z, h => obtain ⟨c, e, h⟩ := h; exact op_in_sign pins s σ H _ _ v u Q I rx ry ⟨c, z, e, rfl, h⟩
  | .ref p, .inl h => obtain ⟨xs, h1, h2, h3, h⟩ := h; exact op_in_seq pins s σ H _ _ v u Q I rx ry ⟨p, xs, rfl, h1, h2, h3, h⟩
  | .ref p, .inr (.inl h) => exact op_inD (units65 hr) pins s σ H _ _ v u Q I rx ry h
  | .ref p, .inr (.inr h) =>
    obtain ⟨o, g, q⟩ := h
    obtain rfl : u = Value.ref p := ry
    exact d_in (hu_of hr) I g rx fun s3 I3 => ⟨.bl o.isSome, H, I3, rfl, q⟩
theorem op_uNotIn (hr : Room j X.A) : OpR X (compareOp .NotIn) (uIn X.K true) := by
  intro pins s σ H x y v u Q I rx ry h
  match y, h with
  | .str z, h => obtain ⟨c, e, h⟩ := h; exact op_notIn_sign pins s σ H _ _ v u Q I rx ry ⟨c, z, e, rfl, h⟩
  | .ref p, .inl h => obtain ⟨xs, h1, h2, h3, h⟩ := h; exact op_notIn_seq pins s σ H _ _ v u Q I rx ry ⟨p, xs, rfl, h1, h2, h3, h⟩
  | .ref p, .inr (.inl h) => exact op_notInD (units65 hr) pins s σ H _ _ v u Q I rx ry h
  | .ref p, .inr (.inr h) =>
    obtain ⟨o, g, q⟩ := h
    obtain rfl : u = Value.ref p := ry
    exact d_notIn (hu_of hr) I g rx fun s3 I3 => ⟨.bl (!o.isSome), H, I3, rfl, q⟩
/-- x is None -/
def uIs : R2 := fun x y H Q => y = .non ∧ Q (.bl (decide (x = .non))) H
def uIsNot : R2 := fun x y H Q => y = .non ∧ Q (.bl (!decide (x = .non))) H
theorem op_uIs : OpR X (compareOp .Is) uIs := op_isN
theorem op_uIsNot : OpR X (compareOp .IsNot) uIsNot := op_notN
/-- x[i] -/
def uIx (K : PySem.W.Frag) : R2 := fun x y H Q => match x, y with
  | .ref p, .int i => ∃ xs v, (SqL K H p xs ∨ SqT K H p xs) ∧ atI xs i = some v ∧ Q v H
  | .str z, .int i => ∃ c, z.length ≤ sizeLine ∧ atI z.cps.toList i = some c ∧ Q (.str ⟨#[c]⟩) H
  | _, _ => False
theorem ix_u : IxR X (uIx X.K) := by
  intro value slice pins s σ H x y v u Q I rx ry h hs
  match x, y, h with
  | .ref p, .int i, h =>
    obtain ⟨xs, v, h1, h2, h⟩ := h
    exact ix_seq value slice pins s σ H _ _ _ u Q I rx ry (h1.elim (fun z => .inl ⟨p, xs, i, v, rfl, rfl, z, h2, h⟩) fun z => .inr (.inl ⟨p, xs, i, v, rfl, rfl, z, h2, h⟩)) hs
  | .str z, .int i, h =>
    obtain ⟨c, h1, h2, h⟩ := h
    exact ix_seq value slice pins s σ H _ _ _ u Q I rx ry (.inr (.inr ⟨z, i, c, rfl, rfl, h1, h2, h⟩)) hs
/-- -x -/
def uNeg : V → Hp → VK → Prop := fun x H Q => match x with
  | .int i => Q (.int (-i)) H
  | _ => False
theorem un_uNeg : UnR X (unaryOp .USub) uNeg := by
  intro pins s σ H x v Q I rx h
  match x, h with
  | .int i, h => exact un_neg pins s σ H _ v Q I rx ⟨i, rfl, h⟩

/-! ### calls of builtins by the values -/
def cLen (K : PySem.W.Frag) : List V → Hp → VK → Prop := fun xs H Q => match xs with
  | [.ref p] => ∃ ys, (SqL K H p ys ∨ SqT K H p ys) ∧ Q (.int ys.length) H
  | [.str z] => z.length ≤ sizeLine ∧ Q (.int z.length) H
  | _ => False
theorem call_cLen : CallR X (.builtin "len") (cLen X.K) := by
  intro pins s σ H xs us Q I r h
  match xs, h with
  | [.ref p], h => obtain ⟨ys, h⟩ := h; exact call_len_seq pins s σ H _ us Q I r ⟨p, ys, rfl, h⟩
  | [.str z], h => exact call_len_str pins s σ H _ us Q I r ⟨z, rfl, h⟩
def cAbs : List V → Hp → VK → Prop := fun xs H Q => match xs with
  | [.int i] => Q (.int (if i < 0 then -i else i)) H
  | _ => False
theorem call_cAbs : CallR X (.builtin "abs") cAbs := by
  intro pins s σ H xs us Q I r h
  match xs, h with
  | [.int i], h => exact call_abs pins s σ H _ us Q I r ⟨i, rfl, h⟩
def cMax (K : PySem.W.Frag) : List V → Hp → VK → Prop := fun xs H Q => match xs with
  | [.int i, .int j] => Q (.int (if j > i then j else i)) H
  | [.ref p] => ∃ ns : List Int, SqL K H p (ns.map V.int) ∧ 0 < ns.length ∧ ∀ m, m ∈ ns → (∀ y ∈ ns, y ≤ m) → Q (.int m) H
  | _ => False
theorem call_cMax (hc : X.calm = true) : CallR X (.builtin "max") (cMax X.K) := by
  intro pins s σ H xs us Q I r h
  match xs, h with
  | [.int i, .int j], h => exact call_max2 hc pins s σ H _ us Q I r ⟨i, j, rfl, h⟩
  | [.ref p], h => obtain ⟨ns, h1, h2, h⟩ := h; exact cr_max hc pins s σ H _ us Q I r ⟨p, ns, rfl, h1, h2, h⟩
def cMin (K : PySem.W.Frag) : List V → Hp → VK → Prop := fun xs H Q => match xs with
  | [.int i, .int j] => Q (.int (if j < i then j else i)) H
  | _ => False
theorem call_cMin (hc : X.calm = true) : CallR X (.builtin "min") (cMin X.K) := by
  intro pins s σ H xs us Q I r h
  match xs, h with
  | [.int i, .int j], h => exact call_min2 hc pins s σ H _ us Q I r ⟨i, j, rfl, h⟩
def cAll (K : PySem.W.Frag) : List V → Hp → VK → Prop := fun xs H Q => match xs with
  | [.ref p] => ∃ bs : List Bool, SqL K H p (bs.map V.bl) ∧ Q (.bl (bs.all id)) H
  | _ => False
theorem call_cAll (hc : X.calm = true) : CallR X (.builtin "all") (cAll X.K) := by
  intro pins s σ H xs us Q I r h
  match xs, h with
  | [.ref p], h => obtain ⟨bs, h⟩ := h; exact cr_all hc pins s σ H _ us Q I r ⟨p, bs, rfl, h⟩
def cList (K : PySem.W.Frag) : List V → Hp → VK → Prop := fun xs H Q => match xs with
  | [.ref p] => ∃ ys, (SqL K H p ys ∨ SqT K H p ys) ∧ ∀ l, H l = none → Q (.ref l) (upd H l (.lst ys))
  | _ => False
theorem call_cList : CallR X (.type "list") (cList X.K) := by
  intro pins s σ H xs us Q I r h
  match xs, h with
  | [.ref p], h => obtain ⟨ys, h⟩ := h; exact call_list_of pins s σ H _ us Q I r ⟨p, ys, rfl, h⟩
/-- sorted of ints -/
def cSort (K : PySem.W.Frag) : List V → Hp → VK → Prop := fun xs H Q => match xs with
  | [.ref p] => ∃ ns : List Int, SqL K H p (ns.map V.int) ∧ ∀ (ns' : List Int) (l : Addr), ns'.Perm ns → ns'.Pairwise (· ≤ ·) → H l = none → Q (.ref l) (upd H l (.lst (ns'.map V.int)))
  | _ => False
/-- isinstance(x, c) -/
def Isi (K : PySem.W.Frag) (H : Hp) (x c : V) (b : Bool) : Prop := ∃ (t u : Value), ClsV c u ∧ TyX K H x t ∧ PySem.W.kitOne K t u = some b
def cIsi (K : PySem.W.Frag) : List V → Hp → VK → Prop := fun xs H Q => match xs with
  | [x, c] => ∃ b, Isi K H x c b ∧ Q (.bl b) H
  | _ => False
theorem call_cIsi : CallR X (.builtin "isinstance") (cIsi X.K) := by
  intro pins s σ H xs us Q I r h
  match xs, h with
  | [x, c], h => obtain ⟨b, ⟨t, u, h1, h2, h3⟩, h⟩ := h; exact call_isi pins s σ H _ us Q I r ⟨x, c, t, u, b, rfl, h1, h2, h3, h⟩
theorem call_cSort : CallR X (.builtin "sorted") (cSort X.K) := by
  intro pins s σ H xs us Q I r h
  match xs, h with
  | [.ref p], h => obtain ⟨ns, h⟩ := h; exact cr_sortedI pins s σ H _ us Q I r ⟨p, ns, rfl, h⟩
/-- sorted of texts -/
def cSortS (K : PySem.W.Frag) : List V → Hp → VK → Prop := fun xs H Q => match xs with
  | [.ref p] => ∃ zs : List Str, SqL K H p (zs.map V.str) ∧ zs.length < 64 ∧ ∀ (ys : List Str) (l : Addr), ys.Perm zs → sortedS ys = true → H l = none → Q (.ref l) (upd H l (.lst (ys.map V.str)))
  | _ => False
theorem call_cSortS : CallR X (.builtin "sorted") (cSortS X.K) := by
  intro pins s σ H xs us Q I r h
  match xs, h with
  | [.ref p], h => obtain ⟨zs, h⟩ := h; exact cr_sortedS pins s σ H _ us Q I r ⟨p, zs, rfl, h⟩
/-- sorted of a dict with ints as keys -/
def cSortD : List V → Hp → VK → Prop := fun xs H Q => match xs with
  | [.ref p] => ∃ (kvs : List (Key × V)) (ks : List Int), H p = some (.dK kvs) ∧ kvs.map (·.1) = ks.map Sum.inl ∧ ks.length < 64 ∧ ∀ (ys : List Int) (l : Addr), ys.Perm ks → ys.Pairwise (· ≤ ·) → H l = none → Q (.ref l) (upd H l (.lst (ys.map V.int)))
  | _ => False
theorem call_cSortD (hc : X.calm = true) : CallR X (.builtin "sorted") cSortD := by
  intro pins s σ H xs us Q I r h
  match xs, h with
  | [.ref p], h => obtain ⟨kvs, ks, h1, h2, h3, h⟩ := h; exact call_sortedDI hc pins s σ H _ us Q I r ⟨p, kvs, ks, rfl, .of h1, h2, h3, h⟩
/-- int(x) -/
def cInt : List V → Hp → VK → Prop := fun xs H Q => match xs with
  | [.int i] => Q (.int i) H
  | [.bl k] => Q (.int (if k = true then 1 else 0)) H
  | _ => False
theorem call_cInt : CallR X (.type "int") cInt := by
  intro pins s σ H xs us Q I r h
  match xs, h with
  | [.int i], h => exact call_int1 pins s σ H _ us Q I r (.inl ⟨i, rfl, h⟩)
  | [.bl k], h => exact call_int1 pins s σ H _ us Q I r (.inr ⟨k, rfl, h⟩)
def cTuple (K : PySem.W.Frag) : List V → Hp → VK → Prop := fun xs H Q => match xs with
  | [.ref p] => ∃ ys, (SqL K H p ys ∧ ∀ l, H l = none → Q (.ref l) (upd H l (.tup ys))) ∨ (SqT K H p ys ∧ Q (.ref p) H)
  | _ => False
theorem call_cTuple : CallR X (.type "tuple") (cTuple X.K) := by
  intro pins s σ H xs us Q I r h
  match xs, h with
  | [.ref p], h => obtain ⟨ys, h⟩ := h; exact call_tuple_of pins s σ H _ us Q I r ⟨p, ys, rfl, h⟩
/-- dict(pairs) -/
def cDict (K : PySem.W.Frag) : List V → Hp → VK → Prop := fun xs H Q => match xs with
  | [.ref p] => ∃ (ps : List Addr) (kvs : List (Key × V)), SqL K H p (ps.map V.ref) ∧ Paired (fun p kv => SqT K H p [kV kv.1, kv.2]) ps kvs ∧ ∀ l, H l = none → Q (.ref l) (upd H l (.dK (mergeK [] kvs)))
  | _ => False
theorem call_cDict (hc : X.calm = true) : CallR X (.type "dict") (cDict X.K) := by
  intro pins s σ H xs us Q I r h
  match xs, h with
  | [.ref p], h => obtain ⟨ps, kvs, h1, h2, h⟩ := h; exact call_dictP hc pins s σ H _ us Q I r ⟨p, ps, kvs, rfl, h1, h2, h⟩
/-- repr(int), repr(data) -/
def cRepr (K : PySem.W.Frag) : List V → Hp → VK → Prop := fun xs H Q => match xs with
  | [.int i] => i.natAbs.log2 < 1920 ∧ Q (.str (toString i)) H
  | [.non] => Q (.str "None") H
  | [.ref p] => ∃ d, Dp K H (.ref p) d ∧ d.showable = true ∧ d.hasDict = false ∧ d.depth ≤ 60 ∧ d.shown.length ≤ sizeLine ∧ Q (.str d.shown) H
  | _ => False
theorem call_cRepr (hr : Room j X.A) (qt : Quiet X.A) : CallR X (.builtin "repr") (cRepr X.K) := by
  intro pins s σ H xs us Q I r h
  match xs, h with
  | [.int i], h => exact SkE.call_repr_int pins s σ H _ us Q I r ⟨i, rfl, h⟩
  | [.non], h =>
    cases r with
    | cons r0 r1 =>
      cases r1
      obtain rfl : _ = Value.none := r0
      exact PySem.P.repr_of_none ⟨.str "None", H, I.tok _, ⟨_, rfl⟩, h⟩
  | [.ref p], h =>
    obtain ⟨d, dp, sh, nd, de, sz, q⟩ := h
    cases r with
    | cons r0 r1 =>
      cases r1
      cases r0
      obtain ⟨as, rd⟩ := Dp.reads I d (.ref p) (.ref p) dp rfl
      refine repr_of_reads' rd sh (fun z => by rw [nd] at z; cases z) qt (by have := hr.un; omega) (fun _ _ z => z) (fun h' u tk kp => ?_) sz
      exact ⟨.str d.shown, H, I.kept (t' := tk) kp, ⟨_, rfl⟩, q⟩

/-! ### x *= y -/
def ipM : TIp := fun x y H Q => ∃ i j, x = .int i ∧ y = .int j ∧ CMul i j ∧ Q (.int (i * j)) H
theorem ip_mul : PIp X .Mult ipM := by
  intro pins s σ H x y v u Q I r1 r2 h
  obtain ⟨i, j, rfl, rfl, c, q⟩ := h
  obtain ⟨t, rfl⟩ := r1
  obtain ⟨t', rfl⟩ := r2
  exact imul_int ⟨.int _, H, I.tok _, ⟨_, rfl⟩, q⟩ c.ok
/-! ### names of the module -/
theorem pe_g {v : V} (hg : Gl X x) (h : ∃ u, X.mg x = some u ∧ RelV v u) (hdb : (x == ("__debug__" : Str)) = false := by decide) : PE X (.Name x pos) (tC v) := by
  obtain ⟨u, hm, r⟩ := h
  exact pe_glob hg hm r hdb
/-! ### a, b, c = x, y, z: three locals -/
def tPar3 (i j k : Nat) (ta : TA) : TS := fun D σ H => ta σ H fun vs H1 => ∃ v w z, vs = [v, w, z] ∧ D.nx (((σ.set i (some v)).set j (some w)).set k (some z)) H1
theorem ps_par3 {i j k : Nat} {x y z : Str} {a b c : Expr} {ta : TA} {px py pz pt : Pos} {kt k2 pt2} (hc : X.calm = true) (hN : X.N.Nodup) (hi : X.N[i]? = some x) (hj : X.N[j]? = some y) (hk : X.N[k]? = some z) (hij : i ≠ j) (hik : i ≠ k) (hjk : j ≠ k)
    (hx : X.env.scope.names.lookup x = some .local) (hy : X.env.scope.names.lookup y = some .local) (hz : X.env.scope.names.lookup z = some .local) (ha : PA X [a, b, c] ta)
    (hw : swappedStores [.Tuple [.Name x px, .Name y py, .Name z pz] kt pt] (.Tuple [a, b, c] k2 pt2) X.env = pure (some [x, y, z]))
    (hs : swapsWithSole [.Tuple [.Name x px, .Name y py, .Name z pz] kt pt] (.Tuple [a, b, c] k2 pt2) pos.line X.env = pure false := by rfl) :
    PS X (.Assign [.Tuple [.Name x px, .Name y py, .Name z pz] kt pt] (.Tuple [a, b, c] k2 pt2) pos) (tPar3 i j k ta) := by
  refine ⟨fun pins s σ H D I h => ?_⟩
  rw [exec_Assign_arm]
  refine wpAny_bind (wpAny_standAt ?_)
  rw [hs]
  refine wpAny_bind (wpAny_pure ?_)
  rw [if_neg (by decide)]
  refine wpAny_bind (Tuple_ (thn (ha.run _ pins s σ H _ I h) fun us s1 ⟨vs, H1, I1, r1, v, w, q, e1, q1⟩ => ?_))
  subst e1
  obtain ⟨u1, u2, u3, rfl, rv, rw', rq⟩ : ∃ u1 u2 u3, us = [u1, u2, u3] ∧ RelV v u1 ∧ RelV w u2 ∧ RelV q u3 := by
    cases r1 with
    | cons a1 r1 =>
      cases r1 with
      | cons a2 r1 =>
        cases r1 with
        | cons a3 r1 => cases r1; exact ⟨_, _, _, rfl, a1, a2, a3⟩
  refine wpAny_newObj_type ?_ (by show 3 ≤ sizeLine; decide)
  have I2 : Inv X pins σ H1 { s1 with heap := s1.heap.push { cls := .type "tuple", data := .seq [u1, u2, u3].toArray } } := I1.kept (t' := s1.toks) fun b o e => Heap.get?_push_of_some _ e
  rw [hw]
  refine wpAny_bind (wpAny_pure ?_)
  unfold assignStores
  refine wpAny_bind (wpAny_rule (wpAny_bind (unpackItems_tuple (items := #[u1, u2, u3]) (I.ok.hd hc) (IsTup.new s1.heap _) fun h' hx' => ?_)))
  have I3 := I2.kept (h' := h') (t' := s1.toks) fun b o e => hx' b o (Nat.ne_of_lt (Heap.lt_size e)) e
  simp only [List.reverse_cons, List.reverse_nil, List.nil_append, List.cons_append, List.map_cons, List.map_nil]
  refine wpAny_bind (assignInOrder_cons (wpAny_bindName (store_ok I3 hN hk (.inl hz) rq (fun s2 I4 => ?_) (.inr hz))))
  refine assignInOrder_cons (wpAny_bindName (store_ok I4 hN hj (.inl hy) rw' (fun s3 I5 => ?_) (.inr hy)))
  refine assignInOrder_cons (wpAny_bindName (store_ok I5 hN hi (.inl hx) rv (fun s4 I6 => assignInOrder_nil (wpAny_pure ?_)) (.inr hx)))
  rw [List.set_comm _ _ (Ne.symm hij), List.set_comm _ _ (Ne.symm hik), List.set_comm _ _ (Ne.symm hjk)] at I6
  exact ⟨_, H1, I6, q1⟩

/-! ### calls by keywords alone (behind the receiver of a method) -/
structure KB (K : PySem.W.Frag) (fd : FuncData) (ps : List Str) (n : Nat) (ks : List Str) (g : List Value → List Value) (gV : List V → List V) : Prop where
  to : ∀ (s : Shared) (us ws : List Value), K.In s.heap → us.length = n → ws.length = ks.length → BindsTo s fd ⟨us, ks.zip ws⟩ (ps.zip (us ++ g ws))
  rel : ∀ {zs : List V} {ws : List Value}, Vals zs ws → Vals (gV zs) (g ws)
structure FnK (P : Program) (w : World) (K : PySem.W.Frag) (mg : Str → Option Value) (base : Heap) (k : Nat) (x : Str) (ks : List Str) (gV : List V → List V) (sp : Sp) : Prop where
  ex : ∃ (f : Addr) (fd : FuncData) (ps : List Str) (g : List Value → List Value), FnG P w K mg base k f fd ps sp ∧ mg x = some (.ref f) ∧ PySem.W.keepIn K (.ref f) = true ∧ KB K fd ps 0 ks g gV
structure MthK (P : Program) (w : World) (K : PySem.W.Frag) (mg : Str → Option Value) (base : Heap) (k : Nat) (C : Addr) (m : Str) (ks : List Str) (gV : List V → List V) (sp : Sp) : Prop where
  ex : ∃ (f : Addr) (fd : FuncData) (ps : List Str) (g : List Value → List Value), Cls K C ∧ Meth K C m f ∧ FnG P w K mg base k f fd ps sp ∧ KB K fd ps 1 ks g gV
def tFnK (P : Program) (w : World) (K : PySem.W.Frag) (mg : Str → Option Value) (base : Heap) (x : Str) (ks : List Str) (j : Nat) (E : XK) (t : TA) : TE := fun σ H Q => ∃ k gV sp, FnK P w K mg base k x ks gV sp ∧ k ≤ j ∧ t σ H fun vs H1 => vs.length = ks.length ∧ sp (gV vs) H1 Q E
def tMthK (P : Program) (w : World) (K : PySem.W.Frag) (mg : Str → Option Value) (base : Heap) (m : Str) (ks : List Str) (j : Nat) (E : XK) (ta : TE) (t : TA) : TE := fun σ H Q => ta σ H fun x H1 => ∃ a C dx fs k gV sp, x = .ref a ∧ H1 a = some (.ins C dx fs) ∧ MthK P w K mg base k C m ks gV sp ∧ k ≤ j ∧ fs.lookup m = none ∧
  t σ H1 fun vs H2 => vs.length = ks.length ∧ sp (.ref a :: gV vs) H2 Q E
theorem run_kb {k n : Nat} {f : Addr} {fd : FuncData} {ps ks : List Str} {sp : Sp} {g : List Value → List Value} {gV : List V → List V} {pins : List (Addr × Obj)} {σ : L2.St} {H : Hp} {s : Shared} {Q : VK} {us ws : List Value} {vs zs : List V} (F : FnG X.prog X.w X.K X.mg X.base k f fd ps sp) (a : At X j E) (hk : k ≤ j)
    (hb : KB X.K fd ps n ks g gV) (I : Inv X pins σ H s) (r : Vals vs us) (hn : us.length = n) (rz : Vals zs ws) (hl : zs.length = ks.length) (h : sp (vs ++ gV zs) H Q E) : wpAny (model X.prog X.w) X.A (call (.ref f) us (ks.zip ws)) (EP X pins σ Q) X.xe s :=
  run_g F (a.hr.mono hk) a.qt a.hx I (hb.to s us ws I.kIn hn (by rw [← rz.length]; exact hl)) (r.append (hb.rel rz)) h
section
variable {ks : List Str} {kws : List Keyword}
theorem pe_fnK (a : At X j E) (hg : Gl X x) (hkw : PK X kws t) (hall : (backToKw pos (keywordEach kws X.env)).all (·.1.isSome) = true := by rfl) (hks : (backToKw pos (keywordEach kws X.env)).filterMap (·.1) = ks := by rfl)
    (hdb : (x == ("__debug__" : Str)) = false := by decide) (hpl : ((backTo pos (starEach [] X.env)).any (·.1) || (backToKw pos (keywordEach kws X.env)).any (·.1.isNone)) = false := by rfl) :
    PE X (.Call (.Name x p) [] kws pos) (tFnK X.prog X.w X.K X.mg X.base x ks j E t) := by
  refine ⟨fun pins s σ H Q I h => ?_⟩
  obtain ⟨k, gV, sp, F, hk, h⟩ := h
  obtain ⟨f, fd, ps, g, F, hm, kp, b⟩ := F.ex
  refine wpAny_Call_Name_kw (ld_glob I hg hm (PySem.W.callWith_KW0 (h₀ := X.base) I.ok.mod.kin kp hall ?_ hpl) hdb)
  refine thn (hkw.run pos pins s σ H _ I h) fun ws s2 ⟨zs, H2, I2, rz, hl, q2⟩ => ⟨I2.kIn, ?_⟩
  rw [hks]
  exact run_kb (us := []) (vs := []) F a hk b I2 .nil rfl rz hl q2
theorem pe_mthK {pl : Sem Bool} (a : At X j E) (ho : PE X o ta) (hkw : PK X kws t) (hall : (backToKw pos (keywordEach kws X.env)).all (·.1.isSome) = true := by rfl) (hks : (backToKw pos (keywordEach kws X.env)).filterMap (·.1) = ks := by rfl)
    (hpl : ((backTo pos (starEach [] X.env)).any (·.1) || (backToKw pos (keywordEach kws X.env)).any (·.1.isNone)) = false := by rfl)
    (ht : eval (.Call (.Attribute o m apos) [] kws pos) X.env = (do
      let ov ← eval o X.env
      standAt apos.atName
      let (f, first) ← holding [ov] (getMethod ov m pl)
      callWith pos f first (backTo pos (starEach [] X.env)) (backToKw pos (keywordEach kws X.env))) := by rfl) :
    PE X (.Call (.Attribute o m apos) [] kws pos) (tMthK X.prog X.w X.K X.mg X.base m ks j E ta t) := by
  refine ⟨fun pins s σ H Q I h => PySem.W.methodCall_KW (pl := pl) (thn (ho.run pins s σ H _ I h) fun u s1 ⟨x, H1, I1, rx, y, C, dx, fs, k, gV, sp, ex, ea, M, hk, l, q⟩ => ?_) ht⟩
  subst ex
  obtain rfl : u = Value.ref y := rx
  obtain ⟨f, fd, ps, g, c, hm, F, b⟩ := M.ex
  refine getmeth_ok I1 ea c hm l (PySem.W.callWith_KW0 (first := [.ref y]) (h₀ := X.base) I.ok.mod.kin hm.kp hall ?_ hpl)
  refine thn (hkw.run pos pins s1 σ H1 _ I1 q) fun ws s2 ⟨zs, H2, I2, rz, hl, q2⟩ => ⟨I2.kIn, ?_⟩
  rw [hks]
  exact run_kb (us := [.ref y]) (vs := [.ref y]) F a hk b I2 (.cons rfl .nil) rfl rz hl q2
end
end

/-! ### isinstance, told by the kinds -/
section
variable {K : PySem.W.Frag} {H : Hp}
theorem isi_int {i : Int} {n : String} {b : Bool} (h : kitB "int" n = some b) : Isi K H (.int i) (.ty n) b := ⟨_, _, .ty n, .base (.int i), kit_ty h⟩
theorem isi_str {z : Str} {n : String} {b : Bool} (h : kitB "str" n = some b) : Isi K H (.str z) (.ty n) b := ⟨_, _, .ty n, .base (.str z), kit_ty h⟩
theorem isi_lst {a : Addr} {xs : List V} {n : String} {b : Bool} (e : H a = some (.lst xs)) (h : kitB "list" n = some b) : Isi K H (.ref a) (.ty n) b := ⟨_, _, .ty n, .base (.lst e), kit_ty h⟩
/-- instances of C are told by their class -/
structure InsTy (K : PySem.W.Frag) (C : Addr) : Prop where
  ha : PySem.W.findIn K (.ref C) "__class__" = some (some (.builtin "object.__class__"))
  hn : PySem.W.specialIn K (.builtin "object.__class__") "__get__" = some (some (.builtin "getset_descriptor.__get__"))
  ht : PySem.W.takesIn K (.builtin "object.__class__") = some true
  hm : PySem.W.mroIn K C (.type "object") = some true
theorem isi_ins {a C D dx : Addr} {fs : List (Str × V)} {b : Bool} (e : H a = some (.ins C dx fs)) (c : Cls K C) (t : InsTy K C) (h : PySem.W.kitOne K (.ref C) (.ref D) = some b) : Isi K H (.ref a) (.ref D) b := ⟨_, _, .own D, .base (.ins e c t.ha t.hn t.ht t.hm), h⟩
end

/-! ### a def, by what is true of its body's reading -/
section
variable {P : Program} {w : World} {K : PySem.W.Frag} {mg : Str → Option Value} {base : Heap}
/-- the def x of the module stands as st -/
structure Df (K : PySem.W.Frag) (mg : Str → Option Value) (x : Str) (st : Stmt) (ps : List Str) : Prop where
  ex : ∃ (f : Addr) (fd : FuncData), Fun K x x st f fd ∧ mg x = some (.ref f) ∧ Binds K fd ps []
/-- the method m of the class at C stands as st (of the class qual names) -/
structure Dm (K : PySem.W.Frag) (C : Addr) (m qual : Str) (st : Stmt) (ps : List Str) : Prop where
  cls : Cls K C
  ex : ∃ (f : Addr) (fd : FuncData), Fun K m qual st f fd ∧ Meth K C m f ∧ Binds K fd ps []
/-- the class x at C is made by the __init__ st -/
structure Dk (K : PySem.W.Frag) (mg : Str → Option Value) (x : Str) (C : Addr) (qual : Str) (st : Stmt) (ps : List Str) : Prop where
  ex : ∃ (f : Addr) (fd : FuncData), Fun K "__init__" qual st f fd ∧ Mk K C f ∧ mg x = some (.ref C) ∧ Binds K fd ps []
abbrev Der (P : Program) (w : World) (K : PySem.W.Frag) (mg : Str → Option Value) (base : Heap) (N : List Str) (qual : Str) (st : Stmt) (lv : Nat) (t : XK → TS) : Prop :=
  ∀ {f : Addr} {cdv : Value} {Ar : Around} {outer : List Env} {s : Shared} {H : Hp} {E : XK}, Room lv (Ar.deeper (PyProof.Rows.envOfC qual (defScope st) s.heap.objs.size f cdv)) → Quiet (Ar.deeper (PyProof.Rows.envOfC qual (defScope st) s.heap.objs.size f cdv)) → PSs (cxOf (L2.CX P w) P w K mg base N qual (defScope st) f cdv Ar outer s H E) (defBody st) (t E)
abbrev Pur (N ps : List Str) (t : XK → TS) (sp : Sp) : Prop := ∀ vs H Q E, sp vs H Q E → vs.length = ps.length ∧ t E { nx := fun _ H' => Q .non H', rt := Q } (start N vs) H
theorem fnok_of {x qual : Str} {st : Stmt} {f : Addr} {fd : FuncData} {N ps : List Str} {lv : Nat} {t : XK → TS} {sp : Sp} (F : Fun K x qual st f fd) (S : FnScope N ps (defScope st)) (D : Der P w K mg base N qual st lv t) (p : Pur N ps t sp) : FnG P w K mg base (lv + 1) f fd ps sp := by
  obtain ⟨oc, od, kV, doc, pm, an, cdv, ct, osl, rfl, lk, hcd⟩ := F.ex
  exact fnG_body lk hcd S (fun vs H Q E h => (p vs H Q E h).1) fun Ar outer s H vs Q E hr qt h => ⟨t E, D hr qt, (p vs H Q E h).2⟩
/-- a def with keyword-only defaults -/
structure Dfd (K : PySem.W.Frag) (mg : Str → Option Value) (x : Str) (st : Stmt) (ps : List Str) (dvs : List V) : Prop where
  ex : ∃ (f : Addr) (fd : FuncData) (ds : List Value), Fun K x x st f fd ∧ mg x = some (.ref f) ∧ Vals dvs ds ∧ Binds K fd ps ds
theorem Dfd.fn {x : Str} {st : Stmt} {N ps : List Str} {dvs : List V} {lv : Nat} {t : XK → TS} {sp sp' : Sp} (d : Dfd K mg x st ps dvs) (S : FnScope N ps (defScope st)) (D : Der P w K mg base N x st lv t) (p : Pur N ps t sp') (im : ∀ vs H Q E, sp vs H Q E → sp' (vs ++ dvs) H Q E) : Fn P w K mg base (lv + 1) x sp := by
  obtain ⟨f, fd, ds, F, hm, rd, b⟩ := d.ex
  exact ⟨f, fd, ps, ds, dvs, sp', fnok_of F S D p, hm, F.kp, b, rd, im⟩
theorem Df.fn {x : Str} {st : Stmt} {N ps : List Str} {lv : Nat} {t : XK → TS} {sp : Sp} (d : Df K mg x st ps) (S : FnScope N ps (defScope st)) (D : Der P w K mg base N x st lv t) (p : Pur N ps t sp) : Fn P w K mg base (lv + 1) x sp := by
  obtain ⟨f, fd, F, hm, b⟩ := d.ex
  exact ⟨f, fd, ps, [], [], sp, fnok_of F S D p, hm, F.kp, b, .nil, fun vs H Q E h => by rw [List.append_nil]; exact h⟩
theorem Dm.mth {m qual : Str} {C : Addr} {st : Stmt} {N ps : List Str} {lv : Nat} {t : XK → TS} {sp : Sp} (d : Dm K C m qual st ps) (S : FnScope N ps (defScope st)) (D : Der P w K mg base N qual st lv t) (p : Pur N ps t sp) : Mth P w K mg base (lv + 1) C m sp := by
  obtain ⟨f, fd, F, hm, b⟩ := d.ex
  exact ⟨f, fd, ps, d.cls, hm, fnok_of F S D p, b⟩
theorem Dk.mkr {x qual : Str} {C : Addr} {st : Stmt} {N ps : List Str} {lv : Nat} {t : XK → TS} {sp : Sp} (d : Dk K mg x C qual st ps) (S : FnScope N ps (defScope st)) (D : Der P w K mg base N qual st lv t) (p : Pur N ps t sp) : Mkr P w K mg base (lv + 1) x C sp := by
  obtain ⟨f, fd, F, M, hm, b⟩ := d.ex
  exact ⟨f, fd, ps, M, fnok_of F S D p, hm, b⟩
/-- by one keyword -/
theorem Fun.kb1 {x qual k : Str} {st : Stmt} {f : Addr} {fd : FuncData} (F : Fun K x qual st f fd)
    (h : ∀ (kV doc pm : Value) (an : Option Addr) (cdv ct u : Value), bindArgs (PySem.W.fnOf x qual (defArgs st) (defBody st) (defScope st) .none kV doc pm an cdv ct) ⟨[], [(k, u)]⟩ = pure [(k, u)]) : KB K fd [k] 0 [k] id id := by
  obtain ⟨oc, od, kV, doc, pm, an, cdv, ct, osl, rfl, lk, hcd⟩ := F.ex
  refine ⟨fun s us ws _ hu hw => ?_, fun r => r⟩
  match us, ws, hu, hw with
  | [], [u], _, _ => exact .of_eq (h kV doc pm an cdv ct u)
/-- by keywords alone, in any order -/
theorem Fun.kbG {x qual : Str} {ks ps : List Str} {st : Stmt} {f : Addr} {fd : FuncData} {g : List Value → List Value} {gV : List V → List V} (F : Fun K x qual st f fd) (rel : ∀ {zs : List V} {ws : List Value}, Vals zs ws → Vals (gV zs) (g ws))
    (h : ∀ (kV doc pm : Value) (an : Option Addr) (cdv ct : Value) (ws : List Value), ws.length = ks.length → bindArgs (PySem.W.fnOf x qual (defArgs st) (defBody st) (defScope st) .none kV doc pm an cdv ct) ⟨[], ks.zip ws⟩ = pure (ps.zip (g ws))) : KB K fd ps 0 ks g gV := by
  obtain ⟨oc, od, kV, doc, pm, an, cdv, ct, osl, rfl, lk, hcd⟩ := F.ex
  refine ⟨fun s us ws _ hu hw => ?_, rel⟩
  match us, hu with
  | [], _ => exact .of_eq (h kV doc pm an cdv ct ws hw)
theorem Df.fnKG {x : Str} {ks ps : List Str} {st : Stmt} {N : List Str} {lv : Nat} {t : XK → TS} {sp : Sp} {g : List Value → List Value} {gV : List V → List V} (d : Df K mg x st ps) (S : FnScope N ps (defScope st)) (D : Der P w K mg base N x st lv t) (p : Pur N ps t sp) (rel : ∀ {zs : List V} {ws : List Value}, Vals zs ws → Vals (gV zs) (g ws))
    (h : ∀ (kV doc pm : Value) (an : Option Addr) (cdv ct : Value) (ws : List Value), ws.length = ks.length → bindArgs (PySem.W.fnOf x x (defArgs st) (defBody st) (defScope st) .none kV doc pm an cdv ct) ⟨[], ks.zip ws⟩ = pure (ps.zip (g ws))) : FnK P w K mg base (lv + 1) x ks gV sp := by
  obtain ⟨f, fd, F, hm, b⟩ := d.ex
  exact ⟨f, fd, ps, g, fnok_of F S D p, hm, F.kp, Fun.kbG F rel h⟩
def swap2 {α : Type} : List α → List α | [a, b] => [b, a] | l => l
theorem swap2_rel {zs : List V} {ws : List Value} (r : Vals zs ws) : Vals (swap2 zs) (swap2 ws) := by
  cases r with
  | nil => exact .nil
  | cons a r =>
    cases r with
    | nil => exact .cons a .nil
    | cons b r =>
      cases r with
      | nil => exact .cons b (.cons a .nil)
      | cons c r => exact .cons a (.cons b (.cons c r))
theorem Df.fnK1 {x k : Str} {st : Stmt} {N : List Str} {lv : Nat} {t : XK → TS} {sp : Sp} (d : Df K mg x st [k]) (S : FnScope N [k] (defScope st)) (D : Der P w K mg base N x st lv t) (p : Pur N [k] t sp)
    (h : ∀ (kV doc pm : Value) (an : Option Addr) (cdv ct u : Value), bindArgs (PySem.W.fnOf x x (defArgs st) (defBody st) (defScope st) .none kV doc pm an cdv ct) ⟨[], [(k, u)]⟩ = pure [(k, u)]) : FnK P w K mg base (lv + 1) x [k] id sp := by
  obtain ⟨f, fd, F, hm, b⟩ := d.ex
  exact ⟨f, fd, [k], id, fnok_of F S D p, hm, F.kp, Fun.kb1 F h⟩
end

/-! ### comprehensions that read alone; loops -/
/-- the body of a comprehension's reading, J walked -/
def LcB (J : It) (g : TG) (tt : TT) (te : TE) (vs : List Nat) (σ : L2.St) (H1 : Hp) (Q : VK) : Prop := ∀ D, H1 D = none → ∃ W : Nat → Nat → Hp → Prop, (∃ m, W 0 m (upd H1 D (.lst []))) ∧ ∀ i m H, W i m H →
  (J.stop i H ∧ Q (.ref D) H) ∨ (J.go i H ∧ ∃ Nx : Hp → Prop, (∀ H', Nx H' → ∃ m', m' < m ∧ W (i + 1) m' H') ∧ ∀ x H', J.yld i H x H' → g x (wipe σ vs) H' fun σ2 H2 => wipe σ2 vs = wipe σ vs ∧ tt σ2 H2 fun b H3 =>
    if b = true then te σ2 H3 fun y H4 => ∃ acc, H4 D = some (.lst acc) ∧ acc.length < sizeLine ∧ Nx (upd H4 D (.lst (acc ++ [y]))) else Nx H3)
theorem tLc_eq (wi : TI) (g : TG) (tt : TT) (te : TE) (vs : List Nat) (σ : L2.St) (H : Hp) (Q : VK) : tLc wi g tt te vs σ H Q = wi σ H fun J H1 => LcB J g tt te vs σ H1 Q := rfl
def ForB (J : It) (g : TG) (tb : TS) (D : Ends) (σ : L2.St) (H1 : Hp) : Prop := ∃ W : Nat → Nat → L2.St → Hp → Prop, (∃ m, W 0 m σ H1) ∧ ∀ i m σ H, W i m σ H →
  (J.stop i H ∧ D.nx σ H) ∨ (J.go i H ∧ ∃ N : L2.St → Hp → Prop, (∀ σ' H', N σ' H' → ∃ m', m' < m ∧ W (i + 1) m' σ' H') ∧ ∀ x H', J.yld i H x H' → g x σ H' fun σ2 H2 => tb { D with nx := N, ct := N, bk := D.nx } σ2 H2)
theorem tFor_eq (wi : TI) (g : TG) (tb : TS) (D : Ends) (σ : L2.St) (H : Hp) : tFor wi g tb D σ H = wi σ H fun J H1 => ForB J g tb D σ H1 := rfl
theorem _root_.L2.Same.new {H : Hp} {p : Addr} {o : HO} (h : H p = none) : Same H (upd H p o) := fun a u e => by rw [upd_ne (ne_of_none e h)]; exact e
theorem _root_.L2.Same.mut {H H' : Hp} {p : Addr} {o : HO} (e : Same H H') (h : H p = none) : Same H (upd H' p o) := fun a u ha => by rw [upd_ne (ne_of_none ha h)]; exact e a u ha
theorem _root_.L2.Same.tup {K : PySem.W.Frag} {H H' : Hp} {a : Addr} {xs : List V} (e : Same H H') (h : SqT K H a xs) : SqT K H' a xs := by
  rcases h with (h | ⟨o, h⟩) | h
  · exact .inl (.inl (e _ _ h))
  · exact .inl (.inr ⟨o, e _ _ h⟩)
  · exact .inr h
/-- te gives v, leaving what is known -/
def Evs (te : TE) (σ : L2.St) (H : Hp) (v : V) : Prop := ∀ Q : VK, (∀ H2, Same H H2 → Q v H2) → te σ H Q
def Evt (tt : TT) (σ : L2.St) (H : Hp) (b : Bool) : Prop := ∀ Q : Bool → Hp → Prop, (∀ H2, Same H H2 → Q b H2) → tt σ H Q
theorem Evt.yes {σ : L2.St} {H : Hp} : Evt tYes σ H true := fun Q q => q H (Same.refl H)
/-- J makes n turns as long as H1 stays; item i is such that R i x H -/
structure Goes (J : It) (H1 : Hp) (n : Nat) (R : Nat → V → Hp → Prop) : Prop where
  go : ∀ i H, i < n → Same H1 H → J.go i H
  stop : ∀ H, Same H1 H → J.stop n H
  yld : ∀ i H x H', i < n → Same H1 H → J.yld i H x H' → Same H H' ∧ R i x H'
theorem goes_list {K : PySem.W.Frag} {H : Hp} {a : Addr} {xs : List V} (h : SqL K H a xs) : Goes (Itl K a) H xs.length (fun i x _ => xs[i]? = some x) where
  go := fun i H' hi e => ⟨xs, xs[i], e.seq h, by simp [hi]⟩
  stop := fun H' e => ⟨xs, e.seq h, Nat.le_refl _⟩
  yld := fun i H' x H2 hi e y => by
    obtain ⟨rfl, y⟩ := y
    exact ⟨Same.refl _, y xs (e.seq h)⟩
theorem goes_tup {K : PySem.W.Frag} {H : Hp} {a : Addr} {xs : List V} (h : SqT K H a xs) : Goes (Itt K a) H xs.length (fun i x _ => xs[i]? = some x) where
  go := fun i H' hi e => ⟨xs, xs[i], e.tup h, by simp [hi]⟩
  stop := fun H' e => ⟨xs, e.tup h, Nat.le_refl _⟩
  yld := fun i H' x H2 hi e y => by
    obtain ⟨rfl, y⟩ := y
    exact ⟨Same.refl _, y xs (e.tup h)⟩
theorem goes_str {z : Str} {H : Hp} : Goes (Its z) H z.cps.size (fun i x _ => ∃ c, z.cps[i]? = some c ∧ x = .str ⟨#[c]⟩) where
  go := fun i H' hi _ => hi
  stop := fun H' _ => Nat.le_refl _
  yld := fun i H' x H2 hi _ y => by
    obtain ⟨rfl, y⟩ := y
    exact ⟨Same.refl _, y⟩
theorem goes_range {lo : Int} {n : Nat} {H : Hp} : Goes (Itr lo n) H n (fun i x _ => x = .int (lo + i)) where
  go := fun i H' hi _ => hi
  stop := fun H' _ => Nat.le_refl _
  yld := fun i H' x H2 hi _ y => by
    obtain ⟨rfl, rfl⟩ := y
    exact ⟨Same.refl _, rfl⟩
theorem goes_enum {K : PySem.W.Frag} {H : Hp} {a : Addr} {xs : List V} (h : SqL K H a xs) : Goes (Ite K a) H xs.length (fun i x H' => ∃ T y, x = .ref T ∧ xs[i]? = some y ∧ H' T = some (.tup [.int (i : Nat), y])) where
  go := fun i H' hi e => ⟨xs, xs[i], e.seq h, by simp [hi]⟩
  stop := fun H' e => ⟨xs, e.seq h, Nat.le_refl _⟩
  yld := fun i H' x H2 hi e y => by
    obtain ⟨T, v, rfl, hn, rfl, y⟩ := y
    exact ⟨Same.new hn, T, v, rfl, y xs (e.seq h), upd_same⟩
theorem goes_zip {K : PySem.W.Frag} {H : Hp} {a b : Addr} {xs ys : List V} (h : SqL K H a xs) (h' : SqL K H b ys) (hl : xs.length = ys.length) : Goes (Itz K a b) H xs.length (fun i x H' => ∃ T u v, x = .ref T ∧ xs[i]? = some u ∧ ys[i]? = some v ∧ H' T = some (.tup [u, v])) where
  go := fun i H' hi e => ⟨xs, ys, xs[i], ys[i]'(by omega), e.seq h, e.seq h', by simp [hi], by simp [show i < ys.length by omega]⟩
  stop := fun H' e => ⟨xs, ys, e.seq h, e.seq h', .inl (Nat.le_refl _)⟩
  yld := fun i H' x H2 hi e y => by
    obtain ⟨T, u, v, rfl, hn, rfl, y1, y2⟩ := y
    exact ⟨Same.new hn, T, u, v, rfl, y1 xs (e.seq h), y2 ys (e.seq h'), upd_same⟩
/-- one turn of a comprehension: the item is taken to σ2; kept as y, or left -/
structure LcT (g : TG) (tt : TT) (te : TE) (vs : List Nat) (σ : L2.St) (x : V) (H : Hp) (sel : Option V) : Prop where
  ex : ∃ σ2, wipe σ2 vs = wipe σ vs ∧ (∀ R : L2.St → Hp → Prop, R σ2 H → g x (wipe σ vs) H R) ∧ (match sel with
    | some y => Evt tt σ2 H true ∧ ∀ H3, Same H H3 → Evs te σ2 H3 y
    | none => Evt tt σ2 H false)
theorem lc_goes {J : It} {g : TG} {tt : TT} {te : TE} {vs : List Nat} {σ : L2.St} {H1 : Hp} {Q : VK} {n : Nat} {R : Nat → V → Hp → Prop} (S : Goes J H1 n R) (sel : Nat → Option V) (hn : n < sizeLine)
    (turn : ∀ i x H, i < n → Same H1 H → R i x H → LcT g tt te vs σ x H (sel i))
    (hq : ∀ D H', H1 D = none → Same H1 H' → H' D = some (.lst ((List.range n).filterMap sel)) → Q (.ref D) H') : LcB J g tt te vs σ H1 Q := by
  intro D hD
  refine ⟨fun i m H => m = n - i ∧ i ≤ n ∧ Same H1 H ∧ H D = some (.lst ((List.range i).filterMap sel)), ⟨n, by simp, Nat.zero_le _, Same.new hD, upd_same⟩, ?_⟩
  rintro i m H ⟨rfl, hi, sm, hl⟩
  by_cases hlt : i < n
  · refine .inr ⟨S.go i H hlt sm, fun H' => Same H1 H' ∧ H' D = some (.lst ((List.range (i + 1)).filterMap sel)), fun H' h => ⟨n - (i + 1), by omega, rfl, hlt, h⟩, fun x H' y => ?_⟩
    obtain ⟨s1, r⟩ := S.yld i H x H' hlt sm y
    obtain ⟨σ2, e2, hg, ht⟩ := (turn i x H' hlt (sm.trans s1) r).ex
    refine hg _ ⟨e2, ?_⟩
    have hl1 := s1 _ _ hl
    cases e : sel i with
    | some y =>
      rw [e] at ht
      refine ht.1 _ fun H2 s2 => ?_
      rw [if_pos rfl]
      refine ht.2 H2 s2 _ fun H3 s3 => ⟨_, s3 _ _ (s2 _ _ hl1), ?_, ((sm.trans s1).trans (s2.trans s3)).mut hD, ?_⟩
      · have := List.length_filterMap_le sel (List.range i)
        rw [List.length_range] at this
        omega
      · rw [upd_same, List.range_succ, List.filterMap_append]
        simp [e]
    | none =>
      rw [e] at ht
      refine ht _ fun H2 s2 => ?_
      rw [if_neg Bool.false_ne_true]
      refine ⟨(sm.trans s1).trans s2, ?_⟩
      rw [s2 _ _ hl1, List.range_succ, List.filterMap_append]
      simp [e]
  · obtain rfl : i = n := by omega
    exact .inl ⟨S.stop H sm, hq D H hD sm hl⟩
theorem range_some {α : Type} (f : Nat → α) (n : Nat) : (List.range n).filterMap (fun i => some (f i)) = (List.range n).map f := by
  induction n with
  | zero => rfl
  | succ n ih => rw [List.range_succ, List.filterMap_append, List.map_append, ih]; rfl
theorem range_list {α β : Type} (f : α → Option β) (xs : List α) : (List.range xs.length).filterMap (fun i => (xs[i]?).bind f) = xs.filterMap f := by
  induction xs with
  | nil => rfl
  | cons x xs ih =>
    rw [List.length_cons, List.range_succ_eq_map, List.filterMap_cons, List.filterMap_map]
    have e : ((fun i => ((x :: xs)[i]?).bind f) ∘ Nat.succ) = fun i => (xs[i]?).bind f := by funext i; simp
    rw [e, ih, List.filterMap_cons]
    simp
/-- [e for v in xs if t], xs a list: e and t by a function of the item -/
theorem lc_lst {K : PySem.W.Frag} {a : Addr} {xs : List V} {g : TG} {tt : TT} {te : TE} {vs : List Nat} {σ : L2.St} {H1 : Hp} {Q : VK} (f : V → Option V) (h : SqL K H1 a xs) (hn : xs.length < sizeLine)
    (turn : ∀ x H, x ∈ xs → Same H1 H → LcT g tt te vs σ x H (f x)) (hq : ∀ D H', H1 D = none → Same H1 H' → H' D = some (.lst (xs.filterMap f)) → Q (.ref D) H') : LcB (Itl K a) g tt te vs σ H1 Q := by
  refine lc_goes (goes_list h) (fun i => (xs[i]?).bind f) hn (fun i x H hi s r => ?_) fun D H' hD s hl => hq D H' hD s (by rw [range_list] at hl; exact hl)
  have q := turn x H (List.mem_of_getElem? r) s
  rw [r]
  exact q

/-! ### data -/
section
variable {K : PySem.W.Frag} {H H' : Hp}
mutual
theorem dp_same (s : Same H H') : ∀ (d : PyData) (v : V), Dp K H v d → Dp K H' v d
  | .none, _, h => by cases h; exact .non
  | .bool _, _, h => by cases h; exact .bl _
  | .int _, _, h => by cases h; exact .int _
  | .str _, _, h => by cases h; exact .str _
  | .list ds, _, h => by
    cases h with
    | lst hs ha => exact .lst (s.seq hs) (dpa_same s ds _ ha)
  | .tuple ds, _, h => by
    cases h with
    | tup hs ha => exact .tup (s.tup hs) (dpa_same s ds _ ha)
  | .dict _, _, h => by cases h
theorem dpa_same (s : Same H H') : ∀ (ds : List PyData) (vs : List V), DpAll K H vs ds → DpAll K H' vs ds
  | [], _, h => by cases h; exact .nil
  | d :: ds, _, h => by
    cases h with
    | cons h1 h2 => exact .cons (dp_same s d _ h1) (dpa_same s ds _ h2)
end
theorem dpa_snoc {v : V} {d : PyData} : ∀ {vs : List V} {ds : List PyData}, DpAll K H vs ds → Dp K H v d → DpAll K H (vs ++ [v]) (ds ++ [d])
  | _, _, .nil, h => .cons h .nil
  | _, _, .cons a b, h => .cons a (dpa_snoc b h)
theorem dpa_map {α : Type} {f : α → V} {g : α → PyData} : ∀ (l : List α), (∀ x ∈ l, Dp K H (f x) (g x)) → DpAll K H (l.map f) (l.map g)
  | [], _ => .nil
  | x :: l, h => .cons (h x List.mem_cons_self) (dpa_map l fun y hy => h y (List.mem_cons_of_mem _ hy))
theorem dpa_len : ∀ {vs : List V} {ds : List PyData}, DpAll K H vs ds → vs.length = ds.length
  | _, _, .nil => rfl
  | _, _, .cons _ b => congrArg (· + 1) (dpa_len b)
/-- the heap without one address -/
def hide (p : Addr) (H : Hp) : Hp := fun b => if b = p then none else H b
theorem hide_same {p : Addr} : Same (hide p H) H := fun b o h => by
  unfold hide at h
  split at h
  · cases h
  · exact h
theorem hide_get {p b : Addr} {o : HO} (h : H b = some o) (n : b ≠ p) : hide p H b = some o := by unfold hide; rw [if_neg n]; exact h
theorem hide_mono {p : Addr} (s : Same H H') : Same (hide p H) (hide p H') := fun b o h => by
  unfold hide at h
  split at h
  · cases h
  · rename_i n; exact hide_get (s b o h) n
theorem hide_upd {p : Addr} {o : HO} : hide p (upd H p o) = hide p H := by
  funext b
  unfold hide upd
  split <;> rfl
/-- data of depth at most n -/
def okD (n : Nat) (d : PyData) : Prop := d.canLay0 = true ∧ d.depth ≤ n
theorem okD.list {n : Nat} {ds : List PyData} (h : ∀ d ∈ ds, okD n d) : okD (n + 1) (.list ds) := by
  have q : PyData.canLayAll0 ds = true ∧ PyData.depthAll ds ≤ n := by
    induction ds with
    | nil => exact ⟨rfl, Nat.zero_le _⟩
    | cons d ds ih =>
      have h1 := h d List.mem_cons_self
      have h2 := ih fun x hx => h x (List.mem_cons_of_mem _ hx)
      exact ⟨by unfold PyData.canLayAll0; rw [h1.1, h2.1]; rfl, Nat.max_le.mpr ⟨h1.2, h2.2⟩⟩
  exact ⟨by unfold PyData.canLay0; exact q.1, by unfold PyData.depth; exact Nat.succ_le_succ q.2⟩
theorem okD.tuple {n : Nat} {ds : List PyData} (h : ∀ d ∈ ds, okD n d) : okD (n + 1) (.tuple ds) := by
  have q := okD.list h
  exact ⟨by have := q.1; unfold PyData.canLay0 at this ⊢; exact this, by have := q.2; unfold PyData.depth at this ⊢; exact this⟩
theorem okD.int {n : Nat} {i : Int} : okD n (.int i) := ⟨rfl, Nat.zero_le _⟩
theorem okD.bool {n : Nat} {i : Bool} : okD n (.bool i) := ⟨rfl, Nat.zero_le _⟩
theorem okD.str {n : Nat} {z : Str} (h : PyData.strOk z = true) : okD n (.str z) := ⟨by unfold PyData.canLay0; exact h, Nat.zero_le _⟩
theorem okD.shaped {n : Nat} {d : PyData} (h : okD n d) (hn : n ≤ 64) : SeqAt.shaped d = true := by
  unfold SeqAt.shaped
  rw [h.1, decide_eq_true (Nat.le_trans h.2 hn)]; rfl
end

/-! ### comprehensions that make new things -/
/-- xs are related to as, item by item -/
structure Rel2 {α : Type} (Rl : V → α → Prop) (xs : List V) (as : List α) : Prop where
  len : xs.length = as.length
  at_ : ∀ (i : Nat) (x : V) (a : α), xs[i]? = some x → as[i]? = some a → Rl x a
theorem Rel2.nil {α : Type} {Rl : V → α → Prop} : Rel2 Rl [] [] := ⟨rfl, fun i x a h => by simp at h⟩
theorem Rel2.imp {α : Type} {Rl Rl' : V → α → Prop} {xs : List V} {as : List α} (h : Rel2 Rl xs as) (q : ∀ x a, Rl x a → Rl' x a) : Rel2 Rl' xs as := ⟨h.len, fun i x a h1 h2 => q x a (h.at_ i x a h1 h2)⟩
theorem Rel2.snoc {α : Type} {Rl : V → α → Prop} {xs : List V} {as : List α} {y : V} {b : α} (h : Rel2 Rl xs as) (hy : Rl y b) : Rel2 Rl (xs ++ [y]) (as ++ [b]) := by
  refine ⟨by simp [h.len], fun i x a h1 h2 => ?_⟩
  have hl := h.len
  by_cases c : i < xs.length
  · rw [List.getElem?_append_left c] at h1
    rw [List.getElem?_append_left (by omega)] at h2
    exact h.at_ i x a h1 h2
  · rw [List.getElem?_append_right (by omega)] at h1
    rw [List.getElem?_append_right (by omega)] at h2
    by_cases e : i = xs.length
    · subst e
      rw [show xs.length - xs.length = 0 by omega] at h1
      rw [show xs.length - as.length = 0 by omega] at h2
      simp at h1 h2
      subst h1; subst h2
      exact hy
    · rw [List.getElem?_eq_none (by simp; omega)] at h1
      cases h1
theorem Rel2.dpa {K : PySem.W.Frag} {H : Hp} : ∀ {xs : List V} {ds : List PyData}, Rel2 (Dp K H) xs ds → DpAll K H xs ds
  | [], [], _ => .nil
  | [], _ :: _, h => absurd h.len (by simp)
  | _ :: _, [], h => absurd h.len (by simp)
  | x :: xs, d :: ds, h => .cons (h.at_ 0 x d rfl rfl) (Rel2.dpa ⟨by have := h.len; simpa using this, fun i y e h1 h2 => h.at_ (i + 1) y e (by simpa using h1) (by simpa using h2)⟩)
theorem lc_rel {α : Type} {Rl : Hp → V → α → Prop} (mono : ∀ H H' y a, Same H H' → Rl H y a → Rl H' y a) {J : It} {g : TG} {tt : TT} {te : TE} {vs : List Nat} {σ : L2.St} {H1 : Hp} {Q : VK} {n : Nat} {R : Nat → V → Hp → Prop} (S : Goes J H1 n R) (sel : Nat → Option α) (hn : n < sizeLine)
    (turn : ∀ i x H D, i < n → Same H1 H → R i x H → H1 D = none → (∃ acc, H D = some (.lst acc)) → ∃ σ2, wipe σ2 vs = wipe σ vs ∧ (∀ R' : L2.St → Hp → Prop, R' σ2 H → g x (wipe σ vs) H R') ∧ (match sel i with
      | some d => Evt tt σ2 H true ∧ ∀ H3, Same H H3 → ∀ Q' : VK, (∀ y H4, Same H3 H4 → Rl (hide D H4) y d → Q' y H4) → te σ2 H3 Q'
      | none => Evt tt σ2 H false))
    (hq : ∀ D H' xs, H1 D = none → Same H1 H' → H' D = some (.lst xs) → Rel2 (Rl (hide D H')) xs ((List.range n).filterMap sel) → Q (.ref D) H') : LcB J g tt te vs σ H1 Q := by
  intro D hD
  refine ⟨fun i m H => m = n - i ∧ i ≤ n ∧ Same H1 H ∧ ∃ xs, H D = some (.lst xs) ∧ Rel2 (Rl (hide D H)) xs ((List.range i).filterMap sel), ⟨n, by simp, Nat.zero_le _, Same.new hD, [], upd_same, Rel2.nil⟩, ?_⟩
  rintro i m H ⟨rfl, hi, sm, xs, hl, rl⟩
  by_cases hlt : i < n
  · refine .inr ⟨S.go i H hlt sm, fun H' => Same H1 H' ∧ ∃ xs, H' D = some (.lst xs) ∧ Rel2 (Rl (hide D H')) xs ((List.range (i + 1)).filterMap sel), fun H' h => ⟨n - (i + 1), by omega, rfl, hlt, h⟩, fun x H' y => ?_⟩
    obtain ⟨s1, r⟩ := S.yld i H x H' hlt sm y
    have hl1 := s1 _ _ hl
    obtain ⟨σ2, e2, hg, ht⟩ := turn i x H' D hlt (sm.trans s1) r hD ⟨xs, hl1⟩
    refine hg _ ⟨e2, ?_⟩
    cases e : sel i with
    | some d =>
      rw [e] at ht
      refine ht.1 _ fun H2 s2 => ?_
      rw [if_pos rfl]
      refine ht.2 H2 s2 _ fun y H3 s3 ry => ⟨xs, s3 _ _ (s2 _ _ hl1), ?_, ((sm.trans s1).trans (s2.trans s3)).mut hD, xs ++ [y], upd_same, ?_⟩
      · have h1 := List.length_filterMap_le sel (List.range i)
        rw [List.length_range] at h1
        have := rl.len
        omega
      · rw [hide_upd, List.range_succ, List.filterMap_append]
        have q := (rl.imp fun z a hz => mono _ _ z a (hide_mono (s1.trans (s2.trans s3))) hz).snoc ry
        simpa [e] using q
    | none =>
      rw [e] at ht
      refine ht _ fun H2 s2 => ?_
      rw [if_neg Bool.false_ne_true]
      refine ⟨(sm.trans s1).trans s2, xs, s2 _ _ hl1, ?_⟩
      rw [List.range_succ, List.filterMap_append]
      have q := rl.imp fun z a hz => mono _ _ z a (hide_mono (s1.trans s2)) hz
      simpa [e] using q
  · obtain rfl : i = n := by omega
    exact .inl ⟨S.stop H sm, hq D H xs hD sm hl rl⟩
theorem seqU {t u : TS} {D : Ends} {σ : L2.St} {H : Hp} (h : ∀ U, U = u D → t { D with nx := U } σ H) : tSeq t u D σ H := h _ rfl
theorem kit_mk {K : PySem.W.Frag} {C D : Addr} {b : Bool} (hc : PySem.W.isClsIn K D = true) (ht : PySem.W.typeIn K (.ref D) = some (.type "type")) (hs : PySem.W.subIn K (.ref C) (.ref D) = some b) (hself : PySem.W.subIn K (.ref D) (.ref D) = some true) : PySem.W.kitOne K (.ref C) (.ref D) = some b := by
  unfold PySem.W.kitOne
  split
  · rename_i e
    have e2 : Value.ref C = Value.ref D := by simpa using e
    rw [e2, hself] at hs
    exact hs
  · have hc' : (PySem.W.clsIn K D).isSome = true := hc
    show (if ((PySem.W.clsIn K D).isSome && PySem.W.typeIn K (.ref D) == some (.type "type")) = true then PySem.W.subIn K (.ref C) (.ref D) else none) = some b
    rw [hc', ht]
    exact hs
end U
/-! data that may be shown -/
namespace U
open PySem PySem.Spec PyProof.Rows L2
/-- data of depth at most n and weight at most k that may be shown -/
structure okR (n k : Nat) (d : PyData) : Prop where
  lay : d.canLay0 = true
  dep : d.depth ≤ n
  wgt : d.weight ≤ k
  sh : d.showable = true
  ls : d.leavesShort 13 = true
theorem okR.okD {n k : Nat} {d : PyData} (h : okR n k d) : okD n d := ⟨h.lay, h.dep⟩
theorem okR.mono {n k n' k' : Nat} {d : PyData} (h : okR n k d) (h1 : n ≤ n') (h2 : k ≤ k') : okR n' k' d := ⟨h.lay, Nat.le_trans h.dep h1, Nat.le_trans h.wgt h2, h.sh, h.ls⟩
theorem okR.repr {n k : Nat} {d : PyData} (h : okR n k d) (hn : n ≤ 60) (hk : k ≤ 1000000) : d.showable = true ∧ d.hasDict = false ∧ d.depth ≤ 60 ∧ d.shown.length ≤ sizeLine :=
  ⟨h.sh, PyData.hasDict_of_canLay d h.lay, Nat.le_trans h.dep hn, PyData.shown_fits (B := 13) (by decide) (by decide) h.ls (Nat.le_trans h.wgt (Nat.le_trans hk (by decide)))⟩
theorem okR.str {n : Nat} {z : Str} (h : PyData.strOk z = true) : okR n z.cps.size (.str z) := by
  refine ⟨by unfold PyData.canLay0; exact h, Nat.zero_le _, Nat.le_refl _, rfl, ?_⟩
  exact PyData.leavesShort_of_canLay0 13 _ (by unfold PyData.canLay0; exact h) rfl
theorem okR.bool {n : Nat} {b : Bool} : okR n 0 (.bool b) := ⟨rfl, Nat.zero_le _, Nat.le_refl _, rfl, rfl⟩
theorem okR.non {n : Nat} : okR n 0 .none := ⟨rfl, Nat.zero_le _, Nat.le_refl _, rfl, rfl⟩
theorem okR_all {n k : Nat} : ∀ {ds : List PyData}, (∀ d ∈ ds, okR n k d) → PyData.canLayAll0 ds = true ∧ PyData.depthAll ds ≤ n ∧ PyData.weightAll ds ≤ (k + 1) * ds.length ∧ PyData.showableAll ds = true ∧ PyData.leavesShortAll 13 ds = true
  | [], _ => ⟨rfl, Nat.zero_le _, Nat.zero_le _, rfl, rfl⟩
  | d :: ds, h => by
    have h1 := h d List.mem_cons_self
    obtain ⟨a, b, c, e, f⟩ := okR_all fun x hx => h x (List.mem_cons_of_mem _ hx)
    refine ⟨by unfold PyData.canLayAll0; rw [h1.lay, a]; rfl, Nat.max_le.mpr ⟨h1.dep, b⟩, ?_, by unfold PyData.showableAll; rw [h1.sh, e]; rfl, by unfold PyData.leavesShortAll; rw [h1.ls, f]; rfl⟩
    have := h1.wgt
    show d.weight + 1 + PyData.weightAll ds ≤ (k + 1) * (ds.length + 1)
    rw [Nat.mul_add, Nat.mul_one]
    omega
theorem okR.list {n k : Nat} {ds : List PyData} (h : ∀ d ∈ ds, okR n k d) : okR (n + 1) ((k + 1) * ds.length) (.list ds) := by
  obtain ⟨a, b, c, e, f⟩ := okR_all h
  exact ⟨by unfold PyData.canLay0; exact a, by unfold PyData.depth; exact Nat.succ_le_succ b, c, e, f⟩
theorem okR.tuple {n k : Nat} {ds : List PyData} (h : ∀ d ∈ ds, okR n k d) : okR (n + 1) ((k + 1) * ds.length) (.tuple ds) := by
  obtain ⟨a, b, c, e, f⟩ := okR_all h
  exact ⟨by unfold PyData.canLay0; exact a, by unfold PyData.depth; exact Nat.succ_le_succ b, c, e, f⟩
theorem okR.int {n : Nat} {i : Int} (h : i.natAbs < 1024) : okR n 10 (.int i) := by
  have lg : i.natAbs ≠ 0 → i.natAbs.log2 < 10 := fun h0 => (Nat.log2_lt h0).mpr h
  refine ⟨rfl, Nat.zero_le _, ?_, ?_, ?_⟩
  · show (if i == 0 then 0 else i.natAbs.log2 + 1) ≤ 10
    split
    · omega
    · rename_i z
      have : i ≠ 0 := by simpa using z
      have := lg (by omega)
      omega
  · show decide (i.natAbs.log2 < 1920) = true
    by_cases z : i.natAbs = 0
    · rw [z]; decide
    · have := lg z; exact decide_eq_true (by omega)
  · show decide ((PyData.shown (.int i)).length ≤ 13) = true
    have e : ∀ k : Nat, k < 1024 → (PyData.shown (.int (k : Int))).length ≤ 13 ∧ (PyData.shown (.int (-(k : Int)))).length ≤ 13 := by decide +kernel
    have := e i.natAbs h
    rcases Int.natAbs_eq i with z | z
    · rw [z]; exact decide_eq_true this.1
    · rw [z]; exact decide_eq_true this.2
end U
/-! closed lists: the mathematics -/
namespace M
/-- r can be set out at the places i, i + 1, .. -/
def CF (i : Nat) (r : List Int) : Prop := ∃ r' : List Int, r'.Perm r ∧ ∀ (j : Nat) (x : Int), r'[j]? = some x → x ≤ i + j
theorem erase_perm {α : Type} : ∀ (l : List α) (j : Nat) (h : j < l.length), (l[j] :: l.eraseIdx j).Perm l
  | _ :: _, 0, _ => List.Perm.refl _
  | x :: l, j + 1, h => (List.Perm.swap _ _ _).trans ((erase_perm l j (by simpa using h)).cons x)
theorem CF.put {i t : Nat} {r : List Int} (h : t < r.length) (hx : r[t] ≤ i) (c : CF (i + 1) (r.eraseIdx t)) : CF i r := by
  obtain ⟨r', p, q⟩ := c
  refine ⟨r[t] :: r', (p.cons _).trans (erase_perm r t h), fun j x e => ?_⟩
  cases j with
  | zero => simp at e; subst e; simpa using hx
  | succ j => have := q j x (by simpa using e); push_cast at this ⊢; omega
theorem CF.take {i : Nat} {r : List Int} (c : CF i r) (hr : r ≠ []) : ∃ (t : Nat) (h : t < r.length), r[t] ≤ i ∧ CF (i + 1) (r.eraseIdx t) := by
  obtain ⟨r', p, q⟩ := c
  cases r' with
  | nil => exact absurd p.symm.eq_nil hr
  | cons y r' =>
    have hm : y ∈ r := p.mem_iff.mp List.mem_cons_self
    obtain ⟨t, h, e⟩ := List.mem_iff_getElem.mp hm
    refine ⟨t, h, ?_, r', ?_, fun j x z => ?_⟩
    · have := q 0 y rfl; rw [e]; simpa using this
    · have h2 := (p.trans (erase_perm r t h).symm)
      rw [e] at h2
      exact h2.cons_inv
    · have := q (j + 1) x (by simpa using z); push_cast at this ⊢; omega
theorem CF.nil {i : Nat} : CF i [] := ⟨[], .refl _, fun j x e => by simp at e⟩
def fac : Nat → Nat | 0 => 1 | n + 1 => (n + 1) * fac n
theorem fac_pos : ∀ n, 1 ≤ fac n
  | 0 => Nat.le_refl _
  | n + 1 => Nat.mul_pos (Nat.succ_pos n) (fac_pos n)
theorem fac_mono : ∀ {m n : Nat}, m ≤ n → fac m ≤ fac n := by
  intro m n h
  induction h with
  | refl => exact Nat.le_refl _
  | step h ih => exact Nat.le_trans ih (Nat.le_mul_of_pos_left _ (Nat.succ_pos _))
/-- what is known of the rests at the place i -/
structure Rests (ns : List Int) (i : Nat) (L : List (List Int)) : Prop where
  len : ∀ r ∈ L, r.length = ns.length - i
  sound : ∀ r ∈ L, CF i r → CF 0 ns
  full : CF 0 ns → ∃ r ∈ L, CF i r
  few : L.length * fac (ns.length - i) ≤ fac ns.length
/-- what is known of the later rests, behind j rests and t places of the next -/
structure Later (i : Nat) (L : List (List Int)) (j t : Nat) (m : Nat) (L' : List (List Int)) : Prop where
  sound : ∀ r' ∈ L', ∃ r ∈ L, ∃ (u : Nat) (h : u < r.length), r[u] ≤ i ∧ r' = r.eraseIdx u
  full : ∀ (k : Nat) (r : List Int), L[k]? = some r → ∀ (u : Nat) (h : u < r.length), (k < j ∨ k = j ∧ u < t) → r[u] ≤ i → r.eraseIdx u ∈ L'
  few : L'.length ≤ j * m + t
theorem Later.start {i m : Nat} {L : List (List Int)} : Later i L 0 0 m [] := ⟨(fun _ h => nomatch h), (fun k r _ u h q => by omega), Nat.zero_le _⟩
theorem Later.next {i j m : Nat} {L L' : List (List Int)} {r : List Int} (h : Later i L j r.length m L') (hr : L[j]? = some r) (hm : r.length = m) : Later i L (j + 1) 0 m L' :=
  ⟨h.sound, fun k r2 e u hu q => by
    rcases q with q | q
    · by_cases c : k = j
      · subst c
        rw [hr] at e; cases e
        exact h.full k r hr u hu (.inr ⟨rfl, hu⟩)
      · exact h.full k r2 e u hu (.inl (by omega))
    · omega, by have := h.few; rw [hm] at this; rw [Nat.add_mul]; omega⟩
theorem Later.skip {i j t m : Nat} {L L' : List (List Int)} {r : List Int} (h : Later i L j t m L') (hr : L[j]? = some r) (ht : t < r.length) (c : r[t] ≤ i → r.eraseIdx t ∈ L') : Later i L j (t + 1) m L' :=
  ⟨h.sound, fun k r2 e u hu q le => by
    by_cases z : k = j ∧ u = t
    · obtain ⟨rfl, rfl⟩ := z
      rw [hr] at e; cases e
      exact c le
    · exact h.full k r2 e u hu (by omega) le, by have := h.few; omega⟩
theorem Later.more {i j t m : Nat} {L L' : List (List Int)} {r : List Int} (h : Later i L j t m L') (hr : L[j]? = some r) (ht : t < r.length) (c : r[t] ≤ i) : Later i L j (t + 1) m (L' ++ [r.eraseIdx t]) :=
  ⟨fun r' hr' => by
    rcases List.mem_append.mp hr' with z | z
    · exact h.sound r' z
    · obtain rfl := List.mem_singleton.mp z
      exact ⟨r, List.mem_of_getElem? hr, t, ht, c, rfl⟩, fun k r2 e u hu q le => by
    by_cases z : k = j ∧ u = t
    · obtain ⟨rfl, rfl⟩ := z
      rw [hr] at e; cases e
      exact List.mem_append_right _ (List.mem_singleton.mpr rfl)
    · exact List.mem_append_left _ (h.full k r2 e u hu (by omega) le), by
    have := h.few
    rw [List.length_append]; simp; omega⟩
theorem Later.done {ns : List Int} {i : Nat} {L L' : List (List Int)} (hi : i < ns.length) (R : Rests ns i L) (h : Later i L L.length 0 (ns.length - i) L') : Rests ns (i + 1) L' := by
  refine ⟨fun r' hr' => ?_, fun r' hr' c => ?_, fun c => ?_, ?_⟩
  · obtain ⟨r, hr, u, hu, _, rfl⟩ := h.sound r' hr'
    rw [List.length_eraseIdx_of_lt hu, R.len r hr]; omega
  · obtain ⟨r, hr, u, hu, le, rfl⟩ := h.sound r' hr'
    exact R.sound r hr (CF.put hu le c)
  · obtain ⟨r, hr, c⟩ := R.full c
    have hl := R.len r hr
    obtain ⟨u, hu, le, c2⟩ := c.take (by intro e; subst e; simp at hl; omega)
    obtain ⟨k, hk, e⟩ := List.mem_iff_getElem.mp hr
    exact ⟨_, h.full k r (by rw [List.getElem?_eq_getElem hk, e]) u hu (.inl hk) le, c2⟩
  · have h1 := h.few
    have h2 := R.few
    have e : ns.length - i = (ns.length - (i + 1)) + 1 := by omega
    rw [e, fac] at h2
    have h3 : L'.length ≤ L.length * (ns.length - (i + 1) + 1) := by rw [← e]; simpa using h1
    calc L'.length * fac (ns.length - (i + 1)) ≤ L.length * (ns.length - (i + 1) + 1) * fac (ns.length - (i + 1)) := Nat.mul_le_mul_right _ h3
      _ = L.length * ((ns.length - (i + 1) + 1) * fac (ns.length - (i + 1))) := Nat.mul_assoc _ _ _
      _ ≤ _ := h2
theorem Rests.bound {ns : List Int} {i : Nat} {L : List (List Int)} (R : Rests ns i L) (hi : i < ns.length) (hn : ns.length ≤ 10) : L.length * (ns.length - i) ≤ 3628800 := by
  have h2 := R.few
  have e : ns.length - i = (ns.length - (i + 1)) + 1 := by omega
  have h4 : fac ns.length ≤ 3628800 := Nat.le_trans (fac_mono hn) (by decide)
  rw [e, fac, ← Nat.mul_assoc] at h2
  rw [e]
  have := Nat.le_mul_of_pos_right (L.length * (ns.length - (i + 1) + 1)) (fac_pos (ns.length - (i + 1)))
  omega
theorem Rests.start {ns ns' : List Int} (p : ns'.Perm ns) : Rests ns 0 [ns'] := by
  refine ⟨fun r hr => ?_, fun r hr c => ?_, fun c => ⟨ns', List.mem_singleton.mpr rfl, ?_⟩, by simp⟩
  · obtain rfl := List.mem_singleton.mp hr; exact p.length_eq
  · obtain rfl := List.mem_singleton.mp hr
    obtain ⟨r', q, h⟩ := c
    exact ⟨r', q.trans p, h⟩
  · obtain ⟨r', q, h⟩ := c
    exact ⟨r', q.trans p.symm, h⟩
theorem Rests.end {ns : List Int} {L : List (List Int)} (R : Rests ns ns.length L) : L ≠ [] ↔ CF 0 ns := by
  constructor
  · intro h
    obtain ⟨r, hr⟩ := List.exists_mem_of_ne_nil _ h
    have := R.len r hr
    have : r = [] := List.length_eq_zero_iff.mp (by omega)
    subst this
    exact R.sound _ hr CF.nil
  · intro c h
    obtain ⟨r, hr, _⟩ := R.full c
    rw [h] at hr
    cases hr
end M
namespace M
def diffs (ns : List Int) : List Int := (List.range ns.length).map fun i => ns.getD i 0 - i
structure IsLM (ns : List Int) (m : Int) : Prop where
  ex : ∃ ns' : List Int, ns'.Perm ns ∧ ns'.Pairwise (· ≤ ·) ∧ m ∈ 0 :: diffs ns' ∧ ∀ y ∈ 0 :: diffs ns', y ≤ m
theorem diffs_at {ns : List Int} {i : Nat} (h : i < ns.length) : ns[i] - i ∈ diffs ns := by
  unfold diffs
  exact List.mem_map.mpr ⟨i, List.mem_range.mpr h, by simp [List.getD, h]⟩
theorem IsLM.nonneg {ns : List Int} {m : Int} (h : IsLM ns m) : 0 ≤ m := by
  obtain ⟨ns', _, _, _, u⟩ := h.ex
  exact u 0 List.mem_cons_self
theorem IsLM.le {ns : List Int} {m B : Int} (h : IsLM ns m) (h0 : 0 ≤ B) (hb : ∀ x ∈ ns, x ≤ B) : m ≤ B := by
  obtain ⟨ns', p, _, hm, _⟩ := h.ex
  rcases List.mem_cons.mp hm with rfl | hm
  · exact h0
  · obtain ⟨i, hi, rfl⟩ := List.mem_map.mp hm
    have hi := List.mem_range.mp hi
    have := hb ns'[i] (p.mem_iff.mp (List.getElem_mem hi))
    simp only [List.getD, List.getElem?_eq_getElem hi, Option.getD_some]
    omega
theorem IsLM.closes {ns : List Int} {m : Int} (h : IsLM ns m) : CF 0 (ns ++ List.replicate m.toNat 0) := by
  have h0 := h.nonneg
  obtain ⟨ns', p, _, _, u⟩ := h.ex
  refine ⟨List.replicate m.toNat 0 ++ ns', (List.perm_append_comm).trans (p.append_right _), fun j x e => ?_⟩
  by_cases c : j < m.toNat
  · rw [List.getElem?_append_left (by simpa using c)] at e
    rw [List.getElem?_replicate, if_pos c] at e
    have := Option.some.inj e
    omega
  · rw [List.getElem?_append_right (by simpa using c), List.length_replicate] at e
    obtain ⟨hj, e⟩ := List.getElem?_eq_some_iff.mp e
    have := u _ (List.mem_cons_of_mem _ (diffs_at hj))
    rw [e] at this
    omega
theorem count_drop {r : List Int} {k : Nat} (h : ∀ (j : Nat) (x : Int), r[j]? = some x → x ≤ j) : r.countP (fun x => decide ((k : Int) ≤ x)) ≤ r.length - k := by
  rw [← List.take_append_drop k r, List.countP_append]
  have z : (r.take k).countP (fun x => decide ((k : Int) ≤ x)) = 0 := by
    rw [List.countP_eq_zero]
    intro x hx
    obtain ⟨j, hj, e⟩ := List.mem_iff_getElem.mp hx
    rw [List.length_take] at hj
    have := h j x (by rw [← e, List.getElem_take, List.getElem?_eq_getElem])
    simp only [decide_eq_true_eq]
    omega
  rw [z, Nat.zero_add]
  refine Nat.le_trans List.countP_le_length ?_
  simp
theorem IsLM.needs {ns more : List Int} {m : Int} (h : IsLM ns m) (hm : 0 < m) (hl : (more.length : Int) = m - 1) : ¬ CF 0 (ns ++ more) := by
  rintro ⟨r', pr, q⟩
  obtain ⟨ns', p, so, me, _⟩ := h.ex
  rcases List.mem_cons.mp me with rfl | me
  · omega
  obtain ⟨i, hi, e⟩ := List.mem_map.mp me
  have hi := List.mem_range.mp hi
  simp only [List.getD, List.getElem?_eq_getElem hi, Option.getD_some] at e
  have c1 := count_drop (r := r') (k := m.toNat + i) fun j x z => by have := q j x z; omega
  rw [pr.length_eq, List.length_append] at c1
  have c2 : (ns ++ more).countP (fun x => decide (((m.toNat + i : Nat) : Int) ≤ x)) = r'.countP (fun x => decide (((m.toNat + i : Nat) : Int) ≤ x)) := (pr.countP_eq _).symm
  have c3 : ns.length - i ≤ ns.countP (fun x => decide (((m.toNat + i : Nat) : Int) ≤ x)) := by
    rw [← p.countP_eq, ← List.take_append_drop i ns', List.countP_append]
    have al : (ns'.drop i).countP (fun x => decide (((m.toNat + i : Nat) : Int) ≤ x)) = (ns'.drop i).length := by
      rw [List.countP_eq_length]
      intro x hx
      obtain ⟨j, hj, ex⟩ := List.mem_iff_getElem.mp hx
      rw [List.length_drop] at hj
      rw [List.getElem_drop] at ex
      have le : ns'[i] ≤ ns'[i + j] := by
        by_cases z : j = 0
        · subst z; simp
        · exact List.pairwise_iff_getElem.mp so i (i + j) hi (by omega) (by omega)
      simp only [decide_eq_true_eq]
      push_cast
      omega
    rw [al, List.length_drop, p.length_eq]
    omega
  rw [List.countP_append] at c2
  have := p.length_eq
  omega
theorem CF.zero {r : List Int} (h : CF 0 r) : CF 0 (r ++ [0]) := by
  obtain ⟨r', p, q⟩ := h
  refine ⟨0 :: r', (p.cons 0).trans (List.perm_append_comm (l₁ := [0])), fun j x e => ?_⟩
  cases j with
  | zero => simp at e; omega
  | succ j => have := q j x (by simpa using e); push_cast at this ⊢; omega
theorem CF.zeros {r : List Int} {a : Nat} (h : CF 0 (r ++ List.replicate a 0)) : ∀ b : Nat, CF 0 (r ++ List.replicate (a + b) 0)
  | 0 => h
  | b + 1 => by
    have := (CF.zeros h b).zero
    rwa [List.append_assoc, ← List.replicate_succ', Nat.add_assoc] at this
theorem IsLM.lt_false {ns : List Int} {m m' : Int} (h : IsLM ns m) (h' : IsLM ns m') (c : m < m') : False := by
  have h0 := h.nonneg
  have z := CF.zeros h.closes (m' - 1 - m).toNat
  refine h'.needs (more := List.replicate (m.toNat + (m' - 1 - m).toNat) 0) (by omega) ?_ z
  rw [List.length_replicate]
  omega
theorem IsLM.uniq {ns : List Int} {m m' : Int} (h : IsLM ns m) (h' : IsLM ns m') : m = m' := by
  rcases Int.lt_trichotomy m m' with c | c | c
  · exact (h.lt_false h' c).elim
  · exact c
  · exact (h'.lt_false h c).elim
end M
/-! closed sets of records: the mathematics -/
namespace M
/-- how many have an index of at most h -/
def cntL (ns : List Int) (h : Nat) : Nat := ns.countP fun x => decide (x ≤ (h : Int))
/-- h is the first height that just its records reach -/
structure Hgt (ns : List Int) (h : Nat) : Prop where
  eq : cntL ns h = h
  lt : ∀ g, g < h → g < cntL ns g
theorem cnt_mono (ns : List Int) {g h : Nat} (l : g ≤ h) : cntL ns g ≤ cntL ns h := by
  unfold cntL
  refine List.countP_mono_left fun x _ hx => ?_
  simp only [decide_eq_true_eq] at hx ⊢
  omega
theorem cnt_le (ns : List Int) (h : Nat) : cntL ns h ≤ ns.length := List.countP_le_length
/-- sorted: the place t holds at most t -/
theorem sorted_at {r : List Int} (so : r.Pairwise (· ≤ ·)) {h : Nat} (hc : ∀ g, g < h → g < cntL r g) {t : Nat} {x : Int} (e : r[t]? = some x) (ht : t < h) : x ≤ t := by
  by_cases c : x ≤ t
  · exact c
  exfalso
  have lt := hc t ht
  obtain ⟨hl, e⟩ := List.getElem?_eq_some_iff.mp e
  unfold cntL at lt
  rw [← List.take_append_drop t r, List.countP_append] at lt
  have z : (r.drop t).countP (fun x => decide (x ≤ (t : Int))) = 0 := by
    rw [List.countP_eq_zero]
    intro y hy
    obtain ⟨j, hj, ey⟩ := List.mem_iff_getElem.mp hy
    rw [List.length_drop] at hj
    rw [List.getElem_drop] at ey
    have le : r[t] ≤ r[t + j] := by
      by_cases z : j = 0
      · subst z; simp
      · exact List.pairwise_iff_getElem.mp so t (t + j) hl (by omega) (by omega)
    simp only [decide_eq_true_eq]
    omega
  have z2 : (r.take t).countP (fun x => decide (x ≤ (t : Int))) ≤ t := Nat.le_trans List.countP_le_length (by simp; omega)
  omega
theorem CF.of_cnt {r : List Int} (hc : ∀ g, g < r.length → g < cntL r g) : CF 0 r := by
  have hp : (r.mergeSort (fun a b => decide (a ≤ b))).Perm r := List.mergeSort_perm r _
  have so : (r.mergeSort (fun a b => decide (a ≤ b))).Pairwise (· ≤ ·) := by
    have := List.pairwise_mergeSort (le := fun a b : Int => decide (a ≤ b)) (fun a b c h1 h2 => by simp only [decide_eq_true_eq] at *; omega) (fun a b => by simp only [Bool.or_eq_true, decide_eq_true_eq]; omega) r
    exact this.imp fun h => by simpa using h
  refine ⟨_, hp, fun j x e => ?_⟩
  have hl := (List.getElem?_eq_some_iff.mp e).1
  rw [hp.length_eq] at hl
  have := sorted_at so (h := r.length) (fun g hg => by rw [cntL, hp.countP_eq]; exact hc g hg) e hl
  omega
/-- a closed list: so many of at most t -/
theorem CF.cnt_ge {r : List Int} (c : CF 0 r) {t : Nat} (ht : t < r.length) : t < cntL r t := by
  obtain ⟨r', p, q⟩ := c
  unfold cntL
  rw [← p.countP_eq, ← List.take_append_drop (t + 1) r', List.countP_append]
  have al : (r'.take (t + 1)).countP (fun x => decide (x ≤ (t : Int))) = (r'.take (t + 1)).length := by
    rw [List.countP_eq_length]
    intro x hx
    obtain ⟨j, hj, e⟩ := List.mem_iff_getElem.mp hx
    rw [List.length_take] at hj
    have := q j x (by rw [← e, List.getElem_take, List.getElem?_eq_getElem])
    simp only [decide_eq_true_eq]
    omega
  have := p.length_eq
  rw [al, List.length_take]
  omega
/-- the slots of the places s -/
def slots (ns : List Int) (s : List Nat) : List Int := s.map fun i => ns.getD i 0
/-- the places of at most h -/
def low (ns : List Int) (h : Nat) : List Nat := (List.range ns.length).filter fun i => decide (ns.getD i 0 ≤ h)
theorem range_getD (ns : List Int) : (List.range ns.length).map (fun i => ns.getD i 0) = ns := by
  apply List.ext_getElem?
  intro i
  rw [List.getElem?_map]
  by_cases h : i < ns.length
  · rw [List.getElem?_range h]; simp [h]
  · rw [List.getElem?_eq_none (by simpa using h), List.getElem?_eq_none (by omega)]; rfl
theorem low_len (ns : List Int) (h : Nat) : (low ns h).length = cntL ns h := by
  unfold low cntL
  rw [← List.countP_eq_length_filter]
  conv => rhs; rw [← range_getD ns]
  rw [List.countP_map]
  rfl
theorem low_cnt (ns : List Int) {h g : Nat} (l : g ≤ h) : cntL (slots ns (low ns h)) g = cntL ns g := by
  unfold slots low cntL
  rw [List.countP_map, List.countP_filter]
  conv => rhs; rw [← range_getD ns]
  rw [List.countP_map]
  refine List.countP_congr fun i _ => ?_
  simp only [Function.comp, Bool.and_eq_true, decide_eq_true_eq]
  constructor
  · exact fun q => q.1
  · exact fun q => ⟨q, by omega⟩
theorem low_closed {ns : List Int} {h : Nat} (H : Hgt ns h) : CF 0 (slots ns (low ns h)) := by
  refine CF.of_cnt fun g hg => ?_
  have e : (slots ns (low ns h)).length = h := by unfold slots; rw [List.length_map, low_len, H.eq]
  rw [e] at hg
  rw [low_cnt ns (Nat.le_of_lt hg)]
  exact H.lt g hg
theorem cnt_sub {ns : List Int} {s : List Nat} (hs : s.Sublist (List.range ns.length)) (h : Nat) : cntL (slots ns s) h ≤ cntL ns h := by
  have := (hs.map fun i => ns.getD i 0).countP_le (p := fun x => decide (x ≤ (h : Int)))
  rw [range_getD] at this
  exact this
theorem closed_low {ns : List Int} {h : Nat} (H : Hgt ns h) {s : List Nat} (hs : s.Sublist (List.range ns.length)) (c : CF 0 (slots ns s)) : s.Sublist (low ns h) := by
  have ls : (slots ns s).length = s.length := by simp [slots]
  have le : s.length ≤ h := by
    apply Classical.byContradiction
    intro n
    have h1 := c.cnt_ge (t := h) (by omega)
    have h2 := cnt_sub hs h
    rw [H.eq] at h2
    omega
  have al : ∀ i ∈ s, decide (ns.getD i 0 ≤ (h : Int)) = true := by
    intro i hi
    by_cases z : s.length = 0
    · rw [List.length_eq_zero_iff.mp z] at hi; cases hi
    have h1 := c.cnt_ge (t := s.length - 1) (by omega)
    have h2 : cntL (slots ns s) (s.length - 1) = (slots ns s).length := by have := cnt_le (slots ns s) (s.length - 1); omega
    have h3 := List.countP_eq_length.mp h2 (ns.getD i 0) (List.mem_map.mpr ⟨i, hi, rfl⟩)
    simp only [decide_eq_true_eq] at h3 ⊢
    omega
  have := hs.filter fun i => decide (ns.getD i 0 ≤ (h : Int))
  rw [List.filter_eq_self.mpr al] at this
  exact this
/-- all sets of n places -/
def sets : Nat → List (List Nat)
  | 0 => [[]]
  | n + 1 => sets n ++ (sets n).map (· ++ [n])
theorem sets_len : ∀ n, (sets n).length = 2 ^ n
  | 0 => rfl
  | n + 1 => by rw [sets, List.length_append, List.length_map, sets_len n, Nat.pow_succ]; omega
theorem sets_sub : ∀ {n : Nat} {s : List Nat}, s ∈ sets n → s.Sublist (List.range n)
  | 0, s, h => by
    obtain rfl := List.mem_singleton.mp h; exact List.Sublist.refl _
  | n + 1, s, h => by
    rw [List.range_succ]
    rcases List.mem_append.mp h with h | h
    · exact (sets_sub h).trans (List.sublist_append_left _ _)
    · obtain ⟨u, hu, rfl⟩ := List.mem_map.mp h
      exact (sets_sub hu).append_right _
theorem sub_sets : ∀ {n : Nat} {s : List Nat}, s.Sublist (List.range n) → s ∈ sets n
  | 0, s, h => by
    have : s = [] := List.sublist_nil.mp h
    subst this; exact List.mem_singleton.mpr rfl
  | n + 1, s, h => by
    rw [List.range_succ] at h
    obtain ⟨a, b, rfl, ha, hb⟩ := List.sublist_append_iff.mp h
    rcases List.sublist_cons_iff.mp hb with hb | ⟨r, rfl, hr⟩
    · have : b = [] := List.sublist_nil.mp hb
      subst this
      rw [List.append_nil]
      exact List.mem_append_left _ (sub_sets ha)
    · have : r = [] := List.sublist_nil.mp hr
      subst this
      exact List.mem_append_right _ (List.mem_map.mpr ⟨a, sub_sets ha, rfl⟩)
theorem low_sub (ns : List Int) (h : Nat) : (low ns h).Sublist (List.range ns.length) := List.filter_sublist
/-- what is known behind the sets L: the best one b, the places ks met -/
structure Best (ns : List Int) (L : List (List Nat)) (b : List Nat) (ks : List Int) : Prop where
  src : b = [] ∨ (b ∈ L ∧ CF 0 (slots ns b))
  most : ∀ s ∈ L, CF 0 (slots ns s) → s.length ≤ b.length
  nd : ks.Nodup
  met : ∀ k : Int, k ∈ ks ↔ ∃ s ∈ L, CF 0 (slots ns s) ∧ ∃ i ∈ s, k = (i : Int)
theorem Best.start {ns : List Int} : Best ns [] [] [] := ⟨.inl rfl, (fun _ h => nomatch h), List.nodup_nil, fun k => ⟨(fun h => nomatch h), fun ⟨_, h, _⟩ => nomatch h⟩⟩
theorem Best.skip {ns : List Int} {L : List (List Nat)} {b s : List Nat} {ks : List Int} (B : Best ns L b ks) (c : ¬ CF 0 (slots ns s)) : Best ns (L ++ [s]) b ks := by
  refine ⟨B.src.imp id fun h => ⟨List.mem_append_left _ h.1, h.2⟩, fun u hu cu => ?_, B.nd, fun k => ?_⟩
  · rcases List.mem_append.mp hu with h | h
    · exact B.most u h cu
    · obtain rfl := List.mem_singleton.mp h; exact absurd cu c
  · rw [B.met]
    constructor
    · rintro ⟨u, hu, q⟩; exact ⟨u, List.mem_append_left _ hu, q⟩
    · rintro ⟨u, hu, cu, q⟩
      rcases List.mem_append.mp hu with h | h
      · exact ⟨u, h, cu, q⟩
      · obtain rfl := List.mem_singleton.mp h; exact absurd cu c
theorem Best.more {ns : List Int} {L : List (List Nat)} {b s : List Nat} {ks ks' : List Int} (B : Best ns L b ks) (c : CF 0 (slots ns s)) (nd : ks'.Nodup) (hk : ∀ k : Int, k ∈ ks' ↔ k ∈ ks ∨ ∃ i ∈ s, k = (i : Int)) : Best ns (L ++ [s]) (if b.length < s.length then s else b) ks' := by
  refine ⟨?_, fun u hu cu => ?_, nd, fun k => ?_⟩
  · split
    · exact .inr ⟨List.mem_append_right _ (List.mem_singleton.mpr rfl), c⟩
    · exact B.src.imp id fun h => ⟨List.mem_append_left _ h.1, h.2⟩
  · rcases List.mem_append.mp hu with h | h
    · have := B.most u h cu
      split <;> omega
    · obtain rfl := List.mem_singleton.mp h
      split <;> omega
  · rw [hk, B.met]
    constructor
    · rintro (⟨u, hu, q⟩ | q)
      · exact ⟨u, List.mem_append_left _ hu, q⟩
      · exact ⟨s, List.mem_append_right _ (List.mem_singleton.mpr rfl), c, q⟩
    · rintro ⟨u, hu, cu, q⟩
      rcases List.mem_append.mp hu with h | h
      · exact .inl ⟨u, h, cu, q⟩
      · obtain rfl := List.mem_singleton.mp h; exact .inr q
theorem Best.end {ns : List Int} {b : List Nat} {ks : List Int} (B : Best ns (sets ns.length) b ks) {h : Nat} (H : Hgt ns h) : b = low ns h := by
  have l1 := B.most (low ns h) (sub_sets (low_sub ns h)) (low_closed H)
  have sub : b.Sublist (low ns h) := by
    rcases B.src with rfl | ⟨hm, c⟩
    · exact List.nil_sublist _
    · exact closed_low H (sets_sub hm) c
  exact sub.eq_of_length_le l1
theorem Best.keys {ns : List Int} {b : List Nat} {ks ys : List Int} (B : Best ns (sets ns.length) b ks) {h : Nat} (H : Hgt ns h) (p : ys.Perm ks) (so : ys.Pairwise (· ≤ ·)) : ys = (low ns h).map Int.ofNat := by
  have sl : ((low ns h).map Int.ofNat).Pairwise (· < ·) := by
    refine List.pairwise_map.mpr ?_
    have := (List.pairwise_lt_range (n := ns.length)).sublist (low_sub ns h)
    exact this.imp fun q => Int.ofNat_lt.mpr q
  have nd : ((low ns h).map Int.ofNat).Nodup := sl.imp fun q => by omega
  have pm : ys.Perm ((low ns h).map Int.ofNat) := by
    refine p.trans ((List.perm_ext_iff_of_nodup B.nd nd).mpr fun k => ?_)
    rw [B.met, List.mem_map]
    constructor
    · rintro ⟨s, hs, c, i, hi, rfl⟩
      exact ⟨i, (closed_low H (sets_sub hs) c).subset hi, rfl⟩
    · rintro ⟨i, hi, rfl⟩
      exact ⟨low ns h, sub_sets (low_sub ns h), low_closed H, i, hi, rfl⟩
  exact pm.eq_of_pairwise (fun a b _ _ h1 h2 => by omega) so (sl.imp fun q => by omega)
/-- the way up -/
theorem Hgt.step {ns : List Int} {h : Nat} (lt : ∀ g, g < h → g < cntL ns g) (ne : cntL ns h ≠ h) : h < cntL ns h := by
  cases h with
  | zero => omega
  | succ h =>
    have h1 := lt h (by omega)
    have h2 := cnt_mono ns (Nat.le_succ h)
    simp only [Nat.succ_eq_add_one] at h2
    omega
end M
namespace M
theorem Hgt.ex (ns : List Int) : ∃ h, Hgt ns h := by
  suffices q : ∀ d h, ns.length - h = d → h ≤ ns.length → (∀ g, g < h → g < cntL ns g) → ∃ h, Hgt ns h from q _ 0 rfl (Nat.zero_le _) fun g hg => by omega
  intro d
  induction d with
  | zero =>
    intro h hd hl lt
    have : h = ns.length := by omega
    subst this
    refine ⟨_, ?_, lt⟩
    apply Classical.byContradiction
    intro ne
    have := Hgt.step lt ne
    have := cnt_le ns ns.length
    omega
  | succ d ih =>
    intro h hd hl lt
    by_cases c : cntL ns h = h
    · exact ⟨h, c, lt⟩
    · have st := Hgt.step lt c
      refine ih (h + 1) (by omega) (by omega) fun g hg => ?_
      by_cases z : g < h
      · exact lt g z
      · obtain rfl : g = h := by omega
        exact st
theorem Hgt.uniq {ns : List Int} {h h' : Nat} (a : Hgt ns h) (b : Hgt ns h') : h = h' := by
  rcases Nat.lt_trichotomy h h' with c | c | c
  · have := b.lt h c; rw [a.eq] at this; omega
  · exact c
  · have := a.lt h' c; rw [b.eq] at this; omega
theorem filter_range {α : Type} (f : α → Bool) (d : α) : ∀ l : List α, ((List.range l.length).filter fun i => f (l.getD i d)).map (fun i => l.getD i d) = l.filter f
  | [] => rfl
  | x :: l => by
    rw [List.length_cons, List.range_succ_eq_map, List.filter_cons, List.filter_map, List.filter_cons, ← filter_range f d l]
    have e1 : ((fun i => f ((x :: l).getD i d)) ∘ Nat.succ) = fun i => f (l.getD i d) := by funext i; simp
    rw [e1]
    have e2 : (((List.range l.length).filter (fun i => f (l.getD i d))).map Nat.succ).map (fun i => (x :: l).getD i d) = ((List.range l.length).filter fun i => f (l.getD i d)).map (fun i => l.getD i d) := by
      rw [List.map_map]
      refine List.map_congr_left fun i _ => ?_
      simp
    cases c : f x with
    | true =>
      have c0 : f ((x :: l).getD 0 d) = true := c
      rw [if_pos c0, if_pos rfl, List.map_cons, e2]
      rfl
    | false =>
      have c0 : ¬ f ((x :: l).getD 0 d) = true := by show ¬ f x = true; rw [c]; decide
      rw [if_neg c0, if_neg (by decide), e2]
theorem keys_put {ks : List Int} {k : Int} (nd : ks.Nodup) : ∃ ks' : List Int, ks'.Nodup ∧ (∀ j, j ∈ ks' ↔ j ∈ ks ∨ j = k) ∧ ks' = if k ∈ ks then ks else ks ++ [k] := by
  by_cases c : k ∈ ks
  · refine ⟨ks, nd, fun j => ⟨.inl, ?_⟩, by rw [if_pos c]⟩
    rintro (h | rfl)
    · exact h
    · exact c
  · refine ⟨ks ++ [k], ?_, fun j => by simp, by rw [if_neg c]⟩
    rw [List.nodup_append]
    exact ⟨nd, by simp, fun a ha b hb => by obtain rfl := List.mem_singleton.mp hb; exact fun e => c (e ▸ ha)⟩
end M
namespace M
theorem filter_eq_one {ks : List Int} {k : Int} (nd : ks.Nodup) : (ks.filter fun x => decide (x = k)).length ≤ 1 := by
  induction ks with
  | nil => simp
  | cons x ks ih =>
    obtain ⟨h1, h2⟩ := List.nodup_cons.mp nd
    rw [List.filter_cons]
    split
    · rename_i c
      have e : x = k := by simpa using c
      subst e
      have z : (ks.filter fun y => decide (y = x)) = [] := List.filter_eq_nil_iff.mpr fun y hy q => by
        have e : y = x := by simpa using q
        exact h1 (e ▸ hy)
      rw [z]; simp
    · exact ih h2
theorem pig : ∀ (n : Nat) (ks : List Int), ks.Nodup → (∀ k ∈ ks, 0 ≤ k ∧ k < (n : Int)) → ks.length ≤ n
  | 0, ks, nd, h => by
    cases ks with
    | nil => simp
    | cons x ks => have := h x List.mem_cons_self; omega
  | n + 1, ks, nd, h => by
    have h1 := pig n (ks.filter fun x => !decide (x = (n : Int))) (nd.filter _) fun k hk => by
      obtain ⟨h1, h2⟩ := List.mem_filter.mp hk
      have := h k h1
      simp at h2
      omega
    have h2 := filter_eq_one (k := (n : Int)) nd
    have h3 : ks.length = (ks.filter fun x => decide (x = (n : Int))).length + (ks.filter fun x => !decide (x = (n : Int))).length := by
      rw [← List.countP_eq_length_filter, ← List.countP_eq_length_filter]
      have := List.length_eq_countP_add_countP (fun x => decide (x = (n : Int))) (l := ks)
      simp only [Bool.not_eq_true, decide_eq_false_iff_not, decide_not] at this
      exact this
    omega
end M
/-! closed lists counted: the mathematics -/
namespace M
/-- the product of what is spare -/
def prodP (ms : List Int) : Nat → Int
  | 0 => 1
  | n + 1 => prodP ms n * (if ((cntL ms n : Nat) : Int) - n > 0 then ((cntL ms n : Nat) : Int) - n else 0)
theorem prodP_zero (ms : List Int) : ∀ n, prodP ms n = 0 ↔ ∃ p, p < n ∧ cntL ms p ≤ p
  | 0 => by simp [prodP]
  | n + 1 => by
    unfold prodP
    rw [Int.mul_eq_zero, prodP_zero ms n]
    constructor
    · rintro (⟨p, h1, h2⟩ | h)
      · exact ⟨p, by omega, h2⟩
      · refine ⟨n, by omega, ?_⟩
        split at h <;> omega
    · rintro ⟨p, h1, h2⟩
      by_cases e : p = n
      · subst e; right; rw [if_neg (by omega)]
      · exact .inl ⟨p, by omega, h2⟩
theorem cf_of_cnt {ms : List Int} (h : ∀ p, p < ms.length → p < cntL ms p) : CF 0 ms := CF.of_cnt h
theorem prod_cf (ms : List Int) : prodP ms ms.length = 0 ↔ ¬ CF 0 ms := by
  rw [prodP_zero]
  constructor
  · rintro ⟨p, h1, h2⟩ c
    have := c.cnt_ge (t := p) h1
    omega
  · intro c
    apply Classical.byContradiction
    intro h
    refine c (cf_of_cnt fun p hp => ?_)
    apply Nat.lt_of_not_le
    exact fun h2 => h ⟨p, hp, h2⟩
theorem lm_cf {ms : List Int} {m : Int} (lm : IsLM ms m) : m = 0 ↔ CF 0 ms := by
  constructor
  · intro e
    have := lm.closes
    rw [e] at this
    simpa using this
  · intro c
    have h0 := lm.nonneg
    apply Classical.byContradiction
    intro ne
    have z := CF.zeros (r := ms) (a := 0) (by simpa using c) (m - 1).toNat
    exact lm.needs (more := List.replicate (0 + (m - 1).toNat) 0) (by omega) (by simp; omega) z
/-- the height is the whole length just if all is closed -/
theorem hgt_cf {ms : List Int} {h : Nat} (Hg : Hgt ms h) : h = ms.length ↔ CF 0 ms := by
  constructor
  · rintro rfl
    exact cf_of_cnt Hg.lt
  · intro c
    refine Hg.uniq ⟨?_, fun g hg => c.cnt_ge hg⟩
    obtain ⟨r, pm, q⟩ := c
    unfold cntL
    rw [← pm.countP_eq, ← pm.length_eq, List.countP_eq_length]
    intro x hx
    obtain ⟨j, hj, e⟩ := List.mem_iff_getElem.mp hx
    have := q j x (by rw [List.getElem?_eq_getElem hj, e])
    simp only [decide_eq_true_eq]
    omega
theorem hgt_le {ms : List Int} {h : Nat} (Hg : Hgt ms h) : h ≤ ms.length := by
  have := Hg.eq
  have l : cntL ms h ≤ ms.length := List.countP_le_length
  omega
theorem lowf_cnt (ms : List Int) {g h : Nat} (hg : g ≤ h) : cntL (ms.filter fun x => decide (x ≤ (h : Int))) g = cntL ms g := by
  unfold cntL
  rw [List.countP_filter]
  refine List.countP_congr fun x _ => ?_
  simp only [Bool.and_eq_true, decide_eq_true_eq]
  omega
theorem lowf_len (ms : List Int) (h : Nat) : (ms.filter fun x => decide (x ≤ (h : Int))).length = cntL ms h := (List.countP_eq_length_filter).symm
theorem best_cf {ms : List Int} {h : Nat} (Hg : Hgt ms h) : CF 0 (ms.filter fun x => decide (x ≤ (h : Int))) := cf_of_cnt fun p hp => by
  rw [lowf_len, Hg.eq] at hp
  rw [lowf_cnt ms (by omega)]
  exact Hg.lt p hp
theorem best_more {ms : List Int} {h : Nat} {s : Int} (Hg : Hgt ms h) (hs : (h : Int) < s) : ¬ CF 0 ((ms.filter fun x => decide (x ≤ (h : Int))) ++ [s]) := by
  intro c
  have l := lowf_len ms h
  rw [Hg.eq] at l
  have := c.cnt_ge (t := h) (by rw [List.length_append, l]; simp)
  unfold cntL at this
  rw [List.countP_append, List.countP_cons_of_neg (by simp only [decide_eq_true_eq]; omega), List.countP_nil] at this
  have e := List.countP_le_length (p := fun x => decide (x ≤ (h : Int))) (l := ms.filter fun x => decide (x ≤ (h : Int)))
  omega
end M
namespace K
open PySem PySem.Spec PyProof.Rows L2 U ClX
def top (i : Nat) : Stmt := PySem.Challenge.pw_indexlogs_k52_whole_missing_and_counted.main.body.getD i (.Pass ⟨0, 0, 0, 0⟩)
/-- the classes at hand, the constants -/
structure Ads where
  cBoard : Addr
  cFronted : Addr
  cImpossible : Addr
  cInserted : Addr
  cLogError : Addr
  cNoIndex : Addr
  cNoItem : Addr
  cNoList : Addr
  cNoLog : Addr
  cNoSeen : Addr
  cNoText : Addr
  cRecord : Addr
  cRemoved : Addr
abbrev Ads.kFRONTED (_ : Ads) : V := .str "^"
abbrev Ads.kINSERTED (_ : Ads) : V := .str "+"
abbrev Ads.kLETTERS (_ : Ads) : V := .str "abcdefghijklmnopqrstuvwxyz"
abbrev Ads.kMOST_LETTERS (_ : Ads) : V := .int 8
abbrev Ads.kMOST_LOG (_ : Ads) : V := .int 40
abbrev Ads.kREMOVED (_ : Ads) : V := .str "-"
structure Gm (mg : Str → Option Value) (A : Ads) : Prop where
  g_abs : mg "abs" = none
  g_all : mg "all" = none
  g_bool : mg "bool" = none
  g_enumerate : mg "enumerate" = none
  g_int : mg "int" = none
  g_isinstance : mg "isinstance" = none
  g_len : mg "len" = none
  g_list : mg "list" = none
  g_max : mg "max" = none
  g_min : mg "min" = none
  g_range : mg "range" = none
  g_set : mg "set" = none
  g_sorted : mg "sorted" = none
  g_str : mg "str" = none
  g_zip : mg "zip" = none
  g_FRONTED : ∃ u, mg "FRONTED" = some u ∧ RelV A.kFRONTED u
  g_INSERTED : ∃ u, mg "INSERTED" = some u ∧ RelV A.kINSERTED u
  g_LETTERS : ∃ u, mg "LETTERS" = some u ∧ RelV A.kLETTERS u
  g_MOST_LETTERS : ∃ u, mg "MOST_LETTERS" = some u ∧ RelV A.kMOST_LETTERS u
  g_MOST_LOG : ∃ u, mg "MOST_LOG" = some u ∧ RelV A.kMOST_LOG u
  g_REMOVED : ∃ u, mg "REMOVED" = some u ∧ RelV A.kREMOVED u
  cBoard : mg "Board" = some (.ref A.cBoard)
  cFronted : mg "Fronted" = some (.ref A.cFronted)
  cImpossible : mg "Impossible" = some (.ref A.cImpossible)
  cInserted : mg "Inserted" = some (.ref A.cInserted)
  cLogError : mg "LogError" = some (.ref A.cLogError)
  cNoIndex : mg "NoIndex" = some (.ref A.cNoIndex)
  cNoItem : mg "NoItem" = some (.ref A.cNoItem)
  cNoList : mg "NoList" = some (.ref A.cNoList)
  cNoLog : mg "NoLog" = some (.ref A.cNoLog)
  cNoSeen : mg "NoSeen" = some (.ref A.cNoSeen)
  cNoText : mg "NoText" = some (.ref A.cNoText)
  cRecord : mg "Record" = some (.ref A.cRecord)
  cRemoved : mg "Removed" = some (.ref A.cRemoved)
abbrev s_is_integer : Stmt := top 20
abbrev N_is_integer : List Str := ["thing", "least", "most"]
abbrev ps_is_integer : List Str := ["thing", "least", "most"]
theorem sc_is_integer : FnScope N_is_integer ["thing", "least", "most"] (defScope s_is_integer) := ⟨rfl, rfl, rfl, by decide +kernel, rfl, by decide +kernel, by decide +kernel⟩
def t_is_integer (P : Program) (w : World) (K : PySem.W.Frag) (mg : Str → Option Value) (base : Heap) (A : Ads) (E : XK) : TS :=
  tRet (tAndV (tCB (cIsi K) (tCons (tVar 0) (tCons (tC (.ty "int")) (tNil)))) (tAndV (tNotV (tCB (cIsi K) (tCons (tVar 0) (tCons (tC (.ty "bool")) (tNil))))) (tChain uLe uLe (tVar 1) (tVar 0) (tVar 2))))
theorem d_is_integer {P : Program} {w : World} {K : PySem.W.Frag} {mg : Str → Option Value} {base : Heap} {A : Ads} {f : Addr} {cdv : Value} {Ar : Around} {outer : List Env} {s : Shared} {H : Hp} {E : XK} (G : Gm mg A) (hr : Room 1 (Ar.deeper (envOfC "is_integer" (defScope s_is_integer) s.heap.objs.size f cdv))) (qt : Quiet (Ar.deeper (envOfC "is_integer" (defScope s_is_integer) s.heap.objs.size f cdv))) :
    PSs (cxOf (L2.CX P w) P w K mg base N_is_integer "is_integer" (defScope s_is_integer) f cdv Ar outer s H E) (defBody s_is_integer) (t_is_integer P w K mg base A E) := by
  have sc := sc_is_integer
  have at_ : At (cxOf (L2.CX P w) P w K mg base N_is_integer "is_integer" (defScope s_is_integer) f cdv Ar outer s H E) 1 E := At.of hr qt (takes_of rfl rfl rfl rfl)
  have pn : PassesOwn (model P w) (cxOf (L2.CX P w) P w K mg base N_is_integer "is_integer" (defScope s_is_integer) f cdv Ar outer s H E).A (cxOf (L2.CX P w) P w K mg base N_is_integer "is_integer" (defScope s_is_integer) f cdv Ar outer s H E).env (cxOf (L2.CX P w) P w K mg base N_is_integer "is_integer" (defScope s_is_integer) f cdv Ar outer s H E).xe := passes_of rfl
  exact pss_one (ps_ret (pe_and (pe_callB call_cIsi (by rfl) G.g_isinstance (by decide +kernel) (pa_cons (pv 0) (pa_cons (pe_bltn (v := .ty "int") (by rfl) G.g_int (by decide +kernel) rfl) (pa_nil)))) (pe_and (pe_not (pe_callB call_cIsi (by rfl) G.g_isinstance (by decide +kernel) (pa_cons (pv 0) (pa_cons (pe_bltn (v := .ty "bool") (by rfl) G.g_bool (by decide +kernel) rfl) (pa_nil))))) (pe_one (pe_chain op_uLe op_uLe (pv 1) (pv 0) (pv 2))))))
abbrev s_is_item : Stmt := top 21
abbrev N_is_item : List Str := ["thing", "letter"]
abbrev ps_is_item : List Str := ["thing"]
theorem sc_is_item : FnScope N_is_item ["thing"] (defScope s_is_item) := ⟨rfl, rfl, rfl, by decide +kernel, rfl, by decide +kernel, by decide +kernel⟩
def t_is_item (P : Program) (w : World) (K : PySem.W.Frag) (mg : Str → Option Value) (base : Heap) (A : Ads) (E : XK) : TS :=
  tSeq (tIfS (tOr (tNot (tB (tCB (cIsi K) (tCons (tVar 0) (tCons (tC (.ty "str")) (tNil)))))) (tNot (tTest (tChain uLe uLe (tC (.int 1)) (tCB (cLen K) (tCons (tVar 0) (tNil))) (tC A.kMOST_LETTERS))))) (tRet (tC (.bl false))) (tNext)) (tRet (tCB (cAll K) (tCons (tLc (iStr (tVar 0)) (gName 1) (tYes) (tOp (uIn K false) (tVar 1) (tC A.kLETTERS)) [1]) (tNil))))
theorem d_is_item {P : Program} {w : World} {K : PySem.W.Frag} {mg : Str → Option Value} {base : Heap} {A : Ads} {f : Addr} {cdv : Value} {Ar : Around} {outer : List Env} {s : Shared} {H : Hp} {E : XK} (G : Gm mg A) (hr : Room 1 (Ar.deeper (envOfC "is_item" (defScope s_is_item) s.heap.objs.size f cdv))) (qt : Quiet (Ar.deeper (envOfC "is_item" (defScope s_is_item) s.heap.objs.size f cdv))) :
    PSs (cxOf (L2.CX P w) P w K mg base N_is_item "is_item" (defScope s_is_item) f cdv Ar outer s H E) (defBody s_is_item) (t_is_item P w K mg base A E) := by
  have sc := sc_is_item
  have at_ : At (cxOf (L2.CX P w) P w K mg base N_is_item "is_item" (defScope s_is_item) f cdv Ar outer s H E) 1 E := At.of hr qt (takes_of rfl rfl rfl rfl)
  have pn : PassesOwn (model P w) (cxOf (L2.CX P w) P w K mg base N_is_item "is_item" (defScope s_is_item) f cdv Ar outer s H E).A (cxOf (L2.CX P w) P w K mg base N_is_item "is_item" (defScope s_is_item) f cdv Ar outer s H E).env (cxOf (L2.CX P w) P w K mg base N_is_item "is_item" (defScope s_is_item) f cdv Ar outer s H E).xe := passes_of rfl
  exact pss_cons (ps_if (PW.pt (pw_or (pt_not (pt_val (pe_callB call_cIsi (by rfl) G.g_isinstance (by decide +kernel) (pa_cons (pv 0) (pa_cons (pe_bltn (v := .ty "str") (by rfl) G.g_str (by decide +kernel) rfl) (pa_nil)))))) (pw_or1 (pt_not (pt_chain op_uLe op_uLe (pe_int) (pe_callB call_cLen (by rfl) G.g_len (by decide +kernel) (pa_cons (pv 0) (pa_nil))) (pe_g (by rfl) G.g_MOST_LETTERS)))))) (pss_one (ps_ret (pe_bl))) (pss_nil)) (pss_one (ps_ret (pe_callB (call_cAll rfl) (by rfl) G.g_all (by decide +kernel) (pa_cons (pe_lc (own := [("letter", 1)]) (g := gName 1) (tt := tYes) rfl sc.nd (pi_str (pv 0)) (blkOk_by (N := N_is_item) (sc := defScope s_is_item) (by decide +kernel)) (fun _ _ _ _ _ => pg_name (i := 1) sc.nd rfl (by first | exact Or.inl rfl | exact Or.inr rfl)) (fun _ _ _ _ _ => pts_nil) (fun _ _ _ _ _ => pe_cmpR (op_uIn hr) (pv 1) (pe_g (by rfl) G.g_LETTERS) (by rfl))) (pa_nil)))))
abbrev s_Record_init : Stmt := inClass (top 24) 2
abbrev N_Record_init : List Str := ["self", "item", "slot"]
abbrev ps_Record_init : List Str := ["self", "item", "slot"]
theorem sc_Record_init : FnScope N_Record_init ["self", "item", "slot"] (defScope s_Record_init) := ⟨rfl, rfl, rfl, by decide +kernel, rfl, by decide +kernel, by decide +kernel⟩
def t_Record_init (P : Program) (w : World) (K : PySem.W.Frag) (mg : Str → Option Value) (base : Heap) (A : Ads) (E : XK) : TS :=
  tSeq (tIfS (tNot (tB (tFn P w K mg base "is_item" 2 E (tCons (tVar 1) (tNil))))) (tNever) (tNext)) (tSeq (tIfS (tNot (tB (tFn P w K mg base "is_integer" 2 E (tCons (tVar 2) (tCons (tC (.int 0)) (tCons (tAtt P w K mg base "MOST" (tC (.ref A.cRecord))) (tNil))))))) (tNever) (tNext)) (tSeq (sFld K (tVar 0) (tVar 1) "held_item") (sFld K (tVar 0) (tVar 2) "held_slot")))
theorem d_Record_init {P : Program} {w : World} {K : PySem.W.Frag} {mg : Str → Option Value} {base : Heap} {A : Ads} {f : Addr} {cdv : Value} {Ar : Around} {outer : List Env} {s : Shared} {H : Hp} {E : XK} (G : Gm mg A) (hr : Room 2 (Ar.deeper (envOfC "Record.__init__" (defScope s_Record_init) s.heap.objs.size f cdv))) (qt : Quiet (Ar.deeper (envOfC "Record.__init__" (defScope s_Record_init) s.heap.objs.size f cdv))) :
    PSs (cxOf (L2.CX P w) P w K mg base N_Record_init "Record.__init__" (defScope s_Record_init) f cdv Ar outer s H E) (defBody s_Record_init) (t_Record_init P w K mg base A E) := by
  have sc := sc_Record_init
  have at_ : At (cxOf (L2.CX P w) P w K mg base N_Record_init "Record.__init__" (defScope s_Record_init) f cdv Ar outer s H E) 2 E := At.of hr qt (takes_of rfl rfl rfl rfl)
  have pn : PassesOwn (model P w) (cxOf (L2.CX P w) P w K mg base N_Record_init "Record.__init__" (defScope s_Record_init) f cdv Ar outer s H E).A (cxOf (L2.CX P w) P w K mg base N_Record_init "Record.__init__" (defScope s_Record_init) f cdv Ar outer s H E).env (cxOf (L2.CX P w) P w K mg base N_Record_init "Record.__init__" (defScope s_Record_init) f cdv Ar outer s H E).xe := passes_of rfl
  exact pss_cons (ps_if (pt_not (pt_val (pe_fn at_ (by rfl) (pa_cons (pv 1) (pa_nil))))) (pss_one (ps_never)) (pss_nil)) (pss_cons (ps_if (pt_not (pt_val (pe_fn at_ (by rfl) (pa_cons (pv 2) (pa_cons (pe_int) (pa_cons (pe_att hr (pe_g (by rfl) ⟨_, G.cRecord, rfl⟩)) (pa_nil))))))) (pss_one (ps_never)) (pss_nil)) (pss_cons (ps_fld (pv 0) (pv 1) rfl) (pss_one (ps_fld (pv 0) (pv 2) rfl))))
abbrev s_Record_item : Stmt := inClass (top 24) 4
abbrev N_Record_item : List Str := ["self"]
abbrev ps_Record_item : List Str := ["self"]
theorem sc_Record_item : FnScope N_Record_item ["self"] (defScope s_Record_item) := ⟨rfl, rfl, rfl, by decide +kernel, rfl, by decide +kernel, by decide +kernel⟩
def t_Record_item (P : Program) (w : World) (K : PySem.W.Frag) (mg : Str → Option Value) (base : Heap) (A : Ads) (E : XK) : TS :=
  tRet (tAtt P w K mg base "held_item" (tVar 0))
theorem d_Record_item {P : Program} {w : World} {K : PySem.W.Frag} {mg : Str → Option Value} {base : Heap} {A : Ads} {f : Addr} {cdv : Value} {Ar : Around} {outer : List Env} {s : Shared} {H : Hp} {E : XK} (G : Gm mg A) (hr : Room 2 (Ar.deeper (envOfC "Record.item" (defScope s_Record_item) s.heap.objs.size f cdv))) (qt : Quiet (Ar.deeper (envOfC "Record.item" (defScope s_Record_item) s.heap.objs.size f cdv))) :
    PSs (cxOf (L2.CX P w) P w K mg base N_Record_item "Record.item" (defScope s_Record_item) f cdv Ar outer s H E) (defBody s_Record_item) (t_Record_item P w K mg base A E) := by
  have sc := sc_Record_item
  have at_ : At (cxOf (L2.CX P w) P w K mg base N_Record_item "Record.item" (defScope s_Record_item) f cdv Ar outer s H E) 2 E := At.of hr qt (takes_of rfl rfl rfl rfl)
  have pn : PassesOwn (model P w) (cxOf (L2.CX P w) P w K mg base N_Record_item "Record.item" (defScope s_Record_item) f cdv Ar outer s H E).A (cxOf (L2.CX P w) P w K mg base N_Record_item "Record.item" (defScope s_Record_item) f cdv Ar outer s H E).env (cxOf (L2.CX P w) P w K mg base N_Record_item "Record.item" (defScope s_Record_item) f cdv Ar outer s H E).xe := passes_of rfl
  exact pss_one (ps_ret (pe_att hr (pv 0)))
abbrev s_Record_slot : Stmt := inClass (top 24) 5
abbrev N_Record_slot : List Str := ["self"]
abbrev ps_Record_slot : List Str := ["self"]
theorem sc_Record_slot : FnScope N_Record_slot ["self"] (defScope s_Record_slot) := ⟨rfl, rfl, rfl, by decide +kernel, rfl, by decide +kernel, by decide +kernel⟩
def t_Record_slot (P : Program) (w : World) (K : PySem.W.Frag) (mg : Str → Option Value) (base : Heap) (A : Ads) (E : XK) : TS :=
  tRet (tAtt P w K mg base "held_slot" (tVar 0))
theorem d_Record_slot {P : Program} {w : World} {K : PySem.W.Frag} {mg : Str → Option Value} {base : Heap} {A : Ads} {f : Addr} {cdv : Value} {Ar : Around} {outer : List Env} {s : Shared} {H : Hp} {E : XK} (G : Gm mg A) (hr : Room 2 (Ar.deeper (envOfC "Record.slot" (defScope s_Record_slot) s.heap.objs.size f cdv))) (qt : Quiet (Ar.deeper (envOfC "Record.slot" (defScope s_Record_slot) s.heap.objs.size f cdv))) :
    PSs (cxOf (L2.CX P w) P w K mg base N_Record_slot "Record.slot" (defScope s_Record_slot) f cdv Ar outer s H E) (defBody s_Record_slot) (t_Record_slot P w K mg base A E) := by
  have sc := sc_Record_slot
  have at_ : At (cxOf (L2.CX P w) P w K mg base N_Record_slot "Record.slot" (defScope s_Record_slot) f cdv Ar outer s H E) 2 E := At.of hr qt (takes_of rfl rfl rfl rfl)
  have pn : PassesOwn (model P w) (cxOf (L2.CX P w) P w K mg base N_Record_slot "Record.slot" (defScope s_Record_slot) f cdv Ar outer s H E).A (cxOf (L2.CX P w) P w K mg base N_Record_slot "Record.slot" (defScope s_Record_slot) f cdv Ar outer s H E).env (cxOf (L2.CX P w) P w K mg base N_Record_slot "Record.slot" (defScope s_Record_slot) f cdv Ar outer s H E).xe := passes_of rfl
  exact pss_one (ps_ret (pe_att hr (pv 0)))
abbrev s_Record_move_to : Stmt := inClass (top 24) 7
abbrev N_Record_move_to : List Str := ["self", "slot"]
abbrev ps_Record_move_to : List Str := ["self", "slot"]
theorem sc_Record_move_to : FnScope N_Record_move_to ["self", "slot"] (defScope s_Record_move_to) := ⟨rfl, rfl, rfl, by decide +kernel, rfl, by decide +kernel, by decide +kernel⟩
def t_Record_move_to (P : Program) (w : World) (K : PySem.W.Frag) (mg : Str → Option Value) (base : Heap) (A : Ads) (E : XK) : TS :=
  tSeq (tIfS (tNot (tB (tFn P w K mg base "is_integer" 2 E (tCons (tVar 1) (tCons (tC (.int 0)) (tCons (tAtt P w K mg base "MOST" (tC (.ref A.cRecord))) (tNil))))))) (tNever) (tNext)) (sFld K (tVar 0) (tVar 1) "held_slot")
theorem d_Record_move_to {P : Program} {w : World} {K : PySem.W.Frag} {mg : Str → Option Value} {base : Heap} {A : Ads} {f : Addr} {cdv : Value} {Ar : Around} {outer : List Env} {s : Shared} {H : Hp} {E : XK} (G : Gm mg A) (hr : Room 2 (Ar.deeper (envOfC "Record.move_to" (defScope s_Record_move_to) s.heap.objs.size f cdv))) (qt : Quiet (Ar.deeper (envOfC "Record.move_to" (defScope s_Record_move_to) s.heap.objs.size f cdv))) :
    PSs (cxOf (L2.CX P w) P w K mg base N_Record_move_to "Record.move_to" (defScope s_Record_move_to) f cdv Ar outer s H E) (defBody s_Record_move_to) (t_Record_move_to P w K mg base A E) := by
  have sc := sc_Record_move_to
  have at_ : At (cxOf (L2.CX P w) P w K mg base N_Record_move_to "Record.move_to" (defScope s_Record_move_to) f cdv Ar outer s H E) 2 E := At.of hr qt (takes_of rfl rfl rfl rfl)
  have pn : PassesOwn (model P w) (cxOf (L2.CX P w) P w K mg base N_Record_move_to "Record.move_to" (defScope s_Record_move_to) f cdv Ar outer s H E).A (cxOf (L2.CX P w) P w K mg base N_Record_move_to "Record.move_to" (defScope s_Record_move_to) f cdv Ar outer s H E).env (cxOf (L2.CX P w) P w K mg base N_Record_move_to "Record.move_to" (defScope s_Record_move_to) f cdv Ar outer s H E).xe := passes_of rfl
  exact pss_cons (ps_if (pt_not (pt_val (pe_fn at_ (by rfl) (pa_cons (pv 1) (pa_cons (pe_int) (pa_cons (pe_att hr (pe_g (by rfl) ⟨_, G.cRecord, rfl⟩)) (pa_nil))))))) (pss_one (ps_never)) (pss_nil)) (pss_one (ps_fld (pv 0) (pv 1) rfl))
abbrev s_are_records : Stmt := top 34
abbrev N_are_records : List Str := ["thing", "most", "record"]
abbrev ps_are_records : List Str := ["thing", "most"]
theorem sc_are_records : FnScope N_are_records ["thing", "most"] (defScope s_are_records) := ⟨rfl, rfl, rfl, by decide +kernel, rfl, by decide +kernel, by decide +kernel⟩
def t_are_records (P : Program) (w : World) (K : PySem.W.Frag) (mg : Str → Option Value) (base : Heap) (A : Ads) (E : XK) : TS :=
  tSeq (tIfS (tOr (tNot (tB (tCB (cIsi K) (tCons (tVar 0) (tCons (tC (.ty "list")) (tNil)))))) (tTest (tOp uGt (tCB (cLen K) (tCons (tVar 0) (tNil))) (tVar 1)))) (tRet (tC (.bl false))) (tNext)) (tRet (tCB (cAll K) (tCons (tLc (iList K (tVar 0)) (gName 2) (tYes) (tAndV (tCB (cIsi K) (tCons (tVar 2) (tCons (tC (.ref A.cRecord)) (tNil)))) (tOp (uNe K) (tAtt P w K mg base "SIGN" (tVar 2)) (tC (.str "")))) [2]) (tNil))))
theorem d_are_records {P : Program} {w : World} {K : PySem.W.Frag} {mg : Str → Option Value} {base : Heap} {A : Ads} {f : Addr} {cdv : Value} {Ar : Around} {outer : List Env} {s : Shared} {H : Hp} {E : XK} (G : Gm mg A) (hr : Room 2 (Ar.deeper (envOfC "are_records" (defScope s_are_records) s.heap.objs.size f cdv))) (qt : Quiet (Ar.deeper (envOfC "are_records" (defScope s_are_records) s.heap.objs.size f cdv))) :
    PSs (cxOf (L2.CX P w) P w K mg base N_are_records "are_records" (defScope s_are_records) f cdv Ar outer s H E) (defBody s_are_records) (t_are_records P w K mg base A E) := by
  have sc := sc_are_records
  have at_ : At (cxOf (L2.CX P w) P w K mg base N_are_records "are_records" (defScope s_are_records) f cdv Ar outer s H E) 2 E := At.of hr qt (takes_of rfl rfl rfl rfl)
  have pn : PassesOwn (model P w) (cxOf (L2.CX P w) P w K mg base N_are_records "are_records" (defScope s_are_records) f cdv Ar outer s H E).A (cxOf (L2.CX P w) P w K mg base N_are_records "are_records" (defScope s_are_records) f cdv Ar outer s H E).env (cxOf (L2.CX P w) P w K mg base N_are_records "are_records" (defScope s_are_records) f cdv Ar outer s H E).xe := passes_of rfl
  exact pss_cons (ps_if (PW.pt (pw_or (pt_not (pt_val (pe_callB call_cIsi (by rfl) G.g_isinstance (by decide +kernel) (pa_cons (pv 0) (pa_cons (pe_bltn (v := .ty "list") (by rfl) G.g_list (by decide +kernel) rfl) (pa_nil)))))) (pw_or1 (pt_cmpR op_uGt (pe_callB call_cLen (by rfl) G.g_len (by decide +kernel) (pa_cons (pv 0) (pa_nil))) (pv 1) (nomark _))))) (pss_one (ps_ret (pe_bl))) (pss_nil)) (pss_one (ps_ret (pe_callB (call_cAll rfl) (by rfl) G.g_all (by decide +kernel) (pa_cons (pe_lc (own := [("record", 2)]) (g := gName 2) (tt := tYes) rfl sc.nd (pi_list (pv 0)) (blkOk_by (N := N_are_records) (sc := defScope s_are_records) (by decide +kernel)) (fun _ _ _ _ _ => pg_name (i := 2) sc.nd rfl (by first | exact Or.inl rfl | exact Or.inr rfl)) (fun _ _ _ _ _ => pts_nil) (fun _ _ _ _ _ => pe_and (pe_callB call_cIsi (by rfl) G.g_isinstance (by decide +kernel) (pa_cons (pv 2) (pa_cons (pe_g (by rfl) ⟨_, G.cRecord, rfl⟩) (pa_nil)))) (pe_one (pe_cmpR (op_uNe hr) (pe_att hr (pv 2)) (pe_str) (nomark _))))) (pa_nil)))))
abbrev s_sign_of : Stmt := top 35
abbrev N_sign_of : List Str := ["log"]
abbrev ps_sign_of : List Str := ["log"]
theorem sc_sign_of : FnScope N_sign_of ["log"] (defScope s_sign_of) := ⟨rfl, rfl, rfl, by decide +kernel, rfl, by decide +kernel, by decide +kernel⟩
def t_sign_of (P : Program) (w : World) (K : PySem.W.Frag) (mg : Str → Option Value) (base : Heap) (A : Ads) (E : XK) : TS :=
  tRet (tIf (tTest (tOp (uNe K) (tVar 0) (tLst (tNil)))) (tAtt P w K mg base "SIGN" (tOp (uIx K) (tVar 0) (tC (.int 0)))) (tC (.str "")))
theorem d_sign_of {P : Program} {w : World} {K : PySem.W.Frag} {mg : Str → Option Value} {base : Heap} {A : Ads} {f : Addr} {cdv : Value} {Ar : Around} {outer : List Env} {s : Shared} {H : Hp} {E : XK} (G : Gm mg A) (hr : Room 2 (Ar.deeper (envOfC "sign_of" (defScope s_sign_of) s.heap.objs.size f cdv))) (qt : Quiet (Ar.deeper (envOfC "sign_of" (defScope s_sign_of) s.heap.objs.size f cdv))) :
    PSs (cxOf (L2.CX P w) P w K mg base N_sign_of "sign_of" (defScope s_sign_of) f cdv Ar outer s H E) (defBody s_sign_of) (t_sign_of P w K mg base A E) := by
  have sc := sc_sign_of
  have at_ : At (cxOf (L2.CX P w) P w K mg base N_sign_of "sign_of" (defScope s_sign_of) f cdv Ar outer s H E) 2 E := At.of hr qt (takes_of rfl rfl rfl rfl)
  have pn : PassesOwn (model P w) (cxOf (L2.CX P w) P w K mg base N_sign_of "sign_of" (defScope s_sign_of) f cdv Ar outer s H E).A (cxOf (L2.CX P w) P w K mg base N_sign_of "sign_of" (defScope s_sign_of) f cdv Ar outer s H E).env (cxOf (L2.CX P w) P w K mg base N_sign_of "sign_of" (defScope s_sign_of) f cdv Ar outer s H E).xe := passes_of rfl
  exact pss_one (ps_ret (pe_ifExp (pt_cmpR (op_uNe hr) (pv 0) (pe_lst (pa_nil)) (nomark _)) (pe_att hr (pe_ix ix_u (pv 0) (pe_int) (fun _ _ => rfl))) (pe_str)))
abbrev s_items_of : Stmt := top 36
abbrev N_items_of : List Str := ["log", "record"]
abbrev ps_items_of : List Str := ["log"]
theorem sc_items_of : FnScope N_items_of ["log"] (defScope s_items_of) := ⟨rfl, rfl, rfl, by decide +kernel, rfl, by decide +kernel, by decide +kernel⟩
def t_items_of (P : Program) (w : World) (K : PySem.W.Frag) (mg : Str → Option Value) (base : Heap) (A : Ads) (E : XK) : TS :=
  tRet (tLc (iList K (tVar 0)) (gName 1) (tYes) (tAtt P w K mg base "item" (tVar 1)) [1])
theorem d_items_of {P : Program} {w : World} {K : PySem.W.Frag} {mg : Str → Option Value} {base : Heap} {A : Ads} {f : Addr} {cdv : Value} {Ar : Around} {outer : List Env} {s : Shared} {H : Hp} {E : XK} (G : Gm mg A) (hr : Room 2 (Ar.deeper (envOfC "items_of" (defScope s_items_of) s.heap.objs.size f cdv))) (qt : Quiet (Ar.deeper (envOfC "items_of" (defScope s_items_of) s.heap.objs.size f cdv))) :
    PSs (cxOf (L2.CX P w) P w K mg base N_items_of "items_of" (defScope s_items_of) f cdv Ar outer s H E) (defBody s_items_of) (t_items_of P w K mg base A E) := by
  have sc := sc_items_of
  have at_ : At (cxOf (L2.CX P w) P w K mg base N_items_of "items_of" (defScope s_items_of) f cdv Ar outer s H E) 2 E := At.of hr qt (takes_of rfl rfl rfl rfl)
  have pn : PassesOwn (model P w) (cxOf (L2.CX P w) P w K mg base N_items_of "items_of" (defScope s_items_of) f cdv Ar outer s H E).A (cxOf (L2.CX P w) P w K mg base N_items_of "items_of" (defScope s_items_of) f cdv Ar outer s H E).env (cxOf (L2.CX P w) P w K mg base N_items_of "items_of" (defScope s_items_of) f cdv Ar outer s H E).xe := passes_of rfl
  exact pss_one (ps_ret (pe_lc (own := [("record", 1)]) (g := gName 1) (tt := tYes) rfl sc.nd (pi_list (pv 0)) (blkOk_by (N := N_items_of) (sc := defScope s_items_of) (by decide +kernel)) (fun _ _ _ _ _ => pg_name (i := 1) sc.nd rfl (by first | exact Or.inl rfl | exact Or.inr rfl)) (fun _ _ _ _ _ => pts_nil) (fun _ _ _ _ _ => pe_att hr (pv 1))))
abbrev s_is_log : Stmt := top 37
abbrev N_is_log : List Str := ["thing", "record"]
abbrev ps_is_log : List Str := ["thing"]
theorem sc_is_log : FnScope N_is_log ["thing"] (defScope s_is_log) := ⟨rfl, rfl, rfl, by decide +kernel, rfl, by decide +kernel, by decide +kernel⟩
def t_is_log (P : Program) (w : World) (K : PySem.W.Frag) (mg : Str → Option Value) (base : Heap) (A : Ads) (E : XK) : TS :=
  tSeq (tIfS (tNot (tB (tFn P w K mg base "are_records" 3 E (tCons (tVar 0) (tCons (tC A.kMOST_LOG) (tNil)))))) (tRet (tC (.bl false))) (tNext)) (tRet (tAndV (tOp uLe (tLenSetT K (tLc (iList K (tVar 0)) (gName 1) (tYes) (tAtt P w K mg base "SIGN" (tVar 1)) [1])) (tC (.int 1))) (tOp (uEq K) (tLenSetT K (tFn P w K mg base "items_of" 3 E (tCons (tVar 0) (tNil)))) (tCB (cLen K) (tCons (tVar 0) (tNil))))))
theorem d_is_log {P : Program} {w : World} {K : PySem.W.Frag} {mg : Str → Option Value} {base : Heap} {A : Ads} {f : Addr} {cdv : Value} {Ar : Around} {outer : List Env} {s : Shared} {H : Hp} {E : XK} (G : Gm mg A) (hr : Room 3 (Ar.deeper (envOfC "is_log" (defScope s_is_log) s.heap.objs.size f cdv))) (qt : Quiet (Ar.deeper (envOfC "is_log" (defScope s_is_log) s.heap.objs.size f cdv))) :
    PSs (cxOf (L2.CX P w) P w K mg base N_is_log "is_log" (defScope s_is_log) f cdv Ar outer s H E) (defBody s_is_log) (t_is_log P w K mg base A E) := by
  have sc := sc_is_log
  have at_ : At (cxOf (L2.CX P w) P w K mg base N_is_log "is_log" (defScope s_is_log) f cdv Ar outer s H E) 3 E := At.of hr qt (takes_of rfl rfl rfl rfl)
  have pn : PassesOwn (model P w) (cxOf (L2.CX P w) P w K mg base N_is_log "is_log" (defScope s_is_log) f cdv Ar outer s H E).A (cxOf (L2.CX P w) P w K mg base N_is_log "is_log" (defScope s_is_log) f cdv Ar outer s H E).env (cxOf (L2.CX P w) P w K mg base N_is_log "is_log" (defScope s_is_log) f cdv Ar outer s H E).xe := passes_of rfl
  exact pss_cons (ps_if (pt_not (pt_val (pe_fn at_ (by rfl) (pa_cons (pv 0) (pa_cons (pe_g (by rfl) G.g_MOST_LOG) (pa_nil)))))) (pss_one (ps_ret (pe_bl))) (pss_nil)) (pss_one (ps_ret (pe_and (pe_cmpR op_uLe (pe_lenSetT (by rfl) G.g_len (by rfl) G.g_set (pe_lc (own := [("record", 1)]) (g := gName 1) (tt := tYes) rfl sc.nd (pi_list (pv 0)) (blkOk_by (N := N_is_log) (sc := defScope s_is_log) (by decide +kernel)) (fun _ _ _ _ _ => pg_name (i := 1) sc.nd rfl (by first | exact Or.inl rfl | exact Or.inr rfl)) (fun _ _ _ _ _ => pts_nil) (fun _ _ _ _ _ => pe_att hr (pv 1)))) (pe_int) (nomark _)) (pe_one (pe_cmpR (op_uEq hr) (pe_lenSetT (by rfl) G.g_len (by rfl) G.g_set (pe_fn at_ (by rfl) (pa_cons (pv 0) (pa_nil)))) (pe_callB call_cLen (by rfl) G.g_len (by decide +kernel) (pa_cons (pv 0) (pa_nil))) (nomark _))))))
abbrev s_need_log : Stmt := top 38
abbrev N_need_log : List Str := ["thing"]
abbrev ps_need_log : List Str := ["thing"]
theorem sc_need_log : FnScope N_need_log ["thing"] (defScope s_need_log) := ⟨rfl, rfl, rfl, by decide +kernel, rfl, by decide +kernel, by decide +kernel⟩
def t_need_log (P : Program) (w : World) (K : PySem.W.Frag) (mg : Str → Option Value) (base : Heap) (A : Ads) (E : XK) : TS :=
  tIfS (tNot (tB (tFn P w K mg base "is_log" 4 E (tCons (tVar 0) (tNil))))) (tNever) (tNext)
theorem d_need_log {P : Program} {w : World} {K : PySem.W.Frag} {mg : Str → Option Value} {base : Heap} {A : Ads} {f : Addr} {cdv : Value} {Ar : Around} {outer : List Env} {s : Shared} {H : Hp} {E : XK} (G : Gm mg A) (hr : Room 4 (Ar.deeper (envOfC "need_log" (defScope s_need_log) s.heap.objs.size f cdv))) (qt : Quiet (Ar.deeper (envOfC "need_log" (defScope s_need_log) s.heap.objs.size f cdv))) :
    PSs (cxOf (L2.CX P w) P w K mg base N_need_log "need_log" (defScope s_need_log) f cdv Ar outer s H E) (defBody s_need_log) (t_need_log P w K mg base A E) := by
  have sc := sc_need_log
  have at_ : At (cxOf (L2.CX P w) P w K mg base N_need_log "need_log" (defScope s_need_log) f cdv Ar outer s H E) 4 E := At.of hr qt (takes_of rfl rfl rfl rfl)
  have pn : PassesOwn (model P w) (cxOf (L2.CX P w) P w K mg base N_need_log "need_log" (defScope s_need_log) f cdv Ar outer s H E).A (cxOf (L2.CX P w) P w K mg base N_need_log "need_log" (defScope s_need_log) f cdv Ar outer s H E).env (cxOf (L2.CX P w) P w K mg base N_need_log "need_log" (defScope s_need_log) f cdv Ar outer s H E).xe := passes_of rfl
  exact pss_one (ps_if (pt_not (pt_val (pe_fn at_ (by rfl) (pa_cons (pv 0) (pa_nil))))) (pss_one (ps_never)) (pss_nil))
abbrev s_need_growing : Stmt := top 40
abbrev N_need_growing : List Str := ["log"]
abbrev ps_need_growing : List Str := ["log"]
theorem sc_need_growing : FnScope N_need_growing ["log"] (defScope s_need_growing) := ⟨rfl, rfl, rfl, by decide +kernel, rfl, by decide +kernel, by decide +kernel⟩
def t_need_growing (P : Program) (w : World) (K : PySem.W.Frag) (mg : Str → Option Value) (base : Heap) (A : Ads) (E : XK) : TS :=
  tSeq (tDrop (tFn P w K mg base "need_log" 5 E (tCons (tVar 0) (tNil)))) (tIfS (tTest (tOp (uEq K) (tFn P w K mg base "sign_of" 5 E (tCons (tVar 0) (tNil))) (tC A.kFRONTED))) (tNever) (tNext))
theorem d_need_growing {P : Program} {w : World} {K : PySem.W.Frag} {mg : Str → Option Value} {base : Heap} {A : Ads} {f : Addr} {cdv : Value} {Ar : Around} {outer : List Env} {s : Shared} {H : Hp} {E : XK} (G : Gm mg A) (hr : Room 5 (Ar.deeper (envOfC "need_growing" (defScope s_need_growing) s.heap.objs.size f cdv))) (qt : Quiet (Ar.deeper (envOfC "need_growing" (defScope s_need_growing) s.heap.objs.size f cdv))) :
    PSs (cxOf (L2.CX P w) P w K mg base N_need_growing "need_growing" (defScope s_need_growing) f cdv Ar outer s H E) (defBody s_need_growing) (t_need_growing P w K mg base A E) := by
  have sc := sc_need_growing
  have at_ : At (cxOf (L2.CX P w) P w K mg base N_need_growing "need_growing" (defScope s_need_growing) f cdv Ar outer s H E) 5 E := At.of hr qt (takes_of rfl rfl rfl rfl)
  have pn : PassesOwn (model P w) (cxOf (L2.CX P w) P w K mg base N_need_growing "need_growing" (defScope s_need_growing) f cdv Ar outer s H E).A (cxOf (L2.CX P w) P w K mg base N_need_growing "need_growing" (defScope s_need_growing) f cdv Ar outer s H E).env (cxOf (L2.CX P w) P w K mg base N_need_growing "need_growing" (defScope s_need_growing) f cdv Ar outer s H E).xe := passes_of rfl
  exact pss_cons (ps_expr (pe_fn at_ (by rfl) (pa_cons (pv 0) (pa_nil)))) (pss_one (ps_if (pt_cmpR (op_uEq hr) (pe_fn at_ (by rfl) (pa_cons (pv 0) (pa_nil))) (pe_g (by rfl) G.g_FRONTED) (nomark _)) (pss_one (ps_never)) (pss_nil)))
abbrev s_made : Stmt := top 30
abbrev N_made : List Str := ["sign", "item", "slot"]
abbrev ps_made : List Str := ["sign", "item", "slot"]
theorem sc_made : FnScope N_made ["sign", "item", "slot"] (defScope s_made) := ⟨rfl, rfl, rfl, by decide +kernel, rfl, by decide +kernel, by decide +kernel⟩
def t_made (P : Program) (w : World) (K : PySem.W.Frag) (mg : Str → Option Value) (base : Heap) (A : Ads) (E : XK) : TS :=
  tSeq (tIfS (tTest (tOp (uEq K) (tVar 0) (tC A.kINSERTED))) (tRet (tMkr P w K mg base "Inserted" 4 E (tCons (tVar 1) (tCons (tVar 2) (tNil))))) (tNext)) (tSeq (tIfS (tTest (tOp (uEq K) (tVar 0) (tC A.kREMOVED))) (tRet (tMkr P w K mg base "Removed" 4 E (tCons (tVar 1) (tCons (tVar 2) (tNil))))) (tNext)) (tRet (tIf (tTest (tOp (uEq K) (tVar 0) (tC A.kFRONTED))) (tMkr P w K mg base "Fronted" 4 E (tCons (tVar 1) (tCons (tVar 2) (tNil)))) (tMkr P w K mg base "Record" 4 E (tCons (tVar 1) (tCons (tVar 2) (tNil)))))))
theorem d_made {P : Program} {w : World} {K : PySem.W.Frag} {mg : Str → Option Value} {base : Heap} {A : Ads} {f : Addr} {cdv : Value} {Ar : Around} {outer : List Env} {s : Shared} {H : Hp} {E : XK} (G : Gm mg A) (hr : Room 4 (Ar.deeper (envOfC "made" (defScope s_made) s.heap.objs.size f cdv))) (qt : Quiet (Ar.deeper (envOfC "made" (defScope s_made) s.heap.objs.size f cdv))) :
    PSs (cxOf (L2.CX P w) P w K mg base N_made "made" (defScope s_made) f cdv Ar outer s H E) (defBody s_made) (t_made P w K mg base A E) := by
  have sc := sc_made
  have at_ : At (cxOf (L2.CX P w) P w K mg base N_made "made" (defScope s_made) f cdv Ar outer s H E) 4 E := At.of hr qt (takes_of rfl rfl rfl rfl)
  have pn : PassesOwn (model P w) (cxOf (L2.CX P w) P w K mg base N_made "made" (defScope s_made) f cdv Ar outer s H E).A (cxOf (L2.CX P w) P w K mg base N_made "made" (defScope s_made) f cdv Ar outer s H E).env (cxOf (L2.CX P w) P w K mg base N_made "made" (defScope s_made) f cdv Ar outer s H E).xe := passes_of rfl
  exact pss_cons (ps_if (pt_cmpR (op_uEq hr) (pv 0) (pe_g (by rfl) G.g_INSERTED) (nomark _)) (pss_one (ps_ret (pe_mkr at_ (by rfl) (pa_cons (pv 1) (pa_cons (pv 2) (pa_nil)))))) (pss_nil)) (pss_cons (ps_if (pt_cmpR (op_uEq hr) (pv 0) (pe_g (by rfl) G.g_REMOVED) (nomark _)) (pss_one (ps_ret (pe_mkr at_ (by rfl) (pa_cons (pv 1) (pa_cons (pv 2) (pa_nil)))))) (pss_nil)) (pss_one (ps_ret (pe_ifExp (pt_cmpR (op_uEq hr) (pv 0) (pe_g (by rfl) G.g_FRONTED) (nomark _)) (pe_mkr at_ (by rfl) (pa_cons (pv 1) (pa_cons (pv 2) (pa_nil)))) (pe_mkr at_ (by rfl) (pa_cons (pv 1) (pa_cons (pv 2) (pa_nil))))))))
abbrev s_copied : Stmt := top 31
abbrev N_copied : List Str := ["record"]
abbrev ps_copied : List Str := ["record"]
theorem sc_copied : FnScope N_copied ["record"] (defScope s_copied) := ⟨rfl, rfl, rfl, by decide +kernel, rfl, by decide +kernel, by decide +kernel⟩
def t_copied (P : Program) (w : World) (K : PySem.W.Frag) (mg : Str → Option Value) (base : Heap) (A : Ads) (E : XK) : TS :=
  tRet (tFn P w K mg base "made" 5 E (tCons (tAtt P w K mg base "SIGN" (tVar 0)) (tCons (tAtt P w K mg base "item" (tVar 0)) (tCons (tAtt P w K mg base "slot" (tVar 0)) (tNil)))))
theorem d_copied {P : Program} {w : World} {K : PySem.W.Frag} {mg : Str → Option Value} {base : Heap} {A : Ads} {f : Addr} {cdv : Value} {Ar : Around} {outer : List Env} {s : Shared} {H : Hp} {E : XK} (G : Gm mg A) (hr : Room 5 (Ar.deeper (envOfC "copied" (defScope s_copied) s.heap.objs.size f cdv))) (qt : Quiet (Ar.deeper (envOfC "copied" (defScope s_copied) s.heap.objs.size f cdv))) :
    PSs (cxOf (L2.CX P w) P w K mg base N_copied "copied" (defScope s_copied) f cdv Ar outer s H E) (defBody s_copied) (t_copied P w K mg base A E) := by
  have sc := sc_copied
  have at_ : At (cxOf (L2.CX P w) P w K mg base N_copied "copied" (defScope s_copied) f cdv Ar outer s H E) 5 E := At.of hr qt (takes_of rfl rfl rfl rfl)
  have pn : PassesOwn (model P w) (cxOf (L2.CX P w) P w K mg base N_copied "copied" (defScope s_copied) f cdv Ar outer s H E).A (cxOf (L2.CX P w) P w K mg base N_copied "copied" (defScope s_copied) f cdv Ar outer s H E).env (cxOf (L2.CX P w) P w K mg base N_copied "copied" (defScope s_copied) f cdv Ar outer s H E).xe := passes_of rfl
  exact pss_one (ps_ret (pe_fn at_ (by rfl) (pa_cons (pe_att hr (pv 0)) (pa_cons (pe_att hr (pv 0)) (pa_cons (pe_att hr (pv 0)) (pa_nil))))))
abbrev s_least_missing : Stmt := top 41
abbrev N_least_missing : List Str := ["log", "slots", "record", "place", "slot"]
abbrev ps_least_missing : List Str := ["log"]
theorem sc_least_missing : FnScope N_least_missing ["log"] (defScope s_least_missing) := ⟨rfl, rfl, rfl, by decide +kernel, rfl, by decide +kernel, by decide +kernel⟩
def t_least_missing (P : Program) (w : World) (K : PySem.W.Frag) (mg : Str → Option Value) (base : Heap) (A : Ads) (E : XK) : TS :=
  tSeq (tDrop (tFn P w K mg base "need_growing" 6 E (tCons (tVar 0) (tNil)))) (tSeq (tAsg (tCB (cSort K) (tCons (tLc (iList K (tVar 0)) (gName 2) (tYes) (tAtt P w K mg base "slot" (tVar 2)) [2]) (tNil))) (gName 1)) (tRet (tCB (cMax K) (tCons (tOp uAdd (tLst (tCons (tC (.int 0)) (tNil))) (tLc (iEnum K (tCons (tVar 1) (tNil))) (gTup K 2 (gCons (gName 3) (gCons (gName 4) (gNil)))) (tYes) (tOp uSub (tVar 4) (tVar 3)) [3, 4])) (tNil)))))
theorem d_least_missing {P : Program} {w : World} {K : PySem.W.Frag} {mg : Str → Option Value} {base : Heap} {A : Ads} {f : Addr} {cdv : Value} {Ar : Around} {outer : List Env} {s : Shared} {H : Hp} {E : XK} (G : Gm mg A) (hr : Room 6 (Ar.deeper (envOfC "least_missing" (defScope s_least_missing) s.heap.objs.size f cdv))) (qt : Quiet (Ar.deeper (envOfC "least_missing" (defScope s_least_missing) s.heap.objs.size f cdv))) :
    PSs (cxOf (L2.CX P w) P w K mg base N_least_missing "least_missing" (defScope s_least_missing) f cdv Ar outer s H E) (defBody s_least_missing) (t_least_missing P w K mg base A E) := by
  have sc := sc_least_missing
  have at_ : At (cxOf (L2.CX P w) P w K mg base N_least_missing "least_missing" (defScope s_least_missing) f cdv Ar outer s H E) 6 E := At.of hr qt (takes_of rfl rfl rfl rfl)
  have pn : PassesOwn (model P w) (cxOf (L2.CX P w) P w K mg base N_least_missing "least_missing" (defScope s_least_missing) f cdv Ar outer s H E).A (cxOf (L2.CX P w) P w K mg base N_least_missing "least_missing" (defScope s_least_missing) f cdv Ar outer s H E).env (cxOf (L2.CX P w) P w K mg base N_least_missing "least_missing" (defScope s_least_missing) f cdv Ar outer s H E).xe := passes_of rfl
  exact pss_cons (ps_expr (pe_fn at_ (by rfl) (pa_cons (pv 0) (pa_nil)))) (pss_cons (ps_set (i := 1) sc.nd rfl (by first | exact Or.inl rfl | exact Or.inr rfl) (pe_callB call_cSort (by rfl) G.g_sorted (by decide +kernel) (pa_cons (pe_lc (own := [("record", 2)]) (g := gName 2) (tt := tYes) rfl sc.nd (pi_list (pv 0)) (blkOk_by (N := N_least_missing) (sc := defScope s_least_missing) (by decide +kernel)) (fun _ _ _ _ _ => pg_name (i := 2) sc.nd rfl (by first | exact Or.inl rfl | exact Or.inr rfl)) (fun _ _ _ _ _ => pts_nil) (fun _ _ _ _ _ => pe_att hr (pv 2))) (pa_nil)))) (pss_one (ps_ret (pe_callB (call_cMax rfl) (by rfl) G.g_max (by decide +kernel) (pa_cons (pe_op op_uAdd (pe_lst (pa_cons (pe_int) (pa_nil))) (pe_lc (own := [("place", 3), ("slot", 4)]) (g := gTup K 2 (gCons (gName 3) (gCons (gName 4) (gNil)))) (tt := tYes) rfl sc.nd (pi_enum (by rfl) G.g_enumerate (pa_cons (pv 1) (pa_nil))) (blkOk_by (N := N_least_missing) (sc := defScope s_least_missing) (by decide +kernel)) (fun _ _ _ _ _ => pg_tup rfl (pgs_cons (pg_name (i := 3) sc.nd rfl (by first | exact Or.inl rfl | exact Or.inr rfl)) (pgs_cons (pg_name (i := 4) sc.nd rfl (by first | exact Or.inl rfl | exact Or.inr rfl)) (pgs_nil)))) (fun _ _ _ _ _ => pts_nil) (fun _ _ _ _ _ => pe_op op_uSub (pv 4) (pv 3)))) (pa_nil))))))
abbrev s_usable : Stmt := top 42
abbrev N_usable : List Str := ["log", "height", "ready", "record"]
abbrev ps_usable : List Str := ["log"]
theorem sc_usable : FnScope N_usable ["log"] (defScope s_usable) := ⟨rfl, rfl, rfl, by decide +kernel, rfl, by decide +kernel, by decide +kernel⟩
def t_usable (P : Program) (w : World) (K : PySem.W.Frag) (mg : Str → Option Value) (base : Heap) (A : Ads) (E : XK) : TS :=
  tSeq (tDrop (tFn P w K mg base "need_growing" 6 E (tCons (tVar 0) (tNil)))) (tSeq (tAsg (tC (.int 0)) (gName 1)) (tWhile (tB (tC (.bl true))) (tSeq (tAsg (tLc (iList K (tVar 0)) (gName 3) (tTest (tOp uLe (tAtt P w K mg base "slot" (tVar 3)) (tVar 1))) (tVar 3) [3]) (gName 2)) (tSeq (tIfS (tTest (tOp (uEq K) (tCB (cLen K) (tCons (tVar 2) (tNil))) (tVar 1))) (tRet (tLc (iList K (tVar 2)) (gName 3) (tYes) (tFn P w K mg base "copied" 6 E0 (tCons (tVar 3) (tNil))) [3])) (tNext)) (tAug 1 (tC (.int 1)) (ipI fun i j => i + j))))))
theorem d_usable {P : Program} {w : World} {K : PySem.W.Frag} {mg : Str → Option Value} {base : Heap} {A : Ads} {f : Addr} {cdv : Value} {Ar : Around} {outer : List Env} {s : Shared} {H : Hp} {E : XK} (G : Gm mg A) (hr : Room 6 (Ar.deeper (envOfC "usable" (defScope s_usable) s.heap.objs.size f cdv))) (qt : Quiet (Ar.deeper (envOfC "usable" (defScope s_usable) s.heap.objs.size f cdv))) :
    PSs (cxOf (L2.CX P w) P w K mg base N_usable "usable" (defScope s_usable) f cdv Ar outer s H E) (defBody s_usable) (t_usable P w K mg base A E) := by
  have sc := sc_usable
  have at_ : At (cxOf (L2.CX P w) P w K mg base N_usable "usable" (defScope s_usable) f cdv Ar outer s H E) 6 E := At.of hr qt (takes_of rfl rfl rfl rfl)
  have pn : PassesOwn (model P w) (cxOf (L2.CX P w) P w K mg base N_usable "usable" (defScope s_usable) f cdv Ar outer s H E).A (cxOf (L2.CX P w) P w K mg base N_usable "usable" (defScope s_usable) f cdv Ar outer s H E).env (cxOf (L2.CX P w) P w K mg base N_usable "usable" (defScope s_usable) f cdv Ar outer s H E).xe := passes_of rfl
  exact pss_cons (ps_expr (pe_fn at_ (by rfl) (pa_cons (pv 0) (pa_nil)))) (pss_cons (ps_set (i := 1) sc.nd rfl (by first | exact Or.inl rfl | exact Or.inr rfl) (pe_int)) (pss_one (ps_while pn (pt_val (pe_bl)) (pss_cons (ps_setLc (i := 2) (own := [("record", 3)]) (g := gName 3) (tt := tTest (tOp uLe (tAtt P w K mg base "slot" (tVar 3)) (tVar 1))) rfl sc.nd rfl rfl (sw_true rfl rfl rfl (by decide +kernel)) (pi_list (pv 0)) (blkOk_by (N := N_usable) (sc := defScope s_usable) (by decide +kernel)) (fun _ _ _ _ _ => pg_name (i := 3) sc.nd rfl (by first | exact Or.inl rfl | exact Or.inr rfl)) (fun _ _ _ _ _ => pts_one (pt_cmpR op_uLe (pe_att hr (pv 3)) (pv 1) (nomark _))) (fun _ _ _ _ _ => pv 3)) (pss_cons (ps_if (pt_cmpR (op_uEq hr) (pe_callB call_cLen (by rfl) G.g_len (by decide +kernel) (pa_cons (pv 2) (pa_nil))) (pv 1) (nomark _)) (pss_one (ps_ret (pe_lc (own := [("record", 3)]) (g := gName 3) (tt := tYes) rfl sc.nd (pi_list (pv 2)) (blkOk_by (N := N_usable) (sc := defScope s_usable) (by decide +kernel)) (fun _ _ _ _ _ => pg_name (i := 3) sc.nd rfl (by first | exact Or.inl rfl | exact Or.inr rfl)) (fun _ _ _ _ _ => pts_nil) (fun _ _ _ _ _ => pe_fn (At.e0 hr qt) (by rfl) (pa_cons (pv 3) (pa_nil)))))) (pss_nil)) (pss_one (ps_aug (i := 1) sc.nd rfl (by first | exact Or.inl rfl | exact Or.inr rfl) (pe_int) ip_add)))))))
abbrev s_need_seen : Stmt := top 44
abbrev N_need_seen : List Str := ["log", "seen", "names", "known", "entry", "name", "record"]
abbrev ps_need_seen : List Str := ["log", "seen"]
theorem sc_need_seen : FnScope N_need_seen ["log", "seen"] (defScope s_need_seen) := ⟨rfl, rfl, rfl, by decide +kernel, rfl, by decide +kernel, by decide +kernel⟩
def t_need_seen (P : Program) (w : World) (K : PySem.W.Frag) (mg : Str → Option Value) (base : Heap) (A : Ads) (E : XK) : TS :=
  tSeq (tIfS (tTest (tOp uIs (tVar 1) (tC .non))) (tRetN) (tNext)) (tSeq (tIfS (tOr (tNot (tB (tCB (cIsi K) (tCons (tVar 1) (tCons (tC (.ty "list")) (tNil)))))) (tTest (tOp (uNe K) (tCB (cLen K) (tCons (tVar 1) (tNil))) (tCB (cLen K) (tCons (tVar 0) (tNil)))))) (tNever) (tNext)) (tSeq (tAsg (tLc (iList K (tVar 1)) (gName 4) (tTest (tOp uIsNot (tVar 4) (tC .non))) (tVar 4) [4]) (gName 2)) (tSeq (tIfS (tOr (tNot (tB (tCB (cAll K) (tCons (tLc (iList K (tVar 2)) (gName 5) (tYes) (tCB (cIsi K) (tCons (tVar 5) (tCons (tC (.ty "str")) (tNil)))) [5]) (tNil))))) (tTest (tOp uLt (tLenSetT K (tVar 2)) (tCB (cLen K) (tCons (tVar 2) (tNil)))))) (tNever) (tNext)) (tSeq (tAsg (tLc (iList K (tVar 0)) (gName 6) (tYes) (tAtt P w K mg base "item" (tVar 6)) [6]) (gName 3)) (tIfS (tNot (tB (tCB (cAll K) (tCons (tLc (iList K (tVar 2)) (gName 5) (tYes) (tOp (uIn K false) (tVar 5) (tVar 3)) [5]) (tNil))))) (tNever) (tNext))))))
theorem d_need_seen {P : Program} {w : World} {K : PySem.W.Frag} {mg : Str → Option Value} {base : Heap} {A : Ads} {f : Addr} {cdv : Value} {Ar : Around} {outer : List Env} {s : Shared} {H : Hp} {E : XK} (G : Gm mg A) (hr : Room 2 (Ar.deeper (envOfC "need_seen" (defScope s_need_seen) s.heap.objs.size f cdv))) (qt : Quiet (Ar.deeper (envOfC "need_seen" (defScope s_need_seen) s.heap.objs.size f cdv))) :
    PSs (cxOf (L2.CX P w) P w K mg base N_need_seen "need_seen" (defScope s_need_seen) f cdv Ar outer s H E) (defBody s_need_seen) (t_need_seen P w K mg base A E) := by
  have sc := sc_need_seen
  have at_ : At (cxOf (L2.CX P w) P w K mg base N_need_seen "need_seen" (defScope s_need_seen) f cdv Ar outer s H E) 2 E := At.of hr qt (takes_of rfl rfl rfl rfl)
  have pn : PassesOwn (model P w) (cxOf (L2.CX P w) P w K mg base N_need_seen "need_seen" (defScope s_need_seen) f cdv Ar outer s H E).A (cxOf (L2.CX P w) P w K mg base N_need_seen "need_seen" (defScope s_need_seen) f cdv Ar outer s H E).env (cxOf (L2.CX P w) P w K mg base N_need_seen "need_seen" (defScope s_need_seen) f cdv Ar outer s H E).xe := passes_of rfl
  exact pss_cons (ps_if (pt_cmpR op_uIs (pv 1) (pe_non) (nomark _)) (pss_one (ps_retN)) (pss_nil)) (pss_cons (ps_if (PW.pt (pw_or (pt_not (pt_val (pe_callB call_cIsi (by rfl) G.g_isinstance (by decide +kernel) (pa_cons (pv 1) (pa_cons (pe_bltn (v := .ty "list") (by rfl) G.g_list (by decide +kernel) rfl) (pa_nil)))))) (pw_or1 (pt_cmpR (op_uNe hr) (pe_callB call_cLen (by rfl) G.g_len (by decide +kernel) (pa_cons (pv 1) (pa_nil))) (pe_callB call_cLen (by rfl) G.g_len (by decide +kernel) (pa_cons (pv 0) (pa_nil))) (nomark _))))) (pss_one (ps_never)) (pss_nil)) (pss_cons (ps_setLc (i := 2) (own := [("entry", 4)]) (g := gName 4) (tt := tTest (tOp uIsNot (tVar 4) (tC .non))) rfl sc.nd rfl rfl (sw_true rfl rfl rfl (by decide +kernel)) (pi_list (pv 1)) (blkOk_by (N := N_need_seen) (sc := defScope s_need_seen) (by decide +kernel)) (fun _ _ _ _ _ => pg_name (i := 4) sc.nd rfl (by first | exact Or.inl rfl | exact Or.inr rfl)) (fun _ _ _ _ _ => pts_one (pt_cmpR op_uIsNot (pv 4) (pe_non) (nomark _))) (fun _ _ _ _ _ => pv 4)) (pss_cons (ps_if (PW.pt (pw_or (pt_not (pt_val (pe_callB (call_cAll rfl) (by rfl) G.g_all (by decide +kernel) (pa_cons (pe_lc (own := [("name", 5)]) (g := gName 5) (tt := tYes) rfl sc.nd (pi_list (pv 2)) (blkOk_by (N := N_need_seen) (sc := defScope s_need_seen) (by decide +kernel)) (fun _ _ _ _ _ => pg_name (i := 5) sc.nd rfl (by first | exact Or.inl rfl | exact Or.inr rfl)) (fun _ _ _ _ _ => pts_nil) (fun _ _ _ _ _ => pe_callB call_cIsi (by rfl) G.g_isinstance (by decide +kernel) (pa_cons (pv 5) (pa_cons (pe_bltn (v := .ty "str") (by rfl) G.g_str (by decide +kernel) rfl) (pa_nil))))) (pa_nil))))) (pw_or1 (pt_cmpR op_uLt (pe_lenSetT (by rfl) G.g_len (by rfl) G.g_set (pv 2)) (pe_callB call_cLen (by rfl) G.g_len (by decide +kernel) (pa_cons (pv 2) (pa_nil))) (nomark _))))) (pss_one (ps_never)) (pss_nil)) (pss_cons (ps_set (i := 3) sc.nd rfl (by first | exact Or.inl rfl | exact Or.inr rfl) (pe_lc (own := [("record", 6)]) (g := gName 6) (tt := tYes) rfl sc.nd (pi_list (pv 0)) (blkOk_by (N := N_need_seen) (sc := defScope s_need_seen) (by decide +kernel)) (fun _ _ _ _ _ => pg_name (i := 6) sc.nd rfl (by first | exact Or.inl rfl | exact Or.inr rfl)) (fun _ _ _ _ _ => pts_nil) (fun _ _ _ _ _ => pe_att hr (pv 6)))) (pss_one (ps_if (pt_not (pt_val (pe_callB (call_cAll rfl) (by rfl) G.g_all (by decide +kernel) (pa_cons (pe_lc (own := [("name", 5)]) (g := gName 5) (tt := tYes) rfl sc.nd (pi_list (pv 2)) (blkOk_by (N := N_need_seen) (sc := defScope s_need_seen) (by decide +kernel)) (fun _ _ _ _ _ => pg_name (i := 5) sc.nd rfl (by first | exact Or.inl rfl | exact Or.inr rfl)) (fun _ _ _ _ _ => pts_nil) (fun _ _ _ _ _ => pe_cmpR (op_uIn hr) (pv 5) (pv 3) (by rfl))) (pa_nil))))) (pss_one (ps_never)) (pss_nil)))))))
abbrev s_Board_turned : Stmt := inClass (top 45) 1
abbrev N_Board_turned : List Str := ["self", "position"]
abbrev ps_Board_turned : List Str := ["self", "position"]
theorem sc_Board_turned : FnScope N_Board_turned ["self", "position"] (defScope s_Board_turned) := ⟨rfl, rfl, rfl, by decide +kernel, rfl, by decide +kernel, by decide +kernel⟩
def t_Board_turned (P : Program) (w : World) (K : PySem.W.Frag) (mg : Str → Option Value) (base : Heap) (A : Ads) (E : XK) : TS :=
  tRet (tIf (tB (tAtt P w K mg base "is_turned" (tVar 0))) (tOp uSub (tOp uSub (tAtt P w K mg base "size" (tVar 0)) (tC (.int 1))) (tVar 1)) (tVar 1))
theorem d_Board_turned {P : Program} {w : World} {K : PySem.W.Frag} {mg : Str → Option Value} {base : Heap} {A : Ads} {f : Addr} {cdv : Value} {Ar : Around} {outer : List Env} {s : Shared} {H : Hp} {E : XK} (G : Gm mg A) (hr : Room 2 (Ar.deeper (envOfC "Board.turned" (defScope s_Board_turned) s.heap.objs.size f cdv))) (qt : Quiet (Ar.deeper (envOfC "Board.turned" (defScope s_Board_turned) s.heap.objs.size f cdv))) :
    PSs (cxOf (L2.CX P w) P w K mg base N_Board_turned "Board.turned" (defScope s_Board_turned) f cdv Ar outer s H E) (defBody s_Board_turned) (t_Board_turned P w K mg base A E) := by
  have sc := sc_Board_turned
  have at_ : At (cxOf (L2.CX P w) P w K mg base N_Board_turned "Board.turned" (defScope s_Board_turned) f cdv Ar outer s H E) 2 E := At.of hr qt (takes_of rfl rfl rfl rfl)
  have pn : PassesOwn (model P w) (cxOf (L2.CX P w) P w K mg base N_Board_turned "Board.turned" (defScope s_Board_turned) f cdv Ar outer s H E).A (cxOf (L2.CX P w) P w K mg base N_Board_turned "Board.turned" (defScope s_Board_turned) f cdv Ar outer s H E).env (cxOf (L2.CX P w) P w K mg base N_Board_turned "Board.turned" (defScope s_Board_turned) f cdv Ar outer s H E).xe := passes_of rfl
  exact pss_one (ps_ret (pe_ifExp (pt_val (pe_att hr (pv 0))) (pe_op op_uSub (pe_op op_uSub (pe_att hr (pv 0)) (pe_int)) (pv 1)) (pv 1)))
abbrev s_Board_init : Stmt := inClass (top 45) 0
abbrev N_Board_init : List Str := ["self", "log", "seen", "record"]
abbrev ps_Board_init : List Str := ["self", "log", "seen"]
theorem sc_Board_init : FnScope N_Board_init ["self", "log", "seen"] (defScope s_Board_init) := ⟨rfl, rfl, rfl, by decide +kernel, rfl, by decide +kernel, by decide +kernel⟩
def t_Board_init (P : Program) (w : World) (K : PySem.W.Frag) (mg : Str → Option Value) (base : Heap) (A : Ads) (E : XK) : TS :=
  tSeq (sFld K (tVar 0) (tCB (cLen K) (tCons (tVar 1) (tNil))) "size") (tSeq (sFld K (tVar 0) (tAndV (tOp (uNe K) (tVar 1) (tLst (tNil))) (tCB (cIsi K) (tCons (tOp (uIx K) (tVar 1) (tC (.int 0))) (tCons (tC (.ref A.cFronted)) (tNil))))) "is_turned") (tSeq (sFld K (tVar 0) (tDc (iList K (tVar 1)) (gName 3) (tYes) (tAtt P w K mg base "item" (tVar 3)) (tMth P w K mg base "turned" 3 E0 (tVar 0) (tCons (tAtt P w K mg base "slot" (tVar 3)) (tNil))) [3]) "floors") (sFld K (tVar 0) (tIf (tTest (tOp uIs (tVar 2) (tC .non))) (tOp uMul (tLst (tCons (tC .non) (tNil))) (tAtt P w K mg base "size" (tVar 0))) (tCB (cList K) (tCons (tVar 2) (tNil)))) "given")))
theorem d_Board_init {P : Program} {w : World} {K : PySem.W.Frag} {mg : Str → Option Value} {base : Heap} {A : Ads} {f : Addr} {cdv : Value} {Ar : Around} {outer : List Env} {s : Shared} {H : Hp} {E : XK} (G : Gm mg A) (hr : Room 3 (Ar.deeper (envOfC "Board.__init__" (defScope s_Board_init) s.heap.objs.size f cdv))) (qt : Quiet (Ar.deeper (envOfC "Board.__init__" (defScope s_Board_init) s.heap.objs.size f cdv))) :
    PSs (cxOf (L2.CX P w) P w K mg base N_Board_init "Board.__init__" (defScope s_Board_init) f cdv Ar outer s H E) (defBody s_Board_init) (t_Board_init P w K mg base A E) := by
  have sc := sc_Board_init
  have at_ : At (cxOf (L2.CX P w) P w K mg base N_Board_init "Board.__init__" (defScope s_Board_init) f cdv Ar outer s H E) 3 E := At.of hr qt (takes_of rfl rfl rfl rfl)
  have pn : PassesOwn (model P w) (cxOf (L2.CX P w) P w K mg base N_Board_init "Board.__init__" (defScope s_Board_init) f cdv Ar outer s H E).A (cxOf (L2.CX P w) P w K mg base N_Board_init "Board.__init__" (defScope s_Board_init) f cdv Ar outer s H E).env (cxOf (L2.CX P w) P w K mg base N_Board_init "Board.__init__" (defScope s_Board_init) f cdv Ar outer s H E).xe := passes_of rfl
  exact pss_cons (ps_fld (pv 0) (pe_callB call_cLen (by rfl) G.g_len (by decide +kernel) (pa_cons (pv 1) (pa_nil))) rfl) (pss_cons (ps_fld (pv 0) (pe_and (pe_cmpR (op_uNe hr) (pv 1) (pe_lst (pa_nil)) (nomark _)) (pe_one (pe_callB call_cIsi (by rfl) G.g_isinstance (by decide +kernel) (pa_cons (pe_ix ix_u (pv 1) (pe_int) (fun _ _ => rfl)) (pa_cons (pe_g (by rfl) ⟨_, G.cFronted, rfl⟩) (pa_nil)))))) rfl) (pss_cons (ps_fld (pv 0) (pe_dc (own := [("record", 3)]) (g := gName 3) (tt := tYes) rfl sc.nd (pi_list (pv 1)) (blkOk_by (N := N_Board_init) (sc := defScope s_Board_init) (by decide +kernel)) (fun _ _ _ _ _ => pg_name (i := 3) sc.nd rfl (by first | exact Or.inl rfl | exact Or.inr rfl)) (fun _ _ _ _ _ => pts_nil) (fun _ _ _ _ _ => pe_att hr (pv 3)) (fun _ _ _ _ _ => pe_mth (At.e0 hr qt) (pv 0) (pa_cons (pe_att hr (pv 3)) (pa_nil)))) rfl) (pss_one (ps_fld (pv 0) (pe_ifExp (pt_cmpR op_uIs (pv 2) (pe_non) (nomark _)) (pe_op op_uMul (pe_lst (pa_cons (pe_non) (pa_nil))) (pe_att hr (pv 0))) (pe_callTy call_cList (by rfl) G.g_list (by decide +kernel) (pa_cons (pv 2) (pa_nil)))) rfl))))
abbrev s_Board_far_items : Stmt := inClass (top 45) 2
abbrev N_Board_far_items : List Str := ["self", "item", "bound"]
abbrev ps_Board_far_items : List Str := ["self"]
theorem sc_Board_far_items : FnScope N_Board_far_items ["self"] (defScope s_Board_far_items) := ⟨rfl, rfl, rfl, by decide +kernel, rfl, by decide +kernel, by decide +kernel⟩
def t_Board_far_items (P : Program) (w : World) (K : PySem.W.Frag) (mg : Str → Option Value) (base : Heap) (A : Ads) (E : XK) : TS :=
  tRet (tLockE (tLc (iItems (tAtt P w K mg base "floors" (tVar 0))) (gTup K 2 (gCons (gName 1) (gCons (gName 2) (gNil)))) (tTest (tOp uLt (tVar 2) (tC (.int 0)))) (tVar 1) [1, 2]))
theorem d_Board_far_items {P : Program} {w : World} {K : PySem.W.Frag} {mg : Str → Option Value} {base : Heap} {A : Ads} {f : Addr} {cdv : Value} {Ar : Around} {outer : List Env} {s : Shared} {H : Hp} {E : XK} (G : Gm mg A) (hr : Room 2 (Ar.deeper (envOfC "Board.far_items" (defScope s_Board_far_items) s.heap.objs.size f cdv))) (qt : Quiet (Ar.deeper (envOfC "Board.far_items" (defScope s_Board_far_items) s.heap.objs.size f cdv))) :
    PSs (cxOf (L2.CX P w) P w K mg base N_Board_far_items "Board.far_items" (defScope s_Board_far_items) f cdv Ar outer s H E) (defBody s_Board_far_items) (t_Board_far_items P w K mg base A E) := by
  have sc := sc_Board_far_items
  have at_ : At (cxOf (L2.CX P w) P w K mg base N_Board_far_items "Board.far_items" (defScope s_Board_far_items) f cdv Ar outer s H E) 2 E := At.of hr qt (takes_of rfl rfl rfl rfl)
  have pn : PassesOwn (model P w) (cxOf (L2.CX P w) P w K mg base N_Board_far_items "Board.far_items" (defScope s_Board_far_items) f cdv Ar outer s H E).A (cxOf (L2.CX P w) P w K mg base N_Board_far_items "Board.far_items" (defScope s_Board_far_items) f cdv Ar outer s H E).env (cxOf (L2.CX P w) P w K mg base N_Board_far_items "Board.far_items" (defScope s_Board_far_items) f cdv Ar outer s H E).xe := passes_of rfl
  exact pss_one (ps_ret (pe_lock (pe_lc (own := [("item", 1), ("bound", 2)]) (g := gTup K 2 (gCons (gName 1) (gCons (gName 2) (gNil)))) (tt := tTest (tOp uLt (tVar 2) (tC (.int 0)))) rfl sc.nd (pi_items (pe_att hr (pv 0))) (blkOk_by (N := N_Board_far_items) (sc := defScope s_Board_far_items) (by decide +kernel)) (fun _ _ _ _ _ => pg_tup rfl (pgs_cons (pg_name (i := 1) sc.nd rfl (by first | exact Or.inl rfl | exact Or.inr rfl)) (pgs_cons (pg_name (i := 2) sc.nd rfl (by first | exact Or.inl rfl | exact Or.inr rfl)) (pgs_nil)))) (fun _ _ _ _ _ => pts_one (pt_cmpR op_uLt (pv 2) (pe_int) (nomark _))) (fun _ _ _ _ _ => pv 1))))
abbrev s_Board_wrong_positions : Stmt := inClass (top 45) 3
abbrev N_Board_wrong_positions : List Str := ["self", "given", "found", "position", "item"]
abbrev ps_Board_wrong_positions : List Str := ["self", "given"]
theorem sc_Board_wrong_positions : FnScope N_Board_wrong_positions ["self", "given"] (defScope s_Board_wrong_positions) := ⟨rfl, rfl, rfl, by decide +kernel, rfl, by decide +kernel, by decide +kernel⟩
def t_Board_wrong_positions (P : Program) (w : World) (K : PySem.W.Frag) (mg : Str → Option Value) (base : Heap) (A : Ads) (E : XK) : TS :=
  tSeq (tAsg (tLst (tNil)) (gName 2)) (tSeq (tFor (iEnum K (tCons (tVar 1) (tNil))) (gTup K 2 (gCons (gName 3) (gCons (gName 4) (gNil)))) (tIfS (tAnd (tTest (tOp uIsNot (tVar 4) (tC .non))) (tTest (tOp uLt (tMth P w K mg base "turned" 3 E (tVar 0) (tCons (tVar 3) (tNil))) (tDGet (tAtt P w K mg base "floors" (tVar 0)) (tVar 4))))) (tDrop (tBM K "list" rAppend (tVar 2) (tCons (tVar 3) (tNil)))) (tNext))) (tRet (tVar 2)))
theorem d_Board_wrong_positions {P : Program} {w : World} {K : PySem.W.Frag} {mg : Str → Option Value} {base : Heap} {A : Ads} {f : Addr} {cdv : Value} {Ar : Around} {outer : List Env} {s : Shared} {H : Hp} {E : XK} (G : Gm mg A) (hr : Room 3 (Ar.deeper (envOfC "Board.wrong_positions" (defScope s_Board_wrong_positions) s.heap.objs.size f cdv))) (qt : Quiet (Ar.deeper (envOfC "Board.wrong_positions" (defScope s_Board_wrong_positions) s.heap.objs.size f cdv))) :
    PSs (cxOf (L2.CX P w) P w K mg base N_Board_wrong_positions "Board.wrong_positions" (defScope s_Board_wrong_positions) f cdv Ar outer s H E) (defBody s_Board_wrong_positions) (t_Board_wrong_positions P w K mg base A E) := by
  have sc := sc_Board_wrong_positions
  have at_ : At (cxOf (L2.CX P w) P w K mg base N_Board_wrong_positions "Board.wrong_positions" (defScope s_Board_wrong_positions) f cdv Ar outer s H E) 3 E := At.of hr qt (takes_of rfl rfl rfl rfl)
  have pn : PassesOwn (model P w) (cxOf (L2.CX P w) P w K mg base N_Board_wrong_positions "Board.wrong_positions" (defScope s_Board_wrong_positions) f cdv Ar outer s H E).A (cxOf (L2.CX P w) P w K mg base N_Board_wrong_positions "Board.wrong_positions" (defScope s_Board_wrong_positions) f cdv Ar outer s H E).env (cxOf (L2.CX P w) P w K mg base N_Board_wrong_positions "Board.wrong_positions" (defScope s_Board_wrong_positions) f cdv Ar outer s H E).xe := passes_of rfl
  exact pss_cons (ps_set (i := 2) sc.nd rfl (by first | exact Or.inl rfl | exact Or.inr rfl) (pe_lst (pa_nil))) (pss_cons (ps_for pn rfl (pi_enum (by rfl) G.g_enumerate (pa_cons (pv 1) (pa_nil))) (pg_tup rfl (pgs_cons (pg_name (i := 3) sc.nd rfl (by first | exact Or.inl rfl | exact Or.inr rfl)) (pgs_cons (pg_name (i := 4) sc.nd rfl (by first | exact Or.inl rfl | exact Or.inr rfl)) (pgs_nil)))) (pss_one (ps_if (PW.pt (pw_and (pt_cmpR op_uIsNot (pv 4) (pe_non) (nomark _)) (pw_and1 (pt_cmpR op_uLt (pe_mth at_ (pv 0) (pa_cons (pv 3) (pa_nil))) (pe_dget (hu_of hr) (pe_att hr (pv 0)) (pv 4) (fun _ _ => rfl)) (nomark _))))) (pss_one (ps_expr (pe_bm PySem.F.plainAttrs_list PySem.F.slot_list_append PySem.F.type_list_append mt_append (pv 2) (pa_cons (pv 3) (pa_nil))))) (pss_nil)))) (pss_one (ps_ret (pv 2))))
abbrev s_Board_free_places : Stmt := inClass (top 45) 4
abbrev N_Board_free_places : List Str := ["self", "given", "position", "item"]
abbrev ps_Board_free_places : List Str := ["self", "given"]
theorem sc_Board_free_places : FnScope N_Board_free_places ["self", "given"] (defScope s_Board_free_places) := ⟨rfl, rfl, rfl, by decide +kernel, rfl, by decide +kernel, by decide +kernel⟩
def t_Board_free_places (P : Program) (w : World) (K : PySem.W.Frag) (mg : Str → Option Value) (base : Heap) (A : Ads) (E : XK) : TS :=
  tRet (tCB (cSort K) (tCons (tLc (iEnum K (tCons (tVar 1) (tNil))) (gTup K 2 (gCons (gName 2) (gCons (gName 3) (gNil)))) (tTest (tOp uIs (tVar 3) (tC .non))) (tMth P w K mg base "turned" 3 E0 (tVar 0) (tCons (tVar 2) (tNil))) [2, 3]) (tNil)))
theorem d_Board_free_places {P : Program} {w : World} {K : PySem.W.Frag} {mg : Str → Option Value} {base : Heap} {A : Ads} {f : Addr} {cdv : Value} {Ar : Around} {outer : List Env} {s : Shared} {H : Hp} {E : XK} (G : Gm mg A) (hr : Room 3 (Ar.deeper (envOfC "Board.free_places" (defScope s_Board_free_places) s.heap.objs.size f cdv))) (qt : Quiet (Ar.deeper (envOfC "Board.free_places" (defScope s_Board_free_places) s.heap.objs.size f cdv))) :
    PSs (cxOf (L2.CX P w) P w K mg base N_Board_free_places "Board.free_places" (defScope s_Board_free_places) f cdv Ar outer s H E) (defBody s_Board_free_places) (t_Board_free_places P w K mg base A E) := by
  have sc := sc_Board_free_places
  have at_ : At (cxOf (L2.CX P w) P w K mg base N_Board_free_places "Board.free_places" (defScope s_Board_free_places) f cdv Ar outer s H E) 3 E := At.of hr qt (takes_of rfl rfl rfl rfl)
  have pn : PassesOwn (model P w) (cxOf (L2.CX P w) P w K mg base N_Board_free_places "Board.free_places" (defScope s_Board_free_places) f cdv Ar outer s H E).A (cxOf (L2.CX P w) P w K mg base N_Board_free_places "Board.free_places" (defScope s_Board_free_places) f cdv Ar outer s H E).env (cxOf (L2.CX P w) P w K mg base N_Board_free_places "Board.free_places" (defScope s_Board_free_places) f cdv Ar outer s H E).xe := passes_of rfl
  exact pss_one (ps_ret (pe_callB call_cSort (by rfl) G.g_sorted (by decide +kernel) (pa_cons (pe_lc (own := [("position", 2), ("item", 3)]) (g := gTup K 2 (gCons (gName 2) (gCons (gName 3) (gNil)))) (tt := tTest (tOp uIs (tVar 3) (tC .non))) rfl sc.nd (pi_enum (by rfl) G.g_enumerate (pa_cons (pv 1) (pa_nil))) (blkOk_by (N := N_Board_free_places) (sc := defScope s_Board_free_places) (by decide +kernel)) (fun _ _ _ _ _ => pg_tup rfl (pgs_cons (pg_name (i := 2) sc.nd rfl (by first | exact Or.inl rfl | exact Or.inr rfl)) (pgs_cons (pg_name (i := 3) sc.nd rfl (by first | exact Or.inl rfl | exact Or.inr rfl)) (pgs_nil)))) (fun _ _ _ _ _ => pts_one (pt_cmpR op_uIs (pv 3) (pe_non) (nomark _))) (fun _ _ _ _ _ => pe_mth (At.e0 hr qt) (pv 0) (pa_cons (pv 2) (pa_nil)))) (pa_nil))))
abbrev s_Board_waiting_bounds : Stmt := inClass (top 45) 5
abbrev N_Board_waiting_bounds : List Str := ["self", "given", "item", "bound"]
abbrev ps_Board_waiting_bounds : List Str := ["self", "given"]
theorem sc_Board_waiting_bounds : FnScope N_Board_waiting_bounds ["self", "given"] (defScope s_Board_waiting_bounds) := ⟨rfl, rfl, rfl, by decide +kernel, rfl, by decide +kernel, by decide +kernel⟩
def t_Board_waiting_bounds (P : Program) (w : World) (K : PySem.W.Frag) (mg : Str → Option Value) (base : Heap) (A : Ads) (E : XK) : TS :=
  tRet (tCB (cSort K) (tCons (tLockE (tLc (iItems (tAtt P w K mg base "floors" (tVar 0))) (gTup K 2 (gCons (gName 2) (gCons (gName 3) (gNil)))) (tTest (tOp (uIn K true) (tVar 2) (tVar 1))) (tVar 3) [2, 3])) (tNil)))
theorem d_Board_waiting_bounds {P : Program} {w : World} {K : PySem.W.Frag} {mg : Str → Option Value} {base : Heap} {A : Ads} {f : Addr} {cdv : Value} {Ar : Around} {outer : List Env} {s : Shared} {H : Hp} {E : XK} (G : Gm mg A) (hr : Room 2 (Ar.deeper (envOfC "Board.waiting_bounds" (defScope s_Board_waiting_bounds) s.heap.objs.size f cdv))) (qt : Quiet (Ar.deeper (envOfC "Board.waiting_bounds" (defScope s_Board_waiting_bounds) s.heap.objs.size f cdv))) :
    PSs (cxOf (L2.CX P w) P w K mg base N_Board_waiting_bounds "Board.waiting_bounds" (defScope s_Board_waiting_bounds) f cdv Ar outer s H E) (defBody s_Board_waiting_bounds) (t_Board_waiting_bounds P w K mg base A E) := by
  have sc := sc_Board_waiting_bounds
  have at_ : At (cxOf (L2.CX P w) P w K mg base N_Board_waiting_bounds "Board.waiting_bounds" (defScope s_Board_waiting_bounds) f cdv Ar outer s H E) 2 E := At.of hr qt (takes_of rfl rfl rfl rfl)
  have pn : PassesOwn (model P w) (cxOf (L2.CX P w) P w K mg base N_Board_waiting_bounds "Board.waiting_bounds" (defScope s_Board_waiting_bounds) f cdv Ar outer s H E).A (cxOf (L2.CX P w) P w K mg base N_Board_waiting_bounds "Board.waiting_bounds" (defScope s_Board_waiting_bounds) f cdv Ar outer s H E).env (cxOf (L2.CX P w) P w K mg base N_Board_waiting_bounds "Board.waiting_bounds" (defScope s_Board_waiting_bounds) f cdv Ar outer s H E).xe := passes_of rfl
  exact pss_one (ps_ret (pe_callB call_cSort (by rfl) G.g_sorted (by decide +kernel) (pa_cons (pe_lock (pe_lc (own := [("item", 2), ("bound", 3)]) (g := gTup K 2 (gCons (gName 2) (gCons (gName 3) (gNil)))) (tt := tTest (tOp (uIn K true) (tVar 2) (tVar 1))) rfl sc.nd (pi_items (pe_att hr (pv 0))) (blkOk_by (N := N_Board_waiting_bounds) (sc := defScope s_Board_waiting_bounds) (by decide +kernel)) (fun _ _ _ _ _ => pg_tup rfl (pgs_cons (pg_name (i := 2) sc.nd rfl (by first | exact Or.inl rfl | exact Or.inr rfl)) (pgs_cons (pg_name (i := 3) sc.nd rfl (by first | exact Or.inl rfl | exact Or.inr rfl)) (pgs_nil)))) (fun _ _ _ _ _ => pts_one (pt_cmpR (op_uNotIn hr) (pv 2) (pv 1) (by rfl))) (fun _ _ _ _ _ => pv 3))) (pa_nil))))
abbrev s_Board_spares : Stmt := inClass (top 45) 6
abbrev N_Board_spares : List Str := ["self", "given", "waiting", "found", "fitting", "before", "place"]
abbrev ps_Board_spares : List Str := ["self", "given"]
theorem sc_Board_spares : FnScope N_Board_spares ["self", "given"] (defScope s_Board_spares) := ⟨rfl, rfl, rfl, by decide +kernel, rfl, by decide +kernel, by decide +kernel⟩
def t_Board_spares (P : Program) (w : World) (K : PySem.W.Frag) (mg : Str → Option Value) (base : Heap) (A : Ads) (E : XK) : TS :=
  tSeq (tAsg (tMth P w K mg base "waiting_bounds" 4 E (tVar 0) (tCons (tVar 1) (tNil))) (gName 2)) (tSeq (tPar 3 4 (tCons (tLst (tNil)) (tCons (tC (.int 0)) (tNil)))) (tSeq (tFor (iEnum K (tCons (tMth P w K mg base "free_places" 4 E (tVar 0) (tCons (tVar 1) (tNil))) (tNil))) (gTup K 2 (gCons (gName 5) (gCons (gName 6) (gNil)))) (tSeq (tWhile (tAnd (tTest (tOp uLt (tVar 4) (tCB (cLen K) (tCons (tVar 2) (tNil))))) (tTest (tOp uLe (tOp (uIx K) (tVar 2) (tVar 4)) (tVar 6)))) (tAug 4 (tC (.int 1)) (ipI fun i j => i + j))) (tDrop (tBM K "list" rAppend (tVar 3) (tCons (tTup (tCons (tVar 6) (tCons (tOp uSub (tVar 4) (tVar 5)) (tNil)))) (tNil)))))) (tRet (tVar 3))))
theorem d_Board_spares {P : Program} {w : World} {K : PySem.W.Frag} {mg : Str → Option Value} {base : Heap} {A : Ads} {f : Addr} {cdv : Value} {Ar : Around} {outer : List Env} {s : Shared} {H : Hp} {E : XK} (G : Gm mg A) (hr : Room 4 (Ar.deeper (envOfC "Board.spares" (defScope s_Board_spares) s.heap.objs.size f cdv))) (qt : Quiet (Ar.deeper (envOfC "Board.spares" (defScope s_Board_spares) s.heap.objs.size f cdv))) :
    PSs (cxOf (L2.CX P w) P w K mg base N_Board_spares "Board.spares" (defScope s_Board_spares) f cdv Ar outer s H E) (defBody s_Board_spares) (t_Board_spares P w K mg base A E) := by
  have sc := sc_Board_spares
  have at_ : At (cxOf (L2.CX P w) P w K mg base N_Board_spares "Board.spares" (defScope s_Board_spares) f cdv Ar outer s H E) 4 E := At.of hr qt (takes_of rfl rfl rfl rfl)
  have pn : PassesOwn (model P w) (cxOf (L2.CX P w) P w K mg base N_Board_spares "Board.spares" (defScope s_Board_spares) f cdv Ar outer s H E).A (cxOf (L2.CX P w) P w K mg base N_Board_spares "Board.spares" (defScope s_Board_spares) f cdv Ar outer s H E).env (cxOf (L2.CX P w) P w K mg base N_Board_spares "Board.spares" (defScope s_Board_spares) f cdv Ar outer s H E).xe := passes_of rfl
  exact pss_cons (ps_set (i := 2) sc.nd rfl (by first | exact Or.inl rfl | exact Or.inr rfl) (pe_mth at_ (pv 0) (pa_cons (pv 1) (pa_nil)))) (pss_cons (ps_par rfl sc.nd rfl rfl (by decide) rfl rfl (pa_cons (pe_lst (pa_nil)) (pa_cons (pe_int) (pa_nil))) (by rfl)) (pss_cons (ps_for pn rfl (pi_enum (by rfl) G.g_enumerate (pa_cons (pe_mth at_ (pv 0) (pa_cons (pv 1) (pa_nil))) (pa_nil))) (pg_tup rfl (pgs_cons (pg_name (i := 5) sc.nd rfl (by first | exact Or.inl rfl | exact Or.inr rfl)) (pgs_cons (pg_name (i := 6) sc.nd rfl (by first | exact Or.inl rfl | exact Or.inr rfl)) (pgs_nil)))) (pss_cons (ps_while pn (PW.pt (pw_and (pt_cmpR op_uLt (pv 4) (pe_callB call_cLen (by rfl) G.g_len (by decide +kernel) (pa_cons (pv 2) (pa_nil))) (nomark _)) (pw_and1 (pt_cmpR op_uLe (pe_ix ix_u (pv 2) (pv 4) (fun _ _ => rfl)) (pv 6) (nomark _))))) (pss_one (ps_aug (i := 4) sc.nd rfl (by first | exact Or.inl rfl | exact Or.inr rfl) (pe_int) ip_add))) (pss_one (ps_expr (pe_bm PySem.F.plainAttrs_list PySem.F.slot_list_append PySem.F.type_list_append mt_append (pv 3) (pa_cons (pe_tup (pa_cons (pv 6) (pa_cons (pe_op op_uSub (pv 4) (pv 5)) (pa_nil)))) (pa_nil))))))) (pss_one (ps_ret (pv 3)))))
abbrev s_board_of : Stmt := top 46
abbrev N_board_of : List Str := ["log", "seen"]
abbrev ps_board_of : List Str := ["log", "seen"]
theorem sc_board_of : FnScope N_board_of ["log", "seen"] (defScope s_board_of) := ⟨rfl, rfl, rfl, by decide +kernel, rfl, by decide +kernel, by decide +kernel⟩
def t_board_of (P : Program) (w : World) (K : PySem.W.Frag) (mg : Str → Option Value) (base : Heap) (A : Ads) (E : XK) : TS :=
  tSeq (tDrop (tFn P w K mg base "need_log" 5 E (tCons (tVar 0) (tNil)))) (tSeq (tDrop (tFn P w K mg base "need_seen" 5 E (tCons (tVar 0) (tCons (tVar 1) (tNil))))) (tRet (tMkr P w K mg base "Board" 5 E (tCons (tVar 0) (tCons (tVar 1) (tNil))))))
theorem d_board_of {P : Program} {w : World} {K : PySem.W.Frag} {mg : Str → Option Value} {base : Heap} {A : Ads} {f : Addr} {cdv : Value} {Ar : Around} {outer : List Env} {s : Shared} {H : Hp} {E : XK} (G : Gm mg A) (hr : Room 5 (Ar.deeper (envOfC "board_of" (defScope s_board_of) s.heap.objs.size f cdv))) (qt : Quiet (Ar.deeper (envOfC "board_of" (defScope s_board_of) s.heap.objs.size f cdv))) :
    PSs (cxOf (L2.CX P w) P w K mg base N_board_of "board_of" (defScope s_board_of) f cdv Ar outer s H E) (defBody s_board_of) (t_board_of P w K mg base A E) := by
  have sc := sc_board_of
  have at_ : At (cxOf (L2.CX P w) P w K mg base N_board_of "board_of" (defScope s_board_of) f cdv Ar outer s H E) 5 E := At.of hr qt (takes_of rfl rfl rfl rfl)
  have pn : PassesOwn (model P w) (cxOf (L2.CX P w) P w K mg base N_board_of "board_of" (defScope s_board_of) f cdv Ar outer s H E).A (cxOf (L2.CX P w) P w K mg base N_board_of "board_of" (defScope s_board_of) f cdv Ar outer s H E).env (cxOf (L2.CX P w) P w K mg base N_board_of "board_of" (defScope s_board_of) f cdv Ar outer s H E).xe := passes_of rfl
  exact pss_cons (ps_expr (pe_fn at_ (by rfl) (pa_cons (pv 0) (pa_nil)))) (pss_cons (ps_expr (pe_fn at_ (by rfl) (pa_cons (pv 0) (pa_cons (pv 1) (pa_nil))))) (pss_one (ps_ret (pe_mkr at_ (by rfl) (pa_cons (pv 0) (pa_cons (pv 1) (pa_nil)))))))
abbrev s_count_filled : Stmt := top 47
abbrev N_count_filled : List Str := ["board", "given", "found", "place", "spare"]
abbrev ps_count_filled : List Str := ["board", "given"]
theorem sc_count_filled : FnScope N_count_filled ["board", "given"] (defScope s_count_filled) := ⟨rfl, rfl, rfl, by decide +kernel, rfl, by decide +kernel, by decide +kernel⟩
def t_count_filled (P : Program) (w : World) (K : PySem.W.Frag) (mg : Str → Option Value) (base : Heap) (A : Ads) (E : XK) : TS :=
  tSeq (tIfS (tOr (tTest (tOp (uNe K) (tMth P w K mg base "far_items" 5 E (tVar 0) tNil) (tLst (tNil)))) (tTest (tOp (uNe K) (tMth P w K mg base "wrong_positions" 5 E (tVar 0) (tCons (tVar 1) (tNil))) (tLst (tNil))))) (tRet (tC (.int 0))) (tNext)) (tSeq (tAsg (tC (.int 1)) (gName 2)) (tSeq (tFor (iList K (tMth P w K mg base "spares" 5 E (tVar 0) (tCons (tVar 1) (tNil)))) (gTup K 2 (gCons (gName 3) (gCons (gName 4) (gNil)))) (tAug 2 (tCB (cMax K) (tCons (tC (.int 0)) (tCons (tVar 4) (tNil)))) ipM)) (tRet (tVar 2))))
theorem d_count_filled {P : Program} {w : World} {K : PySem.W.Frag} {mg : Str → Option Value} {base : Heap} {A : Ads} {f : Addr} {cdv : Value} {Ar : Around} {outer : List Env} {s : Shared} {H : Hp} {E : XK} (G : Gm mg A) (hr : Room 5 (Ar.deeper (envOfC "count_filled" (defScope s_count_filled) s.heap.objs.size f cdv))) (qt : Quiet (Ar.deeper (envOfC "count_filled" (defScope s_count_filled) s.heap.objs.size f cdv))) :
    PSs (cxOf (L2.CX P w) P w K mg base N_count_filled "count_filled" (defScope s_count_filled) f cdv Ar outer s H E) (defBody s_count_filled) (t_count_filled P w K mg base A E) := by
  have sc := sc_count_filled
  have at_ : At (cxOf (L2.CX P w) P w K mg base N_count_filled "count_filled" (defScope s_count_filled) f cdv Ar outer s H E) 5 E := At.of hr qt (takes_of rfl rfl rfl rfl)
  have pn : PassesOwn (model P w) (cxOf (L2.CX P w) P w K mg base N_count_filled "count_filled" (defScope s_count_filled) f cdv Ar outer s H E).A (cxOf (L2.CX P w) P w K mg base N_count_filled "count_filled" (defScope s_count_filled) f cdv Ar outer s H E).env (cxOf (L2.CX P w) P w K mg base N_count_filled "count_filled" (defScope s_count_filled) f cdv Ar outer s H E).xe := passes_of rfl
  exact pss_cons (ps_if (PW.pt (pw_or (pt_cmpR (op_uNe hr) (pe_mth0 at_ (pv 0)) (pe_lst (pa_nil)) (nomark _)) (pw_or1 (pt_cmpR (op_uNe hr) (pe_mth at_ (pv 0) (pa_cons (pv 1) (pa_nil))) (pe_lst (pa_nil)) (nomark _))))) (pss_one (ps_ret (pe_int))) (pss_nil)) (pss_cons (ps_set (i := 2) sc.nd rfl (by first | exact Or.inl rfl | exact Or.inr rfl) (pe_int)) (pss_cons (ps_for pn rfl (pi_list (pe_mth at_ (pv 0) (pa_cons (pv 1) (pa_nil)))) (pg_tup rfl (pgs_cons (pg_name (i := 3) sc.nd rfl (by first | exact Or.inl rfl | exact Or.inr rfl)) (pgs_cons (pg_name (i := 4) sc.nd rfl (by first | exact Or.inl rfl | exact Or.inr rfl)) (pgs_nil)))) (pss_one (ps_aug (i := 2) sc.nd rfl (by first | exact Or.inl rfl | exact Or.inr rfl) (pe_callB (call_cMax rfl) (by rfl) G.g_max (by decide +kernel) (pa_cons (pe_int) (pa_cons (pv 4) (pa_nil)))) ip_mul))) (pss_one (ps_ret (pv 2)))))
abbrev s_count : Stmt := top 48
abbrev N_count : List Str := ["log", "seen", "board"]
abbrev ps_count : List Str := ["log", "seen"]
theorem sc_count : FnScope N_count ["log", "seen"] (defScope s_count) := ⟨rfl, rfl, rfl, by decide +kernel, rfl, by decide +kernel, by decide +kernel⟩
def t_count (P : Program) (w : World) (K : PySem.W.Frag) (mg : Str → Option Value) (base : Heap) (A : Ads) (E : XK) : TS :=
  tSeq (tAsg (tFn P w K mg base "board_of" 6 E (tCons (tVar 0) (tCons (tVar 1) (tNil)))) (gName 2)) (tRet (tFn P w K mg base "count_filled" 6 E (tCons (tVar 2) (tCons (tAtt P w K mg base "given" (tVar 2)) (tNil)))))
theorem d_count {P : Program} {w : World} {K : PySem.W.Frag} {mg : Str → Option Value} {base : Heap} {A : Ads} {f : Addr} {cdv : Value} {Ar : Around} {outer : List Env} {s : Shared} {H : Hp} {E : XK} (G : Gm mg A) (hr : Room 6 (Ar.deeper (envOfC "count" (defScope s_count) s.heap.objs.size f cdv))) (qt : Quiet (Ar.deeper (envOfC "count" (defScope s_count) s.heap.objs.size f cdv))) :
    PSs (cxOf (L2.CX P w) P w K mg base N_count "count" (defScope s_count) f cdv Ar outer s H E) (defBody s_count) (t_count P w K mg base A E) := by
  have sc := sc_count
  have at_ : At (cxOf (L2.CX P w) P w K mg base N_count "count" (defScope s_count) f cdv Ar outer s H E) 6 E := At.of hr qt (takes_of rfl rfl rfl rfl)
  have pn : PassesOwn (model P w) (cxOf (L2.CX P w) P w K mg base N_count "count" (defScope s_count) f cdv Ar outer s H E).A (cxOf (L2.CX P w) P w K mg base N_count "count" (defScope s_count) f cdv Ar outer s H E).env (cxOf (L2.CX P w) P w K mg base N_count "count" (defScope s_count) f cdv Ar outer s H E).xe := passes_of rfl
  exact pss_cons (ps_set (i := 2) sc.nd rfl (by first | exact Or.inl rfl | exact Or.inr rfl) (pe_fn at_ (by rfl) (pa_cons (pv 0) (pa_cons (pv 1) (pa_nil))))) (pss_one (ps_ret (pe_fn at_ (by rfl) (pa_cons (pv 2) (pa_cons (pe_att hr (pv 2)) (pa_nil))))))
abbrev s_law_tape : Stmt := top 50
abbrev N_law_tape : List Str := ["_law_script", "_law_k", "_law_cell"]
abbrev ps_law_tape : List Str := ["_law_script", "_law_k"]
theorem sc_law_tape : FnScope N_law_tape ["_law_script", "_law_k"] (defScope s_law_tape) := ⟨rfl, rfl, rfl, by decide +kernel, rfl, by decide +kernel, by decide +kernel⟩
def t_law_tape (P : Program) (w : World) (K : PySem.W.Frag) (mg : Str → Option Value) (base : Heap) (A : Ads) (E : XK) : TS :=
  tSeq (tAsg (tIf (tTest (tOp uLt (tVar 1) (tCB (cLen K) (tCons (tVar 0) (tNil))))) (tCB (cAbs) (tCons (tOp (uIx K) (tVar 0) (tVar 1)) (tNil))) (tC (.int 0))) (gName 2)) (tRet (tLst (tCons (tCB (cMax K) (tCons (tC (.int 0)) (tCons (tOp uSub (tVar 2) (tOp uPow (tC (.int 10)) (tC (.int 18)))) (tNil)))) (tCons (tOp uAdd (tOp uMul (tOp uMod (tVar 2) (tOp uAdd (tOp uPow (tC (.int 10)) (tC (.int 39))) (tC (.int 3)))) (tC (.int 71))) (tVar 1)) (tCons (tC (.int 0)) (tNil))))))
theorem d_law_tape {P : Program} {w : World} {K : PySem.W.Frag} {mg : Str → Option Value} {base : Heap} {A : Ads} {f : Addr} {cdv : Value} {Ar : Around} {outer : List Env} {s : Shared} {H : Hp} {E : XK} (G : Gm mg A) (hr : Room 1 (Ar.deeper (envOfC "_law_tape" (defScope s_law_tape) s.heap.objs.size f cdv))) (qt : Quiet (Ar.deeper (envOfC "_law_tape" (defScope s_law_tape) s.heap.objs.size f cdv))) :
    PSs (cxOf (L2.CX P w) P w K mg base N_law_tape "_law_tape" (defScope s_law_tape) f cdv Ar outer s H E) (defBody s_law_tape) (t_law_tape P w K mg base A E) := by
  have sc := sc_law_tape
  have at_ : At (cxOf (L2.CX P w) P w K mg base N_law_tape "_law_tape" (defScope s_law_tape) f cdv Ar outer s H E) 1 E := At.of hr qt (takes_of rfl rfl rfl rfl)
  have pn : PassesOwn (model P w) (cxOf (L2.CX P w) P w K mg base N_law_tape "_law_tape" (defScope s_law_tape) f cdv Ar outer s H E).A (cxOf (L2.CX P w) P w K mg base N_law_tape "_law_tape" (defScope s_law_tape) f cdv Ar outer s H E).env (cxOf (L2.CX P w) P w K mg base N_law_tape "_law_tape" (defScope s_law_tape) f cdv Ar outer s H E).xe := passes_of rfl
  exact pss_cons (ps_set (i := 2) sc.nd rfl (by first | exact Or.inl rfl | exact Or.inr rfl) (pe_ifExp (pt_cmpR op_uLt (pv 1) (pe_callB call_cLen (by rfl) G.g_len (by decide +kernel) (pa_cons (pv 0) (pa_nil))) (nomark _)) (pe_callB call_cAbs (by rfl) G.g_abs (by decide +kernel) (pa_cons (pe_ix ix_u (pv 0) (pv 1) (fun _ _ => rfl)) (pa_nil))) (pe_int))) (pss_one (ps_ret (pe_lst (pa_cons (pe_callB (call_cMax rfl) (by rfl) G.g_max (by decide +kernel) (pa_cons (pe_int) (pa_cons (pe_op op_uSub (pv 2) (pe_op op_uPow (pe_int) (pe_int))) (pa_nil)))) (pa_cons (pe_op op_uAdd (pe_op op_uMul (pe_op op_uMod (pv 2) (pe_op op_uAdd (pe_op op_uPow (pe_int) (pe_int)) (pe_int))) (pe_int)) (pv 1)) (pa_cons (pe_int) (pa_nil)))))))
abbrev s_law_next : Stmt := top 51
abbrev N_law_next : List Str := ["_law_tape_here", "_law_size", "_law_digit", "_law_mixed"]
abbrev ps_law_next : List Str := ["_law_tape_here", "_law_size"]
theorem sc_law_next : FnScope N_law_next ["_law_tape_here", "_law_size"] (defScope s_law_next) := ⟨rfl, rfl, rfl, by decide +kernel, rfl, by decide +kernel, by decide +kernel⟩
def t_law_next (P : Program) (w : World) (K : PySem.W.Frag) (mg : Str → Option Value) (base : Heap) (A : Ads) (E : XK) : TS :=
  tSeq (tIfS (tTest (tOp uGt (tOp (uIx K) (tVar 0) (tC (.int 0))) (tC (.int 0)))) (tSeq (tAsg (tOp uMod (tOp (uIx K) (tVar 0) (tC (.int 0))) (tVar 1)) (gName 2)) (tSeq (tAsg (tOp uDiv (tOp (uIx K) (tVar 0) (tC (.int 0))) (tVar 1)) (gSub (tVar 0) (tC (.int 0)) rSetL)) (tRet (tVar 2)))) (tNext)) (tSeq (tAsg (tOp uAdd (tOp (uIx K) (tVar 0) (tC (.int 2))) (tC (.int 1))) (gSub (tVar 0) (tC (.int 2)) rSetL)) (tSeq (tAsg (tOp uMod (tOp uPow (tOp uAdd (tOp (uIx K) (tVar 0) (tC (.int 1))) (tOp uMul (tC (.int 10000019)) (tOp (uIx K) (tVar 0) (tC (.int 2))))) (tC (.int 3))) (tOp uAdd (tOp uPow (tC (.int 10)) (tC (.int 41))) (tC (.int 37)))) (gName 3)) (tSeq (tAsg (tOp uMod (tOp uPow (tOp uAdd (tVar 3) (tOp uMul (tC (.int 32452843)) (tOp (uIx K) (tVar 0) (tC (.int 2))))) (tC (.int 3))) (tOp uAdd (tOp uPow (tC (.int 10)) (tC (.int 38))) (tC (.int 133)))) (gName 3)) (tRet (tOp uMod (tOp uDiv (tVar 3) (tC (.int 8191))) (tVar 1))))))
theorem d_law_next {P : Program} {w : World} {K : PySem.W.Frag} {mg : Str → Option Value} {base : Heap} {A : Ads} {f : Addr} {cdv : Value} {Ar : Around} {outer : List Env} {s : Shared} {H : Hp} {E : XK} (G : Gm mg A) (hr : Room 1 (Ar.deeper (envOfC "_law_next" (defScope s_law_next) s.heap.objs.size f cdv))) (qt : Quiet (Ar.deeper (envOfC "_law_next" (defScope s_law_next) s.heap.objs.size f cdv))) :
    PSs (cxOf (L2.CX P w) P w K mg base N_law_next "_law_next" (defScope s_law_next) f cdv Ar outer s H E) (defBody s_law_next) (t_law_next P w K mg base A E) := by
  have sc := sc_law_next
  have at_ : At (cxOf (L2.CX P w) P w K mg base N_law_next "_law_next" (defScope s_law_next) f cdv Ar outer s H E) 1 E := At.of hr qt (takes_of rfl rfl rfl rfl)
  have pn : PassesOwn (model P w) (cxOf (L2.CX P w) P w K mg base N_law_next "_law_next" (defScope s_law_next) f cdv Ar outer s H E).A (cxOf (L2.CX P w) P w K mg base N_law_next "_law_next" (defScope s_law_next) f cdv Ar outer s H E).env (cxOf (L2.CX P w) P w K mg base N_law_next "_law_next" (defScope s_law_next) f cdv Ar outer s H E).xe := passes_of rfl
  exact pss_cons (ps_if (pt_cmpR op_uGt (pe_ix ix_u (pv 0) (pe_int) (fun _ _ => rfl)) (pe_int) (nomark _)) (pss_cons (ps_set (i := 2) sc.nd rfl (by first | exact Or.inl rfl | exact Or.inr rfl) (pe_op op_uMod (pe_ix ix_u (pv 0) (pe_int) (fun _ _ => rfl)) (pv 1))) (pss_cons (ps_asg (pe_op op_uDiv (pe_ix ix_u (pv 0) (pe_int) (fun _ _ => rfl)) (pv 1)) (pg_sub (pv 0) (pe_int) set_list)) (pss_one (ps_ret (pv 2))))) (pss_nil)) (pss_cons (ps_asg (pe_op op_uAdd (pe_ix ix_u (pv 0) (pe_int) (fun _ _ => rfl)) (pe_int)) (pg_sub (pv 0) (pe_int) set_list)) (pss_cons (ps_set (i := 3) sc.nd rfl (by first | exact Or.inl rfl | exact Or.inr rfl) (pe_op op_uMod (pe_op op_uPow (pe_op op_uAdd (pe_ix ix_u (pv 0) (pe_int) (fun _ _ => rfl)) (pe_op op_uMul (pe_int) (pe_ix ix_u (pv 0) (pe_int) (fun _ _ => rfl)))) (pe_int)) (pe_op op_uAdd (pe_op op_uPow (pe_int) (pe_int)) (pe_int)))) (pss_cons (ps_set (i := 3) sc.nd rfl (by first | exact Or.inl rfl | exact Or.inr rfl) (pe_op op_uMod (pe_op op_uPow (pe_op op_uAdd (pv 3) (pe_op op_uMul (pe_int) (pe_ix ix_u (pv 0) (pe_int) (fun _ _ => rfl)))) (pe_int)) (pe_op op_uAdd (pe_op op_uPow (pe_int) (pe_int)) (pe_int)))) (pss_one (ps_ret (pe_op op_uMod (pe_op op_uDiv (pv 3) (pe_int)) (pv 1)))))))
abbrev s_law_items : Stmt := top 52
abbrev N_law_items : List Str := ["_law_tape_here", "_law_many", "_law_signs", "_law_pool", "_law_sign", "_law_k"]
abbrev ps_law_items : List Str := ["_law_tape_here", "_law_many"]
theorem sc_law_items : FnScope N_law_items ["_law_tape_here", "_law_many"] (defScope s_law_items) := ⟨rfl, rfl, rfl, by decide +kernel, rfl, by decide +kernel, by decide +kernel⟩
def t_law_items (P : Program) (w : World) (K : PySem.W.Frag) (mg : Str → Option Value) (base : Heap) (A : Ads) (E : XK) : TS :=
  tSeq (tAsg (tC (.str "abcdefghijklmnopqrstuvwxyz")) (gName 2)) (tSeq (tAsg (tOp uAdd (tOp uAdd (tLc (iStr (tVar 2)) (gName 4) (tYes) (tVar 4) [4]) (tLc (iStr (tVar 2)) (gName 4) (tYes) (tOp uAdd (tC (.str "z")) (tVar 4)) [4])) (tLc (iStr (tVar 2)) (gName 4) (tYes) (tOp uAdd (tC (.str "abcdefg")) (tVar 4)) [4])) (gName 3)) (tRet (tLc (iRng1 (tCons (tVar 1) (tNil))) (gName 5) (tYes) (tBM K "list" rPopAt (tVar 3) (tCons (tFn P w K mg base "_law_next" 2 E0 (tCons (tVar 0) (tCons (tCB (cLen K) (tCons (tVar 3) (tNil))) (tNil)))) (tNil))) [5])))
theorem d_law_items {P : Program} {w : World} {K : PySem.W.Frag} {mg : Str → Option Value} {base : Heap} {A : Ads} {f : Addr} {cdv : Value} {Ar : Around} {outer : List Env} {s : Shared} {H : Hp} {E : XK} (G : Gm mg A) (hr : Room 2 (Ar.deeper (envOfC "_law_items" (defScope s_law_items) s.heap.objs.size f cdv))) (qt : Quiet (Ar.deeper (envOfC "_law_items" (defScope s_law_items) s.heap.objs.size f cdv))) :
    PSs (cxOf (L2.CX P w) P w K mg base N_law_items "_law_items" (defScope s_law_items) f cdv Ar outer s H E) (defBody s_law_items) (t_law_items P w K mg base A E) := by
  have sc := sc_law_items
  have at_ : At (cxOf (L2.CX P w) P w K mg base N_law_items "_law_items" (defScope s_law_items) f cdv Ar outer s H E) 2 E := At.of hr qt (takes_of rfl rfl rfl rfl)
  have pn : PassesOwn (model P w) (cxOf (L2.CX P w) P w K mg base N_law_items "_law_items" (defScope s_law_items) f cdv Ar outer s H E).A (cxOf (L2.CX P w) P w K mg base N_law_items "_law_items" (defScope s_law_items) f cdv Ar outer s H E).env (cxOf (L2.CX P w) P w K mg base N_law_items "_law_items" (defScope s_law_items) f cdv Ar outer s H E).xe := passes_of rfl
  exact pss_cons (ps_set (i := 2) sc.nd rfl (by first | exact Or.inl rfl | exact Or.inr rfl) (pe_str)) (pss_cons (ps_set (i := 3) sc.nd rfl (by first | exact Or.inl rfl | exact Or.inr rfl) (pe_op op_uAdd (pe_op op_uAdd (pe_lc (own := [("_law_sign", 4)]) (g := gName 4) (tt := tYes) rfl sc.nd (pi_str (pv 2)) (blkOk_by (N := N_law_items) (sc := defScope s_law_items) (by decide +kernel)) (fun _ _ _ _ _ => pg_name (i := 4) sc.nd rfl (by first | exact Or.inl rfl | exact Or.inr rfl)) (fun _ _ _ _ _ => pts_nil) (fun _ _ _ _ _ => pv 4)) (pe_lc (own := [("_law_sign", 4)]) (g := gName 4) (tt := tYes) rfl sc.nd (pi_str (pv 2)) (blkOk_by (N := N_law_items) (sc := defScope s_law_items) (by decide +kernel)) (fun _ _ _ _ _ => pg_name (i := 4) sc.nd rfl (by first | exact Or.inl rfl | exact Or.inr rfl)) (fun _ _ _ _ _ => pts_nil) (fun _ _ _ _ _ => pe_op op_uAdd (pe_str) (pv 4)))) (pe_lc (own := [("_law_sign", 4)]) (g := gName 4) (tt := tYes) rfl sc.nd (pi_str (pv 2)) (blkOk_by (N := N_law_items) (sc := defScope s_law_items) (by decide +kernel)) (fun _ _ _ _ _ => pg_name (i := 4) sc.nd rfl (by first | exact Or.inl rfl | exact Or.inr rfl)) (fun _ _ _ _ _ => pts_nil) (fun _ _ _ _ _ => pe_op op_uAdd (pe_str) (pv 4))))) (pss_one (ps_ret (pe_lc (own := [("_law_k", 5)]) (g := gName 5) (tt := tYes) rfl sc.nd (pi_range1 (by rfl) G.g_range (pa_cons (pv 1) (pa_nil))) (blkOk_by (N := N_law_items) (sc := defScope s_law_items) (by decide +kernel)) (fun _ _ _ _ _ => pg_name (i := 5) sc.nd rfl (by first | exact Or.inl rfl | exact Or.inr rfl)) (fun _ _ _ _ _ => pts_nil) (fun _ _ _ _ _ => pe_bm PySem.F.plainAttrs_list PySem.F.slot_list_pop PySem.F.type_list_pop mt_popAt (pv 3) (pa_cons (pe_fn (At.e0 hr qt) (by rfl) (pa_cons (pv 0) (pa_cons (pe_callB call_cLen (by rfl) G.g_len (by decide +kernel) (pa_cons (pv 3) (pa_nil))) (pa_nil)))) (pa_nil)))))))
abbrev s_law_made : Stmt := top 53
abbrev N_law_made : List Str := ["_law_kind", "_law_item", "_law_slot"]
abbrev ps_law_made : List Str := ["_law_kind", "_law_item", "_law_slot"]
theorem sc_law_made : FnScope N_law_made ["_law_kind", "_law_item", "_law_slot"] (defScope s_law_made) := ⟨rfl, rfl, rfl, by decide +kernel, rfl, by decide +kernel, by decide +kernel⟩
def t_law_made (P : Program) (w : World) (K : PySem.W.Frag) (mg : Str → Option Value) (base : Heap) (A : Ads) (E : XK) : TS :=
  tSeq (tIfS (tTest (tOp (uEq K) (tVar 0) (tC (.int 0)))) (tRet (tMkr P w K mg base "Inserted" 4 E (tCons (tVar 1) (tCons (tVar 2) (tNil))))) (tNext)) (tRet (tIf (tTest (tOp (uEq K) (tVar 0) (tC (.int 1)))) (tMkr P w K mg base "Removed" 4 E (tCons (tVar 1) (tCons (tVar 2) (tNil)))) (tMkr P w K mg base "Fronted" 4 E (tCons (tVar 1) (tCons (tVar 2) (tNil))))))
theorem d_law_made {P : Program} {w : World} {K : PySem.W.Frag} {mg : Str → Option Value} {base : Heap} {A : Ads} {f : Addr} {cdv : Value} {Ar : Around} {outer : List Env} {s : Shared} {H : Hp} {E : XK} (G : Gm mg A) (hr : Room 4 (Ar.deeper (envOfC "_law_made" (defScope s_law_made) s.heap.objs.size f cdv))) (qt : Quiet (Ar.deeper (envOfC "_law_made" (defScope s_law_made) s.heap.objs.size f cdv))) :
    PSs (cxOf (L2.CX P w) P w K mg base N_law_made "_law_made" (defScope s_law_made) f cdv Ar outer s H E) (defBody s_law_made) (t_law_made P w K mg base A E) := by
  have sc := sc_law_made
  have at_ : At (cxOf (L2.CX P w) P w K mg base N_law_made "_law_made" (defScope s_law_made) f cdv Ar outer s H E) 4 E := At.of hr qt (takes_of rfl rfl rfl rfl)
  have pn : PassesOwn (model P w) (cxOf (L2.CX P w) P w K mg base N_law_made "_law_made" (defScope s_law_made) f cdv Ar outer s H E).A (cxOf (L2.CX P w) P w K mg base N_law_made "_law_made" (defScope s_law_made) f cdv Ar outer s H E).env (cxOf (L2.CX P w) P w K mg base N_law_made "_law_made" (defScope s_law_made) f cdv Ar outer s H E).xe := passes_of rfl
  exact pss_cons (ps_if (pt_cmpR (op_uEq hr) (pv 0) (pe_int) (nomark _)) (pss_one (ps_ret (pe_mkr at_ (by rfl) (pa_cons (pv 1) (pa_cons (pv 2) (pa_nil)))))) (pss_nil)) (pss_one (ps_ret (pe_ifExp (pt_cmpR (op_uEq hr) (pv 0) (pe_int) (nomark _)) (pe_mkr at_ (by rfl) (pa_cons (pv 1) (pa_cons (pv 2) (pa_nil)))) (pe_mkr at_ (by rfl) (pa_cons (pv 1) (pa_cons (pv 2) (pa_nil)))))))
abbrev s_law_right : Stmt := top 54
abbrev N_law_right : List Str := ["_law_tape_here", "_law_kind", "_law_slots", "_law_items_here", "_law_log", "_law_other_log", "_law_many", "_law_best", "_law_same", "_law_held", "_law_record", "_law_more", "_law_fewer", "_law_item", "_law_slot", "_law_sign"]
abbrev ps_law_right : List Str := ["_law_tape_here", "_law_kind", "_law_slots"]
theorem sc_law_right : FnScope N_law_right ["_law_tape_here", "_law_kind", "_law_slots"] (defScope s_law_right) := ⟨rfl, rfl, rfl, by decide +kernel, rfl, by decide +kernel, by decide +kernel⟩
def t_law_right (P : Program) (w : World) (K : PySem.W.Frag) (mg : Str → Option Value) (base : Heap) (A : Ads) (E : XK) : TS :=
  tSeq (tAsg (tFn P w K mg base "_law_items" 7 E (tCons (tVar 0) (tCons (tCB (cLen K) (tCons (tVar 2) (tNil))) (tNil)))) (gName 3)) (tSeq (tAsg (tLc (iZip K (tCons (tVar 3) (tCons (tVar 2) (tNil)))) (gTup K 2 (gCons (gName 13) (gCons (gName 14) (gNil)))) (tYes) (tFn P w K mg base "_law_made" 7 E0 (tCons (tVar 1) (tCons (tVar 13) (tCons (tVar 14) (tNil))))) [13, 14]) (gName 4)) (tSeq (tAsg (tLc (iZip K (tCons (tVar 3) (tCons (tVar 2) (tNil)))) (gTup K 2 (gCons (gName 13) (gCons (gName 14) (gNil)))) (tYes) (tFn P w K mg base "_law_made" 7 E0 (tCons (tOp uSub (tC (.int 1)) (tVar 1)) (tCons (tVar 13) (tCons (tVar 14) (tNil))))) [13, 14]) (gName 5)) (tSeq (tPar 6 7 (tCons (tFn P w K mg base "least_missing" 7 E (tCons (tVar 4) (tNil))) (tCons (tFn P w K mg base "usable" 7 E (tCons (tVar 4) (tNil))) (tNil)))) (tSeq (tAsg (tOp (uEq K) (tLc (iList K (tFn P w K mg base "usable" 7 E (tCons (tVar 5) (tNil)))) (gName 10) (tYes) (tAtt P w K mg base "item" (tVar 10)) [10]) (tLc (iList K (tVar 7)) (gName 10) (tYes) (tAtt P w K mg base "item" (tVar 10)) [10])) (gName 8)) (tSeq (tIfS (tOr (tTest (tOp (uNe K) (tVar 6) (tFn P w K mg base "least_missing" 7 E (tCons (tVar 5) (tNil))))) (tNot (tB (tVar 8)))) (tRet (tC (.bl false))) (tNext)) (tSeq (tIfS (tOr (tTest (tOp (uNe K) (tOp (uEq K) (tFn P w K mg base "count" 7 E (tCons (tVar 4) (tNil))) (tC (.int 0))) (tOp uGt (tVar 6) (tC (.int 0))))) (tOr (tTest (tOp (uNe K) (tOp (uEq K) (tCB (cLen K) (tCons (tVar 7) (tNil))) (tCB (cLen K) (tCons (tVar 4) (tNil)))) (tOp (uEq K) (tVar 6) (tC (.int 0))))) (tTest (tOp (uEq K) (tFn P w K mg base "count" 7 E (tCons (tVar 7) (tNil))) (tC (.int 0)))))) (tRet (tC (.bl false))) (tNext)) (tSeq (tAsg (tLc (iList K (tVar 7)) (gName 10) (tYes) (tAtt P w K mg base "item" (tVar 10)) [10]) (gName 9)) (tSeq (tFor (iList K (tSl (rSlL K) (tLc (iList K (tVar 4)) (gName 10) (tTest (tOp (uIn K true) (tAtt P w K mg base "item" (tVar 10)) (tVar 9))) (tVar 10) [10]) (tNoPart) (tPart (tC (.int 6))))) (gName 10) (tIfS (tTest (tOp (uNe K) (tFn P w K mg base "count" 7 E (tCons (tOp uAdd (tVar 7) (tLst (tCons (tVar 10) (tNil)))) (tNil))) (tC (.int 0)))) (tRet (tC (.bl false))) (tNext))) (tSeq (tIfS (tTest (tOp uGt (tOp uAdd (tCB (cLen K) (tCons (tVar 4) (tNil))) (tVar 6)) (tC (.int 40)))) (tRet (tC (.bl true))) (tNext)) (tSeq (tAsg (tLc (iStr (tC (.str "abcdefghijklmnopqrstuvwxyz"))) (gName 15) (tYes) (tFn P w K mg base "_law_made" 7 E0 (tCons (tVar 1) (tCons (tOp uAdd (tC (.str "abcdxy")) (tVar 15)) (tCons (tC (.int 0)) (tNil))))) [15]) (gName 11)) (tSeq (tAsg (tOp uAdd (tVar 11) (tLc (iStr (tC (.str "abcdefghijklmnopqrstuvwxyz"))) (gName 15) (tYes) (tFn P w K mg base "_law_made" 7 E0 (tCons (tVar 1) (tCons (tOp uAdd (tC (.str "bcdexy")) (tVar 15)) (tCons (tC (.int 0)) (tNil))))) [15])) (gName 11)) (tSeq (tIfS (tTest (tOp (uEq K) (tFn P w K mg base "count" 7 E (tCons (tOp uAdd (tVar 4) (tSl (rSlL K) (tVar 11) (tNoPart) (tPart (tVar 6)))) (tNil))) (tC (.int 0)))) (tRet (tC (.bl false))) (tNext)) (tSeq (tIfS (tTest (tOp uGt (tVar 6) (tC (.int 0)))) (tSeq (tAsg (tSl (rSlL K) (tVar 11) (tNoPart) (tPart (tOp uSub (tVar 6) (tC (.int 1))))) (gName 12)) (tSeq (tFor (iList K (tVar 12)) (gName 10) (tDrop (tMth P w K mg base "move_to" 7 E (tVar 10) (tCons (tFn P w K mg base "_law_next" 7 E (tCons (tVar 0) (tCons (tC (.int 4)) (tNil)))) (tNil))))) (tRet (tOp (uEq K) (tFn P w K mg base "count" 7 E (tCons (tOp uAdd (tVar 4) (tVar 12)) (tNil))) (tC (.int 0)))))) (tNext)) (tRet (tC (.bl true))))))))))))))))
theorem d_law_right {P : Program} {w : World} {K : PySem.W.Frag} {mg : Str → Option Value} {base : Heap} {A : Ads} {f : Addr} {cdv : Value} {Ar : Around} {outer : List Env} {s : Shared} {H : Hp} {E : XK} (G : Gm mg A) (hr : Room 7 (Ar.deeper (envOfC "_law_right" (defScope s_law_right) s.heap.objs.size f cdv))) (qt : Quiet (Ar.deeper (envOfC "_law_right" (defScope s_law_right) s.heap.objs.size f cdv))) :
    PSs (cxOf (L2.CX P w) P w K mg base N_law_right "_law_right" (defScope s_law_right) f cdv Ar outer s H E) (defBody s_law_right) (t_law_right P w K mg base A E) := by
  have sc := sc_law_right
  have at_ : At (cxOf (L2.CX P w) P w K mg base N_law_right "_law_right" (defScope s_law_right) f cdv Ar outer s H E) 7 E := At.of hr qt (takes_of rfl rfl rfl rfl)
  have pn : PassesOwn (model P w) (cxOf (L2.CX P w) P w K mg base N_law_right "_law_right" (defScope s_law_right) f cdv Ar outer s H E).A (cxOf (L2.CX P w) P w K mg base N_law_right "_law_right" (defScope s_law_right) f cdv Ar outer s H E).env (cxOf (L2.CX P w) P w K mg base N_law_right "_law_right" (defScope s_law_right) f cdv Ar outer s H E).xe := passes_of rfl
  exact pss_cons (ps_set (i := 3) sc.nd rfl (by first | exact Or.inl rfl | exact Or.inr rfl) (pe_fn at_ (by rfl) (pa_cons (pv 0) (pa_cons (pe_callB call_cLen (by rfl) G.g_len (by decide +kernel) (pa_cons (pv 2) (pa_nil))) (pa_nil))))) (pss_cons (ps_setLc (i := 4) (own := [("_law_item", 13), ("_law_slot", 14)]) (g := gTup K 2 (gCons (gName 13) (gCons (gName 14) (gNil)))) (tt := tYes) rfl sc.nd rfl rfl (sw_true rfl rfl rfl (by decide +kernel)) (pi_zip (by rfl) G.g_zip (pa_cons (pv 3) (pa_cons (pv 2) (pa_nil)))) (blkOk_by (N := N_law_right) (sc := defScope s_law_right) (by decide +kernel)) (fun _ _ _ _ _ => pg_tup rfl (pgs_cons (pg_name (i := 13) sc.nd rfl (by first | exact Or.inl rfl | exact Or.inr rfl)) (pgs_cons (pg_name (i := 14) sc.nd rfl (by first | exact Or.inl rfl | exact Or.inr rfl)) (pgs_nil)))) (fun _ _ _ _ _ => pts_nil) (fun _ _ _ _ _ => pe_fn (At.e0 hr qt) (by rfl) (pa_cons (pv 1) (pa_cons (pv 13) (pa_cons (pv 14) (pa_nil)))))) (pss_cons (ps_setLc (i := 5) (own := [("_law_item", 13), ("_law_slot", 14)]) (g := gTup K 2 (gCons (gName 13) (gCons (gName 14) (gNil)))) (tt := tYes) rfl sc.nd rfl rfl (sw_true rfl rfl rfl (by decide +kernel)) (pi_zip (by rfl) G.g_zip (pa_cons (pv 3) (pa_cons (pv 2) (pa_nil)))) (blkOk_by (N := N_law_right) (sc := defScope s_law_right) (by decide +kernel)) (fun _ _ _ _ _ => pg_tup rfl (pgs_cons (pg_name (i := 13) sc.nd rfl (by first | exact Or.inl rfl | exact Or.inr rfl)) (pgs_cons (pg_name (i := 14) sc.nd rfl (by first | exact Or.inl rfl | exact Or.inr rfl)) (pgs_nil)))) (fun _ _ _ _ _ => pts_nil) (fun _ _ _ _ _ => pe_fn (At.e0 hr qt) (by rfl) (pa_cons (pe_op op_uSub (pe_int) (pv 1)) (pa_cons (pv 13) (pa_cons (pv 14) (pa_nil)))))) (pss_cons (ps_par rfl sc.nd rfl rfl (by decide) rfl rfl (pa_cons (pe_fn at_ (by rfl) (pa_cons (pv 4) (pa_nil))) (pa_cons (pe_fn at_ (by rfl) (pa_cons (pv 4) (pa_nil))) (pa_nil))) (by rfl)) (pss_cons (ps_set (i := 8) sc.nd rfl (by first | exact Or.inl rfl | exact Or.inr rfl) (pe_cmpR (op_uEq hr) (pe_lc (own := [("_law_record", 10)]) (g := gName 10) (tt := tYes) rfl sc.nd (pi_list (pe_fn at_ (by rfl) (pa_cons (pv 5) (pa_nil)))) (blkOk_by (N := N_law_right) (sc := defScope s_law_right) (by decide +kernel)) (fun _ _ _ _ _ => pg_name (i := 10) sc.nd rfl (by first | exact Or.inl rfl | exact Or.inr rfl)) (fun _ _ _ _ _ => pts_nil) (fun _ _ _ _ _ => pe_att hr (pv 10))) (pe_lc (own := [("_law_record", 10)]) (g := gName 10) (tt := tYes) rfl sc.nd (pi_list (pv 7)) (blkOk_by (N := N_law_right) (sc := defScope s_law_right) (by decide +kernel)) (fun _ _ _ _ _ => pg_name (i := 10) sc.nd rfl (by first | exact Or.inl rfl | exact Or.inr rfl)) (fun _ _ _ _ _ => pts_nil) (fun _ _ _ _ _ => pe_att hr (pv 10))) (nomark _))) (pss_cons (ps_if (PW.pt (pw_or (pt_cmpR (op_uNe hr) (pv 6) (pe_fn at_ (by rfl) (pa_cons (pv 5) (pa_nil))) (nomark _)) (pw_or1 (pt_not (pt_val (pv 8)))))) (pss_one (ps_ret (pe_bl))) (pss_nil)) (pss_cons (ps_if (PW.pt (pw_or (pt_cmpR (op_uNe hr) (pe_cmpR (op_uEq hr) (pe_fn at_ (by rfl) (pa_cons (pv 4) (pa_nil))) (pe_int) (nomark _)) (pe_cmpR op_uGt (pv 6) (pe_int) (nomark _)) (nomark _)) (pw_or (pt_cmpR (op_uNe hr) (pe_cmpR (op_uEq hr) (pe_callB call_cLen (by rfl) G.g_len (by decide +kernel) (pa_cons (pv 7) (pa_nil))) (pe_callB call_cLen (by rfl) G.g_len (by decide +kernel) (pa_cons (pv 4) (pa_nil))) (nomark _)) (pe_cmpR (op_uEq hr) (pv 6) (pe_int) (nomark _)) (nomark _)) (pw_or1 (pt_cmpR (op_uEq hr) (pe_fn at_ (by rfl) (pa_cons (pv 7) (pa_nil))) (pe_int) (nomark _)))))) (pss_one (ps_ret (pe_bl))) (pss_nil)) (pss_cons (ps_set (i := 9) sc.nd rfl (by first | exact Or.inl rfl | exact Or.inr rfl) (pe_lc (own := [("_law_record", 10)]) (g := gName 10) (tt := tYes) rfl sc.nd (pi_list (pv 7)) (blkOk_by (N := N_law_right) (sc := defScope s_law_right) (by decide +kernel)) (fun _ _ _ _ _ => pg_name (i := 10) sc.nd rfl (by first | exact Or.inl rfl | exact Or.inr rfl)) (fun _ _ _ _ _ => pts_nil) (fun _ _ _ _ _ => pe_att hr (pv 10)))) (pss_cons (ps_for pn rfl (pi_list (pe_slice sl_list (pe_lc (own := [("_law_record", 10)]) (g := gName 10) (tt := tTest (tOp (uIn K true) (tAtt P w K mg base "item" (tVar 10)) (tVar 9))) rfl sc.nd (pi_list (pv 4)) (blkOk_by (N := N_law_right) (sc := defScope s_law_right) (by decide +kernel)) (fun _ _ _ _ _ => pg_name (i := 10) sc.nd rfl (by first | exact Or.inl rfl | exact Or.inr rfl)) (fun _ _ _ _ _ => pts_one (pt_cmpR (op_uNotIn hr) (pe_att hr (pv 10)) (pv 9) (by rfl))) (fun _ _ _ _ _ => pv 10)) (po_none) (po_some (pe_int)))) (pg_name (i := 10) sc.nd rfl (by first | exact Or.inl rfl | exact Or.inr rfl)) (pss_one (ps_if (pt_cmpR (op_uNe hr) (pe_fn at_ (by rfl) (pa_cons (pe_op op_uAdd (pv 7) (pe_lst (pa_cons (pv 10) (pa_nil)))) (pa_nil))) (pe_int) (nomark _)) (pss_one (ps_ret (pe_bl))) (pss_nil)))) (pss_cons (ps_if (pt_cmpR op_uGt (pe_op op_uAdd (pe_callB call_cLen (by rfl) G.g_len (by decide +kernel) (pa_cons (pv 4) (pa_nil))) (pv 6)) (pe_int) (nomark _)) (pss_one (ps_ret (pe_bl))) (pss_nil)) (pss_cons (ps_setLc (i := 11) (own := [("_law_sign", 15)]) (g := gName 15) (tt := tYes) rfl sc.nd rfl rfl (sw_true rfl rfl rfl (by decide +kernel)) (pi_str (pe_str)) (blkOk_by (N := N_law_right) (sc := defScope s_law_right) (by decide +kernel)) (fun _ _ _ _ _ => pg_name (i := 15) sc.nd rfl (by first | exact Or.inl rfl | exact Or.inr rfl)) (fun _ _ _ _ _ => pts_nil) (fun _ _ _ _ _ => pe_fn (At.e0 hr qt) (by rfl) (pa_cons (pv 1) (pa_cons (pe_op op_uAdd (pe_str) (pv 15)) (pa_cons (pe_int) (pa_nil)))))) (pss_cons (ps_set (i := 11) sc.nd rfl (by first | exact Or.inl rfl | exact Or.inr rfl) (pe_op op_uAdd (pv 11) (pe_lc (own := [("_law_sign", 15)]) (g := gName 15) (tt := tYes) rfl sc.nd (pi_str (pe_str)) (blkOk_by (N := N_law_right) (sc := defScope s_law_right) (by decide +kernel)) (fun _ _ _ _ _ => pg_name (i := 15) sc.nd rfl (by first | exact Or.inl rfl | exact Or.inr rfl)) (fun _ _ _ _ _ => pts_nil) (fun _ _ _ _ _ => pe_fn (At.e0 hr qt) (by rfl) (pa_cons (pv 1) (pa_cons (pe_op op_uAdd (pe_str) (pv 15)) (pa_cons (pe_int) (pa_nil)))))))) (pss_cons (ps_if (pt_cmpR (op_uEq hr) (pe_fn at_ (by rfl) (pa_cons (pe_op op_uAdd (pv 4) (pe_slice sl_list (pv 11) (po_none) (po_some (pv 6)))) (pa_nil))) (pe_int) (nomark _)) (pss_one (ps_ret (pe_bl))) (pss_nil)) (pss_cons (ps_if (pt_cmpR op_uGt (pv 6) (pe_int) (nomark _)) (pss_cons (ps_set (i := 12) sc.nd rfl (by first | exact Or.inl rfl | exact Or.inr rfl) (pe_slice sl_list (pv 11) (po_none) (po_some (pe_op op_uSub (pv 6) (pe_int))))) (pss_cons (ps_for pn rfl (pi_list (pv 12)) (pg_name (i := 10) sc.nd rfl (by first | exact Or.inl rfl | exact Or.inr rfl)) (pss_one (ps_expr (pe_mth at_ (pv 10) (pa_cons (pe_fn at_ (by rfl) (pa_cons (pv 0) (pa_cons (pe_int) (pa_nil)))) (pa_nil)))))) (pss_one (ps_ret (pe_cmpR (op_uEq hr) (pe_fn at_ (by rfl) (pa_cons (pe_op op_uAdd (pv 4) (pv 12)) (pa_nil))) (pe_int) (nomark _)))))) (pss_nil)) (pss_one (ps_ret (pe_bl))))))))))))))))
abbrev s_law : Stmt := top 55
abbrev N_law : List Str := ["_law_script", "_law_k", "_law_tape_here", "_law_turn", "_law_many", "_law_style", "_law_slots", "_law_at", "_law_slot"]
abbrev ps_law : List Str := ["_law_script"]
theorem sc_law : FnScope N_law ["_law_script"] (defScope s_law) := ⟨rfl, rfl, rfl, by decide +kernel, rfl, by decide +kernel, by decide +kernel⟩
def t_law (P : Program) (w : World) (K : PySem.W.Frag) (mg : Str → Option Value) (base : Heap) (A : Ads) (E : XK) : TS :=
  tSeq (tFor (iRng1 (tCons (tCB (cMax K) (tCons (tC (.int 1)) (tCons (tCB (cMin K) (tCons (tC (.int 3)) (tCons (tCB (cLen K) (tCons (tVar 0) (tNil))) (tNil)))) (tNil)))) (tNil))) (gName 1) (tSeq (tAsg (tFn P w K mg base "_law_tape" 8 E (tCons (tVar 0) (tCons (tVar 1) (tNil)))) (gName 2)) (tFor (iRng1 (tCons (tC (.int 5)) (tNil))) (gName 3) (tSeq (tPar 4 5 (tCons (tFn P w K mg base "_law_next" 8 E (tCons (tVar 2) (tCons (tOp (uIx K) (tLst (tCons (tC (.int 13)) (tCons (tC (.int 41)) (tNil)))) (tCB (cInt) (tCons (tOp (uEq K) (tVar 3) (tC (.int 4))) (tNil)))) (tNil)))) (tCons (tFn P w K mg base "_law_next" 8 E (tCons (tVar 2) (tCons (tC (.int 3)) (tNil)))) (tNil)))) (tSeq (tAsg (tLc (iRng1 (tCons (tVar 4) (tNil))) (gName 7) (tYes) (tFn P w K mg base "_law_next" 8 E0 (tCons (tVar 2) (tCons (tOp uAdd (tVar 7) (tC (.int 1))) (tNil)))) [7]) (gName 6)) (tSeq (tIfS (tTest (tOp (uEq K) (tVar 5) (tC (.int 1)))) (tAsg (tLc (iList K (tVar 6)) (gName 8) (tYes) (tOp uAdd (tVar 8) (tCB (cInt) (tCons (tOp (uEq K) (tFn P w K mg base "_law_next" 8 E0 (tCons (tVar 2) (tCons (tC (.int 6)) (tNil)))) (tC (.int 0))) (tNil)))) [8]) (gName 6)) (tNext)) (tSeq (tIfS (tTest (tOp (uEq K) (tVar 5) (tC (.int 2)))) (tAsg (tLc (iList K (tVar 6)) (gName 8) (tYes) (tFn P w K mg base "_law_next" 8 E0 (tCons (tVar 2) (tCons (tOp (uIx K) (tLst (tCons (tC (.int 4)) (tCons (tC (.int 16)) (tNil)))) (tOp uMod (tVar 3) (tC (.int 2)))) (tNil)))) [8]) (gName 6)) (tNext)) (tIfS (tNot (tB (tFn P w K mg base "_law_right" 8 E (tCons (tVar 2) (tCons (tFn P w K mg base "_law_next" 8 E (tCons (tVar 2) (tCons (tC (.int 2)) (tNil)))) (tCons (tVar 6) (tNil))))))) (tRet (tC (.bl false))) (tNext))))))))) (tRet (tAndV (tOp (uEq K) (tFn P w K mg base "count" 8 E (tCons (tLst (tCons (tMkr P w K mg base "Inserted" 8 E (tCons (tC (.str "a")) (tCons (tC (.int 1)) (tNil)))) (tNil))) (tNil))) (tC (.int 0))) (tOp (uEq K) (tFn P w K mg base "count" 8 E (tCons (tLst (tCons (tMkr P w K mg base "Inserted" 8 E (tCons (tC (.str "a")) (tCons (tC (.int 1)) (tNil)))) (tCons (tMkr P w K mg base "Inserted" 8 E (tCons (tC (.str "b")) (tCons (tC (.int 0)) (tNil)))) (tNil)))) (tNil))) (tC (.int 1)))))
theorem d_law {P : Program} {w : World} {K : PySem.W.Frag} {mg : Str → Option Value} {base : Heap} {A : Ads} {f : Addr} {cdv : Value} {Ar : Around} {outer : List Env} {s : Shared} {H : Hp} {E : XK} (G : Gm mg A) (hr : Room 8 (Ar.deeper (envOfC "law" (defScope s_law) s.heap.objs.size f cdv))) (qt : Quiet (Ar.deeper (envOfC "law" (defScope s_law) s.heap.objs.size f cdv))) :
    PSs (cxOf (L2.CX P w) P w K mg base N_law "law" (defScope s_law) f cdv Ar outer s H E) (defBody s_law) (t_law P w K mg base A E) := by
  have sc := sc_law
  have at_ : At (cxOf (L2.CX P w) P w K mg base N_law "law" (defScope s_law) f cdv Ar outer s H E) 8 E := At.of hr qt (takes_of rfl rfl rfl rfl)
  have pn : PassesOwn (model P w) (cxOf (L2.CX P w) P w K mg base N_law "law" (defScope s_law) f cdv Ar outer s H E).A (cxOf (L2.CX P w) P w K mg base N_law "law" (defScope s_law) f cdv Ar outer s H E).env (cxOf (L2.CX P w) P w K mg base N_law "law" (defScope s_law) f cdv Ar outer s H E).xe := passes_of rfl
  exact pss_cons (ps_for pn rfl (pi_range1 (by rfl) G.g_range (pa_cons (pe_callB (call_cMax rfl) (by rfl) G.g_max (by decide +kernel) (pa_cons (pe_int) (pa_cons (pe_callB (call_cMin rfl) (by rfl) G.g_min (by decide +kernel) (pa_cons (pe_int) (pa_cons (pe_callB call_cLen (by rfl) G.g_len (by decide +kernel) (pa_cons (pv 0) (pa_nil))) (pa_nil)))) (pa_nil)))) (pa_nil))) (pg_name (i := 1) sc.nd rfl (by first | exact Or.inl rfl | exact Or.inr rfl)) (pss_cons (ps_set (i := 2) sc.nd rfl (by first | exact Or.inl rfl | exact Or.inr rfl) (pe_fn at_ (by rfl) (pa_cons (pv 0) (pa_cons (pv 1) (pa_nil))))) (pss_one (ps_for pn rfl (pi_range1 (by rfl) G.g_range (pa_cons (pe_int) (pa_nil))) (pg_name (i := 3) sc.nd rfl (by first | exact Or.inl rfl | exact Or.inr rfl)) (pss_cons (ps_par rfl sc.nd rfl rfl (by decide) rfl rfl (pa_cons (pe_fn at_ (by rfl) (pa_cons (pv 2) (pa_cons (pe_ix ix_u (pe_lst (pa_cons (pe_int) (pa_cons (pe_int) (pa_nil)))) (pe_callTy call_cInt (by rfl) G.g_int (by decide +kernel) (pa_cons (pe_cmpR (op_uEq hr) (pv 3) (pe_int) (nomark _)) (pa_nil))) (fun _ _ => rfl)) (pa_nil)))) (pa_cons (pe_fn at_ (by rfl) (pa_cons (pv 2) (pa_cons (pe_int) (pa_nil)))) (pa_nil))) (by rfl)) (pss_cons (ps_setLc (i := 6) (own := [("_law_at", 7)]) (g := gName 7) (tt := tYes) rfl sc.nd rfl rfl (sw_true rfl rfl rfl (by decide +kernel)) (pi_range1 (by rfl) G.g_range (pa_cons (pv 4) (pa_nil))) (blkOk_by (N := N_law) (sc := defScope s_law) (by decide +kernel)) (fun _ _ _ _ _ => pg_name (i := 7) sc.nd rfl (by first | exact Or.inl rfl | exact Or.inr rfl)) (fun _ _ _ _ _ => pts_nil) (fun _ _ _ _ _ => pe_fn (At.e0 hr qt) (by rfl) (pa_cons (pv 2) (pa_cons (pe_op op_uAdd (pv 7) (pe_int)) (pa_nil))))) (pss_cons (ps_if (pt_cmpR (op_uEq hr) (pv 5) (pe_int) (nomark _)) (pss_one (ps_setLc (i := 6) (own := [("_law_slot", 8)]) (g := gName 8) (tt := tYes) rfl sc.nd rfl rfl (sw_true rfl rfl rfl (by decide +kernel)) (pi_list (pv 6)) (blkOk_by (N := N_law) (sc := defScope s_law) (by decide +kernel)) (fun _ _ _ _ _ => pg_name (i := 8) sc.nd rfl (by first | exact Or.inl rfl | exact Or.inr rfl)) (fun _ _ _ _ _ => pts_nil) (fun _ _ _ _ _ => pe_op op_uAdd (pv 8) (pe_callTy call_cInt (by rfl) G.g_int (by decide +kernel) (pa_cons (pe_cmpR (op_uEq hr) (pe_fn (At.e0 hr qt) (by rfl) (pa_cons (pv 2) (pa_cons (pe_int) (pa_nil)))) (pe_int) (nomark _)) (pa_nil)))))) (pss_nil)) (pss_cons (ps_if (pt_cmpR (op_uEq hr) (pv 5) (pe_int) (nomark _)) (pss_one (ps_setLc (i := 6) (own := [("_law_slot", 8)]) (g := gName 8) (tt := tYes) rfl sc.nd rfl rfl (sw_true rfl rfl rfl (by decide +kernel)) (pi_list (pv 6)) (blkOk_by (N := N_law) (sc := defScope s_law) (by decide +kernel)) (fun _ _ _ _ _ => pg_name (i := 8) sc.nd rfl (by first | exact Or.inl rfl | exact Or.inr rfl)) (fun _ _ _ _ _ => pts_nil) (fun _ _ _ _ _ => pe_fn (At.e0 hr qt) (by rfl) (pa_cons (pv 2) (pa_cons (pe_ix ix_u (pe_lst (pa_cons (pe_int) (pa_cons (pe_int) (pa_nil)))) (pe_op op_uMod (pv 3) (pe_int)) (fun _ _ => rfl)) (pa_nil)))))) (pss_nil)) (pss_one (ps_if (pt_not (pt_val (pe_fn at_ (by rfl) (pa_cons (pv 2) (pa_cons (pe_fn at_ (by rfl) (pa_cons (pv 2) (pa_cons (pe_int) (pa_nil)))) (pa_cons (pv 6) (pa_nil))))))) (pss_one (ps_ret (pe_bl))) (pss_nil))))))))))) (pss_one (ps_ret (pe_and (pe_cmpR (op_uEq hr) (pe_fn at_ (by rfl) (pa_cons (pe_lst (pa_cons (pe_mkr at_ (by rfl) (pa_cons (pe_str) (pa_cons (pe_int) (pa_nil)))) (pa_nil))) (pa_nil))) (pe_int) (nomark _)) (pe_one (pe_cmpR (op_uEq hr) (pe_fn at_ (by rfl) (pa_cons (pe_lst (pa_cons (pe_mkr at_ (by rfl) (pa_cons (pe_str) (pa_cons (pe_int) (pa_nil)))) (pa_cons (pe_mkr at_ (by rfl) (pa_cons (pe_str) (pa_cons (pe_int) (pa_nil)))) (pa_nil)))) (pa_nil))) (pe_int) (nomark _))))))
def Ads.kind (A : Ads) : Nat → Addr | 0 => A.cInserted | 1 => A.cRemoved | 2 => A.cFronted | _ => A.cRecord
def kName : Nat → Str | 0 => "Inserted" | 1 => "Removed" | 2 => "Fronted" | _ => "Record"
def sgn : Nat → Str | 0 => "+" | 1 => "-" | 2 => "^" | _ => ""
/-- what the text says of the k-th class of records -/
structure Kd (K : PySem.W.Frag) (mg : Str → Option Value) (A : Ads) (k : Nat) : Prop where
  cls : Cls K (A.kind k)
  ty : InsTy K (A.kind k)
  made : Dk K mg (kName k) (A.kind k) "Record.__init__" s_Record_init ["self", "item", "slot"]
  sign : ∃ u, Con K (A.kind k) "SIGN" (.str (sgn k)) u
  ni : NoAttr K (A.kind k) "held_item"
  ns : NoAttr K (A.kind k) "held_slot"
  item : ∃ p g fd, PropOf K (A.kind k) "item" p g ∧ Fun K "item" "Record.item" s_Record_item g fd ∧ Binds K fd ["self"] []
  slot : ∃ p g fd, PropOf K (A.kind k) "slot" p g ∧ Fun K "slot" "Record.slot" s_Record_slot g fd ∧ Binds K fd ["self"] []
  mv : Dm K (A.kind k) "move_to" "Record.move_to" s_Record_move_to ["self", "slot"]
structure Tx (K : PySem.W.Frag) (mg : Str → Option Value) (A : Ads) : Prop where
  G : Gm mg A
  kd : ∀ k, k < 4 → Kd K mg A k
  most : ∃ mc u, CRead K A.cRecord mc ∧ CVal K A.cRecord mc "MOST" (.int 60) u
  kit : ∀ i j, i < 4 → j < 4 → PySem.W.kitOne K (.ref (A.kind i)) (.ref (A.kind j)) = some (decide (i = j ∨ j = 3))
  cls_Board : Cls K A.cBoard
  made_Board : Dk K mg "Board" A.cBoard "Board.__init__" s_Board_init ["self", "log", "seen"]
  n_Board_size : NoAttr K A.cBoard "size"
  n_Board_is_turned : NoAttr K A.cBoard "is_turned"
  n_Board_floors : NoAttr K A.cBoard "floors"
  n_Board_given : NoAttr K A.cBoard "given"
  m_Board_turned : Dm K A.cBoard "turned" "Board.turned" s_Board_turned ["self", "position"]
  m_Board_far_items : Dm K A.cBoard "far_items" "Board.far_items" s_Board_far_items ["self"]
  m_Board_wrong_positions : Dm K A.cBoard "wrong_positions" "Board.wrong_positions" s_Board_wrong_positions ["self", "given"]
  m_Board_free_places : Dm K A.cBoard "free_places" "Board.free_places" s_Board_free_places ["self", "given"]
  m_Board_waiting_bounds : Dm K A.cBoard "waiting_bounds" "Board.waiting_bounds" s_Board_waiting_bounds ["self", "given"]
  m_Board_spares : Dm K A.cBoard "spares" "Board.spares" s_Board_spares ["self", "given"]
  f_count : Dfd K mg "count" s_count ["log", "seen"] [.non]
  f_is_integer : Df K mg "is_integer" s_is_integer ["thing", "least", "most"]
  f_is_item : Df K mg "is_item" s_is_item ["thing"]
  f_are_records : Df K mg "are_records" s_are_records ["thing", "most"]
  f_sign_of : Df K mg "sign_of" s_sign_of ["log"]
  f_items_of : Df K mg "items_of" s_items_of ["log"]
  f_is_log : Df K mg "is_log" s_is_log ["thing"]
  f_need_log : Df K mg "need_log" s_need_log ["thing"]
  f_need_growing : Df K mg "need_growing" s_need_growing ["log"]
  f_made : Df K mg "made" s_made ["sign", "item", "slot"]
  f_copied : Df K mg "copied" s_copied ["record"]
  f_least_missing : Df K mg "least_missing" s_least_missing ["log"]
  f_usable : Df K mg "usable" s_usable ["log"]
  f_need_seen : Df K mg "need_seen" s_need_seen ["log", "seen"]
  f_board_of : Df K mg "board_of" s_board_of ["log", "seen"]
  f_count_filled : Df K mg "count_filled" s_count_filled ["board", "given"]
  f_law_tape : Df K mg "_law_tape" s_law_tape ["_law_script", "_law_k"]
  f_law_next : Df K mg "_law_next" s_law_next ["_law_tape_here", "_law_size"]
  f_law_items : Df K mg "_law_items" s_law_items ["_law_tape_here", "_law_many"]
  f_law_made : Df K mg "_law_made" s_law_made ["_law_kind", "_law_item", "_law_slot"]
  f_law_right : Df K mg "_law_right" s_law_right ["_law_tape_here", "_law_kind", "_law_slots"]
  f_law : Df K mg "law" s_law ["_law_script"]
end K
namespace K
open PySem PySem.Spec PyProof.Rows L2 U ClX M
local macro_rules | `(tactic| walk_at "rd") => `(tactic| simp only [tSeq, tRet, tIfS, tAsg, tDrop, tNext, tNever, tRetN, tAndV, tOrV, tNotV, tAnd, tOr, tNot, tB, tTest, tChain, tCB, tCons, tNil, tVar, tC, tOp, tUn, tIf, gName, uLe, uLt, uGe, uGt, uCmp, uAdd, uSub, uMul, uDiv, uMod, uPow, uNeg, uEq, uNe, uIs, uIsNot, uIx, uIn, cIsi, cLen, cAll, cMax, cMin, cAbs, cSort, cSortD, cInt, cTuple, cRepr, cDict, cList, cSortS, tRevL, tDGet, tLstRg, tTupRg, tRg1, tRg2, sDPut, tDNewK, tAug, ipI, iZip, tLst, tTup, tPar, U.tPar3, tFn, tMkr, tMth, tFnK, tMthK, tAtt, sFld, tYes, tLc_eq, tFor_eq, iList, iStr, iRng1, iRng2, iEnum, tLenSetT, tSl, tPart, tNoPart, gTup, gCons, gNil, gSub, tBM, tBM0, List.getElem?_cons_zero, List.getElem?_cons_succ, List.set_cons_zero, List.set_cons_succ, Option.some.injEq, V.bl.injEq, V.int.injEq, V.str.injEq, V.ref.injEq, exists_eq_left', exists_eq_left, exists_eq_right, exists_eq_right', and_true, true_and, scal, if_true, Bool.false_eq_true, if_false, List.cons.injEq, exists_const, false_and, and_false, ite_true, ite_false, Bool.not_true, Bool.not_false])
def recF (x : Str) (n : Int) : List (Str × V) := [("held_item", .str x), ("held_slot", .int n)]
abbrev hI : Str := "held_item"
abbrev hS : Str := "held_slot"
theorem is_ne : ¬ (("held_item" : Str) = "held_slot") := by decide +kernel
theorem put_item (x : Str) : putF hI (.str x) [] = ([(hI, .str x)] : List (Str × V)) := rfl
theorem put_slot0 (x : Str) (n : Int) : putF hS (.int n) ([(hI, .str x)] : List (Str × V)) = recF x n := by
  simp only [putF, recF, hI, hS, if_neg is_ne]
theorem put_slot (x : Str) (n m : Int) : putF hS (.int m) (recF x n) = recF x m := by
  simp only [putF, recF, hI, hS, if_neg is_ne, if_true]
theorem look_item (x : Str) (n : Int) : (recF x n).lookup hI = some (.str x) := by
  simp [recF, List.lookup]
theorem look_slot (x : Str) (n : Int) : (recF x n).lookup hS = some (.int n) := by
  have : (("held_slot" : Str) == "held_item") = false := by decide +kernel
  simp [recF, List.lookup, this]
theorem look_none (x : Str) (n : Int) {m : Str} (h1 : (m == ("held_item" : Str)) = false) (h2 : (m == ("held_slot" : Str)) = false) : (recF x n).lookup m = none := by
  simp [recF, List.lookup, h1, h2]
section
variable {P : Program} {w : World} {K : PySem.W.Frag} {mg : Str → Option Value} {base : Heap} {A : Ads}
/-! ### is_integer, is_item -/
def sp_is_integer : Sp := fun vs H Q _ => ∃ i lo hi : Int, vs = [.int i, .int lo, .int hi] ∧ Q (.bl (decide (lo ≤ i) && decide (i ≤ hi))) H
theorem p_is_integer : Pur N_is_integer ps_is_integer (t_is_integer P w K mg base A) sp_is_integer := by
  intro vs H Q E h
  obtain ⟨i, lo, hi, rfl, q⟩ := h
  refine ⟨rfl, ?_⟩
  show t_is_integer P w K mg base A E _ [some (.int i), some (.int lo), some (.int hi)] H
  unfold t_is_integer
  walk_at "rd"
  refine ⟨true, isi_int (by decide +kernel), ?_⟩
  walk_at "rd"
  refine ⟨false, isi_int (by decide +kernel), ?_⟩
  walk_at "rd"
  by_cases c : lo ≤ i
  · simpa [c] using q
  · simpa [c] using q
theorem fn_is_integer (T : Tx K mg A) : Fn P w K mg base 2 "is_integer" sp_is_integer := T.f_is_integer.fn sc_is_integer (fun hr => d_is_integer T.G hr) p_is_integer
/-- a text is an item -/
def isItem (z : Str) : Bool := decide (1 ≤ z.length) && decide (z.length ≤ 8) && z.cps.toList.all fun c => decide (97 ≤ c) && decide (c ≤ 122)
theorem letters_iff (c : Nat) : (c ∈ ("abcdefghijklmnopqrstuvwxyz" : Str).cps.toList) ↔ (97 ≤ c ∧ c ≤ 122) := by
  have e : ("abcdefghijklmnopqrstuvwxyz" : Str).cps.toList = (List.range 26).map (· + 97) := by decide +kernel
  rw [e]
  simp only [List.mem_map, List.mem_range]
  constructor
  · rintro ⟨a, h, rfl⟩; omega
  · intro h; exact ⟨c - 97, by omega, by omega⟩
def sp_is_item : Sp := fun vs H Q _ => ∃ z : Str, vs = [.str z] ∧ z.length ≤ 1000 ∧ ∀ H', Same H H' → Q (.bl (isItem z)) H'
theorem p_is_item : Pur N_is_item ps_is_item (t_is_item P w K mg base A) sp_is_item := by
  intro vs H Q E h
  obtain ⟨z, rfl, hz, q⟩ := h
  refine ⟨rfl, ?_⟩
  show t_is_item P w K mg base A E _ [some (.str z), none] H
  unfold t_is_item
  walk_at "rd"
  refine ⟨true, isi_str (by decide +kernel), ?_⟩
  walk_at "rd"
  have hl : z.length ≤ sizeLine := Nat.le_trans hz (by decide)
  refine ⟨hl, ?_⟩
  by_cases c1 : 1 ≤ z.length
  · rw [if_pos (decide_eq_true (show (1 : Int) ≤ z.length by omega))]
    by_cases c2 : z.length ≤ 8
    · rw [decide_eq_true (show (z.length : Int) ≤ 8 by omega)]
      walk_at "rd"
      refine lc_goes goes_str (fun i => some (.bl (decide (z.cps.toList[i]?.getD 0 ∈ ("abcdefghijklmnopqrstuvwxyz" : Str).cps.toList)))) (Nat.lt_of_le_of_lt hz (by decide)) (fun i x H' hi s r => ?_) fun D H' hD s hl => ?_
      · obtain ⟨c, hc, rfl⟩ := r
        refine ⟨[some (.str z), some (.str ⟨#[c]⟩)], rfl, fun R r => r, Evt.yes, fun H3 s3 Q' q' => ?_⟩
        walk_at "rd"
        refine ⟨c, rfl, ?_⟩
        have e : z.cps.toList[i]?.getD 0 = c := by rw [Array.getElem?_toList, hc]; rfl
        rw [e] at q'
        exact q' H3 (Same.refl _)
      · refine ⟨z.cps.toList.map fun c => decide (c ∈ ("abcdefghijklmnopqrstuvwxyz" : Str).cps.toList), .inl (.inl ?_), ?_⟩
        · rw [hl, range_some]
          congr 2
          apply List.ext_getElem?
          intro i
          rw [List.map_map, List.getElem?_map, List.getElem?_map]
          by_cases hi : i < z.cps.size
          · rw [List.getElem?_range hi]
            have : i < z.cps.toList.length := by simpa using hi
            simp only [List.getElem?_eq_getElem this, Option.map_some, Function.comp, Option.getD_some]
          · rw [List.getElem?_eq_none (by simpa using hi), List.getElem?_eq_none (by simpa using hi)]
            rfl
        · have e : (List.map (fun c => decide (c ∈ ("abcdefghijklmnopqrstuvwxyz" : Str).cps.toList)) z.cps.toList).all id = isItem z := by
            have l1 : decide (1 ≤ z.length) = true := decide_eq_true c1
            have l2 : decide (z.length ≤ 8) = true := decide_eq_true c2
            unfold isItem
            rw [List.all_map, l1, l2, Bool.true_and, Bool.true_and]
            congr 1
            funext c
            simp only [Function.comp, id]
            rw [Bool.eq_iff_iff]
            simp only [decide_eq_true_eq, Bool.and_eq_true]
            exact letters_iff c
          rw [e]
          exact q H' s
    · rw [decide_eq_false (show ¬ (z.length : Int) ≤ 8 by omega)]
      have e : isItem z = false := by simp [isItem, c2]
      rw [e] at q
      walk_at "rd"
      exact q H (Same.refl _)
  · rw [if_neg (by simp; omega)]
    have e : isItem z = false := by simp [isItem, c1]
    rw [e] at q
    try walk_at "rd"
    exact q H (Same.refl _)
theorem fn_is_item (T : Tx K mg A) : Fn P w K mg base 2 "is_item" sp_is_item := T.f_is_item.fn sc_is_item (fun hr => d_is_item T.G hr) p_is_item
/-! ### making and changing records -/
theorem att_most (T : Tx K mg A) {H : Hp} : Att P w K mg base H A.cRecord "MOST" (.int 60) := by
  obtain ⟨mc, u, r, k⟩ := T.most
  exact .cls r k
/-- a record of kind k stands at a -/
def Rec (A : Ads) (H : Hp) (a : Addr) (k : Nat) (x : Str) (n : Int) : Prop := k < 4 ∧ ∃ dx, H a = some (.ins (A.kind k) dx (recF x n))
theorem Rec.same {H H' : Hp} {a : Addr} {k : Nat} {x : Str} {n : Int} (r : Rec A H a k x n) (s : Same H H') : Rec A H' a k x n := ⟨r.1, r.2.choose, s _ _ r.2.choose_spec⟩
def sp_init (A : Ads) (k : Nat) : Sp := fun vs H Q _ => ∃ (p dx : Addr) (z : Str) (n : Int), vs = [.ref p, .str z, .int n] ∧ H p = some (.ins (A.kind k) dx []) ∧ isItem z = true ∧ 0 ≤ n ∧ n ≤ 60 ∧
  ∀ H', H' p = some (.ins (A.kind k) dx (recF z n)) → (∀ b o, b ≠ p → H b = some o → H' b = some o) → Q .non H'
theorem item_len {z : Str} (h : isItem z = true) : 1 ≤ z.length ∧ z.length ≤ 8 := by
  unfold isItem at h
  simp only [Bool.and_eq_true, decide_eq_true_eq] at h
  exact h.1
theorem p_init (T : Tx K mg A) {k : Nat} (hk : k < 4) : Pur N_Record_init ps_Record_init (t_Record_init P w K mg base A) (sp_init A k) := by
  intro vs H Q E h
  obtain ⟨p, dx, z, n, rfl, hp, hz, h0, h60, q⟩ := h
  refine ⟨rfl, ?_⟩
  have I := T.kd k hk
  have zl := item_len hz
  show t_Record_init P w K mg base A E _ [some (.ref p), some (.str z), some (.int n)] H
  unfold t_Record_init
  walk_at "rd"
  refine ⟨2, _, fn_is_item T, by decide, z, rfl, by omega, fun H1 s1 => ?_⟩
  rw [hz]
  walk_at "rd"
  refine ⟨2, _, fn_is_integer T, by decide, _, _, rfl, att_most T, n, 0, 60, rfl, true, ?_, ?_⟩
  · simp [h0, h60]
  walk_at "rd"
  refine ⟨p, _, dx, _, rfl, s1 _ _ hp, I.cls, I.ni, by decide, p, _, dx, _, rfl, upd_same, I.cls, I.ns, (by show 1 < 1000; decide), ?_⟩
  rw [put_item, put_slot0]
  exact q _ upd_same fun b o hb e => by rw [upd_ne hb, upd_ne hb]; exact s1 _ _ e
theorem mkr (T : Tx K mg A) {k : Nat} (hk : k < 4) : Mkr P w K mg base 3 (kName k) (A.kind k) (sp_init A k) := (T.kd k hk).made.mkr sc_Record_init (fun hr => d_Record_init T.G hr) (p_init T hk)
/-- C(x, n): a new record -/
theorem made_ok (T : Tx K mg A) {k : Nat} (hk : k < 4) {H : Hp} {z : Str} {n : Int} {Q : VK} {E : XK} (hz : isItem z = true) (h0 : 0 ≤ n) (h60 : n ≤ 60) (q : ∀ p H', H p = none → Same H H' → Rec A H' p k z n → Q (.ref p) H') :
    ∀ p dx, H p = none → H dx = none → dx ≠ p → sp_init A k [.ref p, .str z, .int n] (upd (upd H dx (.own p)) p (.ins (A.kind k) dx [])) (fun v H' => v = .non ∧ Q (.ref p) H') E := by
  intro p dx hp hd ne
  refine ⟨p, dx, z, n, rfl, upd_same, hz, h0, h60, fun H' h1 h2 => ⟨rfl, q p H' hp (fun b o e => ?_) ⟨hk, dx, h1⟩⟩⟩
  refine h2 b o (ne_of_none e hp) ?_
  rw [upd_ne (ne_of_none e hp), upd_ne (ne_of_none e hd)]
  exact e
def sp_move (A : Ads) (k : Nat) : Sp := fun vs H Q _ => ∃ (p dx : Addr) (z : Str) (m n : Int), vs = [.ref p, .int n] ∧ H p = some (.ins (A.kind k) dx (recF z m)) ∧ 0 ≤ n ∧ n ≤ 60 ∧ Q .non (upd H p (.ins (A.kind k) dx (recF z n)))
theorem p_move (T : Tx K mg A) {k : Nat} (hk : k < 4) : Pur N_Record_move_to ps_Record_move_to (t_Record_move_to P w K mg base A) (sp_move A k) := by
  intro vs H Q E h
  obtain ⟨p, dx, z, m, n, rfl, hp, h0, h60, q⟩ := h
  refine ⟨rfl, ?_⟩
  have I := T.kd k hk
  show t_Record_move_to P w K mg base A E _ [some (.ref p), some (.int n)] H
  unfold t_Record_move_to
  walk_at "rd"
  refine ⟨2, _, fn_is_integer T, by decide, _, _, rfl, att_most T, n, 0, 60, rfl, true, ?_, ?_⟩
  · simp [h0, h60]
  walk_at "rd"
  refine ⟨p, _, dx, _, rfl, hp, I.cls, I.ns, (by show 2 < 1000; decide), ?_⟩
  rw [put_slot]
  exact q
theorem mth_move (T : Tx K mg A) {k : Nat} (hk : k < 4) : Mth P w K mg base 3 (A.kind k) "move_to" (sp_move A k) := (T.kd k hk).mv.mth sc_Record_move_to (fun hr => d_Record_move_to T.G hr) (p_move T hk)
/-! ### what a record tells -/
theorem fnok_item {C g : Addr} {fd : FuncData} (F : Fun K "item" "Record.item" s_Record_item g fd) (c : Cls K C) (n : NoAttr K C "held_item") : FnOk P w K mg base (L2.CX P w) 1 g fd ["self"] (getSp C "held_item") := by
  obtain ⟨oc, od, kV, doc, pm, an, cdv, ct, osl, rfl, lk, hcd⟩ := F.ex
  exact fn_getter (N := ["self"]) lk hcd sc_Record_item rfl rfl c n
theorem fnok_slot {C g : Addr} {fd : FuncData} (F : Fun K "slot" "Record.slot" s_Record_slot g fd) (c : Cls K C) (n : NoAttr K C "held_slot") : FnOk P w K mg base (L2.CX P w) 1 g fd ["self"] (getSp C "held_slot") := by
  obtain ⟨oc, od, kV, doc, pm, an, cdv, ct, osl, rfl, lk, hcd⟩ := F.ex
  exact fn_getter (N := ["self"]) lk hcd sc_Record_slot rfl rfl c n
theorem att_item (T : Tx K mg A) {H : Hp} {a : Addr} {k : Nat} {x : Str} {n : Int} (r : Rec A H a k x n) : Att P w K mg base H a "item" (.str x) := by
  obtain ⟨hk, dx, h⟩ := r
  have I := T.kd k hk
  obtain ⟨p, g, fd, pr, F, b⟩ := I.item
  exact .prop h I.cls pr (fnok_item F I.cls I.ni) b (look_item x n)
theorem att_slot (T : Tx K mg A) {H : Hp} {a : Addr} {k : Nat} {x : Str} {n : Int} (r : Rec A H a k x n) : Att P w K mg base H a "slot" (.int n) := by
  obtain ⟨hk, dx, h⟩ := r
  have I := T.kd k hk
  obtain ⟨p, g, fd, pr, F, b⟩ := I.slot
  exact .prop h I.cls pr (fnok_slot F I.cls I.ns) b (look_slot x n)
theorem att_sign (T : Tx K mg A) {H : Hp} {a : Addr} {k : Nat} {x : Str} {n : Int} (r : Rec A H a k x n) : Att P w K mg base H a "SIGN" (.str (sgn k)) := by
  obtain ⟨hk, dx, h⟩ := r
  have I := T.kd k hk
  obtain ⟨u, c⟩ := I.sign
  exact .con h I.cls c (look_none x n (by decide +kernel) (by decide +kernel))
theorem isi_rec (T : Tx K mg A) {H : Hp} {a : Addr} {k j : Nat} {x : Str} {n : Int} (r : Rec A H a k x n) (hj : j < 4) : Isi K H (.ref a) (.ref (A.kind j)) (decide (k = j ∨ j = 3)) := by
  obtain ⟨hk, dx, h⟩ := r
  have I := T.kd k hk
  exact isi_ins h I.cls I.ty (T.kit k j hk hj)
/-! ### lists of records -/
abbrev Rc := Nat × Str × Int
/-- rs stand in the list at l, in this order, at as -/
structure Book (A : Ads) (H : Hp) (l : Addr) (as : List Addr) (rs : List Rc) : Prop where
  lst : H l = some (.lst (as.map V.ref))
  len : as.length = rs.length
  at_ : ∀ (i : Nat) (a : Addr) (r : Rc), as[i]? = some a → rs[i]? = some r → Rec A H a r.1 r.2.1 r.2.2
theorem Book.same {H H' : Hp} {l : Addr} {as : List Addr} {rs : List Rc} (b : Book A H l as rs) (s : Same H H') : Book A H' l as rs := ⟨s _ _ b.lst, b.len, fun i a r h1 h2 => (b.at_ i a r h1 h2).same s⟩
theorem Book.get {H : Hp} {l : Addr} {as : List Addr} {rs : List Rc} (b : Book A H l as rs) {i : Nat} {x : V} (h : (as.map V.ref)[i]? = some x) : ∃ a r, x = .ref a ∧ as[i]? = some a ∧ rs[i]? = some r ∧ Rec A H a r.1 r.2.1 r.2.2 := by
  rw [List.getElem?_map] at h
  cases e : as[i]? with
  | none => rw [e] at h; cases h
  | some a =>
    rw [e] at h
    have hi : i < rs.length := by rw [← b.len]; exact (List.getElem?_eq_some_iff.mp e).1
    exact ⟨a, rs[i], (Option.some.inj h).symm, rfl, List.getElem?_eq_getElem hi, b.at_ i a _ e (List.getElem?_eq_getElem hi)⟩
/-- [f(record) for record in book] -/
theorem lc_book {H1 : Hp} {l : Addr} {as : List Addr} {rs : List Rc} (b : Book A H1 l as rs) (hn : rs.length ≤ 1000) {te : TE} {v : Nat} {σ : L2.St} {Q : VK} (f : Rc → V)
    (hv : ∀ x, wipe ((wipe σ [v]).set v (some x)) [v] = wipe σ [v]) (turn : ∀ a r H, Same H1 H → Rec A H a r.1 r.2.1 r.2.2 → r ∈ rs → Evs te ((wipe σ [v]).set v (some (.ref a))) H (f r))
    (hq : ∀ D H', H1 D = none → Same H1 H' → H' D = some (.lst (rs.map f)) → Q (.ref D) H') : LcB (Itl K l) (gName v) tYes te [v] σ H1 Q := by
  refine lc_goes (goes_list (.inl (.inl b.lst))) (fun i => (rs[i]?).map f) ?_ (fun i x H hi s r => ?_) fun D H' hD s hl => hq D H' hD s ?_
  · rw [List.length_map, b.len]; exact Nat.lt_of_le_of_lt hn (by decide)
  · obtain ⟨a, q, rfl, ha, hr, rc⟩ := b.get r
    rw [hr]
    refine ⟨(wipe σ [v]).set v (some (.ref a)), hv _, fun R r => r, Evt.yes, fun H3 s3 => turn a q H3 (s.trans s3) (rc.same (s.trans s3)) (List.mem_of_getElem? hr)⟩
  · rw [hl, List.length_map, b.len]
    congr 2
    have e := range_list (fun r => some (f r)) rs
    rw [List.filterMap_eq_map'] at e
    rw [← e]
    congr 1
    funext i
    cases rs[i]? <;> rfl
theorem book_len {H : Hp} {l : Addr} {as : List Addr} {rs : List Rc} (b : Book A H l as rs) : (as.map V.ref).length = rs.length := by rw [List.length_map, b.len]
def sp_are_records (A : Ads) : Sp := fun vs H Q _ => ∃ (l : Addr) (as : List Addr) (rs : List Rc) (m : Int), vs = [.ref l, .int m] ∧ Book A H l as rs ∧ rs.length ≤ 1000 ∧ (∀ r ∈ rs, r.1 < 3) ∧ ∀ H', Same H H' → Q (.bl (decide ((rs.length : Int) ≤ m))) H'
theorem sgn_ne {k : Nat} (h : k < 3) : sgn k ≠ "" := by
  match k, h with
  | 0, _ => decide +kernel
  | 1, _ => decide +kernel
  | 2, _ => decide +kernel
theorem all_true {α : Type} (l : List α) : (l.map fun _ => true).all id = true := by
  induction l with
  | nil => rfl
  | cons x l ih => simp
theorem p_are_records (T : Tx K mg A) : Pur N_are_records ps_are_records (t_are_records P w K mg base A) (sp_are_records A) := by
  intro vs H Q E h
  obtain ⟨l, as, rs, m, rfl, b, hn, h3, q⟩ := h
  refine ⟨rfl, ?_⟩
  show t_are_records P w K mg base A E _ [some (.ref l), some (.int m), none] H
  unfold t_are_records
  walk_at "rd"
  refine ⟨true, isi_lst b.lst (by decide +kernel), ?_⟩
  walk_at "rd"
  refine ⟨_, .inl (.inl (.inl b.lst)), ?_⟩
  rw [book_len b]
  by_cases c : (rs.length : Int) ≤ m
  · rw [if_neg (by simpa using c)]
    refine ⟨⟨_, .inl (.inl b.lst)⟩, lc_book b hn (fun _ => .bl true) (fun x => rfl) (fun a r H1 s1 rc hr => fun Q' q' => ?_) fun D H' hD s hl => ⟨rs.map fun _ => true, .inl (.inl ?_), ?_⟩⟩
    · show tAndV _ _ [some (.ref l), some (.int m), some (.ref a)] H1 Q'
      walk_at "rd"
      refine ⟨_, isi_rec T rc (j := 3) (by decide), ?_⟩
      rw [decide_eq_true (.inr rfl)]
      walk_at "rd"
      refine ⟨_, _, rfl, att_sign T rc, ?_⟩
      walk_at "rd"
      have : decide (sgn r.1 = "") = false := decide_eq_false (sgn_ne (h3 r hr))
      rw [this]
      exact q' H1 (Same.refl _)
    · rw [hl, List.map_map]; rfl
    · rw [all_true]
      have := q H' s
      rwa [decide_eq_true c] at this
  · rw [if_pos (by simpa using c)]
    have := q H (Same.refl _)
    rwa [decide_eq_false c] at this
theorem fn_are_records (T : Tx K mg A) : Fn P w K mg base 3 "are_records" (sp_are_records A) := T.f_are_records.fn sc_are_records (fun hr => d_are_records T.G hr) (p_are_records T)
def sp_items_of (A : Ads) : Sp := fun vs H Q _ => ∃ (l : Addr) (as : List Addr) (rs : List Rc), vs = [.ref l] ∧ Book A H l as rs ∧ rs.length ≤ 1000 ∧ ∀ D H', H D = none → Same H H' → H' D = some (.lst (rs.map fun r => .str r.2.1)) → Q (.ref D) H'
theorem p_items_of (T : Tx K mg A) : Pur N_items_of ps_items_of (t_items_of P w K mg base A) (sp_items_of A) := by
  intro vs H Q E h
  obtain ⟨l, as, rs, rfl, b, hn, q⟩ := h
  refine ⟨rfl, ?_⟩
  show t_items_of P w K mg base A E _ [some (.ref l), none] H
  unfold t_items_of
  walk_at "rd"
  refine ⟨⟨_, .inl (.inl b.lst)⟩, lc_book b hn (fun r => .str r.2.1) (fun x => rfl) (fun a r H1 s1 rc hr => fun Q' q' => ?_) q⟩
  exact ⟨.ref a, rfl, a, _, rfl, att_item T rc, q' H1 (Same.refl _)⟩
theorem fn_items_of (T : Tx K mg A) : Fn P w K mg base 3 "items_of" (sp_items_of A) := T.f_items_of.fn sc_items_of (fun hr => d_items_of T.G hr) (p_items_of T)
def sign1 : List Rc → Str | [] => "" | r :: _ => sgn r.1
def sp_sign_of (A : Ads) : Sp := fun vs H Q _ => ∃ (l : Addr) (as : List Addr) (rs : List Rc), vs = [.ref l] ∧ Book A H l as rs ∧ ∀ H', Same H H' → Q (.str (sign1 rs)) H'
theorem p_sign_of (T : Tx K mg A) : Pur N_sign_of ps_sign_of (t_sign_of P w K mg base A) (sp_sign_of A) := by
  intro vs H Q E h
  obtain ⟨l, as, rs, rfl, b, q⟩ := h
  refine ⟨rfl, ?_⟩
  show t_sign_of P w K mg base A E _ [some (.ref l)] H
  unfold t_sign_of
  walk_at "rd"
  refine ⟨by decide, fun p hp => ?_⟩
  have np : l ≠ p := ne_of_none b.lst hp
  have s1 : Same H (upd H p (.lst [])) := Same.new hp
  match rs, as, b, q with
  | [], [], b, q =>
    refine .inl ⟨.list [], .list [], .lst (.inl (.inl (s1 _ _ b.lst))) .nil, .lst (.inl (.inl upd_same)) .nil, rfl, rfl, ?_⟩
    exact ⟨false, rfl, q _ s1⟩
  | r :: rs, a :: as, b, q =>
    refine .inr ⟨l, p, (.ref a :: as.map V.ref), [], rfl, rfl, .inl (.inl (s1 _ _ b.lst)), .inl (.inl upd_same), by simp, true, rfl, ?_⟩
    have rc := (b.at_ 0 a r rfl rfl).same s1
    exact ⟨_, _, .inl (.inl (.inl (s1 _ _ b.lst))), at_of (j := 0) rfl rfl, _, _, rfl, att_sign T rc, q _ s1⟩
  | [], _ :: _, b, _ => exact absurd b.len (by simp)
  | _ :: _, [], b, _ => exact absurd b.len (by simp)
theorem fn_sign_of (T : Tx K mg A) : Fn P w K mg base 3 "sign_of" (sp_sign_of A) := T.f_sign_of.fn sc_sign_of (fun hr => d_sign_of T.G hr) (p_sign_of T)
/-! ### logs -/
def isLog (rs : List Rc) : Bool := decide (rs.length ≤ 40) && (decide ((dd (rs.map fun r => sgn r.1)).length ≤ 1) && decide ((dd (rs.map fun r => r.2.1)).length = rs.length))
def sp_is_log (A : Ads) : Sp := fun vs H Q _ => ∃ (l : Addr) (as : List Addr) (rs : List Rc), vs = [.ref l] ∧ Book A H l as rs ∧ rs.length ≤ 1000 ∧ (∀ r ∈ rs, r.1 < 3) ∧ ∀ H', Same H H' → Q (.bl (isLog rs)) H'
theorem p_is_log (T : Tx K mg A) : Pur N_is_log ps_is_log (t_is_log P w K mg base A) (sp_is_log A) := by
  intro vs H Q E h
  obtain ⟨l, as, rs, rfl, b, hn, h3, q⟩ := h
  refine ⟨rfl, ?_⟩
  show t_is_log P w K mg base A E _ [some (.ref l), none] H
  unfold t_is_log
  walk_at "rd"
  refine ⟨3, _, fn_are_records T, by decide, l, as, rs, _, rfl, b, hn, h3, fun H1 s1 => ⟨_, rfl, ?_⟩⟩
  by_cases c : rs.length ≤ 40
  · rw [decide_eq_true (show (rs.length : Int) ≤ 40 by omega)]
    walk_at "rd"
    have b1 := b.same s1
    refine ⟨⟨_, .inl (.inl b1.lst)⟩, lc_book b1 hn (fun r => .str (sgn r.1)) (fun x => rfl) (fun a r H2 s2 rc hr => fun Q' q' => ?_) fun D H2 hD s2 hl => ?_⟩
    · exact ⟨.ref a, rfl, a, _, rfl, att_sign T rc, q' H2 (Same.refl _)⟩
    refine ⟨D, rs.map fun r => sgn r.1, rfl, .inl (.inl ?_), by simpa using hn, ?_⟩
    · rw [hl, List.map_map]; rfl
    have b2 := b1.same s2
    by_cases c1 : (dd (rs.map fun r => sgn r.1)).length ≤ 1
    · rw [if_pos (by simp only [decide_eq_true_eq]; omega)]
      refine ⟨3, _, fn_items_of T, by decide, l, as, rs, rfl, b2, hn, fun D2 H3 hD2 s3 hl3 => ?_⟩
      refine ⟨D2, rs.map fun r => r.2.1, rfl, .inl (.inl ?_), by simpa using hn, ?_⟩
      · rw [hl3, List.map_map]; rfl
      have b3 := b2.same s3
      refine ⟨_, .inl (.inl (.inl b3.lst)), ?_⟩
      have e : isLog rs = decide (((dd (rs.map fun r => r.2.1)).length : Int) = ((as.map V.ref).length : Nat)) := by
        unfold isLog
        rw [book_len b, decide_eq_true c, decide_eq_true c1, Bool.true_and, Bool.true_and, Bool.eq_iff_iff]
        simp only [decide_eq_true_eq]
        omega
      have := q H3 ((s1.trans s2).trans s3)
      rwa [e] at this
    · rw [if_neg (by simp only [decide_eq_true_eq]; omega)]
      have e : isLog rs = false := by simp [isLog, c1]
      have := q H2 (s1.trans s2)
      rwa [e] at this
  · rw [decide_eq_false (show ¬ (rs.length : Int) ≤ 40 by omega)]
    walk_at "rd"
    have e : isLog rs = false := by simp [isLog, c]
    have := q H1 s1
    rwa [e] at this
theorem fn_is_log (T : Tx K mg A) : Fn P w K mg base 4 "is_log" (sp_is_log A) := T.f_is_log.fn sc_is_log (fun hr => d_is_log T.G hr) (p_is_log T)
def sp_need_log (A : Ads) : Sp := fun vs H Q _ => ∃ (l : Addr) (as : List Addr) (rs : List Rc), vs = [.ref l] ∧ Book A H l as rs ∧ isLog rs = true ∧ (∀ r ∈ rs, r.1 < 3) ∧ ∀ H', Same H H' → Q .non H'
theorem log_40 {rs : List Rc} (h : isLog rs = true) : rs.length ≤ 40 := by
  unfold isLog at h
  simp only [Bool.and_eq_true, decide_eq_true_eq] at h
  exact h.1
theorem p_need_log (T : Tx K mg A) : Pur N_need_log ps_need_log (t_need_log P w K mg base A) (sp_need_log A) := by
  intro vs H Q E h
  obtain ⟨l, as, rs, rfl, b, hl, h3, q⟩ := h
  refine ⟨rfl, ?_⟩
  show t_need_log P w K mg base A E _ [some (.ref l)] H
  unfold t_need_log
  walk_at "rd"
  have := log_40 hl
  refine ⟨4, _, fn_is_log T, by decide, l, as, rs, rfl, b, by omega, h3, fun H1 s1 => ⟨_, rfl, ?_⟩⟩
  rw [hl]
  exact q H1 s1
theorem fn_need_log (T : Tx K mg A) : Fn P w K mg base 5 "need_log" (sp_need_log A) := T.f_need_log.fn sc_need_log (fun hr => d_need_log T.G hr) (p_need_log T)
def sp_need_growing (A : Ads) : Sp := fun vs H Q _ => ∃ (l : Addr) (as : List Addr) (rs : List Rc), vs = [.ref l] ∧ Book A H l as rs ∧ isLog rs = true ∧ (∀ r ∈ rs, r.1 < 2) ∧ ∀ H', Same H H' → Q .non H'
theorem p_need_growing (T : Tx K mg A) : Pur N_need_growing ps_need_growing (t_need_growing P w K mg base A) (sp_need_growing A) := by
  intro vs H Q E h
  obtain ⟨l, as, rs, rfl, b, hl, h3, q⟩ := h
  refine ⟨rfl, ?_⟩
  show t_need_growing P w K mg base A E _ [some (.ref l)] H
  unfold t_need_growing
  walk_at "rd"
  refine ⟨5, _, fn_need_log T, by decide, l, as, rs, rfl, b, hl, fun r hr => Nat.lt_succ_of_lt (h3 r hr), fun H1 s1 => ?_⟩
  refine ⟨3, _, fn_sign_of T, by decide, l, as, rs, rfl, b.same s1, fun H2 s2 => ?_⟩
  walk_at "rd"
  have e : decide (sign1 rs = ("^" : Str)) = false := by
    match rs, h3 with
    | [], _ => decide +kernel
    | (0, _) :: _, _ => exact (show decide (sgn 0 = ("^" : Str)) = false by decide +kernel)
    | (1, _) :: _, _ => exact (show decide (sgn 1 = ("^" : Str)) = false by decide +kernel)
    | (n + 2, z) :: _, h3 => exact absurd (h3 _ (List.mem_cons_self)) (by simp)
  rw [e]
  exact q H2 (s1.trans s2)
theorem fn_need_growing (T : Tx K mg A) : Fn P w K mg base 6 "need_growing" (sp_need_growing A) := T.f_need_growing.fn sc_need_growing (fun hr => d_need_growing T.G hr) (p_need_growing T)
end
end K
namespace K
open PySem PySem.Spec PyProof.Rows L2 U ClX M
local macro_rules | `(tactic| walk_at "rd") => `(tactic| simp only [tSeq, tRet, tIfS, tAsg, tDrop, tNext, tNever, tRetN, tAndV, tOrV, tNotV, tAnd, tOr, tNot, tB, tTest, tChain, tCB, tCons, tNil, tVar, tC, tOp, tUn, tIf, gName, uLe, uLt, uGe, uGt, uCmp, uAdd, uSub, uMul, uDiv, uMod, uPow, uNeg, uEq, uNe, uIs, uIsNot, uIx, uIn, cIsi, cLen, cAll, cMax, cMin, cAbs, cSort, cSortD, cInt, cTuple, cRepr, cDict, cList, cSortS, tRevL, tDGet, tLstRg, tTupRg, tRg1, tRg2, sDPut, tDNewK, tAug, ipI, iZip, tLst, tTup, tPar, U.tPar3, tFn, tMkr, tMth, tFnK, tMthK, tAtt, sFld, tYes, tLc_eq, tFor_eq, iList, iStr, iRng1, iRng2, iEnum, tLenSetT, tSl, tPart, tNoPart, gTup, gCons, gNil, gSub, tBM, tBM0, List.getElem?_cons_zero, List.getElem?_cons_succ, List.set_cons_zero, List.set_cons_succ, Option.some.injEq, V.bl.injEq, V.int.injEq, V.str.injEq, V.ref.injEq, exists_eq_left', exists_eq_left, exists_eq_right, exists_eq_right', and_true, true_and, scal, if_true, Bool.false_eq_true, if_false, List.cons.injEq, exists_const, false_and, and_false, ite_true, ite_false, Bool.not_true, Bool.not_false])
section
variable {P : Program} {w : World} {K : PySem.W.Frag} {mg : Str → Option Value} {base : Heap} {A : Ads}
/-! ### least_missing -/
def sp_least_missing (A : Ads) : Sp := fun vs H Q _ => ∃ (l : Addr) (as : List Addr) (rs : List Rc), vs = [.ref l] ∧ Book A H l as rs ∧ isLog rs = true ∧ (∀ r ∈ rs, r.1 < 2) ∧ ∀ m H', Same H H' → IsLM (rs.map fun r => r.2.2) m → Q (.int m) H'
theorem p_least_missing (T : Tx K mg A) : Pur N_least_missing ps_least_missing (t_least_missing P w K mg base A) (sp_least_missing A) := by
  intro vs H Q E h
  obtain ⟨l, as, rs, rfl, b, hl, h3, q⟩ := h
  refine ⟨rfl, ?_⟩
  have h40 := log_40 hl
  show t_least_missing P w K mg base A E _ [some (.ref l), none, none, none, none] H
  unfold t_least_missing
  walk_at "rd"
  refine ⟨6, _, fn_need_growing T, by decide, l, as, rs, rfl, b, hl, h3, fun H1 s1 => ?_⟩
  have b1 := b.same s1
  refine ⟨⟨_, .inl (.inl b1.lst)⟩, lc_book b1 (by omega) (fun r => .int r.2.2) (fun x => rfl) (fun a r H2 s2 rc hr => fun Q' q' => ?_) fun D H2 hD s2 hl => ?_⟩
  · exact ⟨.ref a, rfl, a, _, rfl, att_slot T rc, q' H2 (Same.refl _)⟩
  refine ⟨rs.map fun r => r.2.2, .inl (.inl ?_), fun ns' p hp hs hpn => ?_⟩
  · rw [hl, List.map_map]; rfl
  have b2 := (b1.same s2).same (Same.new (o := .lst (ns'.map V.int)) hpn)
  have nl : ns'.length = rs.length := by rw [hp.length_eq, List.length_map]
  refine ⟨by decide, fun p1 hp1 => ?_⟩
  refine ⟨p, ns'.map V.int, rfl, .inl (.inl ?_), ?_⟩
  · rw [upd_ne (ne_of_none (H := upd H2 p (.lst (ns'.map V.int))) upd_same hp1)]; exact upd_same
  have s3 : Same H2 (upd (upd H2 p (.lst (ns'.map V.int))) p1 (.lst [V.int 0])) := (Same.new hpn).trans (Same.new hp1)
  have np : p ≠ p1 := ne_of_none (H := upd H2 p (.lst (ns'.map V.int))) upd_same hp1
  have hsq : SqL K (upd (upd H2 p (.lst (ns'.map V.int))) p1 (.lst [V.int 0])) p (ns'.map V.int) := .inl (.inl (by rw [upd_ne np]; exact upd_same))
  refine lc_goes (goes_enum hsq) (fun i => some (.int (ns'.getD i 0 - i))) (by rw [List.length_map, nl]; exact Nat.lt_of_le_of_lt h40 (by decide)) (fun i x H3 hi s4 r => ?_) fun D3 H3 hD3 s4 hl3 => ?_
  · obtain ⟨T0, y, rfl, hy, hT⟩ := r
    have hy' : y = .int (ns'.getD i 0) := by
      rw [List.length_map] at hi
      rw [List.getElem?_map, List.getElem?_eq_getElem hi] at hy
      rw [List.getD_eq_getElem?_getD, List.getElem?_eq_getElem hi]
      exact (Option.some.inj hy).symm
    subst hy'
    refine ⟨[some (.ref l), some (.ref p), none, some (.int (i : Nat)), some (.int (ns'.getD i 0))], rfl, fun R r => ?_, Evt.yes, fun H4 s5 Q' q' => ⟨_, rfl, _, rfl, q' H4 (Same.refl _)⟩⟩
    exact ⟨T0, _, rfl, .inl (.inl hT), rfl, _, _, rfl, _, _, rfl, rfl, r⟩
  · refine ⟨_, _, s4 _ _ upd_same, hl3, ?_, fun p4 hp4 => ?_⟩
    · rw [range_some]
      simp only [List.length_map, List.length_range, List.length_cons, List.length_nil, nl]
      exact Nat.le_trans (by omega : 0 + 1 + rs.length ≤ 1000) (by decide)
    refine ⟨0 :: diffs ns', .inl (.inl ?_), by simp, fun m hm hle => q m _ ?_ ⟨ns', hp, hs, hm, hle⟩⟩
    · rw [upd_same, range_some]
      simp [diffs, Function.comp_def]
    · exact (((s1.trans s2).trans s3).trans s4).trans (Same.new hp4)
theorem fn_least_missing (T : Tx K mg A) : Fn P w K mg base 7 "least_missing" (sp_least_missing A) := T.f_least_missing.fn sc_least_missing (fun hr => d_least_missing T.G hr) (p_least_missing T)
theorem fnK_least_missing (T : Tx K mg A) : FnK P w K mg base 7 "least_missing" ["log"] id (sp_least_missing A) := T.f_least_missing.fnK1 sc_least_missing (fun hr => d_least_missing T.G hr) (p_least_missing T) fun _ _ _ _ _ _ _ => rfl
end
end K
namespace K
open PySem PySem.Spec PyProof.Rows L2 U ClX M
local macro_rules | `(tactic| walk_at "rd") => `(tactic| simp only [tSeq, tRet, tIfS, tAsg, tDrop, tNext, tNever, tRetN, tAndV, tOrV, tNotV, tAnd, tOr, tNot, tB, tTest, tChain, tCB, tCons, tNil, tVar, tC, tOp, tUn, tIf, gName, uLe, uLt, uGe, uGt, uCmp, uAdd, uSub, uMul, uDiv, uMod, uPow, uNeg, uEq, uNe, uIs, uIsNot, uIx, uIn, cIsi, cLen, cAll, cMax, cMin, cAbs, cSort, cSortD, cInt, cTuple, cRepr, cDict, cList, cSortS, tRevL, tDGet, tLstRg, tTupRg, tRg1, tRg2, sDPut, tDNewK, tAug, ipI, iZip, tLst, tTup, tPar, U.tPar3, tFn, tMkr, tMth, tFnK, tMthK, tAtt, sFld, tYes, tLc_eq, tFor_eq, iList, iStr, iRng1, iRng2, iEnum, tLenSetT, tSl, tPart, tNoPart, gTup, gCons, gNil, gSub, tBM, tBM0, List.getElem?_cons_zero, List.getElem?_cons_succ, List.set_cons_zero, List.set_cons_succ, Option.some.injEq, V.bl.injEq, V.int.injEq, V.str.injEq, V.ref.injEq, exists_eq_left', exists_eq_left, exists_eq_right, exists_eq_right', and_true, true_and, scal, if_true, Bool.false_eq_true, if_false, List.cons.injEq, exists_const, false_and, and_false, ite_true, ite_false, Bool.not_true, Bool.not_false])
section
variable {P : Program} {w : World} {K : PySem.W.Frag} {mg : Str → Option Value} {base : Heap} {A : Ads}
/-! ### the tape: drawn numbers -/
theorem bits_le {i : Int} {n : Nat} (h0 : 0 < n) (h : i.natAbs < 2 ^ n) : Builtin.Int.intBits i ≤ n := by
  have := PySem.Flt.log2_lt_of h0 h
  unfold Builtin.Int.intBits
  split <;> omega
/-- a tape of which at most c numbers were mixed -/
def TapeL (c : Int) (xs : List V) : Prop := ∃ n0 n1 n2 : Int, xs = [.int n0, .int n1, .int n2] ∧ 0 ≤ n0 ∧ 0 ≤ n1 ∧ n1 < 2 ^ 200 ∧ 0 ≤ n2 ∧ n2 ≤ c
theorem TapeL.mono {c d : Int} {xs : List V} (h : TapeL c xs) (hd : c ≤ d) : TapeL d xs := by
  obtain ⟨n0, n1, n2, e, h1, h2, h3, h4, h5⟩ := h
  exact ⟨n0, n1, n2, e, h1, h2, h3, h4, by omega⟩
def sp_next : Sp := fun vs H Q _ => ∃ (a : Addr) (sz c : Int) (xs : List V), vs = [.ref a, .int sz] ∧ H a = some (.lst xs) ∧ TapeL c xs ∧ c ≤ 1000000 ∧ 0 < sz ∧ sz ≤ 1000 ∧
  ∀ r ys, 0 ≤ r → r < sz → TapeL (c + 1) ys → Q (.int r) (upd H a (.lst ys))
theorem p_next : Pur N_law_next ps_law_next (t_law_next P w K mg base A) sp_next := by
  intro vs H Q E h
  obtain ⟨a, sz, c, xs, rfl, ha, ⟨n0, n1, n2, rfl, h0, h1, h1', h2, h2'⟩, hc, hs, hs', q⟩ := h
  refine ⟨rfl, ?_⟩
  show t_law_next P w K mg base A E _ [some (.ref a), some (.int sz), none, none] H
  unfold t_law_next
  walk_at "rd"
  refine ⟨_, _, .inl (.inl (.inl ha)), at_of (j := 0) rfl rfl, ?_⟩
  walk_at "rd"
  have lg : sz.natAbs.log2 < 9000 := Nat.lt_of_lt_of_le (PySem.Flt.log2_lt_of (show 0 < 10 by decide) (show sz.natAbs < 2 ^ 10 by omega)) (by decide)
  by_cases c0 : 0 < n0
  · rw [if_pos (decide_eq_true c0)]
    refine ⟨_, _, .inl (.inl (.inl ha)), at_of (j := 0) rfl rfl, hs, _, _, .inl (.inl (.inl ha)), at_of (j := 0) rfl rfl, ⟨hs, lg⟩, a, _, 0, 0, rfl, rfl, ha, rfl, ?_⟩
    exact q _ _ (Int.emod_nonneg _ (by omega)) (Int.emod_lt_of_pos _ hs) ⟨n0 / sz, n1, n2, rfl, Int.ediv_nonneg h0 (by omega), h1, h1', h2, by omega⟩
  · rw [if_neg (by simpa using c0)]
    refine ⟨_, _, .inl (.inl (.inl ha)), at_of (j := 2) rfl rfl, a, _, 2, 2, rfl, rfl, ha, rfl, _, _, .inl (.inl (.inl upd_same)), at_of (j := 1) rfl rfl, _, _, .inl (.inl (.inl upd_same)), at_of (j := 2) rfl rfl, .inl ⟨by decide, by decide⟩, ?_⟩
    have b1 : Builtin.Int.intBits (n1 + 10000019 * (n2 + 1)) ≤ 201 := bits_le (by decide) (by omega)
    refine ⟨⟨by decide, by omega⟩, ⟨by decide, by decide⟩, by decide, _, _, .inl (.inl (.inl upd_same)), at_of (j := 2) rfl rfl, .inl ⟨by decide, by decide⟩, ?_⟩
    have m0 : 0 ≤ (n1 + 10000019 * (n2 + 1)) ^ Int.toNat 3 % (10 ^ Int.toNat 41 + 37) := Int.emod_nonneg _ (by decide)
    have m1 : (n1 + 10000019 * (n2 + 1)) ^ Int.toNat 3 % (10 ^ Int.toNat 41 + 37) < 10 ^ Int.toNat 41 + 37 := Int.emod_lt_of_pos _ (by decide)
    generalize (n1 + 10000019 * (n2 + 1)) ^ Int.toNat 3 % (10 ^ Int.toNat 41 + 37) = m at m0 m1
    have m2 : (10 : Int) ^ Int.toNat 41 + 37 < 2 ^ 150 := by decide
    have b2 : Builtin.Int.intBits (m + 32452843 * (n2 + 1)) ≤ 151 := bits_le (by decide) (by omega)
    refine ⟨⟨by decide, by omega⟩, ⟨by decide, by decide⟩, by decide, ⟨by decide, by decide⟩, hs, ?_⟩
    exact q _ _ (Int.emod_nonneg _ (by omega)) (Int.emod_lt_of_pos _ hs) ⟨n0, n1, n2 + 1, rfl, h0, h1, h1', by omega, by omega⟩
theorem fn_next (T : Tx K mg A) : Fn P w K mg base 2 "_law_next" sp_next := T.f_law_next.fn sc_law_next (fun hr => d_law_next T.G hr) p_next
def sp_tape (K : PySem.W.Frag) : Sp := fun vs H Q _ => ∃ (a : Addr) (ns : List Int) (k : Int), vs = [.ref a, .int k] ∧ SqL K H a (ns.map V.int) ∧ 0 ≤ k ∧ k ≤ 100 ∧ ∀ p xs, H p = none → TapeL 0 xs → Q (.ref p) (upd H p (.lst xs))
theorem p_tape : Pur N_law_tape ps_law_tape (t_law_tape P w K mg base A) (sp_tape K) := by
  intro vs H Q E h
  obtain ⟨a, ns, k, rfl, ha, k0, k1, q⟩ := h
  refine ⟨rfl, ?_⟩
  show t_law_tape P w K mg base A E _ [some (.ref a), some (.int k), none] H
  unfold t_law_tape
  walk_at "rd"
  refine ⟨_, .inl ha, ?_⟩
  have fin : ∀ x : Int, 0 ≤ x → (((0 : Int) ≤ 18 ∧ (Builtin.Int.intBits 10 : Int) * 18 ≤ 2 ^ 27) ∧ ((0 : Int) ≤ 39 ∧ (Builtin.Int.intBits 10 : Int) * 39 ≤ 2 ^ 27) ∧ 0 < (10 : Int) ^ Int.toNat 39 + 3 ∧ CMul (x % (10 ^ Int.toNat 39 + 3)) 71 ∧ 3 ≤ sizeLine ∧
      TapeL 0 [.int (if x - 10 ^ Int.toNat 18 > 0 then x - 10 ^ Int.toNat 18 else 0), .int (x % (10 ^ Int.toNat 39 + 3) * 71 + k), .int 0]) := by
    intro x hx
    refine ⟨⟨by decide, by decide⟩, ⟨by decide, by decide⟩, by decide, .inr ⟨by decide, by decide⟩, by decide, ?_⟩
    have m0 : 0 ≤ x % (10 ^ Int.toNat 39 + 3) := Int.emod_nonneg _ (by decide)
    have m1 : x % (10 ^ Int.toNat 39 + 3) < 10 ^ Int.toNat 39 + 3 := Int.emod_lt_of_pos _ (by decide)
    have m2 : (10 : Int) ^ Int.toNat 39 + 3 < 2 ^ 150 := by decide
    refine ⟨_, _, _, rfl, ?_, ?_, ?_, by omega, by omega⟩
    · split <;> omega
    · omega
    · omega
  by_cases c : k < ns.length
  · rw [if_pos (by simpa using c)]
    obtain ⟨j, rfl⟩ : ∃ j : Nat, k = j := ⟨k.toNat, by omega⟩
    have hj : j < ns.length := by omega
    refine ⟨_, .int ns[j], .inl ha, at_of (j := j) rfl (by rw [List.getElem?_map, List.getElem?_eq_getElem hj]; rfl), ?_⟩
    obtain ⟨f1, f2, f3, f4, f5, f6⟩ := fin (if ns[j] < 0 then -ns[j] else ns[j]) (by split <;> omega)
    exact ⟨f1, f2, f3, f4, f5, fun p hp => q p _ hp f6⟩
  · rw [if_neg (by simpa using c)]
    obtain ⟨f1, f2, f3, f4, f5, f6⟩ := fin 0 (by decide)
    exact ⟨f1, f2, f3, f4, f5, fun p hp => q p _ hp f6⟩
theorem fn_tape (T : Tx K mg A) : Fn P w K mg base 2 "_law_tape" (sp_tape K) := T.f_law_tape.fn sc_law_tape (fun hr => d_law_tape T.G hr) p_tape
/-! ### drawn items -/
/-- a text of the pool -/
structure Pool (xs : List Str) : Prop where
  nd : xs.Nodup
  it : ∀ x ∈ xs, isItem x = true
def pool0 : List Str := (List.range 26).map (fun i => (⟨#[97 + i]⟩ : Str)) ++ (List.range 26).map (fun i => (⟨#[122, 97 + i]⟩ : Str)) ++ (List.range 26).map (fun i => (⟨#[97, 98, 99, 100, 101, 102, 103, 97 + i]⟩ : Str))
theorem pool0_ok : Pool pool0 := ⟨by decide +kernel, by decide +kernel⟩
/-- H' is H but for the tape's list at a, which stands anew, and for new objects -/
def But (a : Addr) (H H' : Hp) : Prop := ∀ b o, b ≠ a → H b = some o → H' b = some o
theorem But.refl {a : Addr} {H : Hp} : But a H H := fun _ _ _ h => h
theorem But.trans {a : Addr} {H H1 H2 : Hp} (x : But a H H1) (y : But a H1 H2) : But a H H2 := fun b o hb e => y b o hb (x b o hb e)
theorem But.same {a : Addr} {H H1 : Hp} (x : Same H H1) : But a H H1 := fun b o _ e => x b o e
theorem But.upd {a : Addr} {H : Hp} {o : HO} : But a H (upd H a o) := fun b o hb e => by rw [upd_ne hb]; exact e
theorem But.mut {a p : Addr} {H H1 : Hp} {o : HO} (x : But a H H1) (hp : H p = none) : But a H (L2.upd H1 p o) := fun b u hb e => by rw [upd_ne (ne_of_none e hp)]; exact x b u hb e
/-- the tape stands at a -/
def Tape (H : Hp) (a : Addr) (c : Int) : Prop := ∃ xs, H a = some (.lst xs) ∧ TapeL c xs
theorem Tape.same {H H' : Hp} {a : Addr} {c : Int} (t : Tape H a c) (s : Same H H') : Tape H' a c := let ⟨xs, h, t⟩ := t; ⟨xs, s _ _ h, t⟩
theorem Tape.mono {H : Hp} {a : Addr} {c d : Int} (t : Tape H a c) (h : c ≤ d) : Tape H a d := let ⟨xs, h1, t⟩ := t; ⟨xs, h1, t.mono h⟩
/-- next as one step -/
theorem next_ok {H : Hp} {a : Addr} {c sz : Int} {Q : VK} {E : XK} (t : Tape H a c) (hc : c ≤ 1000000) (h0 : 0 < sz) (h1 : sz ≤ 1000) (q : ∀ r H', 0 ≤ r → r < sz → Tape H' a (c + 1) → But a H H' → (∀ b, b ≠ a → H' b = H b) → Q (.int r) H') : sp_next [.ref a, .int sz] H Q E := by
  obtain ⟨xs, h, t⟩ := t
  exact ⟨a, sz, c, xs, rfl, h, t, hc, h0, h1, fun r ys r0 r1 ty => q r _ r0 r1 ⟨ys, upd_same, ty⟩ But.upd fun b hb => upd_ne hb⟩
theorem erase_map {α β : Type} (f : α → β) : ∀ (l : List α) (j : Nat), (l.map f).eraseIdx j = (l.eraseIdx j).map f
  | [], _ => rfl
  | _ :: _, 0 => rfl
  | x :: l, j + 1 => congrArg (f x :: ·) (erase_map f l j)
theorem move_perm {α : Type} (zs rest : List α) (j : Nat) (h : j < rest.length) : ((zs ++ [rest[j]]) ++ rest.eraseIdx j).Perm (zs ++ rest) := by
  rw [List.append_assoc]
  exact List.Perm.append_left zs (erase_perm rest j h)
theorem Tape.other {H : Hp} {a p : Addr} {c : Int} {o : HO} (t : Tape H a c) (h : p ≠ a) : Tape (upd H p o) a c := let ⟨xs, h1, t⟩ := t; ⟨xs, by rw [upd_ne (Ne.symm h)]; exact h1, t⟩
def sp_items : Sp := fun vs H Q _ => ∃ (a : Addr) (c : Int) (n : Nat), vs = [.ref a, .int n] ∧ Tape H a c ∧ c ≤ 900000 ∧ n ≤ 70 ∧
  ∀ (p : Addr) (zs : List Str) (H' : Hp), H p = none → zs.length = n → zs.Nodup → (∀ z ∈ zs, z ∈ pool0) → H' p = some (.lst (zs.map V.str)) → Tape H' a (c + n) → But a H H' → Q (.ref p) H'
theorem lc_text {z : Str} {te : TE} {v : Nat} {σ : L2.St} {H1 : Hp} {Q : VK} (f : Nat → V) (hz : z.cps.size ≤ 1000) (hv : ∀ x, wipe ((wipe σ [v]).set v (some x)) [v] = wipe σ [v])
    (turn : ∀ (i c : Nat) (H : Hp), z.cps[i]? = some c → Evs te ((wipe σ [v]).set v (some (.str ⟨#[c]⟩))) H (f c)) (hq : ∀ D H', H1 D = none → Same H1 H' → H' D = some (.lst (z.cps.toList.map f)) → Q (.ref D) H') : LcB (Its z) (gName v) tYes te [v] σ H1 Q := by
  refine lc_goes goes_str (fun i => (z.cps.toList[i]?).map f) (Nat.lt_of_le_of_lt hz (by decide)) (fun i x H hi s r => ?_) fun D H' hD s hl => hq D H' hD s ?_
  · obtain ⟨c, hc, rfl⟩ := r
    have e : z.cps.toList[i]? = some c := by rw [Array.getElem?_toList]; exact hc
    rw [e]
    exact ⟨(wipe σ [v]).set v (some (.str ⟨#[c]⟩)), hv _, fun R r => r, Evt.yes, fun H3 s3 => turn i c H3 hc⟩
  · rw [hl]
    congr 2
    have e := range_list (fun r => some (f r)) z.cps.toList
    rw [List.filterMap_eq_map', Array.length_toList] at e
    rw [← e]
    congr 1
    funext i
    cases z.cps.toList[i]? <;> rfl
theorem p_items (T : Tx K mg A) : Pur N_law_items ps_law_items (t_law_items P w K mg base A) sp_items := by
  intro vs H Q E h
  obtain ⟨a, c, n, rfl, t, hc, hn, q⟩ := h
  refine ⟨rfl, ?_⟩
  show t_law_items P w K mg base A E _ [some (.ref a), some (.int n), none, none, none, none] H
  unfold t_law_items
  walk_at "rd"
  refine lc_text (fun c => .str ⟨#[c]⟩) (by decide +kernel) (fun x => rfl) (fun i c H _ Q q => ⟨_, rfl, q H (Same.refl _)⟩) fun D1 H1 hD1 s1 hl1 => ?_
  refine lc_text (fun c => .str ("z" ++ ⟨#[c]⟩)) (by decide +kernel) (fun x => rfl) (fun i c H _ Q q => ⟨_, rfl, ⟨(by show 1 + 1 ≤ sizeLine; decide), q H (Same.refl _)⟩⟩) fun D2 H2 hD2 s2 hl2 => ?_
  have n12 : D1 ≠ D2 := ne_of_none hl1 hD2
  have hl1' := s2 _ _ hl1
  refine ⟨_, _, hl1', hl2, (by decide +kernel), fun p3 hp3 => ?_⟩
  refine lc_text (fun c => .str ("abcdefg" ++ ⟨#[c]⟩)) (by decide +kernel) (fun x => rfl) (fun i c H _ Q q => ⟨_, rfl, ⟨(by show 7 + 1 ≤ sizeLine; decide), q H (Same.refl _)⟩⟩) fun D4 H4 hD4 s4 hl4 => ?_
  refine ⟨_, _, s4 _ _ upd_same, hl4, (by decide +kernel), fun pl hpl => ?_⟩
  have ep : (List.map (fun c => V.str { cps := #[c] }) (Str.ofString "abcdefghijklmnopqrstuvwxyz").cps.toList ++ List.map (fun c => V.str (Str.ofString "z" ++ { cps := #[c] })) (Str.ofString "abcdefghijklmnopqrstuvwxyz").cps.toList ++ List.map (fun c => V.str (Str.ofString "abcdefg" ++ { cps := #[c] })) (Str.ofString "abcdefghijklmnopqrstuvwxyz").cps.toList) = pool0.map V.str := by decide +kernel
  rw [ep]
  have S : Same H (upd H4 pl (.lst (pool0.map V.str))) := (((s1.trans s2).trans (Same.new hp3)).trans s4).trans (Same.new hpl)
  generalize hH5 : upd H4 pl (.lst (pool0.map V.str)) = H5 at S
  have hpool : H5 pl = some (.lst (pool0.map V.str)) := by rw [← hH5]; exact upd_same
  have fpl : H pl = none := (((s1.trans s2).trans (Same.new hp3)).trans s4).free hpl
  refine ⟨by omega, by omega, fun D hD => L2.lc_range (n := n) (fun i G => ∃ zs rest : List Str, zs.length = i ∧ rest.length + i = 78 ∧ (zs ++ rest).Nodup ∧ (∀ z ∈ zs ++ rest, z ∈ pool0) ∧ G D = some (.lst (zs.map V.str)) ∧ G pl = some (.lst (rest.map V.str)) ∧ Tape G a (c + i) ∧ But a H G) ?_ ?_ ?_⟩
  · have fD : H D = none := S.free hD
    refine ⟨[], pool0, rfl, by decide +kernel, pool0_ok.nd, (fun z hz => hz), upd_same, ?_, ?_, (But.same S).mut fD⟩
    · rw [upd_ne (ne_of_none hpool hD)]; exact hpool
    · have := (t.same S).same (Same.new (o := .lst []) hD)
      simpa using this
  · rintro i G hi ⟨zs, rest, hz, hr, nd, it, gD, gpl, tp, bt⟩
    refine ⟨rfl, ?_⟩
    show tBM K "list" rPopAt (tVar 3) _ [some (.ref a), some (.int n), some (.str "abcdefghijklmnopqrstuvwxyz"), some (.ref pl), none, some (.int (0 + i))] G _
    walk_at "rd"
    refine ⟨.inl ⟨rfl, _, .inl (.inl gpl)⟩, 2, _, fn_next T, by decide, _, .inl (.inl (.inl gpl)), next_ok tp (by omega) ?_ ?_ fun r G1 r0 r1 tp1 bt1 eq1 => ?_⟩
    · rw [List.length_map]; omega
    · rw [List.length_map]; omega
    rw [List.length_map] at r1
    have na : pl ≠ a := fun e => by subst e; obtain ⟨xs, hx, _⟩ := t; rw [fpl] at hx; cases hx
    have nD : D ≠ a := fun e => by subst e; obtain ⟨xs, hx, _⟩ := t.same S; rw [hD] at hx; cases hx
    have nDp : D ≠ pl := fun e => by subst e; rw [hpool] at hD; cases hD
    obtain ⟨j, rfl⟩ : ∃ j : Nat, r = j := ⟨r.toNat, by omega⟩
    have hj : j < rest.length := by omega
    refine ⟨pl, _, j, j, .str rest[j], rfl, rfl, (eq1 pl na).trans gpl, by omega, by omega, ?_, ?_, zs.map V.str, ?_, ?_, ?_⟩
    · rw [List.length_map]; simp [seqIndex?, hj]; omega
    · rw [List.getElem?_map, List.getElem?_eq_getElem hj]; rfl
    · rw [upd_ne nDp, eq1 D nD]; exact gD
    · rw [List.length_map, hz]; exact Nat.lt_of_lt_of_le (by omega : i < 1000) (by decide)
    have er : (rest.map V.str).eraseIdx j = (rest.eraseIdx j).map V.str := erase_map _ _ _
    refine ⟨zs ++ [rest[j]], rest.eraseIdx j, by simp [hz], by rw [List.length_eraseIdx_of_lt hj]; omega, ?_, ?_, ?_, ?_, ?_, ?_⟩
    · exact (move_perm zs rest j hj).nodup_iff.mpr nd
    · exact fun z hz => it z ((move_perm zs rest j hj).mem_iff.mp hz)
    · rw [upd_same, List.map_append]; rfl
    · rw [upd_ne (Ne.symm nDp), upd_same, er]
    · have := (tp1.other (o := .lst ((rest.map V.str).eraseIdx j)) na).other (o := .lst (zs.map V.str ++ [V.str rest[j]])) nD
      exact this.mono (by omega)
    · exact ((bt.trans bt1).mut fpl).mut (S.free hD)
  · rintro G ⟨zs, rest, hz, hr, nd, it, gD, gpl, tp, bt⟩
    exact q D zs G (S.free hD) hz (List.nodup_append.mp nd).1 (fun z h => it z (List.mem_append_left _ h)) gD tp bt
theorem fn_items (T : Tx K mg A) : Fn P w K mg base 3 "_law_items" sp_items := T.f_law_items.fn sc_law_items (fun hr => d_law_items T.G hr) (p_items T)
/-! ### made, facts -/
def sp_made (A : Ads) : Sp := fun vs H Q _ => ∃ (k : Nat) (z : Str) (n : Int), vs = [.int k, .str z, .int n] ∧ k < 3 ∧ isItem z = true ∧ 0 ≤ n ∧ n ≤ 60 ∧ ∀ p H', H p = none → Same H H' → Rec A H' p k z n → Q (.ref p) H'
theorem p_made (T : Tx K mg A) : Pur N_law_made ps_law_made (t_law_made P w K mg base A) (sp_made A) := by
  intro vs H Q E h
  obtain ⟨k, z, n, rfl, hk, hz, h0, h60, q⟩ := h
  refine ⟨rfl, ?_⟩
  show t_law_made P w K mg base A E _ [some (.int k), some (.str z), some (.int n)] H
  unfold t_law_made
  walk_at "rd"
  match k, hk, q with
  | 0, hk, q => exact ⟨3, _, _, mkr T (k := 0) (by decide), by decide, made_ok T (by decide) hz h0 h60 q⟩
  | 1, hk, q => exact ⟨3, _, _, mkr T (k := 1) (by decide), by decide, made_ok T (by decide) hz h0 h60 q⟩
  | 2, hk, q => exact ⟨3, _, _, mkr T (k := 2) (by decide), by decide, made_ok T (by decide) hz h0 h60 q⟩
theorem fn_made (T : Tx K mg A) : Fn P w K mg base 5 "_law_made" (sp_made A) := T.f_law_made.fn sc_law_made (fun hr => d_law_made T.G hr) (p_made T)
end
end K
namespace K
open PySem PySem.Spec PyProof.Rows L2 U ClX M
local macro_rules | `(tactic| walk_at "rd") => `(tactic| simp only [tSeq, tRet, tIfS, tAsg, tDrop, tNext, tNever, tRetN, tAndV, tOrV, tNotV, tAnd, tOr, tNot, tB, tTest, tChain, tCB, tCons, tNil, tVar, tC, tOp, tUn, tIf, gName, uLe, uLt, uGe, uGt, uCmp, uAdd, uSub, uMul, uDiv, uMod, uPow, uNeg, uEq, uNe, uIs, uIsNot, uIx, uIn, cIsi, cLen, cAll, cMax, cMin, cAbs, cSort, cSortD, cInt, cTuple, cRepr, cDict, cList, cSortS, tRevL, tDGet, tLstRg, tTupRg, tRg1, tRg2, sDPut, tDNewK, tAug, ipI, iZip, tLst, tTup, tPar, U.tPar3, tFn, tMkr, tMth, tFnK, tMthK, tAtt, sFld, tYes, tLc_eq, tFor_eq, iList, iStr, iRng1, iRng2, iEnum, tLenSetT, tSl, tPart, tNoPart, gTup, gCons, gNil, gSub, tBM, tBM0, List.getElem?_cons_zero, List.getElem?_cons_succ, List.set_cons_zero, List.set_cons_succ, Option.some.injEq, V.bl.injEq, V.int.injEq, V.str.injEq, V.ref.injEq, exists_eq_left', exists_eq_left, exists_eq_right, exists_eq_right', and_true, true_and, scal, if_true, Bool.false_eq_true, if_false, List.cons.injEq, exists_const, false_and, and_false, ite_true, ite_false, Bool.not_true, Bool.not_false])
section
variable {P : Program} {w : World} {K : PySem.W.Frag} {mg : Str → Option Value} {base : Heap} {A : Ads}
theorem cut_to (xs : List V) (t : Nat) : cutV xs none (some (t : Int)) = xs.take t := by
  unfold cutV
  rw [HT.sIx_none, HT.sIx_nat, List.drop_zero, Nat.sub_zero]
  by_cases h : t ≤ xs.length
  · rw [Nat.min_eq_left h]
  · rw [Nat.min_eq_right (by omega), List.take_of_length_le (Nat.le_refl _), List.take_of_length_le (by omega)]
theorem cut_from (xs : List V) (t : Nat) : cutV xs (some (t : Int)) none = xs.drop t := by
  unfold cutV
  rw [HT.sIx_none, HT.sIx_nat]
  by_cases h : t ≤ xs.length
  · rw [Nat.min_eq_left h, List.take_of_length_le (by simp)]
  · rw [Nat.min_eq_right (by omega), List.drop_of_length_le (Nat.le_refl _), List.drop_of_length_le (by omega)]; simp
/-- a list of ints as data -/
def dI (r : List Int) : PyData := .list (r.map .int)
theorem dp_dI {H : Hp} {a : Addr} {r : List Int} (h : SqL K H a (r.map V.int)) : Dp K H (.ref a) (dI r) := .lst h (dpa_map r fun x _ => .int x)
theorem dpa_ints {H : Hp} : ∀ {vs : List V} (r : List Int), DpAll K H vs (r.map .int) → vs = r.map V.int
  | _, [], h => by cases h; rfl
  | _, i :: r, h => by
    cases h with
    | cons h1 h2 => cases h1; rw [dpa_ints r h2]; rfl
theorem of_dI {H : Hp} {x : V} {r : List Int} (h : Dp K H x (dI r)) : ∃ a, x = .ref a ∧ SqL K H a (r.map V.int) := by
  cases h with
  | lst hs ha => exact ⟨_, rfl, by rw [dpa_ints r ha] at hs; exact hs⟩
theorem dpa_get {H : Hp} : ∀ {vs : List V} {ds : List PyData} {i : Nat} {x : V}, DpAll K H vs ds → vs[i]? = some x → ∃ d, ds[i]? = some d ∧ Dp K H x d
  | _, _, _, _, .nil, e => by simp at e
  | _, _, 0, _, .cons h _, e => by simp at e; subst e; exact ⟨_, rfl, h⟩
  | _, _, i + 1, x, .cons _ t, e => by
    obtain ⟨d, h1, h2⟩ := dpa_get (i := i) (x := x) t (by simpa using e)
    exact ⟨d, by simpa using h1, h2⟩
theorem dI_ok (r : List Int) : okD 1 (dI r) := okD.list fun d hd => by
  obtain ⟨i, _, rfl⟩ := List.mem_map.mp hd; exact okD.int
theorem eqv_ints : ∀ r s : List Int, PyData.eqvAll (r.map .int) (s.map .int) = decide (r = s)
  | [], [] => rfl
  | [], _ :: _ => rfl
  | _ :: _, [] => rfl
  | i :: r, j :: s => by
    show (PyData.eqv (.int i) (.int j) && PyData.eqvAll (r.map .int) (s.map .int)) = _
    rw [eqv_ints r s]
    show ((i == j) && decide (r = s)) = _
    rw [Bool.eq_iff_iff]
    simp
theorem eqv_dI (r s : List Int) : PyData.eqv (dI r) (dI s) = decide (r = s) := eqv_ints r s
theorem any_dI (L : List (List Int)) (s : List Int) : ((L.map dI).any fun z => PyData.eqv z (dI s)) = decide (s ∈ L) := by
  induction L with
  | nil => rfl
  | cons r L ih =>
    rw [List.map_cons, List.any_cons, ih, eqv_dI, Bool.eq_iff_iff]
    simp only [Bool.or_eq_true, decide_eq_true_eq, List.mem_cons]
    constructor
    · rintro (h | h)
      · exact .inl h.symm
      · exact .inr h
    · rintro (h | h)
      · exact .inl h.symm
      · exact .inr h
/-- a list of ints of our own -/
def LI (H : Hp) (x : V) (r : List Int) : Prop := ∃ a, x = .ref a ∧ H a = some (.lst (r.map V.int))
theorem LI.same {H H' : Hp} {x : V} {r : List Int} (s : Same H H') (h : LI H x r) : LI H' x r := let ⟨a, e, h⟩ := h; ⟨a, e, s _ _ h⟩
/-- .. that B does not know -/
def LIf (B H : Hp) (x : V) (r : List Int) : Prop := ∃ a, x = .ref a ∧ B a = none ∧ H a = some (.lst (r.map V.int))
theorem LIf.same {B H H' : Hp} {x : V} {r : List Int} (s : Same H H') (h : LIf B H x r) : LIf B H' x r := let ⟨a, e, n, h⟩ := h; ⟨a, e, n, s _ _ h⟩
theorem Rel2.app {α : Type} {Rl : V → α → Prop} {xs ys : List V} {as bs : List α} (h : Rel2 Rl xs as) (h2 : Rel2 Rl ys bs) : Rel2 Rl (xs ++ ys) (as ++ bs) := by
  have hl := h.len
  have hl2 := h2.len
  refine ⟨by simp [hl, hl2], fun i x a h1 h3 => ?_⟩
  by_cases c : i < xs.length
  · rw [List.getElem?_append_left c] at h1
    rw [List.getElem?_append_left (by omega)] at h3
    exact h.at_ i x a h1 h3
  · rw [List.getElem?_append_right (by omega)] at h1
    rw [List.getElem?_append_right (by omega)] at h3
    exact h2.at_ (i - xs.length) x a h1 (by rw [hl]; exact h3)
theorem at_last {r : List Int} (h : r ≠ []) : atI (r.map V.int) (-1) = some (.int (r.getD (r.length - 1) 0)) := by
  have e := List.dropLast_concat_getLast h
  have g : r.getD (r.length - 1) 0 = r.getLast h := by
    rw [List.getLast_eq_getElem, List.getD, List.getElem?_eq_getElem, Option.getD_some]
  rw [g]
  conv => lhs; rw [← e]
  rw [List.map_append]
  exact atI_last _ _
theorem eqv_nil (r : List Int) : PyData.eqv (dI r) (.list []) = decide (r = []) := by
  have := eqv_dI r []
  exact this
end
end K
namespace K
open PySem PySem.Spec PyProof.Rows L2 U ClX M
local macro_rules | `(tactic| walk_at "rd") => `(tactic| simp only [tSeq, tRet, tIfS, tAsg, tDrop, tNext, tNever, tRetN, tAndV, tOrV, tNotV, tAnd, tOr, tNot, tB, tTest, tChain, tCB, tCons, tNil, tVar, tC, tOp, tUn, tIf, gName, uLe, uLt, uGe, uGt, uCmp, uAdd, uSub, uMul, uDiv, uMod, uPow, uNeg, uEq, uNe, uIs, uIsNot, uIx, uIn, cIsi, cLen, cAll, cMax, cMin, cAbs, cSort, cSortD, cInt, cTuple, cRepr, cDict, cList, cSortS, tRevL, tDGet, tLstRg, tTupRg, tRg1, tRg2, sDPut, tDNewK, tAug, ipI, iZip, tLst, tTup, tPar, U.tPar3, tFn, tMkr, tMth, tFnK, tMthK, tAtt, sFld, tYes, tLc_eq, tFor_eq, iList, iStr, iRng1, iRng2, iEnum, tLenSetT, tSl, tPart, tNoPart, gTup, gCons, gNil, gSub, tBM, tBM0, List.getElem?_cons_zero, List.getElem?_cons_succ, List.set_cons_zero, List.set_cons_succ, Option.some.injEq, V.bl.injEq, V.int.injEq, V.str.injEq, V.ref.injEq, exists_eq_left', exists_eq_left, exists_eq_right, exists_eq_right', and_true, true_and, scal, if_true, Bool.false_eq_true, if_false, List.cons.injEq, exists_const, false_and, and_false, ite_true, ite_false, Bool.not_true, Bool.not_false])
section
variable {P : Program} {w : World} {K : PySem.W.Frag} {mg : Str → Option Value} {base : Heap} {A : Ads}
/-! ### logs at hand -/
theorem ddS_new {acc : List Str} {x : Str} (h : x ∉ acc) : ddS acc x = acc ++ [x] := by
  unfold ddS
  rw [if_neg]
  rw [List.any_eq_true]
  rintro ⟨y, hy, e⟩
  exact h (by rw [beq_iff_eq] at e; rw [← e]; exact hy)
theorem dd_nodup {xs : List Str} (h : xs.Nodup) : dd xs = xs := by
  unfold dd
  suffices q : ∀ (l acc : List Str), (acc ++ l).Nodup → l.foldl ddS acc = acc ++ l by simpa using q xs [] (by simpa using h)
  intro l
  induction l with
  | nil => intro acc _; simp
  | cons x l ih =>
    intro acc nd
    rw [List.foldl_cons, ddS_new]
    · rw [ih (acc ++ [x]) (by simpa using nd)]; simp
    · intro hx
      have := List.nodup_append.mp nd
      exact this.2.2 x hx x List.mem_cons_self rfl
theorem dd_const {xs : List Str} {c : Str} (h : ∀ x ∈ xs, x = c) : (dd xs).length ≤ 1 := by
  unfold dd
  suffices q : ∀ (l acc : List Str), (∀ x ∈ l, x = c) → (acc = [] ∨ acc = [c]) → (l.foldl ddS acc = [] ∨ l.foldl ddS acc = [c]) by
    rcases q xs [] h (.inl rfl) with e | e <;> rw [e] <;> simp
  intro l
  induction l with
  | nil => intro acc _ h; exact h
  | cons x l ih =>
    intro acc hl ha
    obtain rfl := hl x List.mem_cons_self
    refine ih _ (fun y hy => hl y (List.mem_cons_of_mem _ hy)) ?_
    rcases ha with rfl | rfl
    · exact .inr rfl
    · exact .inr (by unfold ddS; rw [if_pos (by simp)])
theorem isLog_of {rs : List Rc} {k : Nat} (hk : ∀ r ∈ rs, r.1 = k) (nd : (rs.map fun r => r.2.1).Nodup) (h : rs.length ≤ 40) : isLog rs = true := by
  unfold isLog
  rw [decide_eq_true h, dd_nodup nd, List.length_map, decide_eq_true rfl, decide_eq_true (dd_const (c := sgn k) ?_)]
  · rfl
  · intro x hx
    obtain ⟨r, hr, rfl⟩ := List.mem_map.mp hx
    rw [hk r hr]
theorem repA (n : Nat) (x : Int) : (List.replicate n [V.int x]).flatten = (List.replicate n x).map V.int := by
  induction n with
  | zero => rfl
  | succ n ih => rw [List.replicate_succ, List.flatten_cons, ih, List.replicate_succ]; rfl
/-- the records of a kind with these items and indices -/
def recs (k : Nat) (zs : List Str) (ns : List Int) : List Rc := (zs.zip ns).map fun p => (k, p.1, p.2)
/-! ### drawn lists -/
/-- [next(tape, wide) for at in range(n)] -/
theorem lc_draw {H G0 : Hp} {tp : Addr} {c wd : Int} {n v : Nat} {te : TE} {σ : L2.St} {Q : VK} (t : Tape G0 tp c) (ft : H tp = none) (S : Same H G0) (hc : c + n ≤ 1000000) (w0 : 0 < wd) (w1 : wd ≤ 1000) (hn : n ≤ 1000) (hv : ∀ x, wipe ((wipe σ [v]).set v (some x)) [v] = wipe σ [v])
    (turn : ∀ (x : V) (G : Hp) (Q' : VK), sp_next [.ref tp, .int wd] G Q' E0 → te ((wipe σ [v]).set v (some x)) G Q')
    (hq : ∀ (D : Addr) (zs : List Int) (G : Hp), G0 D = none → Same H G → zs.length = n → (∀ z ∈ zs, 0 ≤ z ∧ z < wd) → G D = some (.lst (zs.map V.int)) → Tape G tp (c + n) → D ≠ tp → (∀ b o, b ≠ tp → G0 b = some o → G b = some o) → Q (.ref D) G) : LcB (Itr 0 n) (gName v) tYes te [v] σ G0 Q := by
  intro D hD
  have fD : H D = none := S.free hD
  have nD : D ≠ tp := fun e => by subst e; obtain ⟨xs, hx, _⟩ := t; rw [hD] at hx; cases hx
  refine L2.lc_range (n := n) (fun i G => ∃ zs : List Int, zs.length = i ∧ (∀ z ∈ zs, 0 ≤ z ∧ z < wd) ∧ G D = some (.lst (zs.map V.int)) ∧ Tape G tp (c + i) ∧ Same H G ∧ (∀ b o, b ≠ tp → G0 b = some o → G b = some o)) ?_ ?_ ?_
  · exact ⟨[], rfl, (fun _ h => nomatch h), upd_same, by simpa using t.other nD, S.mut fD, fun b o _ e => by rw [upd_ne (ne_of_none e hD)]; exact e⟩
  · rintro i G hi ⟨zs, hz, hr, gD, tG, sG, kG⟩
    refine ⟨hv _, ?_⟩
    show tYes _ G _
    refine turn _ G _ (next_ok tG (by omega) w0 w1 fun r G1 r0 r1 t1 b1 e1 => ?_)
    refine ⟨zs.map V.int, (e1 D nD).trans gD, ?_, zs ++ [r], by simp [hz], ?_, ?_, ?_, ?_, ?_⟩
    · rw [List.length_map, hz]; exact Nat.lt_of_lt_of_le (by omega : i < 1001) (by decide)
    · intro z hz'
      rcases List.mem_append.mp hz' with q | q
      · exact hr z q
      · obtain rfl := List.mem_singleton.mp q; exact ⟨r0, r1⟩
    · rw [upd_same, List.map_append]; rfl
    · exact (t1.other nD).mono (by push_cast; omega)
    · intro b o e
      rw [upd_ne (ne_of_none e fD), e1 b (ne_of_none e ft)]
      exact sG b o e
    · intro b o hb e
      rw [upd_ne (ne_of_none e hD), e1 b hb]
      exact kG b o hb e
  · rintro G ⟨zs, hz, hr, gD, tG, sG, kG⟩
    exact hq D zs G hD sG hz hr gD tG nD kG
/-- [made(kind, items[at], slots[at]) for at in range(n)] -/
theorem lc_made {G0 : Hp} {n v k : Nat} {te : TE} {σ : L2.St} {Q : VK} {zs : List Str} {ns : List Int} (hz : zs.length = n) (hs : ns.length = n) (hn : n ≤ 1000) (hv : ∀ x, wipe ((wipe σ [v]).set v (some x)) [v] = wipe σ [v])
    (turn : ∀ (i : Nat) (z : Str) (m : Int) (G : Hp) (Q' : VK), Same G0 G → zs[i]? = some z → ns[i]? = some m → (∀ p H', G p = none → Same G H' → Rec A H' p k z m → Q' (.ref p) H') → te ((wipe σ [v]).set v (some (.int (0 + i)))) G Q')
    (hq : ∀ (D : Addr) (as : List Addr) (G : Hp), G0 D = none → Same G0 G → Book A G D as ((zs.zip ns).map fun p => (k, p.1, p.2)) → as.Nodup → (∀ a ∈ as, G0 a = none) → (∀ a ∈ as, a ≠ D) → Q (.ref D) G) : LcB (Itr 0 n) (gName v) tYes te [v] σ G0 Q := by
  intro D hD
  refine L2.lc_range (n := n) (fun i G => ∃ as : List Addr, as.length = i ∧ as.Nodup ∧ (∀ a ∈ as, G0 a = none ∧ a ≠ D ∧ ∃ o, G a = some o) ∧ G D = some (.lst (as.map V.ref)) ∧ Same G0 G ∧ ∀ (j : Nat) (a : Addr) (z : Str) (m : Int), as[j]? = some a → zs[j]? = some z → ns[j]? = some m → Rec A G a k z m) ?_ ?_ ?_
  · exact ⟨[], rfl, List.nodup_nil, (fun _ h => nomatch h), upd_same, Same.new hD, fun j a z m h => by simp at h⟩
  · rintro i G hi ⟨as, hl, nd, fr, gD, sG, rc⟩
    refine ⟨hv _, ?_⟩
    show tYes _ G _
    have hi1 : i < zs.length := by omega
    have hi2 : i < ns.length := by omega
    refine turn i zs[i] ns[i] G _ sG (List.getElem?_eq_getElem hi1) (List.getElem?_eq_getElem hi2) fun p G1 hp s1 r1 => ?_
    have np : p ≠ D := Ne.symm (ne_of_none gD hp)
    have nas : p ∉ as := fun h => by obtain ⟨_, _, o, ho⟩ := fr p h; rw [hp] at ho; cases ho
    refine ⟨as.map V.ref, s1 _ _ gD, ?_, as ++ [p], by simp [hl], ?_, ?_, ?_, ?_, ?_⟩
    · rw [List.length_map, hl]; exact Nat.lt_of_lt_of_le (by omega : i < 1001) (by decide)
    · rw [List.nodup_append]
      exact ⟨nd, by simp, fun a ha b hb => by obtain rfl := List.mem_singleton.mp hb; exact fun e => nas (e ▸ ha)⟩
    · intro a ha
      rcases List.mem_append.mp ha with q | q
      · obtain ⟨h1, h2, o, h3⟩ := fr a q
        exact ⟨h1, h2, o, by rw [upd_ne h2]; exact s1 _ _ h3⟩
      · obtain rfl := List.mem_singleton.mp q
        obtain ⟨_, dx, h⟩ := r1
        exact ⟨sG.free hp, np, _, by rw [upd_ne np]; exact h⟩
    · rw [upd_same, List.map_append]; rfl
    · exact (sG.trans s1).mut hD
    · intro j a z m h1 h2 h3
      by_cases c : j < as.length
      · rw [List.getElem?_append_left c] at h1
        obtain ⟨hk, dx, h⟩ := rc j a z m h1 h2 h3
        exact ⟨hk, dx, by rw [upd_ne (fr a (List.mem_of_getElem? h1)).2.1]; exact s1 _ _ h⟩
      · rw [List.getElem?_append_right (by omega)] at h1
        by_cases e : j = as.length
        · subst e
          simp at h1
          subst h1
          rw [hl] at h2 h3
          rw [List.getElem?_eq_getElem hi1] at h2
          rw [List.getElem?_eq_getElem hi2] at h3
          cases h2; cases h3
          obtain ⟨hk, dx, h⟩ := r1
          exact ⟨hk, dx, by rw [upd_ne np]; exact h⟩
        · rw [List.getElem?_eq_none (by simp; omega)] at h1
          cases h1
  · rintro G ⟨as, hl, nd, fr, gD, sG, rc⟩
    refine hq D as G hD sG ⟨gD, by simp [hl, hz, hs], fun j a r h1 h2 => ?_⟩ nd (fun a ha => (fr a ha).1) fun a ha => (fr a ha).2.1
    rw [List.getElem?_map] at h2
    cases e : (zs.zip ns)[j]? with
    | none => rw [e] at h2; cases h2
    | some p =>
      rw [e] at h2
      obtain rfl := Option.some.inj h2
      obtain ⟨e1, e2⟩ := List.getElem?_zip_eq_some.mp e
      exact rc j a p.1 p.2 h1 e1 e2

theorem made_at {k : Nat} (hk : k < 4) {H : Hp} {p dx : Addr} {z : Str} {n : Int} {R : Hp → Prop} {E : XK} (hp : H p = none) (hd : H dx = none) (hz : isItem z = true) (h0 : 0 ≤ n) (h60 : n ≤ 60) (q : ∀ H', Same H H' → Rec A H' p k z n → R H') :
    sp_init A k [.ref p, .str z, .int n] (upd (upd H dx (.own p)) p (.ins (A.kind k) dx [])) (fun v H' => v = .non ∧ R H') E := by
  refine ⟨p, dx, z, n, rfl, upd_same, hz, h0, h60, fun H' h1 h2 => ⟨rfl, q H' (fun b o e => ?_) ⟨hk, dx, h1⟩⟩⟩
  refine h2 b o (ne_of_none e hp) ?_
  rw [upd_ne (ne_of_none e hp), upd_ne (ne_of_none e hd)]
  exact e
end
end K
namespace K
open PySem PySem.Spec PyProof.Rows L2 U ClX M
local macro_rules | `(tactic| walk_at "rd") => `(tactic| simp only [tSeq, tRet, tIfS, tAsg, tDrop, tNext, tNever, tRetN, tAndV, tOrV, tNotV, tAnd, tOr, tNot, tB, tTest, tChain, tCB, tCons, tNil, tVar, tC, tOp, tUn, tIf, gName, uLe, uLt, uGe, uGt, uCmp, uAdd, uSub, uMul, uDiv, uMod, uPow, uNeg, uEq, uNe, uIs, uIsNot, uIx, uIn, cIsi, cLen, cAll, cMax, cMin, cAbs, cSort, cSortD, cInt, cTuple, cRepr, cDict, cList, cSortS, tRevL, tDGet, tLstRg, tTupRg, tRg1, tRg2, sDPut, tDNewK, tAug, ipI, iZip, tLst, tTup, tPar, U.tPar3, tFn, tMkr, tMth, tFnK, tMthK, tAtt, sFld, tYes, tLc_eq, tFor_eq, iList, iStr, iRng1, iRng2, iEnum, tLenSetT, tSl, tPart, tNoPart, gTup, gCons, gNil, gSub, tBM, tBM0, List.getElem?_cons_zero, List.getElem?_cons_succ, List.set_cons_zero, List.set_cons_succ, Option.some.injEq, V.bl.injEq, V.int.injEq, V.str.injEq, V.ref.injEq, exists_eq_left', exists_eq_left, exists_eq_right, exists_eq_right', and_true, true_and, scal, if_true, Bool.false_eq_true, if_false, List.cons.injEq, exists_const, false_and, and_false, ite_true, ite_false, Bool.not_true, Bool.not_false])
section
variable {P : Program} {w : World} {K : PySem.W.Frag} {mg : Str → Option Value} {base : Heap} {A : Ads}
/-! ### made, copied, usable -/
def sp_mk (A : Ads) : Sp := fun vs H Q _ => ∃ (k : Nat) (z : Str) (n : Int), vs = [.str (sgn k), .str z, .int n] ∧ k < 4 ∧ isItem z = true ∧ 0 ≤ n ∧ n ≤ 60 ∧ ∀ p H', H p = none → Same H H' → Rec A H' p k z n → Q (.ref p) H'
theorem p_mk (T : Tx K mg A) : Pur N_made ps_made (t_made P w K mg base A) (sp_mk A) := by
  intro vs H Q E h
  obtain ⟨k, z, n, rfl, hk, hz, h0, h60, q⟩ := h
  refine ⟨rfl, ?_⟩
  show t_made P w K mg base A E _ [some (.str (sgn k)), some (.str z), some (.int n)] H
  unfold t_made
  walk_at "rd"
  match k, hk, q with
  | 0, hk, q =>
    rw [if_pos (show decide (sgn 0 = ("+" : Str)) = true by decide +kernel)]
    exact ⟨3, _, _, mkr T (k := 0) (by decide), by decide, made_ok T (by decide) hz h0 h60 q⟩
  | 1, hk, q =>
    rw [if_neg (show ¬ decide (sgn 1 = ("+" : Str)) = true by decide +kernel), if_pos (show decide (sgn 1 = ("-" : Str)) = true by decide +kernel)]
    exact ⟨3, _, _, mkr T (k := 1) (by decide), by decide, made_ok T (by decide) hz h0 h60 q⟩
  | 2, hk, q =>
    rw [if_neg (show ¬ decide (sgn 2 = ("+" : Str)) = true by decide +kernel), if_neg (show ¬ decide (sgn 2 = ("-" : Str)) = true by decide +kernel), if_pos (show decide (sgn 2 = ("^" : Str)) = true by decide +kernel)]
    exact ⟨3, _, _, mkr T (k := 2) (by decide), by decide, made_ok T (by decide) hz h0 h60 q⟩
  | 3, hk, q =>
    rw [if_neg (show ¬ decide (sgn 3 = ("+" : Str)) = true by decide +kernel), if_neg (show ¬ decide (sgn 3 = ("-" : Str)) = true by decide +kernel), if_neg (show ¬ decide (sgn 3 = ("^" : Str)) = true by decide +kernel)]
    exact ⟨3, _, _, mkr T (k := 3) (by decide), by decide, made_ok T (by decide) hz h0 h60 q⟩
theorem fn_mk (T : Tx K mg A) : Fn P w K mg base 5 "made" (sp_mk A) := T.f_made.fn sc_made (fun hr => d_made T.G hr) (p_mk T)
/-- a record whose item and index may be made anew -/
def RcOk (r : Rc) : Prop := isItem r.2.1 = true ∧ 0 ≤ r.2.2 ∧ r.2.2 ≤ 60
def sp_copied (A : Ads) : Sp := fun vs H Q _ => ∃ (a : Addr) (r : Rc), vs = [.ref a] ∧ Rec A H a r.1 r.2.1 r.2.2 ∧ RcOk r ∧ ∀ p H', H p = none → Same H H' → Rec A H' p r.1 r.2.1 r.2.2 → Q (.ref p) H'
theorem p_copied (T : Tx K mg A) : Pur N_copied ps_copied (t_copied P w K mg base A) (sp_copied A) := by
  intro vs H Q E h
  obtain ⟨a, r, rfl, rc, ⟨o1, o2, o3⟩, q⟩ := h
  refine ⟨rfl, ?_⟩
  show t_copied P w K mg base A E _ [some (.ref a)] H
  unfold t_copied
  walk_at "rd"
  exact ⟨5, _, fn_mk T, by decide, _, _, rfl, att_sign T rc, _, _, rfl, att_item T rc, _, _, rfl, att_slot T rc, r.1, r.2.1, r.2.2, rfl, rc.1, o1, o2, o3, q⟩
theorem fn_copied (T : Tx K mg A) : Fn P w K mg base 6 "copied" (sp_copied A) := T.f_copied.fn sc_copied (fun hr => d_copied T.G hr) (p_copied T)
/-- new records, at addresses that H does not know -/
structure NewBook (A : Ads) (H H' : Hp) (l : Addr) (as : List Addr) (rs : List Rc) : Prop where
  book : Book A H' l as rs
  nd : as.Nodup
  fr : ∀ a ∈ as, H a = none
  ne : ∀ a ∈ as, a ≠ l
  frl : H l = none
theorem NewBook.old {H0 H H' : Hp} {l : Addr} {as : List Addr} {rs : List Rc} (s : Same H0 H) (b : NewBook A H H' l as rs) : NewBook A H0 H' l as rs := ⟨b.book, b.nd, fun a h => s.free (b.fr a h), b.ne, s.free b.frl⟩
theorem NewBook.same {H H' H2 : Hp} {l : Addr} {as : List Addr} {rs : List Rc} (b : NewBook A H H' l as rs) (s : Same H' H2) : NewBook A H H2 l as rs := ⟨b.book.same s, b.nd, b.fr, b.ne, b.frl⟩
/-- [copied(record) for record in book] and the like: each turn makes a new record -/
theorem lc_copies {H1 : Hp} {l : Addr} {as : List Addr} {rs qs : List Rc} (b : Book A H1 l as rs) (hn : rs.length ≤ 1000) {te : TE} {v : Nat} {σ : L2.St} {Q : VK} (hq : qs.length = rs.length)
    (hv : ∀ x, wipe ((wipe σ [v]).set v (some x)) [v] = wipe σ [v])
    (turn : ∀ (i : Nat) (a : Addr) (r r' : Rc) (H : Hp) (Q' : VK), rs[i]? = some r → qs[i]? = some r' → Same H1 H → Rec A H a r.1 r.2.1 r.2.2 → (∀ p H', H p = none → Same H H' → Rec A H' p r'.1 r'.2.1 r'.2.2 → Q' (.ref p) H') → te ((wipe σ [v]).set v (some (.ref a))) H Q')
    (hq : ∀ D as' H', Same H1 H' → NewBook A H1 H' D as' qs → Q (.ref D) H') : LcB (Itl K l) (gName v) tYes te [v] σ H1 Q := by
  intro D hD
  have bl := book_len b
  refine ⟨fun i m G => m = rs.length - i ∧ i ≤ rs.length ∧ Same H1 G ∧ ∃ bs : List Addr, bs.length = i ∧ bs.Nodup ∧ (∀ a ∈ bs, H1 a = none ∧ a ≠ D ∧ ∃ o, G a = some o) ∧ G D = some (.lst (bs.map V.ref)) ∧ ∀ (j : Nat) (a : Addr) (r : Rc), bs[j]? = some a → qs[j]? = some r → Rec A G a r.1 r.2.1 r.2.2, ⟨rs.length, by simp, Nat.zero_le _, Same.new hD, [], rfl, List.nodup_nil, (fun _ h => nomatch h), upd_same, fun j a r h => by simp at h⟩, ?_⟩
  rintro i m G ⟨rfl, hi, sG, bs, hl, nd, fr, gD, rc⟩
  have bG : SqL K G l (as.map V.ref) := .inl (.inl (sG _ _ b.lst))
  by_cases hlt : i < rs.length
  · have hla : i < as.length := by rw [b.len]; exact hlt
    refine .inr ⟨⟨_, (as.map V.ref)[i]'(by rw [bl]; exact hlt), bG, List.getElem?_eq_getElem _⟩, fun G' => Same H1 G' ∧ ∃ bs : List Addr, bs.length = i + 1 ∧ bs.Nodup ∧ (∀ a ∈ bs, H1 a = none ∧ a ≠ D ∧ ∃ o, G' a = some o) ∧ G' D = some (.lst (bs.map V.ref)) ∧ ∀ (j : Nat) (a : Addr) (r : Rc), bs[j]? = some a → qs[j]? = some r → Rec A G' a r.1 r.2.1 r.2.2, fun G' h => ⟨rs.length - (i + 1), by omega, rfl, hlt, h⟩, fun x G' y => ?_⟩
    obtain ⟨rfl, y⟩ := y
    have y := y _ bG
    obtain ⟨a, r, rfl, ha, hr, ra⟩ := (b.same sG).get y
    have hi2 : i < qs.length := by omega
    refine ⟨hv _, ?_⟩
    show tYes _ _ _
    refine turn i a r qs[i] _ _ hr (List.getElem?_eq_getElem hi2) sG ra fun p G1 hp s1 r1 => ?_
    have np : p ≠ D := Ne.symm (ne_of_none gD hp)
    have nas : p ∉ bs := fun h => by obtain ⟨_, _, o, ho⟩ := fr p h; rw [hp] at ho; cases ho
    refine ⟨bs.map V.ref, s1 _ _ gD, ?_, (sG.trans s1).mut hD, bs ++ [p], by simp [hl], ?_, ?_, ?_, ?_⟩
    · rw [List.length_map, hl]; exact Nat.lt_of_lt_of_le (by omega : i < 1001) (by decide)
    · rw [List.nodup_append]
      exact ⟨nd, by simp, fun a ha b hb => by obtain rfl := List.mem_singleton.mp hb; exact fun e => nas (e ▸ ha)⟩
    · intro a ha
      rcases List.mem_append.mp ha with q | q
      · obtain ⟨h1, h2, o, h3⟩ := fr a q
        exact ⟨h1, h2, o, by rw [upd_ne h2]; exact s1 _ _ h3⟩
      · obtain rfl := List.mem_singleton.mp q
        obtain ⟨_, dx, h⟩ := r1
        exact ⟨sG.free hp, np, _, by rw [upd_ne np]; exact h⟩
    · rw [upd_same, List.map_append]; rfl
    · intro j a r h1 h2
      by_cases c : j < bs.length
      · rw [List.getElem?_append_left c] at h1
        obtain ⟨hk, dx, h⟩ := rc j a r h1 h2
        exact ⟨hk, dx, by rw [upd_ne (fr a (List.mem_of_getElem? h1)).2.1]; exact s1 _ _ h⟩
      · rw [List.getElem?_append_right (by omega)] at h1
        by_cases e : j = bs.length
        · subst e
          simp at h1
          subst h1
          rw [hl, List.getElem?_eq_getElem hi2] at h2
          cases h2
          obtain ⟨hk, dx, h⟩ := r1
          exact ⟨hk, dx, by rw [upd_ne np]; exact h⟩
        · rw [List.getElem?_eq_none (by simp; omega)] at h1
          cases h1
  · obtain rfl : i = rs.length := by omega
    refine .inl ⟨⟨_, bG, by rw [bl]; exact Nat.le_refl _⟩, hq D bs G sG ⟨⟨gD, by omega, rc⟩, nd, fun a ha => (fr a ha).1, fun a ha => (fr a ha).2.1, hD⟩⟩
/-- [record for record in book if t] -/
theorem lc_filter {H1 : Hp} {l : Addr} {as : List Addr} {rs : List Rc} (b : Book A H1 l as rs) (hn : rs.length ≤ 1000) {tt : TT} {te : TE} {v : Nat} {σ : L2.St} {Q : VK} (f : Rc → Bool)
    (hv : ∀ x, wipe ((wipe σ [v]).set v (some x)) [v] = wipe σ [v])
    (turn : ∀ a r H, Same H1 H → Rec A H a r.1 r.2.1 r.2.2 → r ∈ rs → Evt tt ((wipe σ [v]).set v (some (.ref a))) H (f r) ∧ ∀ H2, Same H H2 → Evs te ((wipe σ [v]).set v (some (.ref a))) H2 (.ref a))
    (hq : ∀ D as' H', H1 D = none → Same H1 H' → Book A H' D as' (rs.filter f) → as'.Sublist as → Q (.ref D) H') : LcB (Itl K l) (gName v) tt te [v] σ H1 Q := by
  refine lc_goes (goes_list (.inl (.inl b.lst))) (fun i => (as[i]?).bind fun a => (rs[i]?).bind fun r => if f r = true then some (V.ref a) else none) ?_ (fun i x H hi s r => ?_) fun D H' hD s hl => ?_
  · rw [List.length_map, b.len]; exact Nat.lt_of_le_of_lt hn (by decide)
  · obtain ⟨a, q, rfl, ha, hr, rc⟩ := b.get r
    rw [ha, hr]
    obtain ⟨t1, t2⟩ := turn a q H s (rc.same s) (List.mem_of_getElem? hr)
    refine ⟨(wipe σ [v]).set v (some (.ref a)), hv _, fun R r => r, ?_⟩
    simp only [Option.bind_some]
    cases e : f q with
    | true => rw [e] at t1; exact ⟨t1, t2⟩
    | false => rw [e] at t1; exact t1
  · suffices key : ∀ (as : List Addr) (rs : List Rc) (_ : as.length = rs.length) (_ : ∀ (i : Nat) (a : Addr) (r : Rc), as[i]? = some a → rs[i]? = some r → Rec A H' a r.1 r.2.1 r.2.2), ∃ as' : List Addr, as'.Sublist as ∧ (List.range as.length).filterMap (fun i => (as[i]?).bind fun a => (rs[i]?).bind fun r => if f r = true then some (V.ref a) else none) = as'.map V.ref ∧ as'.length = (rs.filter f).length ∧ ∀ (i : Nat) (a : Addr) (r : Rc), as'[i]? = some a → (rs.filter f)[i]? = some r → Rec A H' a r.1 r.2.1 r.2.2 by
      obtain ⟨as', h1, h2, h3, h4⟩ := key as rs b.len (b.same s).at_
      rw [List.length_map, h2] at hl
      exact hq D as' H' hD s ⟨hl, h3, h4⟩ h1
    intro as
    induction as with
    | nil =>
      intro rs hl _
      have : rs = [] := List.length_eq_zero_iff.mp hl.symm
      subst this
      exact ⟨[], List.Sublist.refl _, rfl, rfl, fun i a r h => by simp at h⟩
    | cons a as ih =>
      intro rs hl hr
      cases rs with
      | nil => simp at hl
      | cons r rs =>
        obtain ⟨as', h1, h2, h3, h4⟩ := ih rs (by simpa using hl) fun i a' r' e1 e2 => hr (i + 1) a' r' (by simpa using e1) (by simpa using e2)
        have e0 : (List.range (a :: as).length).filterMap (fun i => ((a :: as)[i]?).bind fun a => ((r :: rs)[i]?).bind fun r => if f r = true then some (V.ref a) else none) = (if f r = true then [V.ref a] else []) ++ as'.map V.ref := by
          rw [List.length_cons, List.range_succ_eq_map, List.filterMap_cons, List.filterMap_map, ← h2]
          have e1 : ((fun i => ((a :: as)[i]?).bind fun a => ((r :: rs)[i]?).bind fun r => if f r = true then some (V.ref a) else none) ∘ Nat.succ) = fun i => (as[i]?).bind fun a => (rs[i]?).bind fun r => if f r = true then some (V.ref a) else none := by funext i; simp
          rw [e1]
          simp only [List.getElem?_cons_zero, Option.bind_some]
          cases f r <;> rfl
        rw [e0]
        cases e : f r with
        | true =>
          refine ⟨a :: as', h1.cons₂ _, by simp, by simp [e, h3], fun i a' r' q1 q2 => ?_⟩
          rw [List.filter_cons_of_pos e] at q2
          cases i with
          | zero => simp at q1 q2; subst q1; subst q2; exact hr 0 a r rfl rfl
          | succ i => exact h4 i a' r' (by simpa using q1) (by simpa using q2)
        | false =>
          refine ⟨as', h1.cons _, by simp, by rw [List.filter_cons_of_neg (by simp [e])]; exact h3, fun i a' r' q1 q2 => ?_⟩
          rw [List.filter_cons_of_neg (by simp [e])] at q2
          exact h4 i a' r' q1 q2
def slotsOf (rs : List Rc) : List Int := rs.map fun r => r.2.2
def upTo (rs : List Rc) (h : Nat) : List Rc := rs.filter fun r => decide (r.2.2 ≤ (h : Int))
theorem upTo_len (rs : List Rc) (h : Nat) : (upTo rs h).length = cntL (slotsOf rs) h := by
  unfold upTo cntL slotsOf
  rw [← List.countP_eq_length_filter, List.countP_map]
  rfl
def sp_usable (A : Ads) : Sp := fun vs H Q _ => ∃ (l : Addr) (as : List Addr) (rs : List Rc), vs = [.ref l] ∧ Book A H l as rs ∧ isLog rs = true ∧ (∀ r ∈ rs, r.1 < 2) ∧ (∀ r ∈ rs, RcOk r) ∧ ∀ p as' H' h, Same H H' → Hgt (slotsOf rs) h → NewBook A H H' p as' (upTo rs h) → Q (.ref p) H'
theorem p_usable (T : Tx K mg A) : Pur N_usable ps_usable (t_usable P w K mg base A) (sp_usable A) := by
  intro vs H Q E h
  obtain ⟨l, as, rs, rfl, b, hl, h3, ok, q⟩ := h
  refine ⟨rfl, ?_⟩
  have h40 := log_40 hl
  show t_usable P w K mg base A E _ [some (.ref l), none, none, none] H
  unfold t_usable
  walk_at "rd"
  refine ⟨6, _, fn_need_growing T, by decide, l, as, rs, rfl, b, hl, h3, fun H1 s1 => ?_⟩
  refine while_by (fun σ G => ∃ (h : Nat) (v2 : Option V), σ = [some (.ref l), some (.int h), v2, none] ∧ Same H G ∧ h ≤ rs.length ∧ ∀ g, g < h → g < cntL (slotsOf rs) g) (fun σ G => match σ with | [_, some (.int h), _, _] => rs.length - h.toNat | _ => 0) ⟨0, none, rfl, s1, Nat.zero_le _, fun g hg => by omega⟩ ?_ (fun σ H Q Q' h c => by obtain ⟨b, e, c⟩ := c; exact ⟨b, e, h b H c⟩)
  rintro σ G ⟨h, v2, rfl, sG, hh, lt⟩
  have bG := b.same sG
  walk_at "rd"
  refine ⟨⟨_, .inl (.inl bG.lst)⟩, ?_⟩
  refine lc_filter bG (by omega) (fun r => decide (r.2.2 ≤ (h : Int))) (fun x => rfl) (fun a r G1 t1 rc hr => ⟨fun Q' q' => ?_, fun G2 t2 Q' q' => ⟨_, rfl, q' G2 (Same.refl _)⟩⟩) fun D as' G1 hD s2 bk sub => ?_
  · walk_at "rd"
    exact ⟨.ref a, rfl, a, _, rfl, att_slot T rc, .int h, rfl, q' G1 (Same.refl _)⟩
  refine ⟨_, .inl (.inl (.inl bk.lst)), ?_⟩
  rw [book_len bk]
  have e : (rs.filter fun r => decide (r.2.2 ≤ (h : Int))).length = cntL (slotsOf rs) h := upTo_len rs h
  rw [e]
  by_cases c : cntL (slotsOf rs) h = h
  · rw [if_pos (decide_eq_true (by rw [c]))]
    refine ⟨D, rfl, ⟨_, .inl (.inl bk.lst)⟩, ?_⟩
    have ln := List.length_filter_le (fun r : Rc => decide (r.2.2 ≤ (h : Int))) rs
    refine lc_copies bk (by omega) rfl (fun x => rfl) (fun i a r r' G2 Q' hr hr' t2 rc hh => ?_) fun D2 as2 G2 s3 nb => q D2 as2 G2 h ((sG.trans s2).trans s3) ⟨c, lt⟩ (nb.old (sG.trans s2))
    rw [hr] at hr'
    cases hr'
    exact ⟨6, _, fn_copied T, by decide, .ref a, rfl, a, r, rfl, rc, ok r (List.mem_filter.mp (List.mem_of_getElem? hr)).1, hh⟩
  · rw [if_neg (by simp only [decide_eq_true_eq]; omega)]
    have up := Hgt.step lt c
    have top := cnt_le (slotsOf rs) h
    have sl : (slotsOf rs).length = rs.length := by simp [slotsOf]
    refine ⟨_, _, rfl, rfl, ⟨h + 1, _, ⟨by push_cast; rfl, rfl⟩, sG.trans s2, by omega, fun g hg => ?_⟩, ?_⟩
    · by_cases z : g < h
      · exact lt g z
      · obtain rfl : g = h := by omega
        exact up
    · omega
theorem fn_usable (T : Tx K mg A) : Fn P w K mg base 7 "usable" (sp_usable A) := T.f_usable.fn sc_usable (fun hr => d_usable T.G hr) (p_usable T)
theorem fnK_usable (T : Tx K mg A) : FnK P w K mg base 7 "usable" ["log"] id (sp_usable A) := T.f_usable.fnK1 sc_usable (fun hr => d_usable T.G hr) (p_usable T) fun _ _ _ _ _ _ _ => rfl
end
section
variable {P : Program} {w : World} {K : PySem.W.Frag} {mg : Str → Option Value} {base : Heap} {A : Ads}
/-! ### drawn logs, records moved -/
theorem Rec.but {tp : Addr} {G G' : Hp} {a : Addr} {k : Nat} {z : Str} {m : Int} (r : Rec A G a k z m) (s : But tp G G') (na : a ≠ tp) : Rec A G' a k z m := ⟨r.1, r.2.choose, s _ _ na r.2.choose_spec⟩
theorem Book.but {tp : Addr} {G G' : Hp} {D : Addr} {as : List Addr} {rs : List Rc} (b : Book A G D as rs) (s : But tp G G') (nD : D ≠ tp) (na : ∀ a ∈ as, a ≠ tp) : Book A G' D as rs := ⟨s _ _ nD b.lst, b.len, fun i a r h1 h2 => (b.at_ i a r h1 h2).but s (na a (List.mem_of_getElem? h1))⟩
theorem Book.moved {G : Hp} {D a dx : Addr} {as : List Addr} {rs : List Rc} {i k : Nat} {z : Str} {m n : Int} (b : Book A G D as rs) (nd : as.Nodup) (ha : as[i]? = some a) (hr : rs[i]? = some (k, z, m)) (nD : a ≠ D) (hk : k < 4) : Book A (upd G a (.ins (A.kind k) dx (recF z n))) D as (rs.set i (k, z, n)) := by
  have hi : i < rs.length := (List.getElem?_eq_some_iff.mp hr).1
  refine ⟨by rw [upd_ne (Ne.symm nD)]; exact b.lst, by simp [b.len], fun j a' r' h1 h2 => ?_⟩
  by_cases e : j = i
  · subst e
    rw [ha] at h1
    obtain rfl := Option.some.inj h1
    rw [List.getElem?_set_self hi] at h2
    obtain rfl := Option.some.inj h2
    exact ⟨hk, dx, upd_same⟩
  · rw [List.getElem?_set_ne (Ne.symm e)] at h2
    obtain ⟨q1, dy, q2⟩ := b.at_ j a' r' h1 h2
    refine ⟨q1, dy, ?_⟩
    rw [upd_ne]
    · exact q2
    intro z
    subst z
    obtain ⟨hj, ej⟩ := List.getElem?_eq_some_iff.mp h1
    obtain ⟨hi2, ei⟩ := List.getElem?_eq_some_iff.mp ha
    rcases Nat.lt_trichotomy i j with l | l | l
    · exact List.pairwise_iff_getElem.mp nd i j hi2 hj l (ei.trans ej.symm)
    · exact e l.symm
    · exact List.pairwise_iff_getElem.mp nd j i hj hi2 l (ej.trans ei.symm)
/-- records of the kind k with the items zs and lawful indices -/
structure Drawn (k : Nat) (zs : List Str) (rs : List Rc) : Prop where
  kind : ∀ r ∈ rs, r.1 = k
  items : rs.map (fun r => r.2.1) = zs
  slot : ∀ r ∈ rs, 0 ≤ r.2.2 ∧ r.2.2 ≤ 60
theorem Drawn.len {k : Nat} {zs : List Str} {rs : List Rc} (d : Drawn k zs rs) : rs.length = zs.length := by rw [← d.items, List.length_map]
theorem Drawn.of {k : Nat} {zs : List Str} {ms : List Int} (hl : zs.length = ms.length) (hm : ∀ m ∈ ms, 0 ≤ m ∧ m ≤ 60) : Drawn k zs (recs k zs ms) := by
  have mem : ∀ r ∈ recs k zs ms, r.1 = k ∧ r.2.2 ∈ ms := by
    intro r hr
    obtain ⟨p, hp, rfl⟩ := List.mem_map.mp hr
    exact ⟨rfl, (List.of_mem_zip hp).2⟩
  refine ⟨fun r hr => (mem r hr).1, ?_, fun r hr => hm _ (mem r hr).2⟩
  unfold recs
  rw [List.map_map]
  exact List.map_fst_zip (by omega)
theorem Drawn.set {k : Nat} {zs : List Str} {rs : List Rc} {i : Nat} {z : Str} {m n : Int} (d : Drawn k zs rs) (hr : rs[i]? = some (k, z, m)) (hn : 0 ≤ n ∧ n ≤ 60) : Drawn k zs (rs.set i (k, z, n)) := by
  have mem : ∀ r ∈ rs.set i (k, z, n), r ∈ rs ∨ r = (k, z, n) := fun r hr => List.mem_or_eq_of_mem_set hr
  refine ⟨fun r h => ?_, ?_, fun r h => ?_⟩
  · rcases mem r h with h | rfl
    · exact d.kind r h
    · rfl
  · rw [← d.items]
    apply List.ext_getElem?
    intro j
    rw [List.getElem?_map, List.getElem?_map]
    by_cases e : j = i
    · subst e
      rw [List.getElem?_set_self (List.getElem?_eq_some_iff.mp hr).1, hr]
      rfl
    · rw [List.getElem?_set_ne (Ne.symm e)]
  · rcases mem r h with h | rfl
    · exact d.slot r h
    · exact hn
theorem Drawn.at_ {k : Nat} {zs : List Str} {rs : List Rc} (d : Drawn k zs rs) {i : Nat} (hi : i < rs.length) : ∃ z m, rs[i]? = some (k, z, m) := by
  refine ⟨(rs[i]).2.1, (rs[i]).2.2, ?_⟩
  rw [List.getElem?_eq_getElem hi, ← d.kind _ (List.getElem_mem hi)]
theorem Drawn.log {k : Nat} {zs : List Str} {rs : List Rc} (d : Drawn k zs rs) (nd : zs.Nodup) (h : zs.length ≤ 40) : isLog rs = true := isLog_of d.kind (by rw [d.items]; exact nd) (by rw [d.len]; exact h)
theorem Drawn.ok {k : Nat} {zs : List Str} {rs : List Rc} (d : Drawn k zs rs) (it : ∀ z ∈ zs, isItem z = true) : ∀ r ∈ rs, RcOk r := fun r hr => ⟨it _ (by rw [← d.items]; exact List.mem_map.mpr ⟨r, hr, rfl⟩), d.slot r hr⟩
/-- [made(kind, items[at], <drawn>) for at in range(n)]: e numbers drawn in each turn -/
theorem lc_makes {G0 : Hp} {tp : Addr} {c : Int} {n v k e : Nat} {te : TE} {σ : L2.St} {Q : VK} {zs : List Str} {L : Int → Prop} (t : Tape G0 tp c) (hz : zs.length = n) (hn : n ≤ 1000) (hv : ∀ x, wipe ((wipe σ [v]).set v (some x)) [v] = wipe σ [v])
    (turn : ∀ (i : Nat) (z : Str) (G : Hp) (Q' : VK), i < n → zs[i]? = some z → Tape G tp (c + e * i) → But tp G0 G → (∀ p m G', G p = none → But tp G G' → Tape G' tp (c + e * i + e) → L m → Rec A G' p k z m → Q' (.ref p) G') → te ((wipe σ [v]).set v (some (.int (0 + i)))) G Q')
    (hq : ∀ (D : Addr) (as : List Addr) (ms : List Int) (G : Hp), ms.length = n → (∀ m ∈ ms, L m) → But tp G0 G → Tape G tp (c + e * n) → NewBook A G0 G D as (recs k zs ms) → Q (.ref D) G) : LcB (Itr 0 n) (gName v) tYes te [v] σ G0 Q := by
  intro D hD
  have tk : ∃ xs, G0 tp = some (.lst xs) := let ⟨xs, h, _⟩ := t; ⟨xs, h⟩
  have ntp : ∀ {p : Addr}, G0 p = none → p ≠ tp := fun {p} h e => by subst e; obtain ⟨xs, hx⟩ := tk; rw [hx] at h; cases h
  have nD : D ≠ tp := ntp hD
  refine L2.lc_range (n := n) (fun i G => ∃ (as : List Addr) (ms : List Int), as.length = i ∧ ms.length = i ∧ (∀ m ∈ ms, L m) ∧ as.Nodup ∧ (∀ a ∈ as, G0 a = none ∧ a ≠ D ∧ ∃ o, G a = some o) ∧ G D = some (.lst (as.map V.ref)) ∧ But tp G0 G ∧ Tape G tp (c + e * i) ∧ ∀ (j : Nat) (a : Addr) (z : Str) (m : Int), as[j]? = some a → zs[j]? = some z → ms[j]? = some m → Rec A G a k z m) ?_ ?_ ?_
  · exact ⟨[], [], rfl, rfl, (fun _ h => nomatch h), List.nodup_nil, (fun _ h => nomatch h), upd_same, But.refl.mut hD, by simpa using t.other nD, fun j a z m h => by simp at h⟩
  · rintro i G hi ⟨as, ms, hl, hm, hL, nd, fr, gD, bG, tG, rc⟩
    refine ⟨hv _, ?_⟩
    show tYes _ G _
    have hi1 : i < zs.length := by omega
    refine turn i zs[i] G _ hi (List.getElem?_eq_getElem hi1) tG bG fun p m G1 hp s1 t1 Lm r1 => ?_
    have np : p ≠ D := Ne.symm (ne_of_none gD hp)
    have fp : G0 p = none := by
      cases h : G0 p with
      | none => rfl
      | some o =>
        by_cases e : p = tp
        · subst e; obtain ⟨xs, hx, _⟩ := tG; rw [hp] at hx; cases hx
        · rw [bG p o e h] at hp; cases hp
    have nas : p ∉ as := fun h => by obtain ⟨_, _, o, ho⟩ := fr p h; rw [hp] at ho; cases ho
    refine ⟨as.map V.ref, s1 _ _ nD gD, ?_, as ++ [p], ms ++ [m], by simp [hl], by simp [hm], ?_, ?_, ?_, ?_, ?_, ?_, ?_⟩
    · rw [List.length_map, hl]; exact Nat.lt_of_lt_of_le (by omega : i < 1001) (by decide)
    · intro x hx
      rcases List.mem_append.mp hx with q | q
      · exact hL x q
      · obtain rfl := List.mem_singleton.mp q; exact Lm
    · rw [List.nodup_append]
      exact ⟨nd, by simp, fun a ha b hb => by obtain rfl := List.mem_singleton.mp hb; exact fun e => nas (e ▸ ha)⟩
    · intro a ha
      rcases List.mem_append.mp ha with q | q
      · obtain ⟨h1, h2, o, h3⟩ := fr a q
        exact ⟨h1, h2, o, by rw [upd_ne h2]; exact s1 _ _ (ntp h1) h3⟩
      · obtain rfl := List.mem_singleton.mp q
        obtain ⟨_, dx, h⟩ := r1
        exact ⟨fp, np, _, by rw [upd_ne np]; exact h⟩
    · rw [upd_same, List.map_append]; rfl
    · exact (bG.trans s1).mut hD
    · have := t1.other (o := .lst (as.map V.ref ++ [.ref p])) nD
      refine this.mono ?_
      push_cast
      rw [Int.mul_add]
      omega
    · intro j a z m' h1 h2 h3
      by_cases cj : j < as.length
      · rw [List.getElem?_append_left cj] at h1
        rw [List.getElem?_append_left (by omega)] at h3
        obtain ⟨hk, dx, h⟩ := rc j a z m' h1 h2 h3
        have fa := fr a (List.mem_of_getElem? h1)
        exact ⟨hk, dx, by rw [upd_ne fa.2.1]; exact s1 _ _ (ntp fa.1) h⟩
      · rw [List.getElem?_append_right (by omega)] at h1
        rw [List.getElem?_append_right (by omega)] at h3
        by_cases e : j = as.length
        · subst e
          simp at h1
          subst h1
          rw [hl, hm] at h3
          simp at h3
          subst h3
          rw [hl, List.getElem?_eq_getElem hi1] at h2
          cases h2
          obtain ⟨hk, dx, h⟩ := r1
          exact ⟨hk, dx, by rw [upd_ne np]; exact h⟩
        · rw [List.getElem?_eq_none (by simp; omega)] at h1
          cases h1
  · rintro G ⟨as, ms, hl, hm, hL, nd, fr, gD, bG, tG, rc⟩
    refine hq D as ms G hm hL bG tG ⟨⟨gD, by simp [recs, hl, hz, hm], fun j a r h1 h2 => ?_⟩, nd, fun a ha => (fr a ha).1, fun a ha => (fr a ha).2.1, hD⟩
    unfold recs at h2
    rw [List.getElem?_map] at h2
    cases ez : (zs.zip ms)[j]? with
    | none => rw [ez] at h2; cases h2
    | some p =>
      rw [ez] at h2
      obtain rfl := Option.some.inj h2
      obtain ⟨e1, e2⟩ := List.getElem?_zip_eq_some.mp ez
      exact rc j a p.1 p.2 h1 e1 e2
end
end K
namespace K
open PySem PySem.Spec PyProof.Rows L2 U ClX M
local macro_rules | `(tactic| walk_at "rd") => `(tactic| simp only [tSeq, tRet, tIfS, tAsg, tDrop, tNext, tNever, tRetN, tAndV, tOrV, tNotV, tAnd, tOr, tNot, tB, tTest, tChain, tCB, tCons, tNil, tVar, tC, tOp, tUn, tIf, gName, uLe, uLt, uGe, uGt, uCmp, uAdd, uSub, uMul, uDiv, uMod, uPow, uNeg, uEq, uNe, uIs, uIsNot, uIx, uIn, cIsi, cLen, cAll, cMax, cMin, cAbs, cSort, cSortD, cInt, cTuple, cRepr, cDict, cList, cSortS, tRevL, tDGet, tLstRg, tTupRg, tRg1, tRg2, sDPut, tDNewK, tAug, ipI, iZip, tLst, tTup, tPar, U.tPar3, tFn, tMkr, tMth, tFnK, tMthK, tAtt, sFld, tYes, tLc_eq, tFor_eq, iList, iStr, iRng1, iRng2, iEnum, tLenSetT, tSl, tPart, tNoPart, gTup, gCons, gNil, gSub, tBM, tBM0, List.getElem?_cons_zero, List.getElem?_cons_succ, List.set_cons_zero, List.set_cons_succ, Option.some.injEq, V.bl.injEq, V.int.injEq, V.str.injEq, V.ref.injEq, exists_eq_left', exists_eq_left, exists_eq_right, exists_eq_right', and_true, true_and, scal, if_true, Bool.false_eq_true, if_false, List.cons.injEq, exists_const, false_and, and_false, ite_true, ite_false, Bool.not_true, Bool.not_false])
section
variable {P : Program} {w : World} {K : PySem.W.Frag} {mg : Str → Option Value} {base : Heap} {A : Ads}
theorem Tape.ne {G : Hp} {tp p : Addr} {c : Int} (t : Tape G tp c) (h : G p = none) : p ≠ tp := fun e => by subst e; obtain ⟨xs, hx, _⟩ := t; rw [h] at hx; cases hx
theorem But.free {tp p : Addr} {G G' : Hp} (b : But tp G G') (h : G' p = none) (n : p ≠ tp) : G p = none := by
  cases e : G p with
  | none => rfl
  | some o => rw [b p o n e] at h; cases h
/-- [<an int, drawn> for v in xs]: e numbers drawn in each turn -/
theorem lc_ints {G0 : Hp} {tp l : Addr} {c : Int} {v e : Nat} {te : TE} {σ : L2.St} {Q : VK} {xs : List V} {L : Int → Prop} (t : Tape G0 tp c) (hx : G0 l = some (.lst xs)) (nl : l ≠ tp) (hn : xs.length ≤ 1000) (hv : ∀ x, wipe ((wipe σ [v]).set v (some x)) [v] = wipe σ [v])
    (turn : ∀ (i : Nat) (x : V) (G : Hp) (Q' : VK), xs[i]? = some x → Tape G tp (c + e * i) → But tp G0 G → (∀ r G', L r → Tape G' tp (c + e * i + e) → But tp G G' → Q' (.int r) G') → te ((wipe σ [v]).set v (some x)) G Q')
    (hq : ∀ (D : Addr) (zs : List Int) (G : Hp), G0 D = none → zs.length = xs.length → (∀ z ∈ zs, L z) → G D = some (.lst (zs.map V.int)) → But tp G0 G → Tape G tp (c + e * xs.length) → Q (.ref D) G) : LcB (Itl K l) (gName v) tYes te [v] σ G0 Q := by
  intro D hD
  have nD : D ≠ tp := t.ne hD
  refine ⟨fun i m G => m = xs.length - i ∧ i ≤ xs.length ∧ ∃ zs : List Int, zs.length = i ∧ (∀ z ∈ zs, L z) ∧ G D = some (.lst (zs.map V.int)) ∧ But tp G0 G ∧ Tape G tp (c + e * i), ⟨xs.length, by simp, Nat.zero_le _, [], rfl, (fun _ h => nomatch h), upd_same, But.refl.mut hD, by simpa using t.other nD⟩, ?_⟩
  rintro i m G ⟨rfl, hi, zs, hz, hL, gD, bG, tG⟩
  have gl : SqL K G l xs := .inl (.inl (bG _ _ nl hx))
  by_cases hlt : i < xs.length
  · refine .inr ⟨⟨_, xs[i], gl, List.getElem?_eq_getElem hlt⟩, fun G' => ∃ zs : List Int, zs.length = i + 1 ∧ (∀ z ∈ zs, L z) ∧ G' D = some (.lst (zs.map V.int)) ∧ But tp G0 G' ∧ Tape G' tp (c + e * ((i + 1 : Nat) : Int)), fun G' h => ⟨xs.length - (i + 1), by omega, rfl, hlt, h⟩, fun x G' y => ?_⟩
    obtain ⟨rfl, y⟩ := y
    refine ⟨hv _, ?_⟩
    show tYes _ _ _
    refine turn i x _ _ (y _ gl) tG bG fun r G1 hr t1 b1 => ⟨zs.map V.int, b1 _ _ nD gD, ?_, zs ++ [r], by simp [hz], ?_, ?_, (bG.trans b1).mut hD, ?_⟩
    · rw [List.length_map, hz]; exact Nat.lt_of_lt_of_le (by omega : i < 1001) (by decide)
    · intro x hx
      rcases List.mem_append.mp hx with q | q
      · exact hL x q
      · obtain rfl := List.mem_singleton.mp q; exact hr
    · rw [upd_same, List.map_append]; rfl
    · refine (t1.other nD).mono ?_
      push_cast
      rw [Int.mul_add]
      omega
  · obtain rfl : i = xs.length := by omega
    exact .inl ⟨⟨_, gl, Nat.le_refl _⟩, hq D zs G hD hz hL gD bG tG⟩
end
end K
namespace K
open PySem PySem.Spec PyProof.Rows L2 U ClX M
local macro_rules | `(tactic| walk_at "rd") => `(tactic| simp only [tSeq, tRet, tIfS, tAsg, tDrop, tNext, tNever, tRetN, tAndV, tOrV, tNotV, tAnd, tOr, tNot, tB, tTest, tChain, tCB, tCons, tNil, tVar, tC, tOp, tUn, tIf, gName, uLe, uLt, uGe, uGt, uCmp, uAdd, uSub, uMul, uDiv, uMod, uPow, uNeg, uEq, uNe, uIs, uIsNot, uIx, uIn, cIsi, cLen, cAll, cMax, cMin, cAbs, cSort, cSortD, cInt, cTuple, cRepr, cDict, cList, cSortS, tRevL, tDGet, tLstRg, tTupRg, tRg1, tRg2, sDPut, tDNewK, tAug, ipI, iZip, tLst, tTup, tPar, U.tPar3, tFn, tMkr, tMth, tFnK, tMthK, tAtt, sFld, tYes, tLc_eq, tFor_eq, iList, iStr, iRng1, iRng2, iEnum, tLenSetT, tSl, tPart, tNoPart, gTup, gCons, gNil, gSub, tBM, tBM0, List.getElem?_cons_zero, List.getElem?_cons_succ, List.set_cons_zero, List.set_cons_succ, Option.some.injEq, V.bl.injEq, V.int.injEq, V.str.injEq, V.ref.injEq, exists_eq_left', exists_eq_left, exists_eq_right, exists_eq_right', and_true, true_and, scal, if_true, Bool.false_eq_true, if_false, List.cons.injEq, exists_const, false_and, and_false, ite_true, ite_false, Bool.not_true, Bool.not_false])
section
variable {P : Program} {w : World} {K : PySem.W.Frag} {mg : Str → Option Value} {base : Heap} {A : Ads}
abbrev slot (r : Rc) : Int := r.2.2
abbrev item (r : Rc) : Str := r.2.1
/-! ### places -/
def ix : List Str → Str → Nat
  | [], _ => 0
  | y :: ys, z => if y = z then 0 else ix ys z + 1
theorem ix_lt : ∀ {ys : List Str} {z : Str}, z ∈ ys → ix ys z < ys.length
  | y :: ys, z, h => by
    unfold ix
    split
    · simp
    · rename_i ne
      have := ix_lt (ys := ys) (z := z) (by rcases List.mem_cons.mp h with e | e; exact absurd e.symm ne; exact e)
      simp; omega
theorem ix_get : ∀ {ys : List Str} {z : Str}, z ∈ ys → ys[ix ys z]? = some z
  | y :: ys, z, h => by
    unfold ix
    split
    · rename_i e; simp [e]
    · rename_i ne
      simpa using ix_get (ys := ys) (z := z) (by rcases List.mem_cons.mp h with e | e; exact absurd e.symm ne; exact e)
theorem ix_min : ∀ {ys : List Str} {z w : Str} {m : Nat}, m < ix ys z → ys[m]? = some w → w ≠ z
  | [], z, w, m, h, e => by simp at e
  | y :: ys, z, w, 0, h, e => by
    unfold ix at h
    split at h
    · omega
    · rename_i ne; simp at e; subst e; exact ne
  | y :: ys, z, w, m + 1, h, e => by
    unfold ix at h
    split at h
    · omega
    · exact ix_min (ys := ys) (m := m) (by omega) (by simpa using e)
theorem flat_strs (zs : List Str) : (zs.map V.str).all flatV = true := by
  rw [List.all_map]
  exact List.all_eq_true.mpr fun _ _ => rfl
theorem inV_str (z : Str) (zs : List Str) : inV (.str z) (zs.map V.str) = decide (z ∈ zs) := by
  unfold inV
  induction zs with
  | nil => rfl
  | cons y zs ih =>
    rw [List.map_cons, List.any_cons, ih, Bool.eq_iff_iff]
    show ((y == z) || decide (z ∈ zs)) = true ↔ _
    simp only [Bool.or_eq_true, beq_iff_eq, decide_eq_true_eq, List.mem_cons]
    exact ⟨fun h => h.imp Eq.symm id, fun h => h.imp Eq.symm id⟩
/-- l.index(z) -/
theorem index_ok {H : Hp} {a : Addr} {zs : List Str} {z : Str} {Q : VK} (h : SqL K H a (zs.map V.str)) (hz : z ∈ zs) (q : Q (.int (ix zs z : Nat)) H) : rIndex K (.ref a) [.str z] H Q := by
  refine ⟨a, _, .str z, ix zs z, .str z, rfl, rfl, h, rfl, flat_strs _, by rw [List.getElem?_map, ix_get hz]; rfl, ?_, fun m z' hm e => ?_, q⟩
  · show (z == z) = true
    simp
  · rw [List.getElem?_map] at e
    cases e2 : zs[m]? with
    | none => rw [e2] at e; cases e
    | some y =>
      rw [e2] at e
      obtain rfl := (Option.some.inj e).symm
      show (y == z) = false
      exact beq_eq_false_iff_ne.mpr (ix_min hm e2)
/-! ### dict comprehensions that read alone -/
def DcB (J : It) (g : TG) (tt : TT) (tk tv : TE) (vs : List Nat) (σ : L2.St) (H1 : Hp) (Q : VK) : Prop := ∀ D, H1 D = none → ∃ W : Nat → Nat → Hp → Prop, (∃ m, W 0 m (upd H1 D (.dK []))) ∧ ∀ i m H, W i m H →
  (J.stop i H ∧ Q (.ref D) H) ∨ (J.go i H ∧ ∃ Nx : Hp → Prop, (∀ H', Nx H' → ∃ m', m' < m ∧ W (i + 1) m' H') ∧ ∀ x H', J.yld i H x H' → g x (wipe σ vs) H' fun σ2 H2 => wipe σ2 vs = wipe σ vs ∧ tt σ2 H2 fun b H3 =>
    if b = true then tk σ2 H3 fun y H4 => tv σ2 H4 fun z H5 => ∃ kvs k, y = kV k ∧ H5 D = some (.dK kvs) ∧ kvs.length < sizeLine ∧ Nx (upd H5 D (.dK (putK kvs k z))) else Nx H3)
theorem tDc_eq (wi : TI) (g : TG) (tt : TT) (tk tv : TE) (vs : List Nat) (σ : L2.St) (H : Hp) (Q : VK) : tDc wi g tt tk tv vs σ H Q = wi σ H fun J H1 => DcB J g tt tk tv vs σ H1 Q := rfl
def kvR (key : Nat → Key) (val : Nat → V) (n : Nat) : List (Key × V) := (List.range n).map fun i => (key i, val i)
theorem val_out {k : Key} : ∀ {kvs : List (Key × V)}, (∀ p ∈ kvs, p.1 ≠ k) → valV kvs k = none
  | [], _ => rfl
  | p :: kvs, h => by rw [valV_neg (h p List.mem_cons_self)]; exact val_out fun q hq => h q (List.mem_cons_of_mem _ hq)
theorem kvR_none {key : Nat → Key} {val : Nat → V} {k : Key} {n : Nat} (h : ∀ i, i < n → key i ≠ k) : valV (kvR key val n) k = none := val_out fun p hp => by
  obtain ⟨i, hi, rfl⟩ := List.mem_map.mp hp
  exact h i (List.mem_range.mp hi)
theorem kvR_succ (key : Nat → Key) (val : Nat → V) (n : Nat) : kvR key val (n + 1) = kvR key val n ++ [(key n, val n)] := by unfold kvR; rw [List.range_succ, List.map_append]; rfl
theorem kvR_some {key : Nat → Key} {val : Nat → V} : ∀ {n : Nat} {j : Nat}, (∀ i j, i < j → j < n → key i ≠ key j) → j < n → valV (kvR key val n) (key j) = some (val j)
  | n + 1, j, nd, hj => by
    rw [kvR_succ, valV_snoc _ _ _ _ (kvR_none fun i hi => nd i n hi (by omega))]
    by_cases e : j = n
    · subst e; rw [if_pos rfl]
    · rw [if_neg (nd j n (by omega) (by omega))]
      exact kvR_some (fun a b h1 h2 => nd a b h1 (by omega)) (by omega)
theorem dc_goes {J : It} {g : TG} {tt : TT} {tk tv : TE} {vs : List Nat} {σ : L2.St} {H1 : Hp} {Q : VK} {n : Nat} {R : Nat → V → Hp → Prop} (S : Goes J H1 n R) (key : Nat → Key) (val : Nat → V) (hn : n < sizeLine) (nd : ∀ i j, i < j → j < n → key i ≠ key j)
    (turn : ∀ i x H, i < n → Same H1 H → R i x H → ∃ σ2, wipe σ2 vs = wipe σ vs ∧ (∀ R' : L2.St → Hp → Prop, R' σ2 H → g x (wipe σ vs) H R') ∧ Evt tt σ2 H true ∧ (∀ H3, Same H H3 → Evs tk σ2 H3 (kV (key i))) ∧ ∀ H3, Same H H3 → Evs tv σ2 H3 (val i))
    (hq : ∀ D H', H1 D = none → Same H1 H' → H' D = some (.dK (kvR key val n)) → Q (.ref D) H') : DcB J g tt tk tv vs σ H1 Q := by
  intro D hD
  refine ⟨fun i m H => m = n - i ∧ i ≤ n ∧ Same H1 H ∧ H D = some (.dK (kvR key val i)), ⟨n, by simp, Nat.zero_le _, Same.new hD, upd_same⟩, ?_⟩
  rintro i m H ⟨rfl, hi, sm, hl⟩
  by_cases hlt : i < n
  · refine .inr ⟨S.go i H hlt sm, fun H' => Same H1 H' ∧ H' D = some (.dK (kvR key val (i + 1))), fun H' h => ⟨n - (i + 1), by omega, rfl, hlt, h⟩, fun x H' y => ?_⟩
    obtain ⟨s1, r⟩ := S.yld i H x H' hlt sm y
    obtain ⟨σ2, e2, hg, h1, h2, h3⟩ := turn i x H' hlt (sm.trans s1) r
    have hl1 := s1 _ _ hl
    refine hg _ ⟨e2, h1 _ fun H2 s2 => ?_⟩
    rw [if_pos rfl]
    refine h2 H2 s2 _ fun H3 s3 => h3 H3 (s2.trans s3) _ fun H4 s4 => ⟨_, key i, rfl, s4 _ _ (s3 _ _ (s2 _ _ hl1)), ?_, ((sm.trans s1).trans (s2.trans (s3.trans s4))).mut hD, ?_⟩
    · unfold kvR; rw [List.length_map, List.length_range]; omega
    · rw [upd_same, putK_new _ (kvR_none fun a ha => nd a i ha hlt), kvR_succ]
  · obtain rfl : i = n := by omega
    exact .inl ⟨S.stop H sm, hq D H hD sm hl⟩
end
end K
namespace K
open PySem PySem.Spec PyProof.Rows L2 U ClX M
local macro_rules | `(tactic| walk_at "rd") => `(tactic| simp only [tSeq, tRet, tIfS, tAsg, tDrop, tNext, tNever, tRetN, tAndV, tOrV, tNotV, tAnd, tOr, tNot, tB, tTest, tChain, tCB, tCons, tNil, tVar, tC, tOp, tUn, tIf, gName, uLe, uLt, uGe, uGt, uCmp, uAdd, uSub, uMul, uDiv, uMod, uPow, uNeg, uEq, uNe, uIs, uIsNot, uIx, uIn, cIsi, cLen, cAll, cMax, cMin, cAbs, cSort, cSortD, cInt, cTuple, cRepr, cDict, cList, cSortS, tRevL, tDGet, tLstRg, tTupRg, tRg1, tRg2, sDPut, tDNewK, tAug, ipI, iZip, tLst, tTup, tPar, U.tPar3, tFn, tMkr, tMth, tFnK, tMthK, tAtt, sFld, tYes, tLc_eq, tFor_eq, iList, iStr, iRng1, iRng2, iEnum, tLenSetT, tSl, tPart, tNoPart, gTup, gCons, gNil, gSub, tBM, tBM0, List.getElem?_cons_zero, List.getElem?_cons_succ, List.set_cons_zero, List.set_cons_succ, Option.some.injEq, V.bl.injEq, V.int.injEq, V.str.injEq, V.ref.injEq, exists_eq_left', exists_eq_left, exists_eq_right, exists_eq_right', and_true, true_and, scal, if_true, Bool.false_eq_true, if_false, List.cons.injEq, exists_const, false_and, and_false, ite_true, ite_false, Bool.not_true, Bool.not_false])
section
variable {P : Program} {w : World} {K : PySem.W.Frag} {mg : Str → Option Value} {base : Heap} {A : Ads}
theorem hide_free {X G : Hp} {D : Addr} (s : Same X G) (h : X D = none) : Same X (hide D G) := fun b o e => hide_get (s b o e) (ne_of_none e h)
/-- a value that is a record -/
def RcV (A : Ads) (H : Hp) (y : V) (r : Rc) : Prop := ∃ a, y = .ref a ∧ Rec A H a r.1 r.2.1 r.2.2
theorem rel_book {H : Hp} {l : Addr} {xs : List V} {rs : List Rc} (h : H l = some (.lst xs)) (r : Rel2 (RcV A H) xs rs) : ∃ as, Book A H l as rs := by
  suffices q : ∀ (xs : List V) (rs : List Rc), Rel2 (RcV A H) xs rs → ∃ as : List Addr, xs = as.map V.ref ∧ as.length = rs.length ∧ ∀ (i : Nat) (a : Addr) (r : Rc), as[i]? = some a → rs[i]? = some r → Rec A H a r.1 r.2.1 r.2.2 by
    obtain ⟨as, e, hl, ha⟩ := q xs rs r
    exact ⟨as, by rw [h, e], hl, ha⟩
  intro xs
  induction xs with
  | nil => intro rs r; exact ⟨[], rfl, by simpa using r.len, fun i a r h => by simp at h⟩
  | cons x xs ih =>
    intro rs r
    cases rs with
    | nil => exact absurd r.len (by simp)
    | cons r0 rs =>
      obtain ⟨a, rfl, ra⟩ := r.at_ 0 x r0 rfl rfl
      obtain ⟨as, e, hl, ha⟩ := ih rs ⟨by have := r.len; simpa using this, fun i y e h1 h2 => r.at_ (i + 1) y e (by simpa using h1) (by simpa using h2)⟩
      refine ⟨a :: as, by rw [e]; rfl, by simp [hl], fun i b r' h1 h2 => ?_⟩
      cases i with
      | zero => simp at h1 h2; subst h1; subst h2; exact ra
      | succ i => exact ha i b r' (by simpa using h1) (by simpa using h2)
end
end K
namespace K
open PySem PySem.Spec PyProof.Rows L2 U ClX M
local macro_rules | `(tactic| walk_at "rd") => `(tactic| simp only [tSeq, tRet, tIfS, tAsg, tDrop, tNext, tNever, tRetN, tAndV, tOrV, tNotV, tAnd, tOr, tNot, tB, tTest, tChain, tCB, tCons, tNil, tVar, tC, tOp, tUn, tIf, gName, uLe, uLt, uGe, uGt, uCmp, uAdd, uSub, uMul, uDiv, uMod, uPow, uNeg, uEq, uNe, uIs, uIsNot, uIx, uIn, cIsi, cLen, cAll, cMax, cMin, cAbs, cSort, cSortD, cInt, cTuple, cRepr, cDict, cList, cSortS, tRevL, tDGet, tLstRg, tTupRg, tRg1, tRg2, sDPut, tDNewK, tAug, ipI, iZip, tLst, tTup, tPar, U.tPar3, tFn, tMkr, tMth, tFnK, tMthK, tAtt, sFld, tYes, tLc_eq, tFor_eq, iList, iStr, iRng1, iRng2, iEnum, tLenSetT, tSl, tPart, tNoPart, gTup, gCons, gNil, gSub, tBM, tBM0, List.getElem?_cons_zero, List.getElem?_cons_succ, List.set_cons_zero, List.set_cons_succ, Option.some.injEq, V.bl.injEq, V.int.injEq, V.str.injEq, V.ref.injEq, exists_eq_left', exists_eq_left, exists_eq_right, exists_eq_right', and_true, true_and, scal, if_true, Bool.false_eq_true, if_false, List.cons.injEq, exists_const, false_and, and_false, ite_true, ite_false, Bool.not_true, Bool.not_false])
section
variable {P : Program} {w : World} {K : PySem.W.Frag} {mg : Str → Option Value} {base : Heap} {A : Ads}
/-! ### boards of logs that grow, nothing seen -/
def bdF (n : Int) (tb : Bool) (pf pg : Addr) : List (Str × V) := [("size", .int n), ("is_turned", .bl tb), ("floors", .ref pf), ("given", .ref pg)]
theorem b_put1 (v : V) : putF ("size" : Str) v ([] : List (Str × V)) = [(("size" : Str), v)] := rfl
theorem b_put2 (a v : V) : putF ("is_turned" : Str) v ([(("size" : Str), a)] : List (Str × V)) = [(("size" : Str), a), (("is_turned" : Str), v)] := by
  simp only [putF, if_neg (show ¬ (("size" : Str) = "is_turned") by decide +kernel)]
theorem b_put3 (a b v : V) : putF ("floors" : Str) v ([(("size" : Str), a), (("is_turned" : Str), b)] : List (Str × V)) = [(("size" : Str), a), (("is_turned" : Str), b), (("floors" : Str), v)] := by
  simp only [putF, if_neg (show ¬ (("size" : Str) = "floors") by decide +kernel), if_neg (show ¬ (("is_turned" : Str) = "floors") by decide +kernel)]
theorem b_put4 (a b c v : V) : putF ("given" : Str) v ([(("size" : Str), a), (("is_turned" : Str), b), (("floors" : Str), c)] : List (Str × V)) = [(("size" : Str), a), (("is_turned" : Str), b), (("floors" : Str), c), (("given" : Str), v)] := by
  simp only [putF, if_neg (show ¬ (("size" : Str) = "given") by decide +kernel), if_neg (show ¬ (("is_turned" : Str) = "given") by decide +kernel), if_neg (show ¬ (("floors" : Str) = "given") by decide +kernel)]
theorem bl_sz (a : V) (r : List (Str × V)) : ((("size" : Str), a) :: r : List (Str × V)).lookup ("size" : Str) = some a := by simp [List.lookup]
theorem bl_tn (a b : V) (r : List (Str × V)) : ((("size" : Str), a) :: (("is_turned" : Str), b) :: r : List (Str × V)).lookup ("is_turned" : Str) = some b := by
  simp [List.lookup, show (("is_turned" : Str) == "size") = false by decide +kernel]
theorem bl_fl (a b c : V) (r : List (Str × V)) : ((("size" : Str), a) :: (("is_turned" : Str), b) :: (("floors" : Str), c) :: r : List (Str × V)).lookup ("floors" : Str) = some c := by
  simp [List.lookup, show (("floors" : Str) == "size") = false by decide +kernel, show (("floors" : Str) == "is_turned") = false by decide +kernel]
theorem bl_gv (a b c d : V) (r : List (Str × V)) : ((("size" : Str), a) :: (("is_turned" : Str), b) :: (("floors" : Str), c) :: (("given" : Str), d) :: r : List (Str × V)).lookup ("given" : Str) = some d := by
  simp [List.lookup, show (("given" : Str) == "size") = false by decide +kernel, show (("given" : Str) == "is_turned") = false by decide +kernel, show (("given" : Str) == "floors") = false by decide +kernel]
theorem bl_no {m : Str} (a b c d : V) (h1 : (m == ("size" : Str)) = false) (h2 : (m == ("is_turned" : Str)) = false) (h3 : (m == ("floors" : Str)) = false) (h4 : (m == ("given" : Str)) = false) : ([(("size" : Str), a), (("is_turned" : Str), b), (("floors" : Str), c), (("given" : Str), d)] : List (Str × V)).lookup m = none := by
  simp [List.lookup, h1, h2, h3, h4]
theorem bd_no {m : Str} {n : Int} {tb : Bool} {pf pg : Addr} (h1 : (m == ("size" : Str)) = false) (h2 : (m == ("is_turned" : Str)) = false) (h3 : (m == ("floors" : Str)) = false) (h4 : (m == ("given" : Str)) = false) : (bdF n tb pf pg).lookup m = none := bl_no _ _ _ _ h1 h2 h3 h4
theorem att_b (T : Tx K mg A) {H : Hp} {p dx : Addr} {fs : List (Str × V)} {f : Str} {v : V} (h : H p = some (.ins A.cBoard dx fs)) (n : NoAttr K A.cBoard f) (l : fs.lookup f = some v) : Att P w K mg base H p f v := .fld h T.cls_Board n l
def flK (rs : List Rc) : List (Key × V) := rs.map fun r => (Sum.inr r.2.1, V.int r.2.2)
/-- the board of rs stands at p -/
structure Bd (A : Ads) (H : Hp) (p dx pf pg : Addr) (rs : List Rc) : Prop where
  at_ : H p = some (.ins A.cBoard dx (bdF rs.length false pf pg))
  fl : H pf = some (.dK (flK rs))
  gv : H pg = some (.lst (List.replicate rs.length .non))
theorem Bd.same {H H' : Hp} {p dx pf pg : Addr} {rs : List Rc} (b : Bd A H p dx pf pg rs) (s : Same H H') : Bd A H' p dx pf pg rs := ⟨s _ _ b.at_, s _ _ b.fl, s _ _ b.gv⟩
/-- position → place -/
def sp_turned (A : Ads) : Sp := fun vs H Q _ => ∃ (p dx : Addr) (n i : Int) (r : List (Str × V)), vs = [.ref p, .int i] ∧ H p = some (.ins A.cBoard dx ((("size" : Str), .int n) :: (("is_turned" : Str), .bl false) :: r)) ∧ Q (.int i) H
theorem p_turned (T : Tx K mg A) : Pur N_Board_turned ps_Board_turned (t_Board_turned P w K mg base A) (sp_turned A) := by
  intro vs H Q E h
  obtain ⟨p, dx, n, i, r, rfl, h1, q⟩ := h
  refine ⟨rfl, ?_⟩
  show t_Board_turned P w K mg base A E _ [some (.ref p), some (.int i)] H
  unfold t_Board_turned
  walk_at "rd"
  refine ⟨p, _, rfl, att_b T h1 T.n_Board_is_turned (bl_tn _ _ _), false, rfl, ?_⟩
  rw [if_neg (by decide)]
  exact q
theorem mth_turned (T : Tx K mg A) : Mth P w K mg base 3 A.cBoard "turned" (sp_turned A) := T.m_Board_turned.mth sc_Board_turned (fun hr => d_Board_turned T.G hr) (p_turned T)
def sp_binit (A : Ads) : Sp := fun vs H Q _ => ∃ (p dx l : Addr) (as : List Addr) (rs : List Rc), vs = [.ref p, .ref l, .non] ∧ H p = some (.ins A.cBoard dx []) ∧ Book A H l as rs ∧ rs.length ≤ 1000 ∧ (rs.map fun r => r.2.1).Nodup ∧ (∀ r ∈ rs, r.1 < 2) ∧
  ∀ H' pf pg, But p H H' → Bd A H' p dx pf pg rs → Q .non H'
theorem p_binit (T : Tx K mg A) : Pur N_Board_init ps_Board_init (t_Board_init P w K mg base A) (sp_binit A) := by
  intro vs H Q E h
  obtain ⟨p, dx, l, as, rs, rfl, hp, b, hn, nd, h2, q⟩ := h
  refine ⟨rfl, ?_⟩
  have al := b.len
  have nl : l ≠ p := fun e => by have := b.lst; rw [e, hp] at this; cases this
  have na : ∀ a ∈ as, a ≠ p := fun a ha e => by
    obtain ⟨i, hi, e2⟩ := List.mem_iff_getElem.mp ha
    obtain ⟨_, d2, h2⟩ := b.at_ i a _ (by rw [List.getElem?_eq_getElem hi, e2]) (List.getElem?_eq_getElem (by omega))
    rw [e, hp] at h2
    simp [recF] at h2
  have bkBut : ∀ {G : Hp}, But p H G → Book A G l as rs := fun {G} bt => ⟨bt _ _ nl b.lst, al, fun i a r z1 z2 => by
    obtain ⟨hk, d2, h⟩ := b.at_ i a r z1 z2
    exact ⟨hk, d2, bt _ _ (na a (List.mem_of_getElem? z1)) h⟩⟩
  show t_Board_init P w K mg base A E _ [some (.ref p), some (.ref l), some .non, none] H
  unfold t_Board_init
  refine seqU fun U hU => ?_
  walk_at "rd"
  refine ⟨_, .inl (.inl (.inl b.lst)), p, _, dx, _, rfl, hp, T.cls_Board, T.n_Board_size, (by show 0 < 1000; decide), ?_⟩
  rw [b_put1, book_len b, hU]
  clear hU
  have B1 : But p H (upd H p (.ins A.cBoard dx [(("size" : Str), .int rs.length)])) := But.upd
  have g1 := upd_same (H := H) (a := p) (o := .ins A.cBoard dx [(("size" : Str), .int rs.length)])
  generalize upd H p (.ins A.cBoard dx [(("size" : Str), .int rs.length)]) = G1 at B1 g1
  have k1 := bkBut B1
  refine seqU fun U hU => ?_
  have ky : ∀ (G : Hp), But p H G → G p = some (.ins A.cBoard dx [(("size" : Str), .int rs.length)]) → U [some (.ref p), some (.ref l), some .non, none] (upd G p (.ins A.cBoard dx (putF ("is_turned" : Str) (.bl false) [(("size" : Str), .int rs.length)]))) := by
    intro G bG gG
    rw [b_put2, hU]
    clear hU
    have B2 : But p H (upd G p (.ins A.cBoard dx [(("size" : Str), .int rs.length), (("is_turned" : Str), .bl false)])) := bG.trans But.upd
    have g2 := upd_same (H := G) (a := p) (o := .ins A.cBoard dx [(("size" : Str), .int rs.length), (("is_turned" : Str), .bl false)])
    generalize upd G p (.ins A.cBoard dx [(("size" : Str), .int rs.length), (("is_turned" : Str), .bl false)]) = G2 at B2 g2
    have k2 := bkBut B2
    refine seqU fun U hU => ?_
    walk_at "rd"
    simp only [tDc_eq, iList, tVar, List.getElem?_cons_zero, List.getElem?_cons_succ, Option.some.injEq, exists_eq_left', V.ref.injEq]
    refine ⟨⟨_, .inl (.inl k2.lst)⟩, dc_goes (goes_list (.inl (.inl k2.lst))) (fun i => .inr (rs.getD i (0, "", 0)).2.1) (fun i => .int (rs.getD i (0, "", 0)).2.2) (by rw [List.length_map, al]; exact Nat.lt_of_le_of_lt hn (by decide)) (fun i j hij hj e => ?_) (fun i x H3 hi s3 hx => ?_) fun D H3 hD s3 hl3 => ?_⟩
    · rw [List.length_map, al] at hj
      have e := Sum.inr.inj e
      simp only [List.getD, List.getElem?_eq_getElem (show i < rs.length by omega), List.getElem?_eq_getElem hj, Option.getD_some] at e
      exact absurd e (by have := List.pairwise_iff_getElem.mp nd i j (by simp; omega) (by simpa using hj) hij; simpa using this)
    · obtain ⟨ar, r, rfl, har, hr, rc⟩ := (k2.same s3).get hx
      have e2 : rs.getD i (0, "", 0) = r := by simp [hr]
      rw [e2]
      refine ⟨[some (.ref p), some (.ref l), some .non, some (.ref ar)], rfl, fun R' h => h, Evt.yes, fun H4 s4 Q' q' => ⟨_, rfl, _, _, rfl, att_item T (rc.same s4), q' H4 (Same.refl _)⟩, fun H4 s4 Q' q' => ?_⟩
      walk_at "rd"
      refine ⟨p, _, dx, _, 3, _, rfl, s4 _ _ (s3 _ _ g2), mth_turned T, by decide, ?_, _, _, rfl, att_slot T (rc.same s4), p, dx, rs.length, r.2.2, [], rfl, s4 _ _ (s3 _ _ g2), q' H4 (Same.refl _)⟩
      simp [List.lookup, show (("turned" : Str) == "size") = false by decide +kernel, show (("turned" : Str) == "is_turned") = false by decide +kernel]
    have nD : D ≠ p := Ne.symm (ne_of_none g2 hD)
    refine ⟨p, _, dx, _, rfl, s3 _ _ g2, T.cls_Board, T.n_Board_floors, (by show 2 < 1000; decide), ?_⟩
    rw [b_put3, hU]
    clear hU
    have ek : kvR (fun i => .inr (rs.getD i (0, "", 0)).2.1) (fun i => .int (rs.getD i (0, "", 0)).2.2) (as.map V.ref).length = flK rs := by
      rw [List.length_map, al]
      unfold kvR flK
      refine List.ext_getElem (by simp) fun i h1 h2 => ?_
      have hi : i < rs.length := by simpa using h2
      simp [hi]
    rw [ek] at hl3
    have B3 : But p H (upd H3 p (.ins A.cBoard dx [(("size" : Str), .int rs.length), (("is_turned" : Str), .bl false), (("floors" : Str), .ref D)])) := (B2.trans (But.same s3)).trans But.upd
    have g3 := upd_same (H := H3) (a := p) (o := .ins A.cBoard dx [(("size" : Str), .int rs.length), (("is_turned" : Str), .bl false), (("floors" : Str), .ref D)])
    have gD : upd H3 p (.ins A.cBoard dx [(("size" : Str), .int rs.length), (("is_turned" : Str), .bl false), (("floors" : Str), .ref D)]) D = some (.dK (flK rs)) := by rw [upd_ne nD]; exact hl3
    generalize upd H3 p (.ins A.cBoard dx [(("size" : Str), .int rs.length), (("is_turned" : Str), .bl false), (("floors" : Str), .ref D)]) = G3 at B3 g3 gD
    walk_at "rd"
    rw [if_pos (by decide)]
    refine ⟨(by show 1 ≤ sizeLine; decide), fun p4 hp4 => ?_⟩
    have u4 := Same.new (o := .lst [.non]) hp4
    refine ⟨p, _, rfl, att_b T (u4 _ _ g3) T.n_Board_size (bl_sz _ _), _, upd_same, by omega, by omega, ?_, fun p5 hp5 => ?_⟩
    · simp only [List.length_cons, List.length_nil, Int.toNat_natCast]; exact Nat.le_trans (by omega : _ ≤ 1000) (by decide)
    have u5 := u4.trans (Same.new (o := .lst (List.replicate (rs.length : Int).toNat [V.non]).flatten) hp5)
    have n5 : p5 ≠ p := Ne.symm (ne_of_none (u4 _ _ g3) hp5)
    refine ⟨p, _, dx, _, rfl, u5 _ _ g3, T.cls_Board, T.n_Board_given, (by show 3 < 1000; decide), ?_⟩
    rw [b_put4]
    refine q _ D p5 ((B3.trans (But.same u5)).trans But.upd) ⟨upd_same, by rw [upd_ne nD]; exact u5 _ _ gD, ?_⟩
    rw [upd_ne n5, upd_same, Int.toNat_natCast]
    congr 2
    have : ∀ n : Nat, (List.replicate n [V.non]).flatten = List.replicate n V.non := fun n => by
      induction n with
      | zero => rfl
      | succ n ih => rw [List.replicate_succ, List.flatten_cons, ih, List.replicate_succ]; rfl
    exact this _
  walk_at "rd"
  refine ⟨by decide, fun p2 hp2 => ?_⟩
  have u2 := Same.new (o := .lst []) hp2
  have k2 := k1.same u2
  match rs, as, b, al, k2, ky, h2 with
  | [], [], b, al, k2, ky, h2 =>
    refine .inl ⟨.list [], .list [], .lst (.inl (.inl k2.lst)) .nil, .lst (.inl (.inl upd_same)) .nil, rfl, rfl, false, rfl, ?_⟩
    exact ⟨p, _, dx, _, rfl, u2 _ _ g1, T.cls_Board, T.n_Board_is_turned, (by show 1 < 1000; decide), ky _ (B1.trans (But.same u2)) (u2 _ _ g1)⟩
  | r :: rs, a :: as, b, al, k2, ky, h2 =>
    refine .inr ⟨l, p2, (.ref a :: as.map V.ref), [], rfl, rfl, .inl (.inl k2.lst), .inl (.inl upd_same), by simp, true, rfl, ?_⟩
    rw [if_pos rfl]
    have rc := k2.at_ 0 a r rfl rfl
    have hr := h2 r List.mem_cons_self
    refine ⟨_, _, .inl (.inl (.inl k2.lst)), at_of (j := 0) rfl rfl, _, isi_rec T rc (j := 2) (by decide), ?_⟩
    rw [decide_eq_false (by omega)]
    exact ⟨p, _, dx, _, rfl, u2 _ _ g1, T.cls_Board, T.n_Board_is_turned, (by show 1 < 1000; decide), ky _ (B1.trans (But.same u2)) (u2 _ _ g1)⟩
  | [], _ :: _, _, al, _, _, _ => exact absurd al (by simp)
  | _ :: _, [], _, al, _, _, _ => exact absurd al (by simp)
theorem mkr_board (T : Tx K mg A) : Mkr P w K mg base 4 "Board" A.cBoard (sp_binit A) := T.made_Board.mkr sc_Board_init (fun hr => d_Board_init T.G hr) (p_binit T)
end
end K
namespace K
open PySem PySem.Spec PyProof.Rows L2 U ClX M
local macro_rules | `(tactic| walk_at "rd") => `(tactic| simp only [tSeq, tRet, tIfS, tAsg, tDrop, tNext, tNever, tRetN, tAndV, tOrV, tNotV, tAnd, tOr, tNot, tB, tTest, tChain, tCB, tCons, tNil, tVar, tC, tOp, tUn, tIf, gName, uLe, uLt, uGe, uGt, uCmp, uAdd, uSub, uMul, uDiv, uMod, uPow, uNeg, uEq, uNe, uIs, uIsNot, uIx, uIn, cIsi, cLen, cAll, cMax, cMin, cAbs, cSort, cSortD, cInt, cTuple, cRepr, cDict, cList, cSortS, tRevL, tDGet, tLstRg, tTupRg, tRg1, tRg2, sDPut, tDNewK, tAug, ipI, iZip, tLst, tTup, tPar, U.tPar3, tFn, tMkr, tMth, tFnK, tMthK, tAtt, sFld, tYes, tLc_eq, tFor_eq, iList, iStr, iRng1, iRng2, iEnum, tLenSetT, tSl, tPart, tNoPart, gTup, gCons, gNil, gSub, tBM, tBM0, List.getElem?_cons_zero, List.getElem?_cons_succ, List.set_cons_zero, List.set_cons_succ, Option.some.injEq, V.bl.injEq, V.int.injEq, V.str.injEq, V.ref.injEq, exists_eq_left', exists_eq_left, exists_eq_right, exists_eq_right', and_true, true_and, scal, if_true, Bool.false_eq_true, if_false, List.cons.injEq, exists_const, false_and, and_false, ite_true, ite_false, Bool.not_true, Bool.not_false])
section
variable {P : Program} {w : World} {K : PySem.W.Frag} {mg : Str → Option Value} {base : Heap} {A : Ads}
def sp_need_seen : Sp := fun vs H Q _ => ∃ (l : Addr), vs = [.ref l, .non] ∧ Q .non H
theorem p_need_seen (T : Tx K mg A) : Pur N_need_seen ps_need_seen (t_need_seen P w K mg base A) sp_need_seen := by
  intro vs H Q E h
  obtain ⟨l, rfl, q⟩ := h
  refine ⟨rfl, ?_⟩
  show t_need_seen P w K mg base A E _ [some (.ref l), some .non, none, none, none, none, none] H
  unfold t_need_seen
  refine seqU fun U hU => ?_
  walk_at "rd"
  rw [if_pos (by decide)]
  exact q
theorem fn_need_seen (T : Tx K mg A) : Fn P w K mg base 3 "need_seen" sp_need_seen := T.f_need_seen.fn sc_need_seen (fun hr => d_need_seen T.G hr) (p_need_seen T)
/-! ### over the items of a locked dict -/
theorem goes_items {d : Addr} {o : Obj} {kvs : List (Key × V)} {H : Hp} (h : H d = some (.frz o (.dK kvs))) : Goes (Iti d o kvs) H kvs.length (fun i x H' => ∃ T k v, x = .ref T ∧ kvs[i]? = some (k, v) ∧ H' T = some (.tup [kV k, v])) where
  go := fun i H' hi s => ⟨s _ _ h, hi⟩
  stop := fun H' s => ⟨s _ _ h, Nat.le_refl _⟩
  yld := fun i H' x H2 hi s y => by
    obtain ⟨T, k, v, hk, rfl, hn, rfl⟩ := y
    exact ⟨Same.new hn, T, k, v, rfl, hk, upd_same⟩
theorem lock_same {H H' : Hp} {d : Addr} {f u : HO} (s : Same (upd H d f) H') (h : H d = some u) : Same H (upd H' d u) := fun b o e => by
  by_cases c : b = d
  · subst c; rw [upd_same]; rw [h] at e; exact e
  · rw [upd_ne c]; exact s b o (by rw [upd_ne c]; exact e)
theorem flK_at {rs : List Rc} {i : Nat} {k : Key} {v : V} (h : (flK rs)[i]? = some (k, v)) : ∃ r, rs[i]? = some r ∧ k = .inr r.2.1 ∧ v = .int r.2.2 := by
  unfold flK at h
  rw [List.getElem?_map] at h
  cases e : rs[i]? with
  | none => rw [e] at h; cases h
  | some r =>
    rw [e] at h
    have := Option.some.inj h
    exact ⟨r, rfl, (congrArg Prod.fst this).symm, (congrArg Prod.snd this).symm⟩
theorem flK_len (rs : List Rc) : (flK rs).length = rs.length := List.length_map _
def sp_far (A : Ads) : Sp := fun vs H Q _ => ∃ (p dx pf pg : Addr) (rs : List Rc), vs = [.ref p] ∧ Bd A H p dx pf pg rs ∧ rs.length ≤ 1000 ∧ (∀ r ∈ rs, 0 ≤ r.2.2) ∧ ∀ D H', H D = none → Same H H' → H' D = some (.lst []) → Q (.ref D) H'
theorem p_far (T : Tx K mg A) : Pur N_Board_far_items ps_Board_far_items (t_Board_far_items P w K mg base A) (sp_far A) := by
  intro vs H Q E h
  obtain ⟨p, dx, pf, pg, rs, rfl, b, hn, h0, q⟩ := h
  refine ⟨rfl, ?_⟩
  show t_Board_far_items P w K mg base A E _ [some (.ref p), none, none] H
  unfold t_Board_far_items
  refine ⟨pf, _, b.fl, trivial, fun od => ?_⟩
  have np : p ≠ pf := fun e => by have := b.at_; rw [e, b.fl] at this; cases this
  have gl := upd_same (H := H) (a := pf) (o := .frz od (.dK (flK rs)))
  have gp : upd H pf (.frz od (.dK (flK rs))) p = some (.ins A.cBoard dx (bdF rs.length false pf pg)) := by rw [upd_ne np]; exact b.at_
  show tLc _ _ _ _ _ _ _ _
  rw [tLc_eq]
  refine ⟨_, rfl, p, _, rfl, att_b T gp T.n_Board_floors (bl_fl _ _ _ _), pf, od, flK rs, rfl, gl, ?_⟩
  refine lc_goes (goes_items gl) (fun _ => none) (by rw [flK_len]; exact Nat.lt_of_le_of_lt hn (by decide)) (fun i x H1 hi s1 hx => ?_) fun D H1 hD s1 hl1 => ?_
  · obtain ⟨T0, k, v, rfl, hk, hT⟩ := hx
    obtain ⟨r, hr, rfl, rfl⟩ := flK_at hk
    refine ⟨[some (.ref p), some (.str r.2.1), some (.int r.2.2)], rfl, fun R' h => ⟨T0, _, rfl, .inl (.inl hT), rfl, _, _, rfl, _, _, rfl, rfl, h⟩, fun Q' q' => ?_⟩
    walk_at "rd"
    have := q' H1 (Same.refl _)
    rwa [← decide_eq_false (show ¬ r.2.2 < 0 by have := h0 r (List.mem_of_getElem? hr); omega)] at this
  have nD : D ≠ pf := Ne.symm (ne_of_none gl hD)
  have fD : H D = none := by
    cases e : H D with
    | none => rfl
    | some o => rw [upd_ne nD, e] at hD; cases hD
  refine ⟨s1 _ _ gl, q D _ fD (lock_same s1 b.fl) ?_⟩
  rw [upd_ne nD, hl1]
  congr 2
  exact List.filterMap_eq_nil_iff.mpr fun _ _ => rfl
theorem mth_far (T : Tx K mg A) : Mth P w K mg base 3 A.cBoard "far_items" (sp_far A) := T.m_Board_far_items.mth sc_Board_far_items (fun hr => d_Board_far_items T.G hr) (p_far T)
/-- for i, x in enumerate(xs) -/
theorem for_enum {K : PySem.W.Frag} {a : Addr} {xs : List V} {g : TG} {tb : TS} {D : Ends} {σ : L2.St} {H : Hp} (Pv : Nat → L2.St → Hp → Prop) (h0 : Pv 0 σ H) (hl : ∀ i σ H, i ≤ xs.length → Pv i σ H → SqL K H a xs)
    (hs : ∀ (i : Nat) (x : V) (t : Addr) σ H, H t = none → xs[i]? = some x → Pv i σ H → g (.ref t) σ (upd H t (.tup [.int (i : Nat), x])) fun σ2 H2 => tb { D with nx := Pv (i + 1), ct := Pv (i + 1), bk := D.nx } σ2 H2) (hd : ∀ σ H, Pv xs.length σ H → D.nx σ H) : ForB (Ite K a) g tb D σ H := by
  refine ⟨fun i m σ H => m = xs.length - i ∧ i ≤ xs.length ∧ Pv i σ H, ⟨xs.length, by simp, Nat.zero_le _, h0⟩, ?_⟩
  rintro i m σ H ⟨rfl, hi, p⟩
  have q := hl i σ H hi p
  by_cases hlt : i < xs.length
  · refine .inr ⟨⟨xs, xs[i], q, List.getElem?_eq_getElem hlt⟩, Pv (i + 1), fun σ' H' h => ⟨xs.length - (i + 1), by omega, rfl, hlt, h⟩, fun x H' y => ?_⟩
    obtain ⟨T, v, rfl, hn, rfl, y⟩ := y
    exact hs i v T σ H hn (y xs q) p
  · obtain rfl : i = xs.length := by omega
    exact .inl ⟨⟨xs, q, Nat.le_refl _⟩, hd σ H p⟩
def sp_wrongp (A : Ads) : Sp := fun vs H Q _ => ∃ (p pg : Addr) (n : Nat), vs = [.ref p, .ref pg] ∧ H pg = some (.lst (List.replicate n .non)) ∧ n ≤ 1000 ∧ ∀ D H', H D = none → Same H H' → H' D = some (.lst []) → Q (.ref D) H'
theorem p_wrongp (T : Tx K mg A) : Pur N_Board_wrong_positions ps_Board_wrong_positions (t_Board_wrong_positions P w K mg base A) (sp_wrongp A) := by
  intro vs H Q E h
  obtain ⟨p, pg, n, rfl, hg, hn, q⟩ := h
  refine ⟨rfl, ?_⟩
  show t_Board_wrong_positions P w K mg base A E _ [some (.ref p), some (.ref pg), none, none, none] H
  unfold t_Board_wrong_positions
  refine seqU fun U hU => ?_
  walk_at "rd"
  refine ⟨by decide, fun D hD => ?_⟩
  rw [hU]
  clear hU
  have s1 := Same.new (o := .lst []) hD
  have gD := upd_same (H := H) (a := D) (o := .lst [])
  generalize upd H D (.lst []) = H1 at s1 gD
  refine seqU fun U hU => ?_
  walk_at "rd"
  refine ⟨_, _, rfl, .inl (.inl (s1 _ _ hg)), ?_⟩
  refine for_enum (K := K) (a := pg) (xs := List.replicate n .non) (fun i σ G => ∃ v3 v4, σ = [some (.ref p), some (.ref pg), some (.ref D), v3, v4] ∧ Same H1 G) ⟨_, _, rfl, Same.refl _⟩ (fun i σ G _ ⟨_, _, _, s⟩ => .inl (.inl (s _ _ (s1 _ _ hg)))) ?_ ?_
  · rintro i x t σ G ht hx ⟨v3, v4, rfl, sG⟩
    have hxn : x = .non := by
      have := List.mem_of_getElem? hx
      exact (List.mem_replicate.mp this).2
    subst hxn
    refine ⟨t, _, rfl, .inl (.inl upd_same), rfl, _, _, rfl, _, _, rfl, rfl, ?_⟩
    walk_at "rd"
    rw [if_neg (by decide)]
    exact ⟨_, _, ⟨rfl, rfl⟩, sG.trans (Same.new ht)⟩
  · rintro σ G ⟨v3, v4, rfl, sG⟩
    show U _ _
    rw [hU]
    clear hU
    walk_at "rd"
    exact q D G hD (s1.trans sG) (sG _ _ gD)
theorem mth_wrongp (T : Tx K mg A) : Mth P w K mg base 4 A.cBoard "wrong_positions" (sp_wrongp A) := T.m_Board_wrong_positions.mth sc_Board_wrong_positions (fun hr => d_Board_wrong_positions T.G hr) (p_wrongp T)
theorem sorted_perm_eq {xs ys : List Int} (p : xs.Perm ys) (hx : xs.Pairwise (· ≤ ·)) (hy : ys.Pairwise (· ≤ ·)) : xs = ys := p.eq_of_pairwise (fun _ _ _ _ h1 h2 => Int.le_antisymm h1 h2) hx hy
def sp_free (A : Ads) : Sp := fun vs H Q _ => ∃ (p dx pf pg : Addr) (rs : List Rc), vs = [.ref p, .ref pg] ∧ Bd A H p dx pf pg rs ∧ rs.length ≤ 1000 ∧ ∀ D H', H D = none → Same H H' → H' D = some (.lst (((List.range rs.length).map Int.ofNat).map V.int)) → Q (.ref D) H'
theorem p_free (T : Tx K mg A) : Pur N_Board_free_places ps_Board_free_places (t_Board_free_places P w K mg base A) (sp_free A) := by
  intro vs H Q E h
  obtain ⟨p, dx, pf, pg, rs, rfl, b, hn, q⟩ := h
  refine ⟨rfl, ?_⟩
  show t_Board_free_places P w K mg base A E _ [some (.ref p), some (.ref pg), none, none] H
  unfold t_Board_free_places
  walk_at "rd"
  refine ⟨_, _, rfl, .inl (.inl b.gv), ?_⟩
  refine lc_goes (goes_enum (.inl (.inl b.gv))) (fun i => some (.int (Int.ofNat i))) (by rw [List.length_replicate]; exact Nat.lt_of_le_of_lt hn (by decide)) (fun i x H1 hi s1 hx => ?_) fun D H1 hD s1 hl1 => ?_
  · obtain ⟨T0, y, rfl, hy, hT⟩ := hx
    obtain rfl : y = .non := (List.mem_replicate.mp (List.mem_of_getElem? hy)).2
    refine ⟨[some (.ref p), some (.ref pg), some (.int (i : Nat)), some .non], rfl, fun R' h => ⟨T0, _, rfl, .inl (.inl hT), rfl, _, _, rfl, _, _, rfl, rfl, h⟩, fun Q' q' => ?_, fun H2 s2 Q' q' => ?_⟩
    · walk_at "rd"
      exact q' H1 (Same.refl _)
    · walk_at "rd"
      have h2 := s2 _ _ (s1 _ _ b.at_)
      exact ⟨p, _, dx, _, 3, _, rfl, h2, mth_turned T, by decide, bd_no (by decide +kernel) (by decide +kernel) (by decide +kernel) (by decide +kernel), p, dx, rs.length, i, _, rfl, h2, q' H2 (Same.refl _)⟩
  rw [List.length_replicate, range_some] at hl1
  refine ⟨(List.range rs.length).map Int.ofNat, .inl (.inl (by rw [hl1, List.map_map]; rfl)), fun ns' l pm so hl => ?_⟩
  have e : ns' = (List.range rs.length).map Int.ofNat := sorted_perm_eq pm so (List.pairwise_map.mpr (List.pairwise_lt_range.imp fun h => by simp only [Int.ofNat_eq_coe]; omega))
  subst e
  exact q l _ (s1.free hl) (s1.trans (Same.new hl)) upd_same
theorem mth_free (T : Tx K mg A) : Mth P w K mg base 4 A.cBoard "free_places" (sp_free A) := T.m_Board_free_places.mth sc_Board_free_places (fun hr => d_Board_free_places T.G hr) (p_free T)
def sp_wait (A : Ads) : Sp := fun vs H Q _ => ∃ (p dx pf pg : Addr) (rs : List Rc), vs = [.ref p, .ref pg] ∧ Bd A H p dx pf pg rs ∧ rs.length ≤ 1000 ∧ ∀ (D : Addr) (H' : Hp) (ws : List Int), H D = none → Same H H' → ws.Perm (slotsOf rs) → ws.Pairwise (· ≤ ·) → H' D = some (.lst (ws.map V.int)) → Q (.ref D) H'
theorem p_wait (T : Tx K mg A) : Pur N_Board_waiting_bounds ps_Board_waiting_bounds (t_Board_waiting_bounds P w K mg base A) (sp_wait A) := by
  intro vs H Q E h
  obtain ⟨p, dx, pf, pg, rs, rfl, b, hn, q⟩ := h
  refine ⟨rfl, ?_⟩
  show t_Board_waiting_bounds P w K mg base A E _ [some (.ref p), some (.ref pg), none, none] H
  unfold t_Board_waiting_bounds
  walk_at "rd"
  refine ⟨pf, _, b.fl, trivial, fun od => ?_⟩
  have np : p ≠ pf := fun e => by have := b.at_; rw [e, b.fl] at this; cases this
  have ng : pg ≠ pf := fun e => by have := b.gv; rw [e, b.fl] at this; cases this
  have gl := upd_same (H := H) (a := pf) (o := .frz od (.dK (flK rs)))
  have gp : upd H pf (.frz od (.dK (flK rs))) p = some (.ins A.cBoard dx (bdF rs.length false pf pg)) := by rw [upd_ne np]; exact b.at_
  have gg : upd H pf (.frz od (.dK (flK rs))) pg = some (.lst (List.replicate rs.length .non)) := by rw [upd_ne ng]; exact b.gv
  show tLc _ _ _ _ _ _ _ _
  rw [tLc_eq]
  refine ⟨_, rfl, p, _, rfl, att_b T gp T.n_Board_floors (bl_fl _ _ _ _), pf, od, flK rs, rfl, gl, ?_⟩
  refine lc_goes (goes_items gl) (fun i => (rs[i]?).map fun r => .int r.2.2) (by rw [flK_len]; exact Nat.lt_of_le_of_lt hn (by decide)) (fun i x H1 hi s1 hx => ?_) fun D H1 hD s1 hl1 => ?_
  · obtain ⟨T0, k, v, rfl, hk, hT⟩ := hx
    obtain ⟨r, hr, rfl, rfl⟩ := flK_at hk
    rw [hr]
    refine ⟨[some (.ref p), some (.ref pg), some (.str r.2.1), some (.int r.2.2)], rfl, fun R' h => ⟨T0, _, rfl, .inl (.inl hT), rfl, _, _, rfl, _, _, rfl, rfl, h⟩, fun Q' q' => ?_, fun H2 s2 Q' q' => ⟨_, rfl, q' H2 (Same.refl _)⟩⟩
    walk_at "rd"
    refine .inl ⟨_, .inl (.inl (.inl (s1 _ _ gg))), rfl, List.all_eq_true.mpr fun x hx => by rw [(List.mem_replicate.mp hx).2]; rfl, ?_⟩
    have e : inV (.str r.2.1) (List.replicate rs.length .non) = false := by
      unfold inV
      rw [List.any_eq_false]
      intro y hy
      rw [(List.mem_replicate.mp hy).2]
      exact Bool.false_ne_true
    rw [e]
    exact q' H1 (Same.refl _)
  have nD : D ≠ pf := Ne.symm (ne_of_none gl hD)
  have fD : H D = none := by
    cases e : H D with
    | none => rfl
    | some o => rw [upd_ne nD, e] at hD; cases hD
  have s2 := lock_same s1 b.fl
  refine ⟨s1 _ _ gl, slotsOf rs, .inl (.inl ?_), fun ns' l pm so hl => q l _ ns' (s2.free hl) (s2.trans (Same.new hl)) pm so upd_same⟩
  rw [upd_ne nD, hl1, flK_len]
  congr 2
  unfold slotsOf
  rw [List.map_map]
  have e := range_list (fun r => some (V.int r.2.2)) rs
  rw [List.filterMap_eq_map'] at e
  refine Eq.trans ?_ e
  congr 1
  funext k
  cases rs[k]? <;> rfl
theorem mth_wait (T : Tx K mg A) : Mth P w K mg base 3 A.cBoard "waiting_bounds" (sp_wait A) := T.m_Board_waiting_bounds.mth sc_Board_waiting_bounds (fun hr => d_Board_waiting_bounds T.G hr) (p_wait T)
end
end K
namespace K
open PySem PySem.Spec PyProof.Rows L2 U ClX M
local macro_rules | `(tactic| walk_at "rd") => `(tactic| simp only [tSeq, tRet, tIfS, tAsg, tDrop, tNext, tNever, tRetN, tAndV, tOrV, tNotV, tAnd, tOr, tNot, tB, tTest, tChain, tCB, tCons, tNil, tVar, tC, tOp, tUn, tIf, gName, uLe, uLt, uGe, uGt, uCmp, uAdd, uSub, uMul, uDiv, uMod, uPow, uNeg, uEq, uNe, uIs, uIsNot, uIx, uIn, cIsi, cLen, cAll, cMax, cMin, cAbs, cSort, cSortD, cInt, cTuple, cRepr, cDict, cList, cSortS, tRevL, tDGet, tLstRg, tTupRg, tRg1, tRg2, sDPut, tDNewK, tAug, ipI, iZip, tLst, tTup, tPar, U.tPar3, tFn, tMkr, tMth, tFnK, tMthK, tAtt, sFld, tYes, tLc_eq, tFor_eq, iList, iStr, iRng1, iRng2, iEnum, tLenSetT, tSl, tPart, tNoPart, gTup, gCons, gNil, gSub, tBM, tBM0, List.getElem?_cons_zero, List.getElem?_cons_succ, List.set_cons_zero, List.set_cons_succ, Option.some.injEq, V.bl.injEq, V.int.injEq, V.str.injEq, V.ref.injEq, exists_eq_left', exists_eq_left, exists_eq_right, exists_eq_right', and_true, true_and, scal, if_true, Bool.false_eq_true, if_false, List.cons.injEq, exists_const, false_and, and_false, ite_true, ite_false, Bool.not_true, Bool.not_false])
section
variable {P : Program} {w : World} {K : PySem.W.Frag} {mg : Str → Option Value} {base : Heap} {A : Ads}
/-! ### how many fit -/
theorem fit_cnt {ws : List Int} (so : ws.Pairwise (· ≤ ·)) {f : Nat} {p : Nat} (hf : f ≤ ws.length) (lo : ∀ j, j < f → ∀ x, ws[j]? = some x → x ≤ (p : Int)) (hi : ∀ x, ws[f]? = some x → (p : Int) < x) : f = cntL ws p := by
  unfold cntL
  have e : ws = ws.take f ++ ws.drop f := (List.take_append_drop f ws).symm
  have e1 : (ws.take f).countP (fun x => decide (x ≤ (p : Int))) = (ws.take f).length := by
    rw [List.countP_eq_length]
    intro x hx
    obtain ⟨j, hj, e2⟩ := List.mem_iff_getElem.mp hx
    rw [List.getElem_take] at e2
    have hj' : j < f := by rw [List.length_take] at hj; omega
    exact decide_eq_true (lo j hj' x (by rw [List.getElem?_eq_getElem (by omega), e2]))
  have e2 : (ws.drop f).countP (fun x => decide (x ≤ (p : Int))) = 0 := by
    rw [List.countP_eq_zero]
    intro x hx
    obtain ⟨j, hj, e3⟩ := List.mem_iff_getElem.mp hx
    rw [List.getElem_drop] at e3
    have hj' : f + j < ws.length := by rw [List.length_drop] at hj; omega
    have h1 := hi ws[f] (List.getElem?_eq_getElem (by omega))
    have h2 : ws[f] ≤ x := by
      rw [← e3]
      by_cases c : j = 0
      · subst c; exact Int.le_refl _
      · exact List.pairwise_iff_getElem.mp so f (f + j) (by omega) hj' (by omega)
    simp only [decide_eq_true_eq]
    omega
  rw [e, List.countP_append, e1, e2, List.length_take]
  omega
theorem cnt_perm {xs ys : List Int} (p : xs.Perm ys) (n : Nat) : cntL xs n = cntL ys n := p.countP_eq _
def sp_spares (A : Ads) : Sp := fun vs H Q _ => ∃ (p dx pf pg : Addr) (rs : List Rc), vs = [.ref p, .ref pg] ∧ Bd A H p dx pf pg rs ∧ rs.length ≤ 1000 ∧ ∀ (D : Addr) (H' : Hp) (ts : List Addr), H D = none → Same H H' → ts.length = rs.length → H' D = some (.lst (ts.map V.ref)) → (∀ (i : Nat) (t : Addr), ts[i]? = some t → H' t = some (.tup [.int (i : Nat), .int (((cntL (slotsOf rs) i : Nat) : Int) - (i : Nat))])) → Q (.ref D) H'
theorem p_spares (T : Tx K mg A) : Pur N_Board_spares ps_Board_spares (t_Board_spares P w K mg base A) (sp_spares A) := by
  intro vs H Q E h
  obtain ⟨p, dx, pf, pg, rs, rfl, b, hn, q⟩ := h
  refine ⟨rfl, ?_⟩
  show t_Board_spares P w K mg base A E _ [some (.ref p), some (.ref pg), none, none, none, none, none] H
  unfold t_Board_spares
  refine seqU fun U hU => ?_
  walk_at "rd"
  refine ⟨p, _, dx, _, 3, _, rfl, b.at_, mth_wait T, by decide, bd_no (by decide +kernel) (by decide +kernel) (by decide +kernel) (by decide +kernel), p, dx, pf, pg, rs, rfl, b, hn, fun pw H1 ws hpw s1 pm so gw => ?_⟩
  rw [hU]
  clear hU
  have wl : ws.length = rs.length := by rw [pm.length_eq]; unfold slotsOf; rw [List.length_map]
  refine seqU fun U hU => ?_
  walk_at "rd"
  refine ⟨by decide, fun F hF => ⟨_, _, ⟨rfl, rfl⟩, ?_⟩⟩
  rw [hU]
  clear hU
  have s2 := Same.new (o := .lst []) hF
  have gF := upd_same (H := H1) (a := F) (o := .lst [])
  generalize upd H1 F (.lst []) = H2 at s2 gF
  have b2 := (b.same s1).same s2
  refine seqU fun U hU => ?_
  walk_at "rd"
  refine ⟨p, _, dx, _, 4, _, rfl, b2.at_, mth_free T, by decide, bd_no (by decide +kernel) (by decide +kernel) (by decide +kernel) (by decide +kernel), p, dx, pf, pg, rs, rfl, b2, hn, fun pp H3 hpp s3 gp => ?_⟩
  refine ⟨_, _, rfl, .inl (.inl gp), ?_⟩
  have S3 : Same H1 H3 := s2.trans s3
  refine for_enum (K := K) (a := pp) (xs := ((List.range rs.length).map Int.ofNat).map V.int) (fun i σ G => ∃ (ts : List Addr) (f : Nat) (v5 v6 : Option V), σ = [some (.ref p), some (.ref pg), some (.ref pw), some (.ref F), some (.int f), v5, v6] ∧ Same H1 G ∧ G pp = some (.lst (((List.range rs.length).map Int.ofNat).map V.int)) ∧ ts.length = i ∧ G F = some (.lst (ts.map V.ref)) ∧ (∀ (j : Nat) (t : Addr), ts[j]? = some t → t ≠ F ∧ G t = some (.tup [.int (j : Nat), .int (((cntL (slotsOf rs) j : Nat) : Int) - (j : Nat))])) ∧ f ≤ ws.length ∧ ∀ j, j < f → ∀ x, ws[j]? = some x → x ≤ (i : Int)) ⟨[], 0, _, _, rfl, S3, gp, rfl, s3 _ _ gF, (fun j t h => by simp at h), Nat.zero_le _, (fun j h => by omega)⟩ (fun i σ G _ ⟨_, _, _, _, _, _, h, _⟩ => .inl (.inl h)) ?_ ?_
  · rintro i x t σ G ht hx ⟨ts, f, v5, v6, rfl, sG, gpG, tl, gFG, tups, fl, low⟩
    have hi : i < rs.length := by have := (List.getElem?_eq_some_iff.mp hx).1; simpa using this
    have hxi : x = .int (i : Nat) := by
      rw [List.getElem?_map, List.getElem?_map, List.getElem?_range hi] at hx
      exact (Option.some.inj hx).symm
    subst hxi
    have u1 := Same.new (o := .tup [.int (i : Nat), .int (i : Nat)]) ht
    refine ⟨t, _, rfl, .inl (.inl upd_same), rfl, _, _, rfl, _, _, rfl, rfl, ?_⟩
    have nFp : F ≠ pp := fun e => by rw [← e] at hpp; rw [gF] at hpp; cases hpp
    have sG1 := sG.trans u1
    have gp1 := u1 _ _ gpG
    have gF1 := u1 _ _ gFG
    have tups1 : ∀ (j : Nat) (t : Addr), ts[j]? = some t → t ≠ F ∧ upd G t (.tup [.int (i : Nat), .int (i : Nat)]) t = upd G t (.tup [.int (i : Nat), .int (i : Nat)]) t := fun j t h => ⟨(tups j t h).1, rfl⟩
    have tups2 := fun (j : Nat) (t' : Addr) (h : ts[j]? = some t') => And.intro (tups j t' h).1 (u1 _ _ (tups j t' h).2)
    generalize upd G t (.tup [.int (i : Nat), .int (i : Nat)]) = G1 at sG1 gp1 gF1 tups2
    refine seqU fun U2 hU2 => ?_
    refine ⟨fun μ σ G' => ∃ f' : Nat, μ = ws.length - f' ∧ G' = G1 ∧ σ = [some (.ref p), some (.ref pg), some (.ref pw), some (.ref F), some (.int f'), some (.int (i : Nat)), some (.int (i : Nat))] ∧ f' ≤ ws.length ∧ ∀ j, j < f' → ∀ x, ws[j]? = some x → x ≤ (i : Int), ⟨_, f, rfl, rfl, rfl, fl, fun j hj x hx => low j hj x hx⟩, ?_⟩
    rintro μ σ G' ⟨f', rfl, rfl, rfl, fl', low'⟩
    have gw1 := sG1 _ _ gw
    walk_at "rd"
    refine ⟨_, .inl (.inl (.inl gw1)), ?_⟩
    rw [List.length_map]
    have fin : (∀ x, ws[f']? = some x → (i : Int) < x) → U2 [some (.ref p), some (.ref pg), some (.ref pw), some (.ref F), some (.int f'), some (.int (i : Nat)), some (.int (i : Nat))] G' := by
      intro hi'
      have ef := fit_cnt so fl' low' hi'
      rw [cnt_perm pm] at ef
      rw [hU2]
      clear hU2
      walk_at "rd"
      refine ⟨.inl ⟨rfl, _, .inl (.inl gF1)⟩, (by show 2 ≤ sizeLine; decide), fun p2 hp2 => ?_⟩
      have u2 := Same.new (o := .tup [.int (i : Nat), .int ((f' : Int) - (i : Nat))]) hp2
      have n2 : p2 ≠ F := Ne.symm (ne_of_none gF1 hp2)
      refine ⟨F, ts.map V.ref, _, rfl, rfl, u2 _ _ gF1, Nat.lt_of_le_of_lt (by rw [List.length_map]; omega : _ ≤ 1000) (by decide), ts ++ [p2], f', _, _, ⟨rfl, rfl, rfl⟩, (sG1.trans u2).mut hF, ?_, by simp [tl], ?_, fun j t' h => ?_, fl', fun j hj x hx => ?_⟩
      · rw [upd_ne (Ne.symm nFp)]; exact u2 _ _ gp1
      · rw [upd_same, List.map_append]; rfl
      · by_cases c : j < ts.length
        · rw [List.getElem?_append_left c] at h
          obtain ⟨z1, z2⟩ := tups2 j t' h
          exact ⟨z1, by rw [upd_ne z1]; exact u2 _ _ z2⟩
        · rw [List.getElem?_append_right (by omega)] at h
          by_cases e : j = ts.length
          · rw [show j - ts.length = 0 by omega] at h
            simp at h
            subst h
            refine ⟨n2, ?_⟩
            rw [upd_ne n2, upd_same, e, tl, ← ef]
          · rw [List.getElem?_eq_none (by simp; omega)] at h
            cases h
      · have := low' j hj x hx
        push_cast
        omega
    by_cases c1 : f' < ws.length
    · rw [if_pos (decide_eq_true (show (f' : Int) < (ws.length : Nat) by omega))]
      refine ⟨_, _, .inl (.inl (.inl gw1)), at_of (j := f') rfl (by rw [List.getElem?_map, List.getElem?_eq_getElem c1]; rfl), ?_⟩
      show if _ then _ else _
      by_cases c2 : ws[f'] ≤ (i : Int)
      · rw [if_pos (decide_eq_true c2)]
        refine ⟨fun σ' H' => ∃ m', m' < ws.length - f' ∧ ∃ f'' : Nat, m' = ws.length - f'' ∧ H' = G' ∧ σ' = [some (.ref p), some (.ref pg), some (.ref pw), some (.ref F), some (.int f''), some (.int (i : Nat)), some (.int (i : Nat))] ∧ f'' ≤ ws.length ∧ ∀ j, j < f'' → ∀ x, ws[j]? = some x → x ≤ (i : Int), fun _ _ h => h, ?_⟩
        refine ⟨_, _, rfl, rfl, ?_⟩
        refine ⟨ws.length - (f' + 1), by omega, f' + 1, rfl, rfl, ?_, by omega, fun j hj x hx => ?_⟩
        · push_cast; rfl
        · by_cases e : j = f'
          · subst e
            rw [List.getElem?_eq_getElem c1] at hx
            obtain rfl := Option.some.inj hx
            exact c2
          · exact low' j (by omega) x hx
      · rw [if_neg (by simpa using c2)]
        refine fin fun x hx => ?_
        rw [List.getElem?_eq_getElem c1] at hx
        obtain rfl := Option.some.inj hx
        omega
    · rw [if_neg (by simp only [decide_eq_true_eq]; omega)]
      refine fin fun x hx => ?_
      rw [List.getElem?_eq_none (by omega)] at hx
      cases hx
  · rintro σ G ⟨ts, f, v5, v6, rfl, sG, gpG, tl, gFG, tups, fl, low⟩
    show U _ _
    rw [hU]
    clear hU
    walk_at "rd"
    simp only [List.length_map, List.length_range] at tl
    exact q F G ts (s1.free hF) (s1.trans sG) tl gFG fun i t h => (tups i t h).2
theorem mth_spares (T : Tx K mg A) : Mth P w K mg base 5 A.cBoard "spares" (sp_spares A) := T.m_Board_spares.mth sc_Board_spares (fun hr => d_Board_spares T.G hr) (p_spares T)
/-! ### count -/
def sp_board_of (A : Ads) : Sp := fun vs H Q _ => ∃ (l : Addr) (as : List Addr) (rs : List Rc), vs = [.ref l, .non] ∧ Book A H l as rs ∧ isLog rs = true ∧ (rs.map fun r => r.2.1).Nodup ∧ (∀ r ∈ rs, r.1 < 2) ∧ ∀ p dx pf pg H', H p = none → Same H H' → Bd A H' p dx pf pg rs → Q (.ref p) H'
theorem p_board_of (T : Tx K mg A) : Pur N_board_of ps_board_of (t_board_of P w K mg base A) (sp_board_of A) := by
  intro vs H Q E h
  obtain ⟨l, as, rs, rfl, b, lg, nd, h2, q⟩ := h
  refine ⟨rfl, ?_⟩
  have h40 := log_40 lg
  show t_board_of P w K mg base A E _ [some (.ref l), some .non] H
  unfold t_board_of
  walk_at "rd"
  refine ⟨5, _, fn_need_log T, by decide, l, as, rs, rfl, b, lg, fun r hr => Nat.lt_succ_of_lt (h2 r hr), fun H1 s1 => ?_⟩
  refine ⟨3, _, fn_need_seen T, by decide, l, rfl, ?_⟩
  refine ⟨4, _, _, mkr_board T, by decide, fun p dx hp hdx ne => ?_⟩
  have s3 : Same H1 (upd (upd H1 dx (.own p)) p (.ins A.cBoard dx [])) := fun b o e => by rw [upd_ne (ne_of_none e hp), upd_ne (ne_of_none e hdx)]; exact e
  refine ⟨p, dx, l, as, rs, rfl, upd_same, (b.same s1).same s3, by omega, nd, h2, fun H' pf pg bt bd => ⟨rfl, q p dx pf pg H' (s1.free hp) (fun b o e => ?_) bd⟩⟩
  have e2 := s1 _ _ e
  exact bt b o (ne_of_none e2 hp) (s3 _ _ e2)
theorem fn_board_of (T : Tx K mg A) : Fn P w K mg base 6 "board_of" (sp_board_of A) := T.f_board_of.fn sc_board_of (fun hr => d_board_of T.G hr) (p_board_of T)
def sp_count_filled (A : Ads) : Sp := fun vs H Q _ => ∃ (p dx pf pg : Addr) (rs : List Rc), vs = [.ref p, .ref pg] ∧ Bd A H p dx pf pg rs ∧ rs.length ≤ 1000 ∧ (∀ r ∈ rs, 0 ≤ r.2.2) ∧ ∀ H', Same H H' → Q (.int (prodP (slotsOf rs) rs.length)) H'
theorem cnt_le (ms : List Int) (n : Nat) : cntL ms n ≤ ms.length := List.countP_le_length
theorem p_count_filled (T : Tx K mg A) : Pur N_count_filled ps_count_filled (t_count_filled P w K mg base A) (sp_count_filled A) := by
  intro vs H Q E h
  obtain ⟨p, dx, pf, pg, rs, rfl, b, hn, h0, q⟩ := h
  refine ⟨rfl, ?_⟩
  show t_count_filled P w K mg base A E _ [some (.ref p), some (.ref pg), none, none, none] H
  unfold t_count_filled
  refine seqU fun U hU => ?_
  walk_at "rd"
  refine ⟨p, _, dx, _, 3, _, rfl, b.at_, mth_far T, by decide, bd_no (by decide +kernel) (by decide +kernel) (by decide +kernel) (by decide +kernel), p, dx, pf, pg, rs, rfl, b, hn, h0, fun D1 H1 hD1 s1 g1 => ⟨by decide, fun p2 hp2 => ?_⟩⟩
  have u2 := Same.new (o := .lst []) hp2
  refine .inl ⟨.list [], .list [], .lst (.inl (.inl (u2 _ _ g1))) .nil, .lst (.inl (.inl upd_same)) .nil, rfl, rfl, false, rfl, ?_⟩
  rw [if_neg (by decide)]
  have b2 := (b.same s1).same u2
  have S2 := s1.trans u2
  generalize upd H1 p2 (.lst []) = H2 at b2 S2
  refine ⟨p, _, dx, _, 4, _, rfl, b2.at_, mth_wrongp T, by decide, bd_no (by decide +kernel) (by decide +kernel) (by decide +kernel) (by decide +kernel), p, pg, rs.length, rfl, b2.gv, hn, fun D3 H3 hD3 s3 g3 => ⟨by decide, fun p4 hp4 => ?_⟩⟩
  have u4 := Same.new (o := .lst []) hp4
  refine .inl ⟨.list [], .list [], .lst (.inl (.inl (u4 _ _ g3))) .nil, .lst (.inl (.inl upd_same)) .nil, rfl, rfl, false, rfl, ?_⟩
  rw [if_neg (by decide)]
  have b4 := (b2.same s3).same u4
  have S4 := S2.trans (s3.trans u4)
  generalize upd H3 p4 (.lst []) = H4 at b4 S4
  show U _ _
  rw [hU]
  clear hU
  refine seqU fun U hU => ?_
  walk_at "rd"
  rw [hU]
  clear hU
  refine seqU fun U hU => ?_
  walk_at "rd"
  refine ⟨p, _, dx, _, 5, _, rfl, b4.at_, mth_spares T, by decide, bd_no (by decide +kernel) (by decide +kernel) (by decide +kernel) (by decide +kernel), p, dx, pf, pg, rs, rfl, b4, hn, fun D5 H5 ts hD5 s5 tl g5 tups => ?_⟩
  refine ⟨D5, rfl, ⟨_, .inl (.inl g5)⟩, ?_⟩
  have sll : (slotsOf rs).length = rs.length := List.length_map _
  refine for_list (K := K) (a := D5) (xs := ts.map V.ref) (fun i σ G => ∃ v3 v4, σ = [some (.ref p), some (.ref pg), some (.int (prodP (slotsOf rs) i)), v3, v4] ∧ G = H5) ⟨_, _, rfl, rfl⟩ (fun i σ G _ ⟨_, _, _, e⟩ => by rw [e]; exact .inl (.inl g5)) ?_ ?_
  · rintro i x σ G hx ⟨v3, v4, rfl, rfl⟩
    rw [List.getElem?_map] at hx
    cases e : ts[i]? with
    | none => rw [e] at hx; cases hx
    | some t =>
    rw [e] at hx
    obtain rfl := (Option.some.inj hx).symm
    have ht := tups i t e
    refine ⟨t, _, rfl, .inl (.inl ht), rfl, _, _, rfl, _, _, rfl, rfl, ?_⟩
    walk_at "rd"
    have := cnt_le (slotsOf rs) i
    exact ⟨_, _, rfl, rfl, .inr ⟨by split <;> omega, by split <;> omega⟩, _, _, ⟨rfl, rfl, rfl⟩, rfl⟩
  · rintro σ G ⟨v3, v4, rfl, rfl⟩
    show U _ _
    rw [hU]
    clear hU
    walk_at "rd"
    rw [List.length_map, tl]
    exact q G (S4.trans s5)
theorem fn_count_filled (T : Tx K mg A) : Fn P w K mg base 6 "count_filled" (sp_count_filled A) := T.f_count_filled.fn sc_count_filled (fun hr => d_count_filled T.G hr) (p_count_filled T)
def sp_count2 (A : Ads) : Sp := fun vs H Q _ => ∃ (l : Addr) (as : List Addr) (rs : List Rc), vs = [.ref l, .non] ∧ Book A H l as rs ∧ isLog rs = true ∧ (rs.map fun r => r.2.1).Nodup ∧ (∀ r ∈ rs, r.1 < 2) ∧ (∀ r ∈ rs, 0 ≤ r.2.2) ∧ ∀ H', Same H H' → Q (.int (prodP (slotsOf rs) rs.length)) H'
def sp_count (A : Ads) : Sp := fun vs H Q _ => ∃ (l : Addr) (as : List Addr) (rs : List Rc), vs = [.ref l] ∧ Book A H l as rs ∧ isLog rs = true ∧ (rs.map fun r => r.2.1).Nodup ∧ (∀ r ∈ rs, r.1 < 2) ∧ (∀ r ∈ rs, 0 ≤ r.2.2) ∧ ∀ H', Same H H' → Q (.int (prodP (slotsOf rs) rs.length)) H'
theorem p_count (T : Tx K mg A) : Pur N_count ps_count (t_count P w K mg base A) (sp_count2 A) := by
  intro vs H Q E h
  obtain ⟨l, as, rs, rfl, b, lg, nd, h2, h0, q⟩ := h
  refine ⟨rfl, ?_⟩
  have h40 := log_40 lg
  show t_count P w K mg base A E _ [some (.ref l), some .non, none] H
  unfold t_count
  walk_at "rd"
  refine ⟨6, _, fn_board_of T, by decide, l, as, rs, rfl, b, lg, nd, h2, fun p dx pf pg H1 hp s1 bd => ?_⟩
  exact ⟨6, _, fn_count_filled T, by decide, p, _, rfl, att_b T bd.at_ T.n_Board_given (bl_gv _ _ _ _ _), p, dx, pf, pg, rs, rfl, bd, by omega, h0, fun H2 s2 => q H2 (s1.trans s2)⟩
theorem fn_count (T : Tx K mg A) : Fn P w K mg base 7 "count" (sp_count A) := T.f_count.fn sc_count (fun hr => d_count T.G hr) (p_count T) fun vs H Q E h => by
  obtain ⟨l, as, rs, rfl, h⟩ := h
  exact ⟨l, as, rs, rfl, h⟩
end
end K
namespace K
open PySem PySem.Spec PyProof.Rows L2 U ClX M
local macro_rules | `(tactic| walk_at "rd") => `(tactic| simp only [tSeq, tRet, tIfS, tAsg, tDrop, tNext, tNever, tRetN, tAndV, tOrV, tNotV, tAnd, tOr, tNot, tB, tTest, tChain, tCB, tCons, tNil, tVar, tC, tOp, tUn, tIf, gName, uLe, uLt, uGe, uGt, uCmp, uAdd, uSub, uMul, uDiv, uMod, uPow, uNeg, uEq, uNe, uIs, uIsNot, uIx, uIn, cIsi, cLen, cAll, cMax, cMin, cAbs, cSort, cSortD, cInt, cTuple, cRepr, cDict, cList, cSortS, tRevL, tDGet, tLstRg, tTupRg, tRg1, tRg2, sDPut, tDNewK, tAug, ipI, iZip, tLst, tTup, tPar, U.tPar3, tFn, tMkr, tMth, tFnK, tMthK, tAtt, sFld, tYes, tLc_eq, tFor_eq, iList, iStr, iRng1, iRng2, iEnum, tLenSetT, tSl, tPart, tNoPart, gTup, gCons, gNil, gSub, tBM, tBM0, List.getElem?_cons_zero, List.getElem?_cons_succ, List.set_cons_zero, List.set_cons_succ, Option.some.injEq, V.bl.injEq, V.int.injEq, V.str.injEq, V.ref.injEq, exists_eq_left', exists_eq_left, exists_eq_right, exists_eq_right', and_true, true_and, scal, if_true, Bool.false_eq_true, if_false, List.cons.injEq, exists_const, false_and, and_false, ite_true, ite_false, Bool.not_true, Bool.not_false])
section
variable {P : Program} {w : World} {K : PySem.W.Frag} {mg : Str → Option Value} {base : Heap} {A : Ads}
theorem Book.append {H : Hp} {l1 l2 p : Addr} {as bs : List Addr} {rs qs : List Rc} (b1 : Book A H l1 as rs) (b2 : Book A H l2 bs qs) (h : H p = some (.lst (as.map V.ref ++ bs.map V.ref))) : Book A H p (as ++ bs) (rs ++ qs) := by
  refine ⟨by rw [h, List.map_append], by simp [b1.len, b2.len], fun i a r h1 h2 => ?_⟩
  have l1 := b1.len
  by_cases c : i < as.length
  · rw [List.getElem?_append_left c] at h1
    rw [List.getElem?_append_left (by omega)] at h2
    exact b1.at_ i a r h1 h2
  · rw [List.getElem?_append_right (by omega)] at h1
    rw [List.getElem?_append_right (by omega)] at h2
    exact b2.at_ (i - as.length) a r h1 (by rw [l1]; exact h2)
theorem Book.take {H : Hp} {l p : Addr} {as : List Addr} {rs : List Rc} (b : Book A H l as rs) (n : Nat) (h : H p = some (.lst ((as.map V.ref).take n))) : Book A H p (as.take n) (rs.take n) := by
  refine ⟨by rw [h, List.map_take], by simp [b.len], fun i a r h1 h2 => ?_⟩
  rw [List.getElem?_take] at h1 h2
  split at h1
  · rename_i c
    rw [if_pos c] at h2
    exact b.at_ i a r h1 h2
  · cases h1
/-- a record at an address that X does not know -/
def RcN (A : Ads) (X H : Hp) (y : V) (r : Rc) : Prop := ∃ a, y = .ref a ∧ X a = none ∧ Rec A H a r.1 r.2.1 r.2.2
theorem rel_bookN {X H : Hp} {l : Addr} {xs : List V} {rs : List Rc} (h : H l = some (.lst xs)) (r : Rel2 (RcN A X H) xs rs) : ∃ as, Book A H l as rs ∧ ∀ a ∈ as, X a = none := by
  obtain ⟨as, b⟩ := rel_book h (r.imp fun y r ⟨a, e, _, h⟩ => ⟨a, e, h⟩)
  refine ⟨as, b, fun a ha => ?_⟩
  obtain ⟨i, hi, e⟩ := List.mem_iff_getElem.mp ha
  have hx : xs[i]? = some (.ref a) := by
    have := b.lst
    rw [h] at this
    cases this
    rw [List.getElem?_map, List.getElem?_eq_getElem hi, e]; rfl
  obtain ⟨a', e', n, _⟩ := r.at_ i _ _ hx (List.getElem?_eq_getElem (by rw [← b.len]; exact hi))
  cases e'
  exact n
def nmA : List Str := (List.range 26).map fun i => (⟨#[97, 98, 99, 100, 120, 121, 97 + i]⟩ : Str)
def nmB : List Str := (List.range 26).map fun i => (⟨#[98, 99, 100, 101, 120, 121, 97 + i]⟩ : Str)
theorem nm_nd : (nmA ++ nmB).Nodup := by decide +kernel
theorem nm_it : ∀ z ∈ nmA ++ nmB, isItem z = true := by decide +kernel
theorem nm_out : ∀ z ∈ nmA ++ nmB, z ∉ pool0 := by decide +kernel
/-- [made(kind, head + sign, 0) for sign in letters] -/
theorem lc_more (T : Tx K mg A) {X H1 : Hp} {kd : Nat} (hk : kd < 3) {hd : Str} {nm : List Str} {σ : L2.St} {Q : VK} (hσ : ∃ a0 a2 a3 a4 a5 a6 a7 a8 a9 a10 a11 a12 a13 a14 a15, σ = [a0, some (.int kd), a2, a3, a4, a5, a6, a7, a8, a9, a10, a11, a12, a13, a14, a15]) (sX : Same X H1) (hl : hd.length ≤ 100) (en : nm = ("abcdefghijklmnopqrstuvwxyz" : Str).cps.toList.map fun c => hd ++ ⟨#[c]⟩) (it : ∀ z ∈ nm, isItem z = true)
    (hq : ∀ D as H', H1 D = none → Same H1 H' → Book A H' D as (nm.map fun z => ((kd, z, 0) : Rc)) → (∀ a ∈ as, X a = none) → Q (.ref D) H') :
    LcB (Its "abcdefghijklmnopqrstuvwxyz") (gName 15) tYes (tFn P w K mg base "_law_made" 7 E0 (tCons (tVar 1) (tCons (tOp uAdd (tC (.str hd)) (tVar 15)) (tCons (tC (.int 0)) (tNil))))) [15] σ H1 Q := by
  obtain ⟨a0, a2, a3, a4, a5, a6, a7, a8, a9, a10, a11, a12, a13, a14, a15, rfl⟩ := hσ
  have n26 : ("abcdefghijklmnopqrstuvwxyz" : Str).cps.toList.length = 26 := by decide +kernel
  have nl : nm.length = 26 := by rw [en, List.length_map, n26]
  refine lc_rel (Rl := RcN A X) (fun _ _ _ _ s ⟨a, e, n, r⟩ => ⟨a, e, n, r.same s⟩) goes_str (fun i => (nm[i]?).map fun z => ((kd, z, 0) : Rc)) (by decide +kernel) (fun i x G D hi s hx hD hacc => ?_) fun D G xs hD s hy ry => ?_
  · obtain ⟨c, hc, rfl⟩ := hx
    have ec : nm[i]? = some (hd ++ ⟨#[c]⟩) := by rw [en, List.getElem?_map, Array.getElem?_toList, hc]; rfl
    rw [ec]
    obtain ⟨acc, hacc⟩ := hacc
    refine ⟨[a0, some (.int kd), a2, a3, a4, a5, a6, a7, a8, a9, a10, a11, a12, a13, a14, some (.str ⟨#[c]⟩)], rfl, fun R' h => h, Evt.yes, fun G2 s2 Q' q' => ?_⟩
    walk_at "rd"
    refine ⟨5, _, fn_made T, by decide, Nat.le_trans (Nat.add_le_add hl (show (⟨#[c]⟩ : Str).length ≤ 1 from Nat.le_refl _)) (by decide), kd, _, 0, rfl, hk, it _ (List.mem_of_getElem? ec), by decide, by decide, fun p G3 hp s3 r3 => q' _ _ s3 ⟨p, rfl, ((sX.trans s).trans s2).free hp, ?_⟩⟩
    obtain ⟨hk, dx2, h2⟩ := r3
    exact ⟨hk, dx2, hide_get h2 (Ne.symm (ne_of_none (s2 _ _ hacc) hp))⟩
  · have e2 : (List.range ("abcdefghijklmnopqrstuvwxyz" : Str).cps.size).filterMap (fun i => (nm[i]?).map fun z => ((kd, z, 0) : Rc)) = nm.map fun z => ((kd, z, 0) : Rc) := by
      have e := range_list (fun z => some ((kd, z, 0) : Rc)) nm
      rw [List.filterMap_eq_map', nl] at e
      refine Eq.trans ?_ e
      have e26 : ("abcdefghijklmnopqrstuvwxyz" : Str).cps.size = 26 := by decide +kernel
      rw [e26]
      congr 1
      funext k
      cases nm[k]? <;> rfl
    rw [e2] at ry
    obtain ⟨as, b, fr⟩ := rel_bookN hy (ry.imp fun y r ⟨a, e, n, h⟩ => ⟨a, e, n, h.same hide_same⟩)
    exact hq D as G hD s b fr
/-- records of the kind k with items zs and indices ms from a zip -/
theorem lc_zip (T : Tx K mg A) {H1 : Hp} {kd : Nat} (hk : kd < 3) {tk : TE} {pz pm : Addr} {zs : List Str} {ms : List Int} {a0 a1 a4 a5 a6 a7 a8 a9 a10 a11 a12 a15 : Option V} {Q : VK} (htk : ∀ σ H Q, σ[1]? = some a1 → Q (.int kd) H → tk σ H Q) (hz : H1 pz = some (.lst (zs.map V.str))) (hm : H1 pm = some (.lst (ms.map V.int))) (hl : zs.length = ms.length) (h40 : ms.length ≤ 40) (it : ∀ z ∈ zs, isItem z = true) (ok : ∀ m ∈ ms, 0 ≤ m ∧ m ≤ 60)
    (hq : ∀ D as H', H1 D = none → Same H1 H' → Book A H' D as (recs kd zs ms) → Q (.ref D) H') :
    LcB (Itz K pz pm) (gTup K 2 (gCons (gName 13) (gCons (gName 14) (gNil)))) tYes (tFn P w K mg base "_law_made" 7 E0 (tCons tk (tCons (tVar 13) (tCons (tVar 14) (tNil))))) [13, 14] [a0, a1, some (.ref pm), some (.ref pz), a4, a5, a6, a7, a8, a9, a10, a11, a12, none, none, a15] H1 Q := by
  refine lc_rel (Rl := RcV A) (fun _ _ _ _ s ⟨a, e, r⟩ => ⟨a, e, r.same s⟩) (goes_zip (.inl (.inl hz)) (.inl (.inl hm)) (by simp [hl])) (fun i => (recs kd zs ms)[i]?) (by rw [List.length_map, hl]; exact Nat.lt_of_le_of_lt h40 (by decide)) (fun i x G D hi s hx hD hacc => ?_) fun D G xs hD s hy ry => ?_
  · obtain ⟨T0, u, v, rfl, hu, hv, hT⟩ := hx
    rw [List.length_map] at hi
    rw [List.getElem?_map, List.getElem?_eq_getElem hi] at hu
    rw [List.getElem?_map, List.getElem?_eq_getElem (show i < ms.length by omega)] at hv
    obtain rfl := (Option.some.inj hu).symm
    obtain rfl := (Option.some.inj hv).symm
    have er : (recs kd zs ms)[i]? = some (kd, zs[i], ms[i]) := by
      unfold recs
      have e : (zs.zip ms)[i]? = some (zs[i], ms[i]) := List.getElem?_zip_eq_some.mpr ⟨List.getElem?_eq_getElem hi, List.getElem?_eq_getElem (show i < ms.length by omega)⟩
      rw [List.getElem?_map, e]
      rfl
    rw [er]
    obtain ⟨acc, hacc⟩ := hacc
    refine ⟨[a0, a1, some (.ref pm), some (.ref pz), a4, a5, a6, a7, a8, a9, a10, a11, a12, some (.str zs[i]), some (.int ms[i]), a15], rfl, fun R' h => ⟨T0, _, rfl, .inl (.inl hT), rfl, _, _, rfl, _, _, rfl, rfl, h⟩, Evt.yes, fun G2 s2 Q' q' => ?_⟩
    have lo := ok ms[i] (List.getElem_mem _)
    refine ⟨5, _, fn_made T, by decide, htk _ _ _ rfl ⟨_, rfl, _, rfl, kd, _, _, rfl, hk, it _ (List.getElem_mem hi), lo.1, lo.2, fun p G3 hp s3 r3 => q' _ _ s3 ⟨p, rfl, ?_⟩⟩⟩
    obtain ⟨hk, dx2, h2⟩ := r3
    exact ⟨hk, dx2, hide_get h2 (Ne.symm (ne_of_none (s2 _ _ hacc) hp))⟩
  · have e2 : (List.range (zs.map V.str).length).filterMap (fun i => (recs kd zs ms)[i]?) = recs kd zs ms := by
      have e := range_list (fun r => some r) (recs kd zs ms)
      rw [List.filterMap_some] at e
      have el : (zs.map V.str).length = (recs kd zs ms).length := by simp [recs, hl]
      rw [el]
      refine Eq.trans ?_ e
      congr 1
      funext k
      cases (recs kd zs ms)[k]? <;> rfl
    rw [e2] at ry
    obtain ⟨as, b⟩ := rel_book hy (ry.imp fun y r ⟨a, e, h⟩ => ⟨a, e, h.same hide_same⟩)
    exact hq D as G hD s b
theorem slots_recs {kd : Nat} {zs : List Str} {ms : List Int} (hl : zs.length = ms.length) : slotsOf (recs kd zs ms) = ms := by
  unfold slotsOf recs
  rw [List.map_map]
  exact List.map_snd_zip (by omega)
theorem items_recs {kd : Nat} {zs : List Str} {ms : List Int} (hl : zs.length = ms.length) : (recs kd zs ms).map (fun r => r.2.1) = zs := by
  unfold recs
  rw [List.map_map]
  exact List.map_fst_zip (by omega)
theorem slots_app (rs qs : List Rc) : slotsOf (rs ++ qs) = slotsOf rs ++ slotsOf qs := List.map_append
theorem slots_up (rs : List Rc) (h : Nat) : slotsOf (upTo rs h) = (slotsOf rs).filter fun x => decide (x ≤ (h : Int)) := by
  unfold slotsOf upTo
  rw [List.filter_map]
  rfl
/-- what count says of a log that grows -/
structure Grows (kd : Nat) (rs : List Rc) : Prop where
  kind : ∀ r ∈ rs, r.1 = kd
  nd : (rs.map fun r => r.2.1).Nodup
  few : rs.length ≤ 40
  ok : ∀ r ∈ rs, RcOk r
theorem Grows.log {kd : Nat} {rs : List Rc} (g : Grows kd rs) : isLog rs = true := isLog_of g.kind g.nd g.few
/-- count(..) as one step -/
theorem count_ok {kd : Nat} (hk : kd < 2) {H : Hp} {l : Addr} {as : List Addr} {rs : List Rc} {Q : VK} {E : XK} (b : Book A H l as rs) (g : Grows kd rs) (q : ∀ (v : Int) H', Same H H' → (v = 0 ↔ ¬ CF 0 (slotsOf rs)) → Q (.int v) H') : sp_count A [.ref l] H Q E :=
  ⟨l, as, rs, rfl, b, g.log, g.nd, fun r hr => by rw [g.kind r hr]; exact hk, fun r hr => (g.ok r hr).2.1, fun H' s => q _ H' s (by have := prod_cf (slotsOf rs); rwa [show (slotsOf rs).length = rs.length from List.length_map _] at this)⟩
end
end K
namespace K
open PySem PySem.Spec PyProof.Rows L2 U ClX M
local macro_rules | `(tactic| walk_at "rd") => `(tactic| simp only [tSeq, tRet, tIfS, tAsg, tDrop, tNext, tNever, tRetN, tAndV, tOrV, tNotV, tAnd, tOr, tNot, tB, tTest, tChain, tCB, tCons, tNil, tVar, tC, tOp, tUn, tIf, gName, uLe, uLt, uGe, uGt, uCmp, uAdd, uSub, uMul, uDiv, uMod, uPow, uNeg, uEq, uNe, uIs, uIsNot, uIx, uIn, cIsi, cLen, cAll, cMax, cMin, cAbs, cSort, cSortD, cInt, cTuple, cRepr, cDict, cList, cSortS, tRevL, tDGet, tLstRg, tTupRg, tRg1, tRg2, sDPut, tDNewK, tAug, ipI, iZip, tLst, tTup, tPar, U.tPar3, tFn, tMkr, tMth, tFnK, tMthK, tAtt, sFld, tYes, tLc_eq, tFor_eq, iList, iStr, iRng1, iRng2, iEnum, tLenSetT, tSl, tPart, tNoPart, gTup, gCons, gNil, gSub, tBM, tBM0, List.getElem?_cons_zero, List.getElem?_cons_succ, List.set_cons_zero, List.set_cons_succ, Option.some.injEq, V.bl.injEq, V.int.injEq, V.str.injEq, V.ref.injEq, exists_eq_left', exists_eq_left, exists_eq_right, exists_eq_right', and_true, true_and, scal, if_true, Bool.false_eq_true, if_false, List.cons.injEq, exists_const, false_and, and_false, ite_true, ite_false, Bool.not_true, Bool.not_false])
section
variable {P : Program} {w : World} {K : PySem.W.Frag} {mg : Str → Option Value} {base : Heap} {A : Ads}
def dS (zs : List Str) : PyData := .list (zs.map .str)
theorem dp_dS {H : Hp} {a : Addr} {zs : List Str} (h : SqL K H a (zs.map V.str)) : Dp K H (.ref a) (dS zs) := .lst h (dpa_map zs fun x _ => .str x)
theorem item_ok {z : Str} (h : isItem z = true) : PyData.strOk z = true := by
  unfold isItem at h
  simp only [Bool.and_eq_true, List.all_eq_true, decide_eq_true_eq] at h
  unfold PyData.strOk
  rw [← Array.all_toList, List.all_eq_true]
  intro c hc
  have := h.2 c hc
  exact decide_eq_true (by omega)
theorem dS_ok {zs : List Str} (h : ∀ z ∈ zs, isItem z = true) : okD 1 (dS zs) := okD.list fun d hd => by
  obtain ⟨z, hz, rfl⟩ := List.mem_map.mp hd
  exact okD.str (item_ok (h z hz))
theorem up_items {k : Nat} {zs : List Str} {ms : List Int} (h : Nat) : (upTo (recs k zs ms) h).map (fun r => r.2.1) = ((zs.zip ms).filter fun p => decide (p.2 ≤ (h : Int))).map (·.1) := by
  unfold upTo recs
  rw [List.filter_map, List.map_map]
  rfl
/-- records that may be moved -/
theorem pick_slots {G : Hp} {kd : Nat} {L : Int → Prop} : ∀ (as : List Addr) (zs : List Str), as.length = zs.length → (∀ (i : Nat) (a : Addr) (z : Str), as[i]? = some a → zs[i]? = some z → ∃ m, L m ∧ Rec A G a kd z m) →
    ∃ ms : List Int, ms.length = zs.length ∧ (∀ m ∈ ms, L m) ∧ ∀ (i : Nat) (a : Addr) (r : Rc), as[i]? = some a → (recs kd zs ms)[i]? = some r → Rec A G a r.1 r.2.1 r.2.2
  | [], [], _, _ => ⟨[], rfl, (fun _ h => nomatch h), fun i a r h => by simp at h⟩
  | a :: as, z :: zs, hl, h => by
    obtain ⟨m, hm, hr⟩ := h 0 a z rfl rfl
    obtain ⟨ms, h1, h2, h3⟩ := pick_slots as zs (by simpa using hl) fun i a z e1 e2 => h (i + 1) a z (by simpa using e1) (by simpa using e2)
    refine ⟨m :: ms, by simp [h1], fun x hx => ?_, fun i b r e1 e2 => ?_⟩
    · rcases List.mem_cons.mp hx with rfl | hx
      · exact hm
      · exact h2 x hx
    · cases i with
      | zero =>
        simp [recs] at e1 e2
        subst e1; subst e2
        exact hr
      | succ i => exact h3 i b r (by simpa using e1) (by simpa [recs] using e2)
  | [], _ :: _, hl, _ => by simp at hl
  | _ :: _, [], hl, _ => by simp at hl
def sp_right (A : Ads) : Sp := fun vs H Q _ => ∃ (tp pm : Addr) (kd : Nat) (ms : List Int) (c : Int), vs = [.ref tp, .int kd, .ref pm] ∧ kd < 2 ∧ Tape H tp c ∧ c ≤ 800000 ∧ H pm = some (.lst (ms.map V.int)) ∧ pm ≠ tp ∧ ms.length ≤ 40 ∧ (∀ m ∈ ms, 0 ≤ m ∧ m ≤ 60) ∧ ∀ H', But tp H H' → Tape H' tp (c + 200) → Q (.bl true) H'
theorem p_right (T : Tx K mg A) : Pur N_law_right ps_law_right (t_law_right P w K mg base A) (sp_right A) := by
  intro vs H Q E h
  obtain ⟨tp, pm, kd, ms, c, rfl, hk, t, hc, hm, npm, h40, ok, q⟩ := h
  refine ⟨rfl, ?_⟩
  show t_law_right P w K mg base A E _ [some (.ref tp), some (.int kd), some (.ref pm), none, none, none, none, none, none, none, none, none, none, none, none, none] H
  unfold t_law_right
  refine seqU fun U hU => ?_
  walk_at "rd"
  refine ⟨3, _, fn_items T, by decide, _, .inl (.inl (.inl hm)), tp, _, ms.length, by rw [List.length_map], t, by omega, by omega, fun pz zs G1 hpz zl nz itp h1 t1 b1 => ?_⟩
  have itz : ∀ z ∈ zs, isItem z = true := fun z hz => pool0_ok.it z (itp z hz)
  have hm1 := b1 _ _ npm hm
  rw [hU]
  clear hU
  refine seqU fun U hU => ?_
  walk_at "rd"
  refine ⟨pz, pm, _, _, ⟨rfl, rfl⟩, .inl (.inl h1), .inl (.inl hm1), ?_⟩
  refine lc_zip T (kd := kd) (by omega) (tk := tVar 1) (fun σ H Q h q => ⟨_, h, q⟩) h1 hm1 zl h40 itz ok fun D4 as4 G2 hD4 s2 bk4 => ?_
  rw [hU]
  clear hU
  refine seqU fun U hU => ?_
  walk_at "rd"
  refine ⟨pz, pm, _, _, ⟨rfl, rfl⟩, .inl (.inl (s2 _ _ h1)), .inl (.inl (s2 _ _ hm1)), ?_⟩
  refine lc_zip T (kd := 1 - kd) (by omega) (tk := tOp uSub (tC (.int 1)) (tVar 1)) (fun σ H Q h q => ?_) (s2 _ _ h1) (s2 _ _ hm1) zl h40 itz ok fun D5 as5 G3 hD5 s3 bk5 => ?_
  · refine ⟨_, h, ?_⟩
    show Q (.int (1 - (kd : Int))) H
    have e : (1 : Int) - (kd : Int) = ((1 - kd : Nat) : Int) := by omega
    rw [e]
    exact q
  rw [hU]
  clear hU
  have bk4' := bk4.same s3
  have sl4 : slotsOf (recs kd zs ms) = ms := slots_recs zl
  have sl5 : slotsOf (recs (1 - kd) zs ms) = ms := slots_recs zl
  have it4 : (recs kd zs ms).map (fun r => r.2.1) = zs := items_recs zl
  have it5 : (recs (1 - kd) zs ms).map (fun r => r.2.1) = zs := items_recs zl
  have ln : ∀ k, (recs k zs ms).length = ms.length := fun k => by simp [recs, zl]
  have mem : ∀ k, ∀ r ∈ recs k zs ms, r.1 = k ∧ r.2.1 ∈ zs ∧ r.2.2 ∈ ms := fun k r hr => by
    obtain ⟨p, hp, rfl⟩ := List.mem_map.mp hr
    exact ⟨rfl, (List.of_mem_zip hp).1, (List.of_mem_zip hp).2⟩
  have gr : ∀ k, Grows k (recs k zs ms) := fun k => ⟨fun r hr => (mem k r hr).1, by rw [items_recs zl]; exact nz, by rw [ln]; exact h40, fun r hr => ⟨itz _ (mem k r hr).2.1, ok _ (mem k r hr).2.2⟩⟩
  have g4 := gr kd
  have g5 := gr (1 - kd)
  refine seqU fun U hU => ?_
  walk_at "rd"
  refine ⟨7, _, fn_least_missing T, by decide, D4, as4, _, rfl, bk4', g4.log, fun r hr => by rw [g4.kind r hr]; exact hk, fun m G4 s4 lm => ?_⟩
  refine ⟨7, _, fn_usable T, by decide, D4, as4, _, rfl, bk4'.same s4, g4.log, fun r hr => by rw [g4.kind r hr]; exact hk, g4.ok, fun pB asB G5 h s5 Hg nb => ?_⟩
  refine ⟨_, _, ⟨rfl, rfl⟩, ?_⟩
  rw [hU]
  clear hU
  have lm : IsLM ms m := by have z : IsLM (slotsOf (recs kd zs ms)) m := lm; rwa [sl4] at z
  rw [sl4] at Hg
  have m0 := lm.nonneg
  have m60 : m ≤ 60 := lm.le (by decide) fun x hx => (ok x hx).2
  have hcf := hgt_cf Hg
  have lcf := lm_cf lm
  have hle := hgt_le Hg
  have ul : (upTo (recs kd zs ms) h).length = h := by rw [upTo_len, sl4]; exact Hg.eq
  have usub : (upTo (recs kd zs ms) h).Sublist (recs kd zs ms) := List.filter_sublist
  have gB : Grows kd (upTo (recs kd zs ms) h) := ⟨fun r hr => g4.kind r (usub.subset hr), g4.nd.sublist (usub.map _), by omega, fun r hr => g4.ok r (usub.subset hr)⟩
  have slB : slotsOf (upTo (recs kd zs ms) h) = ms.filter fun x => decide (x ≤ (h : Int)) := by rw [slots_up, sl4]
  have S5 : Same G3 G5 := s4.trans s5
  have bk4a := bk4'.same S5
  have bk5a := bk5.same S5
  have t5 : Tape G5 tp (c + 40) := ((((t1.same s2).same s3).same S5)).mono (by omega)
  have B5 : But tp H G5 := b1.trans (But.same ((s2.trans s3).trans S5))
  have bkB := nb.book
  clear nb
  refine seqU fun U hU => ?_
  walk_at "rd"
  refine ⟨7, _, fn_usable T, by decide, D5, as5, _, rfl, bk5a, g5.log, fun r hr => by rw [g5.kind r hr]; omega, g5.ok, fun pO asO G6 h' s6 Hg' nbO => ?_⟩
  rw [sl5] at Hg'
  obtain rfl := Hg.uniq Hg'
  have ulO : (upTo (recs (1 - kd) zs ms) h).length ≤ 1000 := Nat.le_trans (List.length_filter_le _ _) (by rw [ln]; omega)
  refine ⟨pO, rfl, ⟨_, .inl (.inl nbO.book.lst)⟩, lc_book nbO.book ulO (fun r => .str r.2.1) (fun x => rfl) (fun a r H2 s2 rc hr => fun Q' q' => ⟨_, rfl, _, _, rfl, att_item T rc, q' H2 (Same.refl _)⟩) fun D7 G7 hD7 s7 hl7 => ?_⟩
  have bkB7 := bkB.same (s6.trans s7)
  refine ⟨⟨_, .inl (.inl bkB7.lst)⟩, lc_book bkB7 (by omega) (fun r => .str r.2.1) (fun x => rfl) (fun a r H2 s2 rc hr => fun Q' q' => ⟨_, rfl, _, _, rfl, att_item T rc, q' H2 (Same.refl _)⟩) fun D8 G8 hD8 s8 hl8 => ?_⟩
  have e7 : (upTo (recs (1 - kd) zs ms) h).map (fun r => V.str r.2.1) = ((upTo (recs kd zs ms) h).map fun r => r.2.1).map V.str := by
    rw [up_items, ← up_items (k := 1 - kd), List.map_map]; rfl
  have e8 : (upTo (recs kd zs ms) h).map (fun r => V.str r.2.1) = ((upTo (recs kd zs ms) h).map fun r => r.2.1).map V.str := by rw [List.map_map]; rfl
  rw [e7] at hl7
  rw [e8] at hl8
  have hok : ∀ z ∈ (upTo (recs kd zs ms) h).map fun r => r.2.1, isItem z = true := fun z hz => by
    obtain ⟨r, hr, rfl⟩ := List.mem_map.mp hz
    exact (gB.ok r hr).1
  refine .inl ⟨_, _, dp_dS (.inl (.inl (s8 _ _ hl7))), dp_dS (.inl (.inl hl8)), (dS_ok hok).shaped (by decide), (dS_ok hok).shaped (by decide), ?_⟩
  rw [SeqAt.eqv_refl _ (dS_ok hok).1]
  rw [hU]
  clear hU
  have S8 : Same G5 G8 := (s6.trans s7).trans s8
  have bk4b := bk4a.same S8
  have bk5b := bk5a.same S8
  have bkBb := bkB.same S8
  refine seqU fun U hU => ?_
  walk_at "rd"
  refine ⟨7, _, fn_least_missing T, by decide, D5, as5, _, rfl, bk5b, g5.log, fun r hr => by rw [g5.kind r hr]; omega, fun m' G9 s9 lm' => ?_⟩
  have lm' : IsLM ms m' := by have z : IsLM (slotsOf (recs (1 - kd) zs ms)) m' := lm'; rwa [sl5] at z
  obtain rfl := lm.uniq lm'
  walk_at "rd"
  rw [if_neg (by decide)]
  show U _ _
  rw [hU]
  clear hU
  have S9 := S8.trans s9
  have bk4c := bk4b.same s9
  have bkBc := bkBb.same s9
  refine seqU fun U hU => ?_
  walk_at "rd"
  refine ⟨7, _, fn_count T, by decide, count_ok hk bk4c g4 fun v1 G10 s10 hv1 => ?_⟩
  rw [sl4] at hv1
  walk_at "rd"
  have e1 : decide (v1 = 0) = decide (0 < m) := by
    rw [Bool.eq_iff_iff]
    simp only [decide_eq_true_eq]
    rw [hv1, ← lcf]
    omega
  rw [e1, decide_eq_true rfl]
  walk_at "rd"
  refine ⟨_, .inl (.inl (.inl (bkBc.same s10).lst)), _, .inl (.inl (.inl (bk4c.same s10).lst)), ?_⟩
  rw [book_len bkBc, book_len bk4c, ul, ln]
  have e2 : decide ((h : Int) = (ms.length : Nat)) = decide (m = 0) := by
    rw [Bool.eq_iff_iff]
    simp only [decide_eq_true_eq]
    rw [lcf, ← hcf]
    omega
  rw [e2, decide_eq_true rfl]
  walk_at "rd"
  refine ⟨7, _, fn_count T, by decide, count_ok hk (bkBc.same s10) gB fun v2 G11 s11 hv2 => ?_⟩
  rw [slB] at hv2
  have v20 : ¬ v2 = 0 := fun e => hv2.mp e (best_cf Hg)
  walk_at "rd"
  rw [decide_eq_false v20]
  walk_at "rd"
  show U _ _
  rw [hU]
  clear hU
  have S11 : Same G5 G11 := S9.trans (s10.trans s11)
  have bk4d := bk4a.same S11
  have bkBd := bkB.same S11
  have t11 := t5.same S11
  have B11 := B5.trans (But.same S11)
  -- held
  refine seqU fun U hU => ?_
  walk_at "rd"
  refine ⟨⟨_, .inl (.inl bkBd.lst)⟩, lc_book bkBd (by omega) (fun r => .str r.2.1) (fun x => rfl) (fun a r H2 s2 rc hr => fun Q' q' => ⟨_, rfl, _, _, rfl, att_item T rc, q' H2 (Same.refl _)⟩) fun D9 G12 hD9 s12 hl12 => ?_⟩
  rw [e8] at hl12
  rw [hU]
  clear hU
  have bk4e := bk4d.same s12
  have bkBe := bkBd.same s12
  have t12 := t11.same s12
  have B12 := B11.trans (But.same s12)
  refine seqU fun U hU => ?_
  walk_at "rd"
  refine ⟨⟨_, .inl (.inl bk4e.lst)⟩, lc_filter bk4e (by rw [ln]; omega) (fun r => !decide (r.2.1 ∈ (upTo (recs kd zs ms) h).map fun r => r.2.1)) (fun x => rfl) (fun a r H2 s2 rc hr => ⟨fun Q' q' => ?_, fun H3 s3 Q' q' => ⟨_, rfl, q' H3 (Same.refl _)⟩⟩) fun D10 as10 G13 hD10 s13 bk10 sub10 => ?_⟩
  · show tTest _ [some (.ref tp), some (.int kd), some (.ref pm), some (.ref pz), some (.ref D4), some (.ref D5), some (.int m), some (.ref pB), some (.bl true), some (.ref D9), some (.ref a), none, none, none, none, none] H2 Q'
    walk_at "rd"
    refine ⟨_, _, rfl, att_item T rc, .inl ⟨_, .inl (.inl (.inl (s2 _ _ hl12))), rfl, ?_, ?_⟩⟩
    · rw [List.all_map]; exact List.all_eq_true.mpr fun _ _ => rfl
    · rw [inV_str]
      exact q' H2 (Same.refl _)
  refine ⟨D10, _, rfl, .inl (.inl bk10.lst), fun p14 hp14 => ?_⟩
  have u14 := Same.new (o := .lst (cutV (as10.map V.ref) none (some 6))) hp14
  have h14 : upd G13 p14 (.lst (cutV (as10.map V.ref) none (some 6))) p14 = some (.lst ((as10.map V.ref).take 6)) := by
    rw [upd_same, show (some (6 : Int)) = some ((6 : Nat) : Int) from rfl, cut_to]
  have bk14 := (bk10.same u14).take 6 h14
  have S14 : Same G12 (upd G13 p14 (.lst (cutV (as10.map V.ref) none (some 6)))) := s13.trans u14
  generalize upd G13 p14 (.lst (cutV (as10.map V.ref) none (some 6))) = G14 at h14 bk14 S14
  refine ⟨p14, rfl, ⟨_, .inl (.inl bk14.lst)⟩, ?_⟩
  refine for_list (K := K) (a := p14) (xs := (as10.take 6).map V.ref) (fun i σ G => ∃ v10, σ = [some (.ref tp), some (.int kd), some (.ref pm), some (.ref pz), some (.ref D4), some (.ref D5), some (.int m), some (.ref pB), some (.bl true), some (.ref D9), v10, none, none, none, none, none] ∧ Same G14 G) ⟨_, rfl, Same.refl _⟩ (fun i σ G _ ⟨_, _, s⟩ => .inl (.inl (s _ _ bk14.lst))) ?_ ?_
  · rintro i x σ G hx ⟨v10, rfl, sG⟩
    obtain ⟨ar, r, rfl, har, hr, rc⟩ := (bk14.same sG).get hx
    have hr2 := (List.take_sublist _ _).subset (List.mem_of_getElem? hr)
    obtain ⟨hr4, hrn⟩ := List.mem_filter.mp hr2
    have hrn' : r.2.1 ∉ (upTo (recs kd zs ms) h).map fun r => r.2.1 := by simpa using hrn
    have hslot : (h : Int) < r.2.2 := by
      apply Int.not_le.mp
      intro le
      exact hrn' (List.mem_map.mpr ⟨r, List.mem_filter.mpr ⟨hr4, decide_eq_true le⟩, rfl⟩)
    have hlt : h < ms.length := by
      rcases Nat.lt_or_ge h ms.length with z | z
      · exact z
      · exfalso
        have e : h = ms.length := by omega
        have ec := Hg.eq
        rw [e] at ec
        unfold cntL at ec
        have := List.countP_eq_length.mp ec r.2.2 (mem kd r hr4).2.2
        simp only [decide_eq_true_eq] at this
        omega
    walk_at "rd"
    refine ⟨7, _, fn_count T, by decide, (by show 1 ≤ sizeLine; decide), fun p15 hp15 => ?_⟩
    have u15 := Same.new (o := .lst [.ref ar]) hp15
    have kB := (bkBe.same (S14.trans sG)).same u15
    refine ⟨_, _, kB.lst, upd_same, Nat.le_trans (by rw [book_len kB, ul]; simp; omega : _ ≤ 1000) (by decide), fun p16 hp16 => ?_⟩
    have u16 := Same.new (o := .lst (asB.map V.ref ++ [V.ref ar])) hp16
    have k1 : Book A (upd (upd G p15 (.lst [.ref ar])) p16 (.lst (asB.map V.ref ++ [V.ref ar]))) p15 [ar] [r] := ⟨u16 _ _ upd_same, rfl, fun i a' r' z1 z2 => by
      match i with
      | 0 => simp at z1 z2; subst z1; subst z2; exact (rc.same u15).same u16
      | i + 1 => simp at z1⟩
    have kA := (kB.same u16).append k1 (p := p16) upd_same
    have gA : Grows kd (upTo (recs kd zs ms) h ++ [r]) := by
      refine ⟨fun r' hr' => ?_, ?_, by rw [List.length_append, ul]; simp; omega, fun r' hr' => ?_⟩
      · rcases List.mem_append.mp hr' with z | z
        · exact gB.kind r' z
        · obtain rfl := List.mem_singleton.mp z; exact g4.kind _ hr4
      · rw [List.map_append, List.nodup_append]
        refine ⟨gB.nd, by simp, fun a ha b hb => ?_⟩
        obtain rfl := List.mem_singleton.mp hb
        exact fun e => hrn' (by rw [← (show a = r.2.1 from e)]; exact ha)
      · rcases List.mem_append.mp hr' with z | z
        · exact gB.ok r' z
        · obtain rfl := List.mem_singleton.mp z; exact g4.ok _ hr4
    refine count_ok hk kA gA fun v G17 s17 hv => ?_
    have v0 : v = 0 := hv.mpr (by rw [slots_app, slB]; exact best_more Hg hslot)
    subst v0
    walk_at "rd"
    rw [if_neg (by decide)]
    exact ((sG.trans u15).trans u16).trans s17
  · rintro σ G ⟨v10, rfl, sG⟩
    show U _ _
    rw [hU]
    clear hU
    have SG := S14.trans sG
    have bk4f := bk4e.same SG
    have tG := t12.same SG
    have BG := B12.trans (But.same SG)
    refine seqU fun U hU => ?_
    walk_at "rd"
    refine ⟨_, .inl (.inl (.inl bk4f.lst)), ?_⟩
    rw [book_len bk4f, ln]
    by_cases c40 : 40 < (ms.length : Int) + m
    · rw [if_pos (decide_eq_true c40)]
      exact q G BG (tG.mono (by omega))
    rw [if_neg (by simpa using c40)]
    show U _ _
    rw [hU]
    clear hU
    refine seqU fun U hU => ?_
    walk_at "rd"
    refine lc_more T (X := G) (kd := kd) (by omega) (nm := nmA) ⟨_, _, _, _, _, _, _, _, _, _, _, _, _, _, _, rfl⟩ (Same.refl _) (by decide +kernel) (by decide +kernel) (fun z hz => nm_it z (List.mem_append_left _ hz)) fun M1 am1 G20 hM1 s20 bM1 fm1 => ?_
    rw [hU]
    clear hU
    refine seqU fun U hU => ?_
    walk_at "rd"
    refine lc_more T (X := G) (kd := kd) (by omega) (nm := nmB) ⟨_, _, _, _, _, _, _, _, _, _, _, _, _, _, _, rfl⟩ s20 (by decide +kernel) (by decide +kernel) (fun z hz => nm_it z (List.mem_append_right _ hz)) fun M2 am2 G21 hM2 s21 bM2 fm2 => ?_
    have bM1' := bM1.same s21
    have l1 : (am1.map V.ref).length = 26 := by rw [book_len bM1]; rfl
    have l2 : (am2.map V.ref).length = 26 := by rw [book_len bM2]; rfl
    refine ⟨_, _, bM1'.lst, bM2.lst, Nat.le_trans (by rw [l1, l2]; decide : _ ≤ 1000) (by decide), fun M hM => ?_⟩
    have u22 := Same.new (o := .lst (am1.map V.ref ++ am2.map V.ref)) hM
    have bM : Book A (upd G21 M (.lst (am1.map V.ref ++ am2.map V.ref))) M (am1 ++ am2) ((nmA ++ nmB).map fun z => ((kd, z, 0) : Rc)) := by
      rw [List.map_append]
      exact (bM1'.same u22).append (bM2.same u22) (p := M) upd_same
    have fm : ∀ a ∈ am1 ++ am2, G a = none := fun a ha => (List.mem_append.mp ha).elim (fm1 a) (fm2 a)
    have s22 : Same G (upd G21 M (.lst (am1.map V.ref ++ am2.map V.ref))) := (s20.trans s21).trans u22
    have fM : G M = none := (s20.trans s21).free hM
    generalize upd G21 M (.lst (am1.map V.ref ++ am2.map V.ref)) = G22 at bM s22
    generalize am1 ++ am2 = am at bM fm
    rw [hU]
    clear hU
    obtain ⟨mn, rfl⟩ : ∃ mn : Nat, m = mn := ⟨m.toNat, by omega⟩
    have bk4g := bk4f.same s22
    have grM : ∀ (ns : List Str) (ls : List Int), ns.length = ls.length → ns.Sublist (nmA ++ nmB) → (∀ x ∈ ls, 0 ≤ x ∧ x ≤ 60) → ms.length + ns.length ≤ 40 → Grows kd (recs kd zs ms ++ recs kd ns ls) := fun ns ls hl sb lo le => by
      have mem2 : ∀ r ∈ recs kd ns ls, r.1 = kd ∧ r.2.1 ∈ ns ∧ r.2.2 ∈ ls := fun r hr => by
        obtain ⟨p, hp, rfl⟩ := List.mem_map.mp hr
        exact ⟨rfl, (List.of_mem_zip hp).1, (List.of_mem_zip hp).2⟩
      refine ⟨fun r hr => ?_, ?_, ?_, fun r hr => ?_⟩
      · rcases List.mem_append.mp hr with z | z
        · exact g4.kind r z
        · exact (mem2 r z).1
      · rw [List.map_append, it4, items_recs hl, List.nodup_append]
        exact ⟨nz, nm_nd.sublist sb, fun a ha b hb e => nm_out b (sb.subset hb) (e ▸ itp a ha)⟩
      · rw [List.length_append, ln]; simp [recs, hl]; omega
      · rcases List.mem_append.mp hr with z | z
        · exact g4.ok r z
        · exact ⟨nm_it _ (sb.subset (mem2 r z).2.1), lo _ (mem2 r z).2.2⟩
    have nmap : ∀ ns : List Str, (ns.map fun z => ((kd, z, 0) : Rc)) = recs kd ns (List.replicate ns.length 0) := fun ns => by
      unfold recs
      induction ns with
      | nil => rfl
      | cons z ns ih => rw [List.map_cons, ih]; rfl
    refine seqU fun U hU => ?_
    walk_at "rd"
    refine ⟨7, _, fn_count T, by decide, M, _, rfl, .inl (.inl bM.lst), fun p23 hp23 => ?_⟩
    have u23 := Same.new (o := .lst (cutV (am.map V.ref) none (some (mn : Int)))) hp23
    have h23 : upd G22 p23 (.lst (cutV (am.map V.ref) none (some (mn : Int)))) p23 = some (.lst ((am.map V.ref).take mn)) := by rw [upd_same, cut_to]
    have b23 := (bM.same u23).take mn h23
    have bk4h := bk4g.same u23
    have s23 := s22.trans u23
    generalize upd G22 p23 (.lst (cutV (am.map V.ref) none (some (mn : Int)))) = G23 at h23 b23 bk4h s23 u23
    refine ⟨_, _, bk4h.lst, b23.lst, Nat.le_trans (by rw [book_len bk4h, book_len b23, List.length_take, ln]; omega : _ ≤ 1000) (by decide), fun p24 hp24 => ?_⟩
    have u24 := Same.new (o := .lst (as4.map V.ref ++ (am.take mn).map V.ref)) hp24
    have kA := (bk4h.same u24).append (b23.same u24) (p := p24) upd_same
    rw [← List.map_take, nmap] at kA
    have n52 : (nmA ++ nmB).length = 52 := by decide +kernel
    have tkl : ((nmA ++ nmB).take mn).length = mn := by rw [List.length_take]; omega
    refine count_ok hk kA (grM _ _ (by simp) (List.take_sublist _ _) (fun x hx => by rw [(List.mem_replicate.mp hx).2]; decide) (by rw [tkl]; omega)) fun v3 G25 s25 hv3 => ?_
    have v30 : ¬ v3 = 0 := fun e => by
      refine hv3.mp e ?_
      rw [slots_app, sl4, slots_recs (by simp), tkl]
      have := lm.closes
      rwa [Int.toNat_natCast] at this
    walk_at "rd"
    rw [if_neg (by simpa using v30)]
    show U _ _
    rw [hU]
    clear hU
    have S25 : Same G G25 := (s23.trans u24).trans s25
    have bM25 := ((bM.same u23).same u24).same s25
    have t25 := tG.same S25
    have B25 := BG.trans (But.same S25)
    have bk4i := bk4f.same S25
    refine seqU fun U hU => ?_
    walk_at "rd"
    by_cases cm : 0 < (mn : Int)
    · rw [if_pos (decide_eq_true cm)]
      refine ⟨M, _, rfl, .inl (.inl bM25.lst), fun p26 hp26 => ?_⟩
      have en : (mn : Int) - 1 = ((mn - 1 : Nat) : Int) := by omega
      rw [en]
      have u26 := Same.new (o := .lst (cutV (am.map V.ref) none (some ((mn - 1 : Nat) : Int)))) hp26
      have h26 : upd G25 p26 (.lst (cutV (am.map V.ref) none (some ((mn - 1 : Nat) : Int)))) p26 = some (.lst ((am.map V.ref).take (mn - 1))) := by rw [upd_same, cut_to]
      have b26 := (bM25.same u26).take (mn - 1) h26
      have S26 := S25.trans u26
      have t26 := t25.same u26
      have bk4j := bk4i.same u26
      have f26 : G p26 = none := S25.free hp26
      generalize upd G25 p26 (.lst (cutV (am.map V.ref) none (some ((mn - 1 : Nat) : Int)))) = G26 at h26 b26 S26 t26 bk4j
      rw [← List.map_take] at b26
      have fzl : ((nmA ++ nmB).take (mn - 1)).length = mn - 1 := by rw [List.length_take]; omega
      have afl : (am.take (mn - 1)).length = ((nmA ++ nmB).take (mn - 1)).length := by rw [b26.len, List.length_map]
      have fzs : ((nmA ++ nmB).take (mn - 1)).Sublist (nmA ++ nmB) := List.take_sublist _ _
      have faf : ∀ a ∈ am.take (mn - 1), G a = none := fun a ha => fm a ((List.take_sublist _ _).subset ha)
      have rec0 : ∀ (j : Nat) (a : Addr) (z : Str), (am.take (mn - 1))[j]? = some a → ((nmA ++ nmB).take (mn - 1))[j]? = some z → ∃ m, (0 ≤ m ∧ m ≤ 60) ∧ Rec A G26 a kd z m := fun j a z z1 z2 => ⟨0, ⟨by decide, by decide⟩, b26.at_ j a (kd, z, 0) z1 (by rw [List.getElem?_map, z2]; rfl)⟩
      have h26' := b26.lst
      clear b26
      generalize (nmA ++ nmB).take (mn - 1) = fz at fzl afl fzs rec0
      generalize am.take (mn - 1) = af at afl faf rec0 h26'
      have ntp : ∀ {p : Addr}, G p = none → p ≠ tp := fun hp => tG.ne hp
      have n4 : D4 ≠ tp := t1.ne hD4
      have na4 : ∀ a ∈ as4, a ≠ tp := fun a ha e => by
        obtain ⟨i, hi, e2⟩ := List.mem_iff_getElem.mp ha
        have hl4 := bk4f.len
        obtain ⟨_, d2, z2⟩ := bk4f.at_ i a _ (by rw [List.getElem?_eq_getElem hi, e2]) (List.getElem?_eq_getElem (by omega))
        obtain ⟨xs, hx, _⟩ := tG
        rw [e, hx] at z2
        cases z2
      refine ⟨p26, rfl, ⟨_, .inl (.inl h26')⟩, ?_⟩
      refine for_list (K := K) (a := p26) (xs := af.map V.ref) (fun i σ G' => ∃ v10, σ = [some (.ref tp), some (.int kd), some (.ref pm), some (.ref pz), some (.ref D4), some (.ref D5), some (.int mn), some (.ref pB), some (.bl true), some (.ref D9), v10, some (.ref M), some (.ref p26), none, none, none] ∧ But tp G G' ∧ Tape G' tp (c + 40 + i) ∧ G' p26 = some (.lst (af.map V.ref)) ∧ ∀ (j : Nat) (a : Addr) (z : Str), af[j]? = some a → fz[j]? = some z → ∃ m, (0 ≤ m ∧ m ≤ 60) ∧ Rec A G' a kd z m) ⟨_, rfl, But.same S26, by simpa using t26, h26', rec0⟩ (fun i σ G' _ ⟨_, _, _, _, h, _⟩ => .inl (.inl h)) ?_ ?_
      · rintro i x σ G' hx ⟨v10, rfl, bG', tG', g26, recs'⟩
        rw [List.getElem?_map] at hx
        cases ea : af[i]? with
        | none => rw [ea] at hx; cases hx
        | some a' =>
        rw [ea] at hx
        obtain rfl := (Option.some.inj hx).symm
        have hi : i < fz.length := by rw [← afl]; exact (List.getElem?_eq_some_iff.mp ea).1
        obtain ⟨m', lo', rc'⟩ := recs' i a' _ ea (List.getElem?_eq_getElem hi)
        have na' := ntp (faf a' (List.mem_of_getElem? ea))
        have rc2 := rc'
        obtain ⟨hk4, dx, hrec⟩ := rc2
        walk_at "rd"
        refine ⟨a', _, dx, _, 3, _, rfl, hrec, mth_move T hk4, by decide, look_none _ _ (by decide +kernel) (by decide +kernel), 2, _, fn_next T, by decide, next_ok tG' (by omega) (by decide) (by decide) fun r Gn r0 r1 tn bn en' => ?_⟩
        have hrec' := bn _ _ na' hrec
        refine ⟨a', dx, _, m', r, rfl, hrec', r0, by omega, ?_⟩
        refine ⟨(bG'.trans bn).mut (faf a' (List.mem_of_getElem? ea)), (tn.other na').mono (by push_cast; omega), ?_, fun j a2 z2 y1 y2 => ?_⟩
        · rw [upd_ne (fun e => by rw [e, hrec] at g26; cases g26)]
          exact bn _ _ (ntp f26) g26
        · obtain ⟨m2, lo2, hk2, dx2, hr2⟩ := recs' j a2 z2 y1 y2
          by_cases e : a2 = a'
          · subst e
            rw [hrec] at hr2
            have ez : fz[i] = z2 := by
              have := Option.some.inj hr2
              simp [recF] at this
              exact this.2.1
            rw [← ez]
            exact ⟨r, ⟨r0, by omega⟩, hk4, dx, upd_same⟩
          · exact ⟨m2, lo2, hk2, dx2, by rw [upd_ne e]; exact bn _ _ (ntp (faf a2 (List.mem_of_getElem? y1))) hr2⟩
      · rintro σ G' ⟨v10, rfl, bG', tG', g26, recs'⟩
        obtain ⟨ls, ll, lo, lrec⟩ := pick_slots (A := A) (G := G') (kd := kd) (L := fun m => 0 ≤ m ∧ m ≤ 60) af fz afl recs'
        have bF : Book A G' p26 af (recs kd fz ls) := ⟨g26, by simp [recs, afl, ll], lrec⟩
        have bk4k := bk4f.but bG' n4 na4
        walk_at "rd"
        refine ⟨7, _, fn_count T, by decide, _, _, bk4k.lst, g26, Nat.le_trans (by rw [book_len bk4k, ln, List.length_map, afl]; omega : _ ≤ 1000) (by decide), fun p27 hp27 => ?_⟩
        have u27 := Same.new (o := .lst (as4.map V.ref ++ af.map V.ref)) hp27
        have kA := (bk4k.same u27).append (bF.same u27) (p := p27) upd_same
        refine count_ok hk kA (grM fz ls ll.symm fzs lo (by omega)) fun v G28 s28 hv => ?_
        have v0 : v = 0 := hv.mpr (by rw [slots_app, sl4, slots_recs ll.symm]; exact lm.needs (by omega) (by omega))
        subst v0
        show if _ then Q (.bl (decide (V.int 0 = V.int 0))) _ else _
        rw [decide_eq_true rfl]
        have hl : (af.map V.ref).length ≤ 40 := by rw [List.length_map, afl]; omega
        refine q G28 ((BG.trans bG').trans (But.same (u27.trans s28))) (((tG'.same u27).same s28).mono (by omega))
    · rw [if_neg (by simpa using cm)]
      show U _ _
      rw [hU]
      clear hU
      walk_at "rd"
      exact q G25 B25 (t25.mono (by omega))
theorem fn_right (T : Tx K mg A) : Fn P w K mg base 8 "_law_right" (sp_right A) := T.f_law_right.fn sc_law_right (fun hr => d_law_right T.G hr) (p_right T)
end
end K
namespace K
open PySem PySem.Spec PyProof.Rows L2 U ClX M
local macro_rules | `(tactic| walk_at "rd") => `(tactic| simp only [tSeq, tRet, tIfS, tAsg, tDrop, tNext, tNever, tRetN, tAndV, tOrV, tNotV, tAnd, tOr, tNot, tB, tTest, tChain, tCB, tCons, tNil, tVar, tC, tOp, tUn, tIf, gName, uLe, uLt, uGe, uGt, uCmp, uAdd, uSub, uMul, uDiv, uMod, uPow, uNeg, uEq, uNe, uIs, uIsNot, uIx, uIn, cIsi, cLen, cAll, cMax, cMin, cAbs, cSort, cSortD, cInt, cTuple, cRepr, cDict, cList, cSortS, tRevL, tDGet, tLstRg, tTupRg, tRg1, tRg2, sDPut, tDNewK, tAug, ipI, iZip, tLst, tTup, tPar, U.tPar3, tFn, tMkr, tMth, tFnK, tMthK, tAtt, sFld, tYes, tLc_eq, tFor_eq, iList, iStr, iRng1, iRng2, iEnum, tLenSetT, tSl, tPart, tNoPart, gTup, gCons, gNil, gSub, tBM, tBM0, List.getElem?_cons_zero, List.getElem?_cons_succ, List.set_cons_zero, List.set_cons_succ, Option.some.injEq, V.bl.injEq, V.int.injEq, V.str.injEq, V.ref.injEq, exists_eq_left', exists_eq_left, exists_eq_right, exists_eq_right', and_true, true_and, scal, if_true, Bool.false_eq_true, if_false, List.cons.injEq, exists_const, false_and, and_false, ite_true, ite_false, Bool.not_true, Bool.not_false])
section
variable {P : Program} {w : World} {K : PySem.W.Frag} {mg : Str → Option Value} {base : Heap} {A : Ads}
/-- [next(tape, at + 1) for at in range(n)] -/
theorem lc_steps {G0 : Hp} {tp : Addr} {c : Int} {n v : Nat} {te : TE} {σ : L2.St} {Q : VK} (t : Tape G0 tp c) (hc : c + n ≤ 900000) (hn : n ≤ 900) (hv : ∀ x, wipe ((wipe σ [v]).set v (some x)) [v] = wipe σ [v])
    (turn : ∀ (i : Nat) (G : Hp) (Q' : VK), i < n → sp_next [.ref tp, .int ((i : Int) + 1)] G Q' E0 → te ((wipe σ [v]).set v (some (.int (0 + i)))) G Q')
    (hq : ∀ (D : Addr) (zs : List Int) (G : Hp), G0 D = none → But tp G0 G → zs.length = n → (∀ z ∈ zs, 0 ≤ z ∧ z < n) → G D = some (.lst (zs.map V.int)) → Tape G tp (c + n) → Q (.ref D) G) : LcB (Itr 0 n) (gName v) tYes te [v] σ G0 Q := by
  intro D hD
  have nD : D ≠ tp := t.ne hD
  refine L2.lc_range (n := n) (fun i G => ∃ zs : List Int, zs.length = i ∧ (∀ z ∈ zs, 0 ≤ z ∧ z < n) ∧ G D = some (.lst (zs.map V.int)) ∧ Tape G tp (c + i) ∧ But tp G0 G) ?_ ?_ ?_
  · exact ⟨[], rfl, (fun _ h => nomatch h), upd_same, by simpa using t.other nD, But.refl.mut hD⟩
  · rintro i G hi ⟨zs, hz, hr, gD, tG, bG⟩
    refine ⟨hv _, ?_⟩
    show tYes _ G _
    refine turn i G _ hi (next_ok tG (by omega) (by omega) (by omega) fun r G1 r0 r1 t1 b1 e1 => ?_)
    refine ⟨zs.map V.int, (e1 D nD).trans gD, ?_, zs ++ [r], by simp [hz], ?_, ?_, ?_, (bG.trans b1).mut hD⟩
    · rw [List.length_map, hz]; exact Nat.lt_of_lt_of_le (by omega : i < 1001) (by decide)
    · intro z hz'
      rcases List.mem_append.mp hz' with q | q
      · exact hr z q
      · obtain rfl := List.mem_singleton.mp q; omega
    · rw [upd_same, List.map_append]; rfl
    · exact (t1.other nD).mono (by push_cast; omega)
  · rintro G ⟨zs, hz, hr, gD, tG, bG⟩
    exact hq D zs G hD bG hz hr gD tG
def sp_law (K : PySem.W.Frag) : Sp := fun vs H Q _ => ∃ (a : Addr) (ns : List Int), vs = [.ref a] ∧ SqL K H a (ns.map V.int) ∧ ns.length ≤ 63 ∧ ∀ H', Q (.bl true) H'
theorem p_law (T : Tx K mg A) : Pur N_law ["_law_script"] (t_law P w K mg base A) (sp_law K) := by
  intro vs H Q E h
  obtain ⟨a, ns, rfl, hs, hl, q⟩ := h
  refine ⟨rfl, ?_⟩
  show t_law P w K mg base A E _ [some (.ref a), none, none, none, none, none, none, none, none] H
  unfold t_law
  refine seqU fun U hU => ?_
  walk_at "rd"
  refine ⟨_, .inl hs, ?_⟩
  rw [List.length_map]
  obtain ⟨n, hn, en⟩ : ∃ n : Nat, n ≤ 3 ∧ (if (if (ns.length : Int) < 3 then (ns.length : Int) else 3) > 1 then (if (ns.length : Int) < 3 then (ns.length : Int) else 3) else 1) = (n : Int) := ⟨(if (if (ns.length : Int) < 3 then (ns.length : Int) else 3) > 1 then (if (ns.length : Int) < 3 then (ns.length : Int) else 3) else 1).toNat, by split <;> split <;> omega, by split <;> split <;> omega⟩
  rw [en]
  refine ⟨by omega, by omega, ?_⟩
  rw [Int.toNat_natCast]
  refine for_range (n := n) (fun i σ G => ∃ v1 v2 v3 v4 v5 v6, σ = [some (.ref a), v1, v2, v3, v4, v5, v6, none, none] ∧ Same H G) ⟨_, _, _, _, _, _, rfl, Same.refl _⟩ ?_ ?_
  · rintro i σ G hi ⟨v1, v2, v3, v4, v5, v6, rfl, sG⟩
    walk_at "rd"
    refine ⟨2, _, fn_tape T, by decide, a, ns, _, rfl, sG.seq hs, by omega, by omega, fun tp xs htp hxs => ?_⟩
    walk_at "rd"
    refine ⟨by decide, by decide, ?_⟩
    have ft : H tp = none := sG.free htp
    refine for_range (n := 5) (fun j σ G2 => ∃ v3 v4 v5 v6, σ = [some (.ref a), some (.int (0 + i)), some (.ref tp), v3, v4, v5, v6, none, none] ∧ Same H G2 ∧ Tape G2 tp (1000 * j)) ⟨_, _, _, _, rfl, sG.trans (Same.new htp), xs, upd_same, by simpa using hxs⟩ ?_ ?_
    · rintro j σ G2 hj ⟨v3, v4, v5, v6, rfl, s2, t2⟩
      have nt : ∀ {b : Addr} {o : HO}, H b = some o → b ≠ tp := fun e => ne_of_none e ft
      have toS : ∀ {G : Hp}, But tp G2 G → Same H G := fun b => fun x o e => b x o (nt e) (s2 x o e)
      simp only [gName]
      refine seqU fun U hU => ?_
      walk_at "rd"
      refine ⟨2, _, fn_next T, by decide, (by show 2 ≤ sizeLine; decide), fun q1 hq1 => ?_⟩
      have u1 := Same.new (o := .lst [.int 13, .int 41]) hq1
      obtain ⟨wd, hwd, wd0, wd1⟩ : ∃ wd : Int, atI [V.int 13, V.int 41] (if decide (0 + (j : Int) = 4) = true then 1 else 0) = some (.int wd) ∧ 0 < wd ∧ wd ≤ 41 := by
        split
        · exact ⟨41, rfl, by decide, by decide⟩
        · exact ⟨13, rfl, by decide, by decide⟩
      refine ⟨_, _, .inl (.inl (.inl upd_same)), hwd, next_ok (t2.same u1) (by omega) wd0 (by omega) fun many G3 m0 m1 t3 b3 e3 => ?_⟩
      refine ⟨2, _, fn_next T, by decide, next_ok t3 (by omega) (by decide) (by decide) fun st G4 st0 st1 t4 b4 e4 => ⟨_, _, ⟨rfl, rfl⟩, ?_⟩⟩
      obtain ⟨mn, rfl⟩ : ∃ mn : Nat, many = mn := ⟨many.toNat, by omega⟩
      have B4 : But tp G2 G4 := ((But.same u1).trans b3).trans b4
      rw [hU]
      clear hU
      refine seqU fun U hU => ?_
      walk_at "rd"
      refine ⟨by omega, by omega, ?_⟩
      rw [Int.toNat_natCast]
      refine lc_steps t4 (by omega) (by omega) (fun x => rfl) (fun i' G Q' hi' h => ?_) fun D5 zs G5 hD5 b5 zl zo g5 t5 => ?_
      · show tFn _ _ _ _ _ _ _ _ _ [some (.ref a), some (.int (0 + i)), some (.ref tp), some (.int (0 + j)), some (.int mn), some (.int st), v6, some (.int (0 + i')), none] G Q'
        walk_at "rd"
        rw [Int.zero_add]
        exact ⟨2, _, fn_next T, by decide, h⟩
      rw [hU]
      clear hU
      have n5 : D5 ≠ tp := t4.ne hD5
      have B5 := B4.trans b5
      have zo' : ∀ z ∈ zs, 0 ≤ z ∧ z ≤ 40 := fun z hz => by have := zo z hz; omega
      refine seqU fun U hU => ?_
      have ky1 : ∀ (F : Addr) (zs : List Int) (G : Hp), zs.length = mn → (∀ z ∈ zs, 0 ≤ z ∧ z ≤ 60) → G F = some (.lst (zs.map V.int)) → F ≠ tp → But tp G2 G → Tape G tp (1000 * j + 100) → U [some (.ref a), some (.int (0 + i)), some (.ref tp), some (.int (0 + j)), some (.int mn), some (.int st), some (.ref F), none, none] G := by
        clear zl zo g5 t5 zo'
        intro F zs G zl zo gF nF bG tG
        rw [hU]
        clear hU
        refine seqU fun U hU => ?_
        have ky2 : ∀ (F : Addr) (zs : List Int) (G : Hp), zs.length = mn → (∀ z ∈ zs, 0 ≤ z ∧ z ≤ 60) → G F = some (.lst (zs.map V.int)) → F ≠ tp → But tp G2 G → Tape G tp (1000 * j + 200) → U [some (.ref a), some (.int (0 + i)), some (.ref tp), some (.int (0 + j)), some (.int mn), some (.int st), some (.ref F), none, none] G := by
          clear zl zo gF tG
          intro F zs G zl zo gF nF bG tG
          rw [hU]
          clear hU
          walk_at "rd"
          refine ⟨8, _, fn_right T, by decide, 2, _, fn_next T, by decide, next_ok tG (by omega) (by decide) (by decide) fun kind G8 k0 k1 t8 b8 e8 => ?_⟩
          obtain ⟨kd, rfl⟩ : ∃ kd : Nat, kind = kd := ⟨kind.toNat, by omega⟩
          refine ⟨tp, F, kd, zs, _, rfl, by omega, t8, by omega, b8 _ _ nF gF, nF, by omega, zo, fun G9 b9 t9 => ⟨true, rfl, ?_⟩⟩
          rw [if_neg (by decide)]
          exact ⟨_, _, _, _, ⟨rfl, rfl, rfl, rfl⟩, toS ((bG.trans b8).trans b9), t9.mono (by push_cast; omega)⟩
        walk_at "rd"
        by_cases c2 : st = 2
        · rw [if_pos (decide_eq_true c2)]
          refine ⟨⟨_, .inl (.inl gF)⟩, lc_ints (e := 1) (L := fun m => 0 ≤ m ∧ m ≤ 60) tG gF nF (by rw [List.length_map]; omega) (fun x => rfl) (fun i' x G' Q' hx t' b' hh => ?_) fun D ys G' hD yl yo gD b' t' => ?_⟩
          · have hi' : i' < 41 := by have := (List.getElem?_eq_some_iff.mp hx).1; rw [List.length_map] at this; omega
            show tFn _ _ _ _ _ _ _ _ _ [some (.ref a), some (.int (0 + i)), some (.ref tp), some (.int (0 + j)), some (.int mn), some (.int st), some (.ref F), none, some x] G' Q'
            walk_at "rd"
            refine ⟨2, _, fn_next T, by decide, (by show 2 ≤ sizeLine; decide), fun q6 hq6 => ?_⟩
            have u6 := Same.new (o := .lst [.int 4, .int 16]) hq6
            obtain ⟨wd, hwd, wd0, wd1⟩ : ∃ wd : Int, atI [V.int 4, V.int 16] ((0 + (j : Int)) % 2) = some (.int wd) ∧ 0 < wd ∧ wd ≤ 16 := by
              have : (0 + (j : Int)) % 2 = 0 ∨ (0 + (j : Int)) % 2 = 1 := by omega
              rcases this with e | e
              · rw [e]; exact ⟨4, rfl, by decide, by decide⟩
              · rw [e]; exact ⟨16, rfl, by decide, by decide⟩
            refine ⟨by decide, _, _, .inl (.inl (.inl upd_same)), hwd, next_ok (t'.same u6) (by omega) wd0 (by omega) fun r G3 r0 r1 t3 b3 e3 => hh r G3 ⟨r0, by omega⟩ (t3.mono (by omega)) ((But.same u6).trans b3)⟩
          · rw [List.length_map] at yl t'
            exact ky2 D ys G' (by omega) yo gD (tG.ne hD) (bG.trans b') (t'.mono (by omega))
        · rw [if_neg (by simpa using c2)]
          exact ky2 F zs G zl zo gF nF bG (tG.mono (by omega))
      walk_at "rd"
      by_cases c1 : st = 1
      · rw [if_pos (decide_eq_true c1)]
        refine ⟨⟨_, .inl (.inl g5)⟩, lc_ints (e := 1) (L := fun m => 0 ≤ m ∧ m ≤ 60) t5 g5 n5 (by rw [List.length_map]; omega) (fun x => rfl) (fun i' x G' Q' hx t' b' hh => ?_) fun D ys G' hD yl yo gD b' t' => ?_⟩
        · have hi' := (List.getElem?_eq_some_iff.mp hx).1
          rw [List.length_map] at hi'
          rw [List.getElem?_map, List.getElem?_eq_getElem hi'] at hx
          obtain rfl := (Option.some.inj hx).symm
          have hzi := zo' zs[i'] (List.getElem_mem hi')
          show tOp _ _ _ [some (.ref a), some (.int (0 + i)), some (.ref tp), some (.int (0 + j)), some (.int mn), some (.int st), some (.ref D5), none, some (.int zs[i'])] G' Q'
          walk_at "rd"
          refine ⟨2, _, fn_next T, by decide, next_ok t' (by omega) (by decide) (by decide) fun r G3 r0 r1 t3 b3 e3 => ?_⟩
          walk_at "rd"
          refine hh _ G3 ?_ (t3.mono (by omega)) b3
          split <;> omega
        · rw [List.length_map] at yl t'
          exact ky1 D ys G' (by omega) yo gD (t5.ne hD) (B5.trans b') (t'.mono (by omega))
      · rw [if_neg (by simpa using c1)]
        exact ky1 D5 zs G5 zl (fun z hz => by have := zo' z hz; omega) g5 n5 B5 (t5.mono (by omega))
    · rintro σ G2 ⟨v3, v4, v5, v6, rfl, s2, t2⟩
      exact ⟨_, _, _, _, _, _, rfl, s2⟩
  · rintro σ G ⟨v1, v2, v3, v4, v5, v6, rfl, sG⟩
    show U _ _
    rw [hU]
    clear hU
    walk_at "rd"
    refine ⟨7, _, fn_count T, by decide, 3, _, _, mkr T (k := 0) (by decide), by decide, fun p1 dx hp1 hdx ne => made_at (by decide) hp1 hdx (by decide +kernel) (by decide) (by decide) fun G4 s4 r4 => ⟨(by show 1 ≤ sizeLine; decide), fun p7 hp7 => ?_⟩⟩
    have k1 : Book A (upd G4 p7 (.lst [V.ref p1])) p7 [p1] [(0, "a", 1)] := ⟨upd_same, rfl, fun i a r h1 h2 => by
      match i with
      | 0 => simp at h1 h2; subst h1; subst h2; exact r4.same (Same.new hp7)
      | i + 1 => simp at h1⟩
    refine ⟨p7, [p1], [(0, "a", 1)], rfl, k1, by decide +kernel, by decide +kernel, (fun r hr => by simp at hr; subst hr; decide), (fun r hr => by simp at hr; subst hr; decide), fun G8 s8 => ?_⟩
    have e1 : prodP (slotsOf [((0, "a", 1) : Rc)]) [((0, "a", 1) : Rc)].length = 0 := by decide +kernel
    rw [e1]
    walk_at "rd"
    refine ⟨7, _, fn_count T, by decide, 3, _, _, mkr T (k := 0) (by decide), by decide, fun p9 dx9 hp9 hdx9 ne9 => made_at (by decide) hp9 hdx9 (by decide +kernel) (by decide) (by decide) fun G10 s10 r10 => ?_⟩
    refine ⟨3, _, _, mkr T (k := 0) (by decide), by decide, fun p11 dx11 hp11 hdx11 ne11 => made_at (by decide) hp11 hdx11 (by decide +kernel) (by decide) (by decide) fun G12 s12 r12 => ⟨(by show 2 ≤ sizeLine; decide), fun p13 hp13 => ?_⟩⟩
    have k2 : Book A (upd G12 p13 (.lst [V.ref p9, V.ref p11])) p13 [p9, p11] [(0, "a", 1), (0, "b", 0)] := ⟨upd_same, rfl, fun i a r h1 h2 => by
      match i with
      | 0 => simp at h1 h2; subst h1; subst h2; exact (r10.same s12).same (Same.new hp13)
      | 1 => simp at h1 h2; subst h1; subst h2; exact r12.same (Same.new hp13)
      | i + 2 => simp at h1⟩
    refine ⟨p13, [p9, p11], [(0, "a", 1), (0, "b", 0)], rfl, k2, by decide +kernel, by decide +kernel, (fun r hr => by simp at hr; rcases hr with rfl | rfl <;> decide), (fun r hr => by simp at hr; rcases hr with rfl | rfl <;> decide), fun G14 s14 => ?_⟩
    have e2 : prodP (slotsOf [((0, "a", 1) : Rc), (0, "b", 0)]) [((0, "a", 1) : Rc), (0, "b", 0)].length = 1 := by decide +kernel
    rw [e2]
    exact q _
theorem fn_law (T : Tx K mg A) : Fn P w K mg base 9 "law" (sp_law K) := T.f_law.fn sc_law (fun hr => d_law T.G hr) (p_law T)
end
end K
namespace K
open PySem PySem.Spec PyProof.Rows L2 U ClX M
theorem all_mk {l : PySem.W.OpenLaw} {w : World} {K : PySem.W.Frag} {h : Heap} {mg : Str → Option Value} {fa C0 C1 C2 C3 : Addr} (X : K.In h) (G : h.Ns mainGlobals mg) (hfa : mg "law" = some (.ref fa))
    {oc0 kV0 dc0 pm0 cd0 ct0 : Value} {od0 an0 : Option Addr} {sl0 : Array (Option Value)} {f0 : Addr} {oc1 kV1 dc1 pm1 cd1 ct1 : Value} {od1 an1 : Option Addr} {sl1 : Array (Option Value)} {f1 : Addr} {oc2 kV2 dc2 pm2 cd2 ct2 : Value} {od2 an2 : Option Addr} {sl2 : Array (Option Value)} {f2 : Addr} {oc3 kV3 dc3 pm3 cd3 ct3 : Value} {od3 an3 : Option Addr} {sl3 : Array (Option Value)} {f3 : Addr} {oc4 kV4 dc4 pm4 cd4 ct4 : Value} {od4 an4 : Option Addr} {sl4 : Array (Option Value)} {f4 : Addr} {oc5 kV5 dc5 pm5 cd5 ct5 : Value} {od5 an5 : Option Addr} {sl5 : Array (Option Value)} {f5 : Addr} {oc6 kV6 dc6 pm6 cd6 ct6 : Value} {od6 an6 : Option Addr} {sl6 : Array (Option Value)} {f6 : Addr} {oc7 kV7 dc7 pm7 cd7 ct7 : Value} {od7 an7 : Option Addr} {sl7 : Array (Option Value)} {f7 : Addr} {oc8 kV8 dc8 pm8 cd8 ct8 : Value} {od8 an8 : Option Addr} {sl8 : Array (Option Value)} {f8 : Addr} {oc9 kV9 dc9 pm9 cd9 ct9 : Value} {od9 an9 : Option Addr} {sl9 : Array (Option Value)} {f9 : Addr} {oc10 kV10 dc10 pm10 cd10 ct10 : Value} {od10 an10 : Option Addr} {sl10 : Array (Option Value)} {f10 : Addr} {oc11 kV11 dc11 pm11 cd11 ct11 : Value} {od11 an11 : Option Addr} {sl11 : Array (Option Value)} {f11 : Addr} {oc12 kV12 dc12 pm12 cd12 ct12 : Value} {od12 an12 : Option Addr} {sl12 : Array (Option Value)} {f12 : Addr} {oc13 kV13 dc13 pm13 cd13 ct13 : Value} {od13 an13 : Option Addr} {sl13 : Array (Option Value)} {f13 : Addr} {oc14 kV14 dc14 pm14 cd14 ct14 : Value} {od14 an14 : Option Addr} {sl14 : Array (Option Value)} {f14 : Addr} {oc15 dc15 pm15 cd15 ct15 : Value} {od15 an15 : Option Addr} {sl15 : Array (Option Value)} {f15 : Addr} {kD15 : Addr} {oc16 kV16 dc16 pm16 cd16 ct16 : Value} {od16 an16 : Option Addr} {sl16 : Array (Option Value)} {f16 : Addr} {oc17 kV17 dc17 pm17 cd17 ct17 : Value} {od17 an17 : Option Addr} {sl17 : Array (Option Value)} {f17 : Addr} {oc18 kV18 dc18 pm18 cd18 ct18 : Value} {od18 an18 : Option Addr} {sl18 : Array (Option Value)} {f18 : Addr} {oc19 kV19 dc19 pm19 cd19 ct19 : Value} {od19 an19 : Option Addr} {sl19 : Array (Option Value)} {f19 : Addr} {oc20 kV20 dc20 pm20 cd20 ct20 : Value} {od20 an20 : Option Addr} {sl20 : Array (Option Value)} {f20 : Addr} {oc21 kV21 dc21 pm21 cd21 ct21 : Value} {od21 an21 : Option Addr} {sl21 : Array (Option Value)} {f21 : Addr} {pI pS : Addr} {tkC0 : Tok} {tkC1 : Tok} {tkC2 : Tok} {tkC3 : Tok} {rspI : List Value} {rspS : List Value} {ocI kVI dcI pmI cdI ctI : Value} {odI anI : Option Addr} {slI : Array (Option Value)} {fI : Addr} {ocP kVP dcP pmP cdP ctP : Value} {odP anP : Option Addr} {slP : Array (Option Value)} {fP : Addr} {ocS kVS dcS pmS cdS ctS : Value} {odS anS : Option Addr} {slS : Array (Option Value)} {fS : Addr} {ocMmv kVMmv dcMmv pmMmv cdMmv ctMmv : Value} {odMmv anMmv : Option Addr} {slMmv : Array (Option Value)} {fMmv : Addr} {tkM : Tok} {XBoard : Addr} {XImpossible : Addr} {XLogError : Addr} {XNoIndex : Addr} {XNoItem : Addr} {XNoList : Addr} {XNoLog : Addr} {XNoSeen : Addr} {XNoText : Addr} {ocNBoard kVNBoard dcNBoard pmNBoard cdNBoard ctNBoard : Value} {odNBoard anNBoard : Option Addr} {slNBoard : Array (Option Value)} {fNBoard : Addr} {ocWBoard_turned kVWBoard_turned dcWBoard_turned pmWBoard_turned cdWBoard_turned ctWBoard_turned : Value} {odWBoard_turned anWBoard_turned : Option Addr} {slWBoard_turned : Array (Option Value)} {fWBoard_turned : Addr} {ocWBoard_far_items kVWBoard_far_items dcWBoard_far_items pmWBoard_far_items cdWBoard_far_items ctWBoard_far_items : Value} {odWBoard_far_items anWBoard_far_items : Option Addr} {slWBoard_far_items : Array (Option Value)} {fWBoard_far_items : Addr} {ocWBoard_wrong_positions kVWBoard_wrong_positions dcWBoard_wrong_positions pmWBoard_wrong_positions cdWBoard_wrong_positions ctWBoard_wrong_positions : Value} {odWBoard_wrong_positions anWBoard_wrong_positions : Option Addr} {slWBoard_wrong_positions : Array (Option Value)} {fWBoard_wrong_positions : Addr} {ocWBoard_free_places kVWBoard_free_places dcWBoard_free_places pmWBoard_free_places cdWBoard_free_places ctWBoard_free_places : Value} {odWBoard_free_places anWBoard_free_places : Option Addr} {slWBoard_free_places : Array (Option Value)} {fWBoard_free_places : Addr} {ocWBoard_waiting_bounds kVWBoard_waiting_bounds dcWBoard_waiting_bounds pmWBoard_waiting_bounds cdWBoard_waiting_bounds ctWBoard_waiting_bounds : Value} {odWBoard_waiting_bounds anWBoard_waiting_bounds : Option Addr} {slWBoard_waiting_bounds : Array (Option Value)} {fWBoard_waiting_bounds : Addr} {ocWBoard_spares kVWBoard_spares dcWBoard_spares pmWBoard_spares cdWBoard_spares ctWBoard_spares : Value} {odWBoard_spares anWBoard_spares : Option Addr} {slWBoard_spares : Array (Option Value)} {fWBoard_spares : Addr} {tk_FRONTED : Tok} {tk_INSERTED : Tok} {tk_LETTERS : Tok} {tk_MOST_LETTERS : Tok} {tk_MOST_LOG : Tok} {tk_REMOVED : Tok}
    (a0 : PySem.W.nsIn K mainGlobals "is_integer" = some (some (.ref f0)))
    (l0 : K.lookup f0 = some ⟨oc0, od0, .func (PySem.W.fnOf "is_integer" "is_integer" (defArgs s_is_integer) (defBody s_is_integer) (defScope s_is_integer) .none kV0 dc0 pm0 an0 cd0 ct0), sl0⟩)
    (c0 : PySem.W.codeIn K cd0 "is_integer" = true)
    (k0 : PySem.W.keepIn K (.ref f0) = true)
    (a1 : PySem.W.nsIn K mainGlobals "is_item" = some (some (.ref f1)))
    (l1 : K.lookup f1 = some ⟨oc1, od1, .func (PySem.W.fnOf "is_item" "is_item" (defArgs s_is_item) (defBody s_is_item) (defScope s_is_item) .none kV1 dc1 pm1 an1 cd1 ct1), sl1⟩)
    (c1 : PySem.W.codeIn K cd1 "is_item" = true)
    (k1 : PySem.W.keepIn K (.ref f1) = true)
    (a2 : PySem.W.nsIn K mainGlobals "are_records" = some (some (.ref f2)))
    (l2 : K.lookup f2 = some ⟨oc2, od2, .func (PySem.W.fnOf "are_records" "are_records" (defArgs s_are_records) (defBody s_are_records) (defScope s_are_records) .none kV2 dc2 pm2 an2 cd2 ct2), sl2⟩)
    (c2 : PySem.W.codeIn K cd2 "are_records" = true)
    (k2 : PySem.W.keepIn K (.ref f2) = true)
    (a3 : PySem.W.nsIn K mainGlobals "sign_of" = some (some (.ref f3)))
    (l3 : K.lookup f3 = some ⟨oc3, od3, .func (PySem.W.fnOf "sign_of" "sign_of" (defArgs s_sign_of) (defBody s_sign_of) (defScope s_sign_of) .none kV3 dc3 pm3 an3 cd3 ct3), sl3⟩)
    (c3 : PySem.W.codeIn K cd3 "sign_of" = true)
    (k3 : PySem.W.keepIn K (.ref f3) = true)
    (a4 : PySem.W.nsIn K mainGlobals "items_of" = some (some (.ref f4)))
    (l4 : K.lookup f4 = some ⟨oc4, od4, .func (PySem.W.fnOf "items_of" "items_of" (defArgs s_items_of) (defBody s_items_of) (defScope s_items_of) .none kV4 dc4 pm4 an4 cd4 ct4), sl4⟩)
    (c4 : PySem.W.codeIn K cd4 "items_of" = true)
    (k4 : PySem.W.keepIn K (.ref f4) = true)
    (a5 : PySem.W.nsIn K mainGlobals "is_log" = some (some (.ref f5)))
    (l5 : K.lookup f5 = some ⟨oc5, od5, .func (PySem.W.fnOf "is_log" "is_log" (defArgs s_is_log) (defBody s_is_log) (defScope s_is_log) .none kV5 dc5 pm5 an5 cd5 ct5), sl5⟩)
    (c5 : PySem.W.codeIn K cd5 "is_log" = true)
    (k5 : PySem.W.keepIn K (.ref f5) = true)
    (a6 : PySem.W.nsIn K mainGlobals "need_log" = some (some (.ref f6)))
    (l6 : K.lookup f6 = some ⟨oc6, od6, .func (PySem.W.fnOf "need_log" "need_log" (defArgs s_need_log) (defBody s_need_log) (defScope s_need_log) .none kV6 dc6 pm6 an6 cd6 ct6), sl6⟩)
    (c6 : PySem.W.codeIn K cd6 "need_log" = true)
    (k6 : PySem.W.keepIn K (.ref f6) = true)
    (a7 : PySem.W.nsIn K mainGlobals "need_growing" = some (some (.ref f7)))
    (l7 : K.lookup f7 = some ⟨oc7, od7, .func (PySem.W.fnOf "need_growing" "need_growing" (defArgs s_need_growing) (defBody s_need_growing) (defScope s_need_growing) .none kV7 dc7 pm7 an7 cd7 ct7), sl7⟩)
    (c7 : PySem.W.codeIn K cd7 "need_growing" = true)
    (k7 : PySem.W.keepIn K (.ref f7) = true)
    (a8 : PySem.W.nsIn K mainGlobals "made" = some (some (.ref f8)))
    (l8 : K.lookup f8 = some ⟨oc8, od8, .func (PySem.W.fnOf "made" "made" (defArgs s_made) (defBody s_made) (defScope s_made) .none kV8 dc8 pm8 an8 cd8 ct8), sl8⟩)
    (c8 : PySem.W.codeIn K cd8 "made" = true)
    (k8 : PySem.W.keepIn K (.ref f8) = true)
    (a9 : PySem.W.nsIn K mainGlobals "copied" = some (some (.ref f9)))
    (l9 : K.lookup f9 = some ⟨oc9, od9, .func (PySem.W.fnOf "copied" "copied" (defArgs s_copied) (defBody s_copied) (defScope s_copied) .none kV9 dc9 pm9 an9 cd9 ct9), sl9⟩)
    (c9 : PySem.W.codeIn K cd9 "copied" = true)
    (k9 : PySem.W.keepIn K (.ref f9) = true)
    (a10 : PySem.W.nsIn K mainGlobals "least_missing" = some (some (.ref f10)))
    (l10 : K.lookup f10 = some ⟨oc10, od10, .func (PySem.W.fnOf "least_missing" "least_missing" (defArgs s_least_missing) (defBody s_least_missing) (defScope s_least_missing) .none kV10 dc10 pm10 an10 cd10 ct10), sl10⟩)
    (c10 : PySem.W.codeIn K cd10 "least_missing" = true)
    (k10 : PySem.W.keepIn K (.ref f10) = true)
    (a11 : PySem.W.nsIn K mainGlobals "usable" = some (some (.ref f11)))
    (l11 : K.lookup f11 = some ⟨oc11, od11, .func (PySem.W.fnOf "usable" "usable" (defArgs s_usable) (defBody s_usable) (defScope s_usable) .none kV11 dc11 pm11 an11 cd11 ct11), sl11⟩)
    (c11 : PySem.W.codeIn K cd11 "usable" = true)
    (k11 : PySem.W.keepIn K (.ref f11) = true)
    (a12 : PySem.W.nsIn K mainGlobals "need_seen" = some (some (.ref f12)))
    (l12 : K.lookup f12 = some ⟨oc12, od12, .func (PySem.W.fnOf "need_seen" "need_seen" (defArgs s_need_seen) (defBody s_need_seen) (defScope s_need_seen) .none kV12 dc12 pm12 an12 cd12 ct12), sl12⟩)
    (c12 : PySem.W.codeIn K cd12 "need_seen" = true)
    (k12 : PySem.W.keepIn K (.ref f12) = true)
    (a13 : PySem.W.nsIn K mainGlobals "board_of" = some (some (.ref f13)))
    (l13 : K.lookup f13 = some ⟨oc13, od13, .func (PySem.W.fnOf "board_of" "board_of" (defArgs s_board_of) (defBody s_board_of) (defScope s_board_of) .none kV13 dc13 pm13 an13 cd13 ct13), sl13⟩)
    (c13 : PySem.W.codeIn K cd13 "board_of" = true)
    (k13 : PySem.W.keepIn K (.ref f13) = true)
    (a14 : PySem.W.nsIn K mainGlobals "count_filled" = some (some (.ref f14)))
    (l14 : K.lookup f14 = some ⟨oc14, od14, .func (PySem.W.fnOf "count_filled" "count_filled" (defArgs s_count_filled) (defBody s_count_filled) (defScope s_count_filled) .none kV14 dc14 pm14 an14 cd14 ct14), sl14⟩)
    (c14 : PySem.W.codeIn K cd14 "count_filled" = true)
    (k14 : PySem.W.keepIn K (.ref f14) = true)
    (a15 : PySem.W.nsIn K mainGlobals "count" = some (some (.ref f15)))
    (l15 : K.lookup f15 = some ⟨oc15, od15, .func (PySem.W.fnOf "count" "count" (defArgs s_count) (defBody s_count) (defScope s_count) .none (.ref kD15) dc15 pm15 an15 cd15 ct15), sl15⟩)
    (kd15 : PySem.W.nsIn K kD15 "seen" = some (some .none))
    (c15 : PySem.W.codeIn K cd15 "count" = true)
    (k15 : PySem.W.keepIn K (.ref f15) = true)
    (a16 : PySem.W.nsIn K mainGlobals "_law_tape" = some (some (.ref f16)))
    (l16 : K.lookup f16 = some ⟨oc16, od16, .func (PySem.W.fnOf "_law_tape" "_law_tape" (defArgs s_law_tape) (defBody s_law_tape) (defScope s_law_tape) .none kV16 dc16 pm16 an16 cd16 ct16), sl16⟩)
    (c16 : PySem.W.codeIn K cd16 "_law_tape" = true)
    (k16 : PySem.W.keepIn K (.ref f16) = true)
    (a17 : PySem.W.nsIn K mainGlobals "_law_next" = some (some (.ref f17)))
    (l17 : K.lookup f17 = some ⟨oc17, od17, .func (PySem.W.fnOf "_law_next" "_law_next" (defArgs s_law_next) (defBody s_law_next) (defScope s_law_next) .none kV17 dc17 pm17 an17 cd17 ct17), sl17⟩)
    (c17 : PySem.W.codeIn K cd17 "_law_next" = true)
    (k17 : PySem.W.keepIn K (.ref f17) = true)
    (a18 : PySem.W.nsIn K mainGlobals "_law_items" = some (some (.ref f18)))
    (l18 : K.lookup f18 = some ⟨oc18, od18, .func (PySem.W.fnOf "_law_items" "_law_items" (defArgs s_law_items) (defBody s_law_items) (defScope s_law_items) .none kV18 dc18 pm18 an18 cd18 ct18), sl18⟩)
    (c18 : PySem.W.codeIn K cd18 "_law_items" = true)
    (k18 : PySem.W.keepIn K (.ref f18) = true)
    (a19 : PySem.W.nsIn K mainGlobals "_law_made" = some (some (.ref f19)))
    (l19 : K.lookup f19 = some ⟨oc19, od19, .func (PySem.W.fnOf "_law_made" "_law_made" (defArgs s_law_made) (defBody s_law_made) (defScope s_law_made) .none kV19 dc19 pm19 an19 cd19 ct19), sl19⟩)
    (c19 : PySem.W.codeIn K cd19 "_law_made" = true)
    (k19 : PySem.W.keepIn K (.ref f19) = true)
    (a20 : PySem.W.nsIn K mainGlobals "_law_right" = some (some (.ref f20)))
    (l20 : K.lookup f20 = some ⟨oc20, od20, .func (PySem.W.fnOf "_law_right" "_law_right" (defArgs s_law_right) (defBody s_law_right) (defScope s_law_right) .none kV20 dc20 pm20 an20 cd20 ct20), sl20⟩)
    (c20 : PySem.W.codeIn K cd20 "_law_right" = true)
    (k20 : PySem.W.keepIn K (.ref f20) = true)
    (a21 : PySem.W.nsIn K mainGlobals "law" = some (some (.ref f21)))
    (l21 : K.lookup f21 = some ⟨oc21, od21, .func (PySem.W.fnOf "law" "law" (defArgs s_law) (defBody s_law) (defScope s_law) .none kV21 dc21 pm21 an21 cd21 ct21), sl21⟩)
    (c21 : PySem.W.codeIn K cd21 "law" = true)
    (k21 : PySem.W.keepIn K (.ref f21) = true)
    (ocg : PySem.W.specialIn K (.builtin "object.__class__") "__get__" = some (some (.builtin "getset_descriptor.__get__")))
    (oct : PySem.W.takesIn K (.builtin "object.__class__") = some true)
    (nC0 : PySem.W.nsIn K mainGlobals "Inserted" = some (some (.ref C0)))
    (pgC0 : PySem.W.plainGet K C0 Str.empty = true)
    (hdC0 : PySem.W.hasDictIn K C0 = true)
    (poC0 : PySem.W.plainOver K C0 = true)
    (saC0 : PySem.W.findIn K (.ref C0) "__setattr__" = some (some (.builtin "object.__setattr__")))
    (ocC0 : PySem.W.findIn K (.ref C0) "__class__" = some (some (.builtin "object.__class__")))
    (moC0 : PySem.W.mroIn K C0 (.type "object") = some true)
    (mkC0 : PySem.W.makesIn K C0 = true)
    (kcC0 : PySem.W.keepIn K (.ref C0) = true)
    (inC0 : PySem.W.findIn K (.ref C0) "__init__" = some (some (.ref fI)))
    (itC0 : PySem.W.findIn K (.ref C0) "item" = some (some (.ref pI)))
    (stC0 : PySem.W.findIn K (.ref C0) "slot" = some (some (.ref pS)))
    (niC0 : PySem.W.findIn K (.ref C0) "held_item" = some none)
    (nsC0 : PySem.W.findIn K (.ref C0) "held_slot" = some none)
    (sgC0 : PySem.W.findIn K (.ref C0) "SIGN" = some (some (.str "+" tkC0)))
    (spC0 : PySem.W.specialIn K (.str "+" tkC0) "__get__" = some none)
    (mmvC0 : PySem.W.findIn K (.ref C0) "move_to" = some (some (.ref fMmv)))
    (nC1 : PySem.W.nsIn K mainGlobals "Removed" = some (some (.ref C1)))
    (pgC1 : PySem.W.plainGet K C1 Str.empty = true)
    (hdC1 : PySem.W.hasDictIn K C1 = true)
    (poC1 : PySem.W.plainOver K C1 = true)
    (saC1 : PySem.W.findIn K (.ref C1) "__setattr__" = some (some (.builtin "object.__setattr__")))
    (ocC1 : PySem.W.findIn K (.ref C1) "__class__" = some (some (.builtin "object.__class__")))
    (moC1 : PySem.W.mroIn K C1 (.type "object") = some true)
    (mkC1 : PySem.W.makesIn K C1 = true)
    (kcC1 : PySem.W.keepIn K (.ref C1) = true)
    (inC1 : PySem.W.findIn K (.ref C1) "__init__" = some (some (.ref fI)))
    (itC1 : PySem.W.findIn K (.ref C1) "item" = some (some (.ref pI)))
    (stC1 : PySem.W.findIn K (.ref C1) "slot" = some (some (.ref pS)))
    (niC1 : PySem.W.findIn K (.ref C1) "held_item" = some none)
    (nsC1 : PySem.W.findIn K (.ref C1) "held_slot" = some none)
    (sgC1 : PySem.W.findIn K (.ref C1) "SIGN" = some (some (.str "-" tkC1)))
    (spC1 : PySem.W.specialIn K (.str "-" tkC1) "__get__" = some none)
    (mmvC1 : PySem.W.findIn K (.ref C1) "move_to" = some (some (.ref fMmv)))
    (nC2 : PySem.W.nsIn K mainGlobals "Fronted" = some (some (.ref C2)))
    (pgC2 : PySem.W.plainGet K C2 Str.empty = true)
    (hdC2 : PySem.W.hasDictIn K C2 = true)
    (poC2 : PySem.W.plainOver K C2 = true)
    (saC2 : PySem.W.findIn K (.ref C2) "__setattr__" = some (some (.builtin "object.__setattr__")))
    (ocC2 : PySem.W.findIn K (.ref C2) "__class__" = some (some (.builtin "object.__class__")))
    (moC2 : PySem.W.mroIn K C2 (.type "object") = some true)
    (mkC2 : PySem.W.makesIn K C2 = true)
    (kcC2 : PySem.W.keepIn K (.ref C2) = true)
    (inC2 : PySem.W.findIn K (.ref C2) "__init__" = some (some (.ref fI)))
    (itC2 : PySem.W.findIn K (.ref C2) "item" = some (some (.ref pI)))
    (stC2 : PySem.W.findIn K (.ref C2) "slot" = some (some (.ref pS)))
    (niC2 : PySem.W.findIn K (.ref C2) "held_item" = some none)
    (nsC2 : PySem.W.findIn K (.ref C2) "held_slot" = some none)
    (sgC2 : PySem.W.findIn K (.ref C2) "SIGN" = some (some (.str "^" tkC2)))
    (spC2 : PySem.W.specialIn K (.str "^" tkC2) "__get__" = some none)
    (mmvC2 : PySem.W.findIn K (.ref C2) "move_to" = some (some (.ref fMmv)))
    (nC3 : PySem.W.nsIn K mainGlobals "Record" = some (some (.ref C3)))
    (pgC3 : PySem.W.plainGet K C3 Str.empty = true)
    (hdC3 : PySem.W.hasDictIn K C3 = true)
    (poC3 : PySem.W.plainOver K C3 = true)
    (saC3 : PySem.W.findIn K (.ref C3) "__setattr__" = some (some (.builtin "object.__setattr__")))
    (ocC3 : PySem.W.findIn K (.ref C3) "__class__" = some (some (.builtin "object.__class__")))
    (moC3 : PySem.W.mroIn K C3 (.type "object") = some true)
    (mkC3 : PySem.W.makesIn K C3 = true)
    (kcC3 : PySem.W.keepIn K (.ref C3) = true)
    (inC3 : PySem.W.findIn K (.ref C3) "__init__" = some (some (.ref fI)))
    (itC3 : PySem.W.findIn K (.ref C3) "item" = some (some (.ref pI)))
    (stC3 : PySem.W.findIn K (.ref C3) "slot" = some (some (.ref pS)))
    (niC3 : PySem.W.findIn K (.ref C3) "held_item" = some none)
    (nsC3 : PySem.W.findIn K (.ref C3) "held_slot" = some none)
    (sgC3 : PySem.W.findIn K (.ref C3) "SIGN" = some (some (.str "" tkC3)))
    (spC3 : PySem.W.specialIn K (.str "" tkC3) "__get__" = some none)
    (mmvC3 : PySem.W.findIn K (.ref C3) "move_to" = some (some (.ref fMmv)))
    (gtpI : PySem.W.specialIn K (.ref pI) "__get__" = some (some (.builtin "property.__get__")))
    (tkpI : PySem.W.takesIn K (.ref pI) = some true)
    (rcpI : PySem.W.recIn K pI "property" = some (.ref fP :: rspI))
    (gtpS : PySem.W.specialIn K (.ref pS) "__get__" = some (some (.builtin "property.__get__")))
    (tkpS : PySem.W.takesIn K (.ref pS) = some true)
    (rcpS : PySem.W.recIn K pS "property" = some (.ref fS :: rspS))
    (lI : K.lookup fI = some ⟨ocI, odI, .func (PySem.W.fnOf "__init__" "Record.__init__" (defArgs s_Record_init) (defBody s_Record_init) (defScope s_Record_init) .none kVI dcI pmI anI cdI ctI), slI⟩)
    (cI : PySem.W.codeIn K cdI "Record.__init__" = true)
    (kI : PySem.W.keepIn K (.ref fI) = true)
    (lP : K.lookup fP = some ⟨ocP, odP, .func (PySem.W.fnOf "item" "Record.item" (defArgs s_Record_item) (defBody s_Record_item) (defScope s_Record_item) .none kVP dcP pmP anP cdP ctP), slP⟩)
    (cP : PySem.W.codeIn K cdP "Record.item" = true)
    (kP : PySem.W.keepIn K (.ref fP) = true)
    (lS : K.lookup fS = some ⟨ocS, odS, .func (PySem.W.fnOf "slot" "Record.slot" (defArgs s_Record_slot) (defBody s_Record_slot) (defScope s_Record_slot) .none kVS dcS pmS anS cdS ctS), slS⟩)
    (cS : PySem.W.codeIn K cdS "Record.slot" = true)
    (kS : PySem.W.keepIn K (.ref fS) = true)
    (lMmv : K.lookup fMmv = some ⟨ocMmv, odMmv, .func (PySem.W.fnOf "move_to" "Record.move_to" (defArgs s_Record_move_to) (defBody s_Record_move_to) (defScope s_Record_move_to) .none kVMmv dcMmv pmMmv anMmv cdMmv ctMmv), slMmv⟩)
    (cMmv : PySem.W.codeIn K cdMmv "Record.move_to" = true)
    (kMmv : PySem.W.keepIn K (.ref fMmv) = true)
    (iI : PySem.W.isFn K (.ref fI) = true)
    (iMmv : PySem.W.isFn K (.ref fMmv) = true)
    (kt00 : PySem.W.subIn K (.ref C0) (.ref C0) = some true)
    (kt01 : PySem.W.subIn K (.ref C0) (.ref C1) = some false)
    (kt02 : PySem.W.subIn K (.ref C0) (.ref C2) = some false)
    (kt03 : PySem.W.subIn K (.ref C0) (.ref C3) = some true)
    (kt10 : PySem.W.subIn K (.ref C1) (.ref C0) = some false)
    (kt11 : PySem.W.subIn K (.ref C1) (.ref C1) = some true)
    (kt12 : PySem.W.subIn K (.ref C1) (.ref C2) = some false)
    (kt13 : PySem.W.subIn K (.ref C1) (.ref C3) = some true)
    (kt20 : PySem.W.subIn K (.ref C2) (.ref C0) = some false)
    (kt21 : PySem.W.subIn K (.ref C2) (.ref C1) = some false)
    (kt22 : PySem.W.subIn K (.ref C2) (.ref C2) = some true)
    (kt23 : PySem.W.subIn K (.ref C2) (.ref C3) = some true)
    (kt30 : PySem.W.subIn K (.ref C3) (.ref C0) = some false)
    (kt31 : PySem.W.subIn K (.ref C3) (.ref C1) = some false)
    (kt32 : PySem.W.subIn K (.ref C3) (.ref C2) = some false)
    (kt33 : PySem.W.subIn K (.ref C3) (.ref C3) = some true)
    (ic0 : PySem.W.isClsIn K C0 = true)
    (tc0 : PySem.W.typeIn K (.ref C0) = some (.type "type"))
    (ic1 : PySem.W.isClsIn K C1 = true)
    (tc1 : PySem.W.typeIn K (.ref C1) = some (.type "type"))
    (ic2 : PySem.W.isClsIn K C2 = true)
    (tc2 : PySem.W.typeIn K (.ref C2) = some (.type "type"))
    (ic3 : PySem.W.isClsIn K C3 = true)
    (tc3 : PySem.W.typeIn K (.ref C3) = some (.type "type"))
    (rdR : PySem.W.readsIn K C3 (.type "type") = true)
    (gaR : PySem.W.specialIn K (.ref C3) "__getattribute__" = some (some (.builtin "type.__getattribute__")))
    (msR : PySem.W.findCls K (.ref C3) (.type "type") "MOST" = some (.val (.int 60 tkM)))
    (xBoard : PySem.W.nsIn K mainGlobals "Board" = some (some (.ref XBoard)))
    (xImpossible : PySem.W.nsIn K mainGlobals "Impossible" = some (some (.ref XImpossible)))
    (xLogError : PySem.W.nsIn K mainGlobals "LogError" = some (some (.ref XLogError)))
    (xNoIndex : PySem.W.nsIn K mainGlobals "NoIndex" = some (some (.ref XNoIndex)))
    (xNoItem : PySem.W.nsIn K mainGlobals "NoItem" = some (some (.ref XNoItem)))
    (xNoList : PySem.W.nsIn K mainGlobals "NoList" = some (some (.ref XNoList)))
    (xNoLog : PySem.W.nsIn K mainGlobals "NoLog" = some (some (.ref XNoLog)))
    (xNoSeen : PySem.W.nsIn K mainGlobals "NoSeen" = some (some (.ref XNoSeen)))
    (xNoText : PySem.W.nsIn K mainGlobals "NoText" = some (some (.ref XNoText)))
    (pgXBoard : PySem.W.plainGet K XBoard Str.empty = true)
    (hdXBoard : PySem.W.hasDictIn K XBoard = true)
    (poXBoard : PySem.W.plainOver K XBoard = true)
    (saXBoard : PySem.W.findIn K (.ref XBoard) "__setattr__" = some (some (.builtin "object.__setattr__")))
    (mkXBoard : PySem.W.makesIn K XBoard = true)
    (kcXBoard : PySem.W.keepIn K (.ref XBoard) = true)
    (inXBoard : PySem.W.findIn K (.ref XBoard) "__init__" = some (some (.ref fNBoard)))
    (nfBoard_size : PySem.W.findIn K (.ref XBoard) "size" = some none)
    (nfBoard_is_turned : PySem.W.findIn K (.ref XBoard) "is_turned" = some none)
    (nfBoard_floors : PySem.W.findIn K (.ref XBoard) "floors" = some none)
    (nfBoard_given : PySem.W.findIn K (.ref XBoard) "given" = some none)
    (mmBoard_turned : PySem.W.findIn K (.ref XBoard) "turned" = some (some (.ref fWBoard_turned)))
    (mmBoard_far_items : PySem.W.findIn K (.ref XBoard) "far_items" = some (some (.ref fWBoard_far_items)))
    (mmBoard_wrong_positions : PySem.W.findIn K (.ref XBoard) "wrong_positions" = some (some (.ref fWBoard_wrong_positions)))
    (mmBoard_free_places : PySem.W.findIn K (.ref XBoard) "free_places" = some (some (.ref fWBoard_free_places)))
    (mmBoard_waiting_bounds : PySem.W.findIn K (.ref XBoard) "waiting_bounds" = some (some (.ref fWBoard_waiting_bounds)))
    (mmBoard_spares : PySem.W.findIn K (.ref XBoard) "spares" = some (some (.ref fWBoard_spares)))
    (lNBoard : K.lookup fNBoard = some ⟨ocNBoard, odNBoard, .func (PySem.W.fnOf "__init__" "Board.__init__" (defArgs s_Board_init) (defBody s_Board_init) (defScope s_Board_init) .none kVNBoard dcNBoard pmNBoard anNBoard cdNBoard ctNBoard), slNBoard⟩)
    (cNBoard : PySem.W.codeIn K cdNBoard "Board.__init__" = true)
    (kNBoard : PySem.W.keepIn K (.ref fNBoard) = true)
    (iNBoard : PySem.W.isFn K (.ref fNBoard) = true)
    (lWBoard_turned : K.lookup fWBoard_turned = some ⟨ocWBoard_turned, odWBoard_turned, .func (PySem.W.fnOf "turned" "Board.turned" (defArgs s_Board_turned) (defBody s_Board_turned) (defScope s_Board_turned) .none kVWBoard_turned dcWBoard_turned pmWBoard_turned anWBoard_turned cdWBoard_turned ctWBoard_turned), slWBoard_turned⟩)
    (cWBoard_turned : PySem.W.codeIn K cdWBoard_turned "Board.turned" = true)
    (kWBoard_turned : PySem.W.keepIn K (.ref fWBoard_turned) = true)
    (iWBoard_turned : PySem.W.isFn K (.ref fWBoard_turned) = true)
    (lWBoard_far_items : K.lookup fWBoard_far_items = some ⟨ocWBoard_far_items, odWBoard_far_items, .func (PySem.W.fnOf "far_items" "Board.far_items" (defArgs s_Board_far_items) (defBody s_Board_far_items) (defScope s_Board_far_items) .none kVWBoard_far_items dcWBoard_far_items pmWBoard_far_items anWBoard_far_items cdWBoard_far_items ctWBoard_far_items), slWBoard_far_items⟩)
    (cWBoard_far_items : PySem.W.codeIn K cdWBoard_far_items "Board.far_items" = true)
    (kWBoard_far_items : PySem.W.keepIn K (.ref fWBoard_far_items) = true)
    (iWBoard_far_items : PySem.W.isFn K (.ref fWBoard_far_items) = true)
    (lWBoard_wrong_positions : K.lookup fWBoard_wrong_positions = some ⟨ocWBoard_wrong_positions, odWBoard_wrong_positions, .func (PySem.W.fnOf "wrong_positions" "Board.wrong_positions" (defArgs s_Board_wrong_positions) (defBody s_Board_wrong_positions) (defScope s_Board_wrong_positions) .none kVWBoard_wrong_positions dcWBoard_wrong_positions pmWBoard_wrong_positions anWBoard_wrong_positions cdWBoard_wrong_positions ctWBoard_wrong_positions), slWBoard_wrong_positions⟩)
    (cWBoard_wrong_positions : PySem.W.codeIn K cdWBoard_wrong_positions "Board.wrong_positions" = true)
    (kWBoard_wrong_positions : PySem.W.keepIn K (.ref fWBoard_wrong_positions) = true)
    (iWBoard_wrong_positions : PySem.W.isFn K (.ref fWBoard_wrong_positions) = true)
    (lWBoard_free_places : K.lookup fWBoard_free_places = some ⟨ocWBoard_free_places, odWBoard_free_places, .func (PySem.W.fnOf "free_places" "Board.free_places" (defArgs s_Board_free_places) (defBody s_Board_free_places) (defScope s_Board_free_places) .none kVWBoard_free_places dcWBoard_free_places pmWBoard_free_places anWBoard_free_places cdWBoard_free_places ctWBoard_free_places), slWBoard_free_places⟩)
    (cWBoard_free_places : PySem.W.codeIn K cdWBoard_free_places "Board.free_places" = true)
    (kWBoard_free_places : PySem.W.keepIn K (.ref fWBoard_free_places) = true)
    (iWBoard_free_places : PySem.W.isFn K (.ref fWBoard_free_places) = true)
    (lWBoard_waiting_bounds : K.lookup fWBoard_waiting_bounds = some ⟨ocWBoard_waiting_bounds, odWBoard_waiting_bounds, .func (PySem.W.fnOf "waiting_bounds" "Board.waiting_bounds" (defArgs s_Board_waiting_bounds) (defBody s_Board_waiting_bounds) (defScope s_Board_waiting_bounds) .none kVWBoard_waiting_bounds dcWBoard_waiting_bounds pmWBoard_waiting_bounds anWBoard_waiting_bounds cdWBoard_waiting_bounds ctWBoard_waiting_bounds), slWBoard_waiting_bounds⟩)
    (cWBoard_waiting_bounds : PySem.W.codeIn K cdWBoard_waiting_bounds "Board.waiting_bounds" = true)
    (kWBoard_waiting_bounds : PySem.W.keepIn K (.ref fWBoard_waiting_bounds) = true)
    (iWBoard_waiting_bounds : PySem.W.isFn K (.ref fWBoard_waiting_bounds) = true)
    (lWBoard_spares : K.lookup fWBoard_spares = some ⟨ocWBoard_spares, odWBoard_spares, .func (PySem.W.fnOf "spares" "Board.spares" (defArgs s_Board_spares) (defBody s_Board_spares) (defScope s_Board_spares) .none kVWBoard_spares dcWBoard_spares pmWBoard_spares anWBoard_spares cdWBoard_spares ctWBoard_spares), slWBoard_spares⟩)
    (cWBoard_spares : PySem.W.codeIn K cdWBoard_spares "Board.spares" = true)
    (kWBoard_spares : PySem.W.keepIn K (.ref fWBoard_spares) = true)
    (iWBoard_spares : PySem.W.isFn K (.ref fWBoard_spares) = true)
    (b_abs : PySem.W.nsIn K mainGlobals "abs" = some none)
    (b_all : PySem.W.nsIn K mainGlobals "all" = some none)
    (b_bool : PySem.W.nsIn K mainGlobals "bool" = some none)
    (b_enumerate : PySem.W.nsIn K mainGlobals "enumerate" = some none)
    (b_int : PySem.W.nsIn K mainGlobals "int" = some none)
    (b_isinstance : PySem.W.nsIn K mainGlobals "isinstance" = some none)
    (b_len : PySem.W.nsIn K mainGlobals "len" = some none)
    (b_list : PySem.W.nsIn K mainGlobals "list" = some none)
    (b_max : PySem.W.nsIn K mainGlobals "max" = some none)
    (b_min : PySem.W.nsIn K mainGlobals "min" = some none)
    (b_range : PySem.W.nsIn K mainGlobals "range" = some none)
    (b_set : PySem.W.nsIn K mainGlobals "set" = some none)
    (b_sorted : PySem.W.nsIn K mainGlobals "sorted" = some none)
    (b_str : PySem.W.nsIn K mainGlobals "str" = some none)
    (b_zip : PySem.W.nsIn K mainGlobals "zip" = some none)
    (v_FRONTED : PySem.W.nsIn K mainGlobals "FRONTED" = some (some (.str "^" tk_FRONTED)))
    (v_INSERTED : PySem.W.nsIn K mainGlobals "INSERTED" = some (some (.str "+" tk_INSERTED)))
    (v_LETTERS : PySem.W.nsIn K mainGlobals "LETTERS" = some (some (.str "abcdefghijklmnopqrstuvwxyz" tk_LETTERS)))
    (v_MOST_LETTERS : PySem.W.nsIn K mainGlobals "MOST_LETTERS" = some (some (.int 8 tk_MOST_LETTERS)))
    (v_MOST_LOG : PySem.W.nsIn K mainGlobals "MOST_LOG" = some (some (.int 40 tk_MOST_LOG)))
    (v_REMOVED : PySem.W.nsIn K mainGlobals "REMOVED" = some (some (.str "-" tk_REMOVED))) :
    ∃ fd : FuncData, (∀ (s : Shared) (v : Value), BindsTo s fd ⟨[v], []⟩ [("_law_script", v)]) ∧ ∀ base : Heap, K.In base → base.Ns mainGlobals mg → FnG l.prog w K mg base 9 fa fd ["_law_script"] (sp_law K) := by
  have e := hfa.symm.trans (PySem.W.mg_of X G a21)
  cases e
  have F0 := fun_mk (st := s_is_integer) l0 c0 k0
  have B0 := F0.binds (ps := ["thing", "least", "most"]) fun _ _ _ _ _ _ us hl => match us, hl with | [_, _, _], _ => rfl
  have D0 : Df K mg "is_integer" s_is_integer ["thing", "least", "most"] := ⟨_, _, F0, PySem.W.mg_of X G a0, B0⟩
  have F1 := fun_mk (st := s_is_item) l1 c1 k1
  have B1 := F1.binds (ps := ["thing"]) fun _ _ _ _ _ _ us hl => match us, hl with | [_], _ => rfl
  have D1 : Df K mg "is_item" s_is_item ["thing"] := ⟨_, _, F1, PySem.W.mg_of X G a1, B1⟩
  have F2 := fun_mk (st := s_are_records) l2 c2 k2
  have B2 := F2.binds (ps := ["thing", "most"]) fun _ _ _ _ _ _ us hl => match us, hl with | [_, _], _ => rfl
  have D2 : Df K mg "are_records" s_are_records ["thing", "most"] := ⟨_, _, F2, PySem.W.mg_of X G a2, B2⟩
  have F3 := fun_mk (st := s_sign_of) l3 c3 k3
  have B3 := F3.binds (ps := ["log"]) fun _ _ _ _ _ _ us hl => match us, hl with | [_], _ => rfl
  have D3 : Df K mg "sign_of" s_sign_of ["log"] := ⟨_, _, F3, PySem.W.mg_of X G a3, B3⟩
  have F4 := fun_mk (st := s_items_of) l4 c4 k4
  have B4 := F4.binds (ps := ["log"]) fun _ _ _ _ _ _ us hl => match us, hl with | [_], _ => rfl
  have D4 : Df K mg "items_of" s_items_of ["log"] := ⟨_, _, F4, PySem.W.mg_of X G a4, B4⟩
  have F5 := fun_mk (st := s_is_log) l5 c5 k5
  have B5 := F5.binds (ps := ["thing"]) fun _ _ _ _ _ _ us hl => match us, hl with | [_], _ => rfl
  have D5 : Df K mg "is_log" s_is_log ["thing"] := ⟨_, _, F5, PySem.W.mg_of X G a5, B5⟩
  have F6 := fun_mk (st := s_need_log) l6 c6 k6
  have B6 := F6.binds (ps := ["thing"]) fun _ _ _ _ _ _ us hl => match us, hl with | [_], _ => rfl
  have D6 : Df K mg "need_log" s_need_log ["thing"] := ⟨_, _, F6, PySem.W.mg_of X G a6, B6⟩
  have F7 := fun_mk (st := s_need_growing) l7 c7 k7
  have B7 := F7.binds (ps := ["log"]) fun _ _ _ _ _ _ us hl => match us, hl with | [_], _ => rfl
  have D7 : Df K mg "need_growing" s_need_growing ["log"] := ⟨_, _, F7, PySem.W.mg_of X G a7, B7⟩
  have F8 := fun_mk (st := s_made) l8 c8 k8
  have B8 := F8.binds (ps := ["sign", "item", "slot"]) fun _ _ _ _ _ _ us hl => match us, hl with | [_, _, _], _ => rfl
  have D8 : Df K mg "made" s_made ["sign", "item", "slot"] := ⟨_, _, F8, PySem.W.mg_of X G a8, B8⟩
  have F9 := fun_mk (st := s_copied) l9 c9 k9
  have B9 := F9.binds (ps := ["record"]) fun _ _ _ _ _ _ us hl => match us, hl with | [_], _ => rfl
  have D9 : Df K mg "copied" s_copied ["record"] := ⟨_, _, F9, PySem.W.mg_of X G a9, B9⟩
  have F10 := fun_mk (st := s_least_missing) l10 c10 k10
  have B10 := F10.binds (ps := ["log"]) fun _ _ _ _ _ _ us hl => match us, hl with | [_], _ => rfl
  have D10 : Df K mg "least_missing" s_least_missing ["log"] := ⟨_, _, F10, PySem.W.mg_of X G a10, B10⟩
  have F11 := fun_mk (st := s_usable) l11 c11 k11
  have B11 := F11.binds (ps := ["log"]) fun _ _ _ _ _ _ us hl => match us, hl with | [_], _ => rfl
  have D11 : Df K mg "usable" s_usable ["log"] := ⟨_, _, F11, PySem.W.mg_of X G a11, B11⟩
  have F12 := fun_mk (st := s_need_seen) l12 c12 k12
  have B12 := F12.binds (ps := ["log", "seen"]) fun _ _ _ _ _ _ us hl => match us, hl with | [_, _], _ => rfl
  have D12 : Df K mg "need_seen" s_need_seen ["log", "seen"] := ⟨_, _, F12, PySem.W.mg_of X G a12, B12⟩
  have F13 := fun_mk (st := s_board_of) l13 c13 k13
  have B13 := F13.binds (ps := ["log", "seen"]) fun _ _ _ _ _ _ us hl => match us, hl with | [_, _], _ => rfl
  have D13 : Df K mg "board_of" s_board_of ["log", "seen"] := ⟨_, _, F13, PySem.W.mg_of X G a13, B13⟩
  have F14 := fun_mk (st := s_count_filled) l14 c14 k14
  have B14 := F14.binds (ps := ["board", "given"]) fun _ _ _ _ _ _ us hl => match us, hl with | [_, _], _ => rfl
  have D14 : Df K mg "count_filled" s_count_filled ["board", "given"] := ⟨_, _, F14, PySem.W.mg_of X G a14, B14⟩
  have F15 := fun_mk (st := s_count) l15 c15 k15
  have FD15 : FunD K "count" "count" (defArgs s_count) (defBody s_count) (defScope s_count) [] [("seen", .non)] f15 _ := ⟨⟨_, _, .none, .ref kD15, _, _, _, _, _, _, rfl, l15, c15, .inl ⟨rfl, rfl⟩, .inr ⟨kD15, rfl, fun q hq => by cases hq with | head => exact ⟨_, kd15, rfl⟩ | tail _ h => cases h⟩⟩, k15⟩
  obtain ⟨ds15, rd15, B15⟩ := FD15.binds0 (ps := ["log", "seen"]) 1 (by simp) rfl fun D doc pm an cdv ct us ks hu hk => match us, ks, hu, hk with | [_], [_], _, _ => ⟨_, _, _, _, _, _, rfl, rfl, rfl⟩
  have D15 : Dfd K mg "count" s_count ["log", "seen"] [.non] := ⟨_, _, ds15, F15, PySem.W.mg_of X G a15, rd15, B15⟩
  have F16 := fun_mk (st := s_law_tape) l16 c16 k16
  have B16 := F16.binds (ps := ["_law_script", "_law_k"]) fun _ _ _ _ _ _ us hl => match us, hl with | [_, _], _ => rfl
  have D16 : Df K mg "_law_tape" s_law_tape ["_law_script", "_law_k"] := ⟨_, _, F16, PySem.W.mg_of X G a16, B16⟩
  have F17 := fun_mk (st := s_law_next) l17 c17 k17
  have B17 := F17.binds (ps := ["_law_tape_here", "_law_size"]) fun _ _ _ _ _ _ us hl => match us, hl with | [_, _], _ => rfl
  have D17 : Df K mg "_law_next" s_law_next ["_law_tape_here", "_law_size"] := ⟨_, _, F17, PySem.W.mg_of X G a17, B17⟩
  have F18 := fun_mk (st := s_law_items) l18 c18 k18
  have B18 := F18.binds (ps := ["_law_tape_here", "_law_many"]) fun _ _ _ _ _ _ us hl => match us, hl with | [_, _], _ => rfl
  have D18 : Df K mg "_law_items" s_law_items ["_law_tape_here", "_law_many"] := ⟨_, _, F18, PySem.W.mg_of X G a18, B18⟩
  have F19 := fun_mk (st := s_law_made) l19 c19 k19
  have B19 := F19.binds (ps := ["_law_kind", "_law_item", "_law_slot"]) fun _ _ _ _ _ _ us hl => match us, hl with | [_, _, _], _ => rfl
  have D19 : Df K mg "_law_made" s_law_made ["_law_kind", "_law_item", "_law_slot"] := ⟨_, _, F19, PySem.W.mg_of X G a19, B19⟩
  have F20 := fun_mk (st := s_law_right) l20 c20 k20
  have B20 := F20.binds (ps := ["_law_tape_here", "_law_kind", "_law_slots"]) fun _ _ _ _ _ _ us hl => match us, hl with | [_, _, _], _ => rfl
  have D20 : Df K mg "_law_right" s_law_right ["_law_tape_here", "_law_kind", "_law_slots"] := ⟨_, _, F20, PySem.W.mg_of X G a20, B20⟩
  have F21 := fun_mk (st := s_law) l21 c21 k21
  have B21 := F21.binds (ps := ["_law_script"]) fun _ _ _ _ _ _ us hl => match us, hl with | [_], _ => rfl
  have D21 : Df K mg "law" s_law ["_law_script"] := ⟨_, _, F21, PySem.W.mg_of X G a21, B21⟩
  have FI := fun_mk (st := s_Record_init) lI cI kI
  have BI := FI.binds (ps := ["self", "item", "slot"]) fun _ _ _ _ _ _ us hl => match us, hl with | [_, _, _], _ => rfl
  have FP := fun_mk (st := s_Record_item) lP cP kP
  have BP := FP.binds (ps := ["self"]) fun _ _ _ _ _ _ us hl => match us, hl with | [_], _ => rfl
  have FS := fun_mk (st := s_Record_slot) lS cS kS
  have BS := FS.binds (ps := ["self"]) fun _ _ _ _ _ _ us hl => match us, hl with | [_], _ => rfl
  have FMmv := fun_mk (st := s_Record_move_to) lMmv cMmv kMmv
  have BMmv := FMmv.binds (ps := ["self", "slot"]) fun _ _ _ _ _ _ us hl => match us, hl with | [_, _], _ => rfl
  have FNBoard := fun_mk (st := s_Board_init) lNBoard cNBoard kNBoard
  have BNBoard := FNBoard.binds (ps := ["self", "log", "seen"]) fun _ _ _ _ _ _ us hl => match us, hl with | [_, _, _], _ => rfl
  have FWBoard_turned := fun_mk (st := s_Board_turned) lWBoard_turned cWBoard_turned kWBoard_turned
  have BWBoard_turned := FWBoard_turned.binds (ps := ["self", "position"]) fun _ _ _ _ _ _ us hl => match us, hl with | [_, _], _ => rfl
  have FWBoard_far_items := fun_mk (st := s_Board_far_items) lWBoard_far_items cWBoard_far_items kWBoard_far_items
  have BWBoard_far_items := FWBoard_far_items.binds (ps := ["self"]) fun _ _ _ _ _ _ us hl => match us, hl with | [_], _ => rfl
  have FWBoard_wrong_positions := fun_mk (st := s_Board_wrong_positions) lWBoard_wrong_positions cWBoard_wrong_positions kWBoard_wrong_positions
  have BWBoard_wrong_positions := FWBoard_wrong_positions.binds (ps := ["self", "given"]) fun _ _ _ _ _ _ us hl => match us, hl with | [_, _], _ => rfl
  have FWBoard_free_places := fun_mk (st := s_Board_free_places) lWBoard_free_places cWBoard_free_places kWBoard_free_places
  have BWBoard_free_places := FWBoard_free_places.binds (ps := ["self", "given"]) fun _ _ _ _ _ _ us hl => match us, hl with | [_, _], _ => rfl
  have FWBoard_waiting_bounds := fun_mk (st := s_Board_waiting_bounds) lWBoard_waiting_bounds cWBoard_waiting_bounds kWBoard_waiting_bounds
  have BWBoard_waiting_bounds := FWBoard_waiting_bounds.binds (ps := ["self", "given"]) fun _ _ _ _ _ _ us hl => match us, hl with | [_, _], _ => rfl
  have FWBoard_spares := fun_mk (st := s_Board_spares) lWBoard_spares cWBoard_spares kWBoard_spares
  have BWBoard_spares := FWBoard_spares.binds (ps := ["self", "given"]) fun _ _ _ _ _ _ us hl => match us, hl with | [_, _], _ => rfl
  let A : Ads := { cInserted := C0, cRemoved := C1, cFronted := C2, cRecord := C3, cBoard := XBoard, cImpossible := XImpossible, cLogError := XLogError, cNoIndex := XNoIndex, cNoItem := XNoItem, cNoList := XNoList, cNoLog := XNoLog, cNoSeen := XNoSeen, cNoText := XNoText }
  have GG : Gm mg A := { g_abs := PySem.W.mg_none_of X G b_abs, g_all := PySem.W.mg_none_of X G b_all, g_bool := PySem.W.mg_none_of X G b_bool, g_enumerate := PySem.W.mg_none_of X G b_enumerate, g_int := PySem.W.mg_none_of X G b_int, g_isinstance := PySem.W.mg_none_of X G b_isinstance, g_len := PySem.W.mg_none_of X G b_len, g_list := PySem.W.mg_none_of X G b_list, g_max := PySem.W.mg_none_of X G b_max, g_min := PySem.W.mg_none_of X G b_min, g_range := PySem.W.mg_none_of X G b_range, g_set := PySem.W.mg_none_of X G b_set, g_sorted := PySem.W.mg_none_of X G b_sorted, g_str := PySem.W.mg_none_of X G b_str, g_zip := PySem.W.mg_none_of X G b_zip, g_FRONTED := ⟨_, PySem.W.mg_of X G v_FRONTED, ⟨_, rfl⟩⟩, g_INSERTED := ⟨_, PySem.W.mg_of X G v_INSERTED, ⟨_, rfl⟩⟩, g_LETTERS := ⟨_, PySem.W.mg_of X G v_LETTERS, ⟨_, rfl⟩⟩, g_MOST_LETTERS := ⟨_, PySem.W.mg_of X G v_MOST_LETTERS, ⟨_, rfl⟩⟩, g_MOST_LOG := ⟨_, PySem.W.mg_of X G v_MOST_LOG, ⟨_, rfl⟩⟩, g_REMOVED := ⟨_, PySem.W.mg_of X G v_REMOVED, ⟨_, rfl⟩⟩, cInserted := PySem.W.mg_of X G nC0, cRemoved := PySem.W.mg_of X G nC1, cFronted := PySem.W.mg_of X G nC2, cRecord := PySem.W.mg_of X G nC3, cBoard := PySem.W.mg_of X G xBoard, cImpossible := PySem.W.mg_of X G xImpossible, cLogError := PySem.W.mg_of X G xLogError, cNoIndex := PySem.W.mg_of X G xNoIndex, cNoItem := PySem.W.mg_of X G xNoItem, cNoList := PySem.W.mg_of X G xNoList, cNoLog := PySem.W.mg_of X G xNoLog, cNoSeen := PySem.W.mg_of X G xNoSeen, cNoText := PySem.W.mg_of X G xNoText }
  have K0 : Kd K mg A 0 := { cls := ⟨pgC0, hdC0, poC0, saC0⟩, ty := ⟨ocC0, ocg, oct, moC0⟩, made := ⟨_, _, FI, ⟨mkC0, inC0, iI, kcC0⟩, PySem.W.mg_of X G nC0, BI⟩, sign := ⟨_, sgC0, ⟨_, rfl⟩, spC0, by decide +kernel⟩, ni := niC0, ns := nsC0, item := ⟨_, _, _, ⟨itC0, gtpI, tkpI, _, rcpI⟩, FP, BP⟩, slot := ⟨_, _, _, ⟨stC0, gtpS, tkpS, _, rcpS⟩, FS, BS⟩, mv := ⟨⟨pgC0, hdC0, poC0, saC0⟩, _, _, FMmv, ⟨mmvC0, iMmv, kMmv⟩, BMmv⟩ }
  have K1 : Kd K mg A 1 := { cls := ⟨pgC1, hdC1, poC1, saC1⟩, ty := ⟨ocC1, ocg, oct, moC1⟩, made := ⟨_, _, FI, ⟨mkC1, inC1, iI, kcC1⟩, PySem.W.mg_of X G nC1, BI⟩, sign := ⟨_, sgC1, ⟨_, rfl⟩, spC1, by decide +kernel⟩, ni := niC1, ns := nsC1, item := ⟨_, _, _, ⟨itC1, gtpI, tkpI, _, rcpI⟩, FP, BP⟩, slot := ⟨_, _, _, ⟨stC1, gtpS, tkpS, _, rcpS⟩, FS, BS⟩, mv := ⟨⟨pgC1, hdC1, poC1, saC1⟩, _, _, FMmv, ⟨mmvC1, iMmv, kMmv⟩, BMmv⟩ }
  have K2 : Kd K mg A 2 := { cls := ⟨pgC2, hdC2, poC2, saC2⟩, ty := ⟨ocC2, ocg, oct, moC2⟩, made := ⟨_, _, FI, ⟨mkC2, inC2, iI, kcC2⟩, PySem.W.mg_of X G nC2, BI⟩, sign := ⟨_, sgC2, ⟨_, rfl⟩, spC2, by decide +kernel⟩, ni := niC2, ns := nsC2, item := ⟨_, _, _, ⟨itC2, gtpI, tkpI, _, rcpI⟩, FP, BP⟩, slot := ⟨_, _, _, ⟨stC2, gtpS, tkpS, _, rcpS⟩, FS, BS⟩, mv := ⟨⟨pgC2, hdC2, poC2, saC2⟩, _, _, FMmv, ⟨mmvC2, iMmv, kMmv⟩, BMmv⟩ }
  have K3 : Kd K mg A 3 := { cls := ⟨pgC3, hdC3, poC3, saC3⟩, ty := ⟨ocC3, ocg, oct, moC3⟩, made := ⟨_, _, FI, ⟨mkC3, inC3, iI, kcC3⟩, PySem.W.mg_of X G nC3, BI⟩, sign := ⟨_, sgC3, ⟨_, rfl⟩, spC3, by decide +kernel⟩, ni := niC3, ns := nsC3, item := ⟨_, _, _, ⟨itC3, gtpI, tkpI, _, rcpI⟩, FP, BP⟩, slot := ⟨_, _, _, ⟨stC3, gtpS, tkpS, _, rcpS⟩, FS, BS⟩, mv := ⟨⟨pgC3, hdC3, poC3, saC3⟩, _, _, FMmv, ⟨mmvC3, iMmv, kMmv⟩, BMmv⟩ }
  have T : Tx K mg A := { G := GG, kd := fun k hk => match k, hk with | 0, _ => K0 | 1, _ => K1 | 2, _ => K2 | 3, _ => K3, most := ⟨_, _, ⟨rdR, gaR⟩, ⟨msR, ⟨_, rfl⟩⟩⟩, kit := fun i j hi hj => match i, j, hi, hj with | 0, 0, _, _ => kit_mk ic0 tc0 kt00 kt00 | 0, 1, _, _ => kit_mk ic1 tc1 kt01 kt11 | 0, 2, _, _ => kit_mk ic2 tc2 kt02 kt22 | 0, 3, _, _ => kit_mk ic3 tc3 kt03 kt33 | 1, 0, _, _ => kit_mk ic0 tc0 kt10 kt00 | 1, 1, _, _ => kit_mk ic1 tc1 kt11 kt11 | 1, 2, _, _ => kit_mk ic2 tc2 kt12 kt22 | 1, 3, _, _ => kit_mk ic3 tc3 kt13 kt33 | 2, 0, _, _ => kit_mk ic0 tc0 kt20 kt00 | 2, 1, _, _ => kit_mk ic1 tc1 kt21 kt11 | 2, 2, _, _ => kit_mk ic2 tc2 kt22 kt22 | 2, 3, _, _ => kit_mk ic3 tc3 kt23 kt33 | 3, 0, _, _ => kit_mk ic0 tc0 kt30 kt00 | 3, 1, _, _ => kit_mk ic1 tc1 kt31 kt11 | 3, 2, _, _ => kit_mk ic2 tc2 kt32 kt22 | 3, 3, _, _ => kit_mk ic3 tc3 kt33 kt33, cls_Board := ⟨pgXBoard, hdXBoard, poXBoard, saXBoard⟩, made_Board := ⟨_, _, FNBoard, ⟨mkXBoard, inXBoard, iNBoard, kcXBoard⟩, PySem.W.mg_of X G xBoard, BNBoard⟩, n_Board_size := nfBoard_size, n_Board_is_turned := nfBoard_is_turned, n_Board_floors := nfBoard_floors, n_Board_given := nfBoard_given, m_Board_turned := ⟨⟨pgXBoard, hdXBoard, poXBoard, saXBoard⟩, _, _, FWBoard_turned, ⟨mmBoard_turned, iWBoard_turned, kWBoard_turned⟩, BWBoard_turned⟩, m_Board_far_items := ⟨⟨pgXBoard, hdXBoard, poXBoard, saXBoard⟩, _, _, FWBoard_far_items, ⟨mmBoard_far_items, iWBoard_far_items, kWBoard_far_items⟩, BWBoard_far_items⟩, m_Board_wrong_positions := ⟨⟨pgXBoard, hdXBoard, poXBoard, saXBoard⟩, _, _, FWBoard_wrong_positions, ⟨mmBoard_wrong_positions, iWBoard_wrong_positions, kWBoard_wrong_positions⟩, BWBoard_wrong_positions⟩, m_Board_free_places := ⟨⟨pgXBoard, hdXBoard, poXBoard, saXBoard⟩, _, _, FWBoard_free_places, ⟨mmBoard_free_places, iWBoard_free_places, kWBoard_free_places⟩, BWBoard_free_places⟩, m_Board_waiting_bounds := ⟨⟨pgXBoard, hdXBoard, poXBoard, saXBoard⟩, _, _, FWBoard_waiting_bounds, ⟨mmBoard_waiting_bounds, iWBoard_waiting_bounds, kWBoard_waiting_bounds⟩, BWBoard_waiting_bounds⟩, m_Board_spares := ⟨⟨pgXBoard, hdXBoard, poXBoard, saXBoard⟩, _, _, FWBoard_spares, ⟨mmBoard_spares, iWBoard_spares, kWBoard_spares⟩, BWBoard_spares⟩, f_is_integer := D0, f_is_item := D1, f_are_records := D2, f_sign_of := D3, f_items_of := D4, f_is_log := D5, f_need_log := D6, f_need_growing := D7, f_made := D8, f_copied := D9, f_least_missing := D10, f_usable := D11, f_need_seen := D12, f_board_of := D13, f_count_filled := D14, f_count := D15, f_law_tape := D16, f_law_next := D17, f_law_items := D18, f_law_made := D19, f_law_right := D20, f_law := D21 }
  exact ⟨_, fun s v => .of_eq rfl, fun base _ _ => fnok_of F21 sc_law (fun hr => d_law T.G hr) (p_law T)⟩
theorem walk {l : PySem.W.OpenLaw} {q : Program} {loose : List Str} {XP : (Str → Option Value) → Heap → Prop} {YP : World → Heap → Prop} {d : DefRec} {K : Params → PySem.W.Frag} (hn : l.most = some 63) (hdf : d.params.defaults = [])
    (hY : ∀ (w : World) (h : Heap), YP w h → (K w.params).In h)
    (F : ∀ (w : World) (mg : Str → Option Value) (fa : Addr) (h : Heap), (K w.params).In h → h.Ns mainGlobals mg → mg d.name = some (.ref fa) →
      ∃ fd : FuncData, (∀ (s : Shared) (u : Value), BindsTo s fd ⟨[u], []⟩ [("_law_script", u)]) ∧ ∀ base : Heap, (K w.params).In base → base.Ns mainGlobals mg → FnG l.prog w (K w.params) mg base 9 fa fd ["_law_script"] (sp_law (K w.params))) :
    PySem.W.WalkO q loose XP YP l.row.toRowW d [] (fun f vs => PySem.call f vs) :=
  walk_g (n := 63) (k := 9) (x := "_law_script") (sp := sp_law) hn (by decide) hdf ⟨rfl, by decide, by decide⟩ hY F fun _ _ a ns hl hS => ⟨a, ns, rfl, hS, hl, fun _ => rfl⟩
end K
open PySem PySem.W PyProof.Rows
set_option maxRecDepth 100000 in
set_option maxHeartbeats 0 in
theorem PySem.Challenge.cw_indexlogs_k52_whole_missing_and_counted_holds : PySem.Challenge.rw_indexlogs_k52_whole_missing_and_counted.Holds := by
  w_on; o_law; k_head; (case hw => w_witness2)
  k_fill
  refine K.walk (l := PySem.Challenge.rw_indexlogs_k52_whole_missing_and_counted) rfl rfl (fun w h Y => PySem.W.kIn_of Y) ?F
  case F =>
    intro w mg fa h KX G hmg
    refine' K.all_mk KX G hmg ?a0 ?l0 ?c0 ?k0 ?a1 ?l1 ?c1 ?k1 ?a2 ?l2 ?c2 ?k2 ?a3 ?l3 ?c3 ?k3 ?a4 ?l4 ?c4 ?k4 ?a5 ?l5 ?c5 ?k5 ?a6 ?l6 ?c6 ?k6 ?a7 ?l7 ?c7 ?k7 ?a8 ?l8 ?c8 ?k8 ?a9 ?l9 ?c9 ?k9 ?a10 ?l10 ?c10 ?k10 ?a11 ?l11 ?c11 ?k11 ?a12 ?l12 ?c12 ?k12 ?a13 ?l13 ?c13 ?k13 ?a14 ?l14 ?c14 ?k14 ?a15 ?l15 ?kd15 ?c15 ?k15 ?a16 ?l16 ?c16 ?k16 ?a17 ?l17 ?c17 ?k17 ?a18 ?l18 ?c18 ?k18 ?a19 ?l19 ?c19 ?k19 ?a20 ?l20 ?c20 ?k20 ?a21 ?l21 ?c21 ?k21 ?ocg ?oct ?nC0 ?pgC0 ?hdC0 ?poC0 ?saC0 ?ocC0 ?moC0 ?mkC0 ?kcC0 ?inC0 ?itC0 ?stC0 ?niC0 ?nsC0 ?sgC0 ?spC0 ?mmvC0 ?nC1 ?pgC1 ?hdC1 ?poC1 ?saC1 ?ocC1 ?moC1 ?mkC1 ?kcC1 ?inC1 ?itC1 ?stC1 ?niC1 ?nsC1 ?sgC1 ?spC1 ?mmvC1 ?nC2 ?pgC2 ?hdC2 ?poC2 ?saC2 ?ocC2 ?moC2 ?mkC2 ?kcC2 ?inC2 ?itC2 ?stC2 ?niC2 ?nsC2 ?sgC2 ?spC2 ?mmvC2 ?nC3 ?pgC3 ?hdC3 ?poC3 ?saC3 ?ocC3 ?moC3 ?mkC3 ?kcC3 ?inC3 ?itC3 ?stC3 ?niC3 ?nsC3 ?sgC3 ?spC3 ?mmvC3 ?gtpI ?tkpI ?rcpI ?gtpS ?tkpS ?rcpS ?lI ?cI ?kI ?lP ?cP ?kP ?lS ?cS ?kS ?lMmv ?cMmv ?kMmv ?iI ?iMmv ?kt00 ?kt01 ?kt02 ?kt03 ?kt10 ?kt11 ?kt12 ?kt13 ?kt20 ?kt21 ?kt22 ?kt23 ?kt30 ?kt31 ?kt32 ?kt33 ?ic0 ?tc0 ?ic1 ?tc1 ?ic2 ?tc2 ?ic3 ?tc3 ?rdR ?gaR ?msR ?xBoard ?xImpossible ?xLogError ?xNoIndex ?xNoItem ?xNoList ?xNoLog ?xNoSeen ?xNoText ?pgXBoard ?hdXBoard ?poXBoard ?saXBoard ?mkXBoard ?kcXBoard ?inXBoard ?nfBoard_size ?nfBoard_is_turned ?nfBoard_floors ?nfBoard_given ?mmBoard_turned ?mmBoard_far_items ?mmBoard_wrong_positions ?mmBoard_free_places ?mmBoard_waiting_bounds ?mmBoard_spares ?lNBoard ?cNBoard ?kNBoard ?iNBoard ?lWBoard_turned ?cWBoard_turned ?kWBoard_turned ?iWBoard_turned ?lWBoard_far_items ?cWBoard_far_items ?kWBoard_far_items ?iWBoard_far_items ?lWBoard_wrong_positions ?cWBoard_wrong_positions ?kWBoard_wrong_positions ?iWBoard_wrong_positions ?lWBoard_free_places ?cWBoard_free_places ?kWBoard_free_places ?iWBoard_free_places ?lWBoard_waiting_bounds ?cWBoard_waiting_bounds ?kWBoard_waiting_bounds ?iWBoard_waiting_bounds ?lWBoard_spares ?cWBoard_spares ?kWBoard_spares ?iWBoard_spares ?b_abs ?b_all ?b_bool ?b_enumerate ?b_int ?b_isinstance ?b_len ?b_list ?b_max ?b_min ?b_range ?b_set ?b_sorted ?b_str ?b_zip ?v_FRONTED ?v_INSERTED ?v_LETTERS ?v_MOST_LETTERS ?v_MOST_LOG ?v_REMOVED
    (case a0 => k_is)
    (case l0 => k_is)
    (case c0 => k_is)
    (case k0 => k_is)
    (case a1 => k_is)
    (case l1 => k_is)
    (case c1 => k_is)
    (case k1 => k_is)
    (case a2 => k_is)
    (case l2 => k_is)
    (case c2 => k_is)
    (case k2 => k_is)
    (case a3 => k_is)
    (case l3 => k_is)
    (case c3 => k_is)
    (case k3 => k_is)
    (case a4 => k_is)
    (case l4 => k_is)
    (case c4 => k_is)
    (case k4 => k_is)
    (case a5 => k_is)
    (case l5 => k_is)
    (case c5 => k_is)
    (case k5 => k_is)
    (case a6 => k_is)
    (case l6 => k_is)
    (case c6 => k_is)
    (case k6 => k_is)
    (case a7 => k_is)
    (case l7 => k_is)
    (case c7 => k_is)
    (case k7 => k_is)
    (case a8 => k_is)
    (case l8 => k_is)
    (case c8 => k_is)
    (case k8 => k_is)
    (case a9 => k_is)
    (case l9 => k_is)
    (case c9 => k_is)
    (case k9 => k_is)
    (case a10 => k_is)
    (case l10 => k_is)
    (case c10 => k_is)
    (case k10 => k_is)
    (case a11 => k_is)
    (case l11 => k_is)
    (case c11 => k_is)
    (case k11 => k_is)
    (case a12 => k_is)
    (case l12 => k_is)
    (case c12 => k_is)
    (case k12 => k_is)
    (case a13 => k_is)
    (case l13 => k_is)
    (case c13 => k_is)
    (case k13 => k_is)
    (case a14 => k_is)
    (case l14 => k_is)
    (case c14 => k_is)
    (case k14 => k_is)
    (case a15 => k_is)
    (case l15 => k_is)
    (case kd15 => k_is)
    (case c15 => k_is)
    (case k15 => k_is)
    (case a16 => k_is)
    (case l16 => k_is)
    (case c16 => k_is)
    (case k16 => k_is)
    (case a17 => k_is)
    (case l17 => k_is)
    (case c17 => k_is)
    (case k17 => k_is)
    (case a18 => k_is)
    (case l18 => k_is)
    (case c18 => k_is)
    (case k18 => k_is)
    (case a19 => k_is)
    (case l19 => k_is)
    (case c19 => k_is)
    (case k19 => k_is)
    (case a20 => k_is)
    (case l20 => k_is)
    (case c20 => k_is)
    (case k20 => k_is)
    (case a21 => k_is)
    (case l21 => k_is)
    (case c21 => k_is)
    (case k21 => k_is)
    (case ocg => k_is)
    (case oct => k_is)
    (case nC0 => k_is)
    (case pgC0 => k_is)
    (case hdC0 => k_is)
    (case poC0 => k_is)
    (case saC0 => k_is)
    (case ocC0 => k_is)
    (case moC0 => k_is)
    (case mkC0 => k_is)
    (case kcC0 => k_is)
    (case inC0 => k_is)
    (case itC0 => k_is)
    (case stC0 => k_is)
    (case niC0 => k_is)
    (case nsC0 => k_is)
    (case sgC0 => k_is)
    (case spC0 => k_is)
    (case mmvC0 => k_is)
    (case nC1 => k_is)
    (case pgC1 => k_is)
    (case hdC1 => k_is)
    (case poC1 => k_is)
    (case saC1 => k_is)
    (case ocC1 => k_is)
    (case moC1 => k_is)
    (case mkC1 => k_is)
    (case kcC1 => k_is)
    (case inC1 => k_is)
    (case itC1 => k_is)
    (case stC1 => k_is)
    (case niC1 => k_is)
    (case nsC1 => k_is)
    (case sgC1 => k_is)
    (case spC1 => k_is)
    (case mmvC1 => k_is)
    (case nC2 => k_is)
    (case pgC2 => k_is)
    (case hdC2 => k_is)
    (case poC2 => k_is)
    (case saC2 => k_is)
    (case ocC2 => k_is)
    (case moC2 => k_is)
    (case mkC2 => k_is)
    (case kcC2 => k_is)
    (case inC2 => k_is)
    (case itC2 => k_is)
    (case stC2 => k_is)
    (case niC2 => k_is)
    (case nsC2 => k_is)
    (case sgC2 => k_is)
    (case spC2 => k_is)
    (case mmvC2 => k_is)
    (case nC3 => k_is)
    (case pgC3 => k_is)
    (case hdC3 => k_is)
    (case poC3 => k_is)
    (case saC3 => k_is)
    (case ocC3 => k_is)
    (case moC3 => k_is)
    (case mkC3 => k_is)
    (case kcC3 => k_is)
    (case inC3 => k_is)
    (case itC3 => k_is)
    (case stC3 => k_is)
    (case niC3 => k_is)
    (case nsC3 => k_is)
    (case sgC3 => k_is)
    (case spC3 => k_is)
    (case mmvC3 => k_is)
    (case gtpI => k_is)
    (case tkpI => k_is)
    (case rcpI => k_is)
    (case gtpS => k_is)
    (case tkpS => k_is)
    (case rcpS => k_is)
    (case lI => k_is)
    (case cI => k_is)
    (case kI => k_is)
    (case lP => k_is)
    (case cP => k_is)
    (case kP => k_is)
    (case lS => k_is)
    (case cS => k_is)
    (case kS => k_is)
    (case lMmv => k_is)
    (case cMmv => k_is)
    (case kMmv => k_is)
    (case iI => k_is)
    (case iMmv => k_is)
    (case kt00 => k_is)
    (case kt01 => k_is)
    (case kt02 => k_is)
    (case kt03 => k_is)
    (case kt10 => k_is)
    (case kt11 => k_is)
    (case kt12 => k_is)
    (case kt13 => k_is)
    (case kt20 => k_is)
    (case kt21 => k_is)
    (case kt22 => k_is)
    (case kt23 => k_is)
    (case kt30 => k_is)
    (case kt31 => k_is)
    (case kt32 => k_is)
    (case kt33 => k_is)
    (case ic0 => k_is)
    (case tc0 => k_is)
    (case ic1 => k_is)
    (case tc1 => k_is)
    (case ic2 => k_is)
    (case tc2 => k_is)
    (case ic3 => k_is)
    (case tc3 => k_is)
    (case rdR => k_is)
    (case gaR => k_is)
    (case msR => k_is)
    (case xBoard => k_is)
    (case xImpossible => k_is)
    (case xLogError => k_is)
    (case xNoIndex => k_is)
    (case xNoItem => k_is)
    (case xNoList => k_is)
    (case xNoLog => k_is)
    (case xNoSeen => k_is)
    (case xNoText => k_is)
    (case pgXBoard => k_is)
    (case hdXBoard => k_is)
    (case poXBoard => k_is)
    (case saXBoard => k_is)
    (case mkXBoard => k_is)
    (case kcXBoard => k_is)
    (case inXBoard => k_is)
    (case nfBoard_size => k_is)
    (case nfBoard_is_turned => k_is)
    (case nfBoard_floors => k_is)
    (case nfBoard_given => k_is)
    (case mmBoard_turned => k_is)
    (case mmBoard_far_items => k_is)
    (case mmBoard_wrong_positions => k_is)
    (case mmBoard_free_places => k_is)
    (case mmBoard_waiting_bounds => k_is)
    (case mmBoard_spares => k_is)
    (case lNBoard => k_is)
    (case cNBoard => k_is)
    (case kNBoard => k_is)
    (case iNBoard => k_is)
    (case lWBoard_turned => k_is)
    (case cWBoard_turned => k_is)
    (case kWBoard_turned => k_is)
    (case iWBoard_turned => k_is)
    (case lWBoard_far_items => k_is)
    (case cWBoard_far_items => k_is)
    (case kWBoard_far_items => k_is)
    (case iWBoard_far_items => k_is)
    (case lWBoard_wrong_positions => k_is)
    (case cWBoard_wrong_positions => k_is)
    (case kWBoard_wrong_positions => k_is)
    (case iWBoard_wrong_positions => k_is)
    (case lWBoard_free_places => k_is)
    (case cWBoard_free_places => k_is)
    (case kWBoard_free_places => k_is)
    (case iWBoard_free_places => k_is)
    (case lWBoard_waiting_bounds => k_is)
    (case cWBoard_waiting_bounds => k_is)
    (case kWBoard_waiting_bounds => k_is)
    (case iWBoard_waiting_bounds => k_is)
    (case lWBoard_spares => k_is)
    (case cWBoard_spares => k_is)
    (case kWBoard_spares => k_is)
    (case iWBoard_spares => k_is)
    (case b_abs => k_is)
    (case b_all => k_is)
    (case b_bool => k_is)
    (case b_enumerate => k_is)
    (case b_int => k_is)
    (case b_isinstance => k_is)
    (case b_len => k_is)
    (case b_list => k_is)
    (case b_max => k_is)
    (case b_min => k_is)
    (case b_range => k_is)
    (case b_set => k_is)
    (case b_sorted => k_is)
    (case b_str => k_is)
    (case b_zip => k_is)
    (case v_FRONTED => k_is)
    (case v_INSERTED => k_is)
    (case v_LETTERS => k_is)
    (case v_MOST_LETTERS => k_is)
    (case v_MOST_LOG => k_is)
    (case v_REMOVED => k_is)
