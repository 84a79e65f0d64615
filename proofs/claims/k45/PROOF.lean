import PyProof.Rows.All
import Wide.All
import OpenK.AllK
import Wide.FinOn
import HandS.ForMost
import HandS.Strs
import HandS.Exc
import HandS.WordsExc
import HandS.ExcOwn
import HandS.Property
import HandS.Ends
import HandS.Defaults
import HandS.IsInst
import HandS.ClsMeth
import HandS.Wide
import HandS.SortInts
import HandS.RaiseMore
import HandS.Deep
import HandS.More
import HandS.Conv
import HandS.Iter
import HandS.DictComp
import HandS.Style
import KE.DatumIndex
import PyProof.ReprReads
import PySem.Challenge.RW_indexlogs_k45_wrong_and_nearest_of_long
set_option Elab.async false
set_option linter.all false
set_option maxRecDepth 100000
set_option maxHeartbeats 4000000
/-! len(set(xs)), xs a list of texts of any length below some thousands -/
namespace U
open PySem PySem.Spec PyProof.Rows L2

/-- the texts of a list, each once -/
def ddS (acc : List Str) (x : Str) : List Str := if acc.any (· == x) = true then acc else acc ++ [x]
def dd (xs : List Str) : List Str := xs.foldl ddS []
theorem ddS_any (acc : List Str) (x k : Str) : (ddS acc x).any (· == k) = (acc.any (· == k) || decide (k = x)) := by
  unfold ddS
  by_cases c : acc.any (· == x) = true
  · rw [if_pos c]
    by_cases q : k = x
    · subst q; rw [c]; simp
    · simp [q]
  · rw [if_neg c, List.any_append]
    by_cases q : k = x
    · subst q; simp
    · have z : (x == k) = false := by
        rw [beq_eq_false_iff_ne]; exact fun e => q e.symm
      simp [z, q]
theorem ddS_len (acc : List Str) (x : Str) : (ddS acc x).length = if acc.any (· == x) = true then acc.length else acc.length + 1 := by
  unfold ddS; split <;> simp
theorem dd_take {xs : List Str} {i : Nat} (h : i < xs.length) : dd (xs.take (i + 1)) = ddS (dd (xs.take i)) (xs.getD i Str.empty) := by
  unfold dd
  have e : xs.take (i + 1) = xs.take i ++ [xs.getD i Str.empty] := by
    rw [List.take_add_one, List.getElem?_eq_getElem h]; simp [List.getD, h]
  rw [e, List.foldl_append]; rfl
theorem dd_le (xs : List Str) : (dd xs).length ≤ xs.length := by
  unfold dd
  suffices h : ∀ (l acc : List Str), (l.foldl ddS acc).length ≤ acc.length + l.length by simpa using h xs []
  intro l
  induction l with
  | nil => intro acc; simp
  | cons x l ih =>
    intro acc
    have h1 := ih (ddS acc x)
    have h2 : (ddS acc x).length ≤ acc.length + 1 := by rw [ddS_len]; split <;> omega
    simp only [List.foldl_cons, List.length_cons]
    omega

section
variable {prog : Program} {w : World} {A : Around} {R : Result → Shared → Prop} {I : Addr} {fp wr : List Addr} {G : Array GenState → Array GenState → Prop} {n : Nat} {P : Nat → Value → Prop} {St : Nat → Shared → Prop}
abbrev HasT (prog : Program) (w : World) (h : Heap) (S : Addr) (l : List Str) : Prop := h.SetOf (PySem.strKind prog w) S (fun k => l.any (· == k)) l.length
theorem HasT.moved {h h' : Heap} {S : Addr} {l : List Str} (x : HasT prog w h S l) (k : ∀ o, h.get? S = some o → h'.get? S = some o) : HasT prog w h' S l := by
  obtain ⟨o, es, ep, t, q, r⟩ := x
  exact ⟨o, es, ep, t, k o q, r⟩
theorem loopT (W : WalksS prog w A.in1 I fp wr G n P St) {S : Addr} (hS : S ∉ fp) {xs : List Str} (hl : xs.length = n) (hb : n + 1 < scanBound) (hv : ∀ i v, P i v → ∃ t, v = .str (xs.getD i Str.empty) t) :
    ∀ (m i : Nat) (s : Shared), m = n - i → i ≤ n → St i s → HasT prog w s.heap S (dd (xs.take i)) →
      (∀ s', Moved (S :: wr) G s s' → HasT prog w s'.heap S (dd xs) → R (.ok (.ret .none)) s') → codeAny (model prog w) A (.builtin "set.update.loop" ⟨[.ref S, .ref I], []⟩) R s := by
  have nw : S ∉ wr := fun z => hS (W.sub _ z)
  have up : ∀ b ∈ wr, b ∈ S :: wr := fun b z => List.mem_cons_of_mem _ z
  intro m
  induction m with
  | zero =>
    intro i s hm hi st x fin
    obtain rfl : i = n := by omega
    refine codeAny_builtin PyProof.Rows.F.entry_set_update_loop ?_
    rw [Around.under_plainId PyProof.Rows.F.plain_set_update_loop _]
    refine (show wpAny _ A.in1 (pyNext (.ref I) >>= _) _ _ s from wpAny_bind (W.done s _ _ st fun s' mv => ?_))
    refine (show wpAny _ A.in1 (ret Value.none) _ _ s' from wpAny_pure (fin s' (mv.mono up) ?_))
    have y := HasT.moved x fun o q => mv.heap S _ nw q
    rwa [← hl, List.take_length] at y
  | succ m ih =>
    intro i s hm hi st x fin
    have lt : i < n := by omega
    refine codeAny_builtin PyProof.Rows.F.entry_set_update_loop ?_
    rw [Around.under_plainId PyProof.Rows.F.plain_set_update_loop _]
    refine (show wpAny _ A.in1 (pyNext (.ref I) >>= _) _ _ s from wpAny_bind (W.item i s _ _ lt st fun v s' pv st' mv => ?_))
    obtain ⟨t, rfl⟩ := hv i v pv
    have y := HasT.moved x fun o q => mv.heap S _ nw q
    refine (show wpAny _ A.in1 (holding [Value.str (xs.getD i Str.empty) t] (setAdd S (.str (xs.getD i Str.empty) t)) >>= _) _ _ s' from wpAny_bind (wpAny_holding ?_))
    unfold setAdd
    refine wpAny_holding (wpAny_bind ((PySem.strKind prog w).pyHash (k := xs.getD i Str.empty) (strKind_is _ _ _ _) ?_))
    have few : (dd (xs.take i)).length + 1 < scanBound := by
      have := dd_le (xs.take i)
      rw [List.length_take] at this
      omega
    refine wpAny_setAddHashed_of (knd := PySem.strKind prog w) (s := { s' with toks := s'.toks + 1 }) (strKind_is _ _ _ _) rfl y few fun h' sb z => ?_
    have z' : HasT prog w h' S (dd (xs.take (i + 1))) := by
      have e := dd_take (xs := xs) (i := i) (by omega)
      exact SetOf_congr z (fun k => by rw [e, ddS_any]) (by rw [e, ddS_len])
    refine wpAny_pure ⟨plainId_quiet PyProof.Rows.F.plain_set_update_loop _, ih (i + 1) _ (by omega) lt (W.frame _ s' _ _ st' (Nat.le_succ _) fun b hb o e => ?_) z' fun s2 mv2 z2 => ?_⟩
    · rw [sb.2 b fun q : b = S => hS (q ▸ hb)]
      exact e
    · refine fin s2 (Moved.trans W.gtrans ((mv.mono up).then_heap (Nat.le_succ _) fun b o hb e => ?_) mv2) z2
      rw [sb.2 b fun q : b = S => hb (q ▸ List.mem_cons_self)]
      exact e
end

section
variable {prog : Program} {w : World} {A : Around} {E : Value → Shared → Prop} {s : Shared}
abbrev nilSet (led : Bool) : Obj := { cls := .type "set", dict := none, data := .set #[] 0 (.fresh 0 0 led) }
set_option maxHeartbeats 6400000 in
theorem set_of_texts {l : Addr} {items : Array Value} {xs : List Str} {Q : Value → Shared → Prop} (calm : A.handled = none) (hl : s.heap.IsList l items) (hi : StrsAre items.toList xs) (hb : xs.length + 1 < scanBound)
    (h : ∀ (h' : Heap) (tk : Nat), HasT prog w h' s.heap.objs.size (dd xs) → (∀ b o, b < s.heap.objs.size → s.heap.get? b = some o → h'.get? b = some o) → Q (.ref s.heap.objs.size) { s with heap := h', toks := tk }) :
    wpAny (model prog w) A (call (.type "set") [.ref l]) Q E s := by
  obtain ⟨c, tl, hmro⟩ := PySem.F.called_set.mro
  have hmade := PySem.F.called_set.made; have hsub := PySem.F.called_set.sub
  refine wpAny_call (codeAny_of_tree (show wpAny _ _ (callAny (.type "set") _) _ _ _ from wpAny_pure ⟨Code.quiet_builtin _ (by decide +kernel), codeAny_builtin PySem.F.entry_type_call ?_⟩))
  rw [Around.under_plain (weight_type_call_type "set" [.ref l] []) rfl]
  have g1 := PySem.F.called_set.notType; have g2 := PySem.F.called_set.canCreate; have g3 := PySem.F.typeCall_set_1 (.ref l)
  repeat (any_goals (first | assumption | wp_step))
  refine codeAny_mono (code_set_new_1 (.ref l) (E := E) (Q₁ := fun obj s₁ => ∃ led : Bool, obj = .ref s.heap.objs.size ∧ s₁ = { s with heap := s.heap.push (nilSet led) }) fun led => ⟨led, rfl, rfl⟩) fun r s₁ hr => ?_
  match r, hr with
  | .error e, hr => exact hr
  | .ok (.ret obj), hr =>
    obtain ⟨led, rfl, rfl⟩ := hr
    have here : (s.heap.push (nilSet led)).get? s.heap.objs.size = some (nilSet led) := Heap.get?_push_size _ rfl
    have ty : Shared.TypeIs { s with heap := s.heap.push (nilSet led) } (.ref s.heap.objs.size) "set" := ⟨_, here, rfl⟩
    have q1 := PySem.F.called_set.init.lookup; have q2 := PySem.F.called_set.init.bind (.ref s.heap.objs.size)
    repeat (any_goals (first | assumption | wp_step))
    refine codeAny_mono (codeAny_call_builtin (R := wants (fun r s₂ => r = .none ∧ ∃ h' tk, s₂ = { s with heap := h', toks := tk } ∧ HasT prog w h' s.heap.objs.size (dd xs) ∧ (∀ b o, b < s.heap.objs.size → s.heap.get? b = some o → h'.get? b = some o)) E)
      PySem.F.called_set.init.plain PySem.F.entry_set_init (check_set_init_1 ty ?_)) fun r₂ s₂ hr₂ => ?_
    · obtain ⟨ol, hol, hcl, nl, hdl⟩ := hl
      obtain ⟨ocls, odict, odata, oslots⟩ := ol
      simp only at hcl hdl
      subst hcl; subst hdl
      have hol' : (s.heap.push (nilSet led)).get? l = some { cls := .type "list", dict := odict, data := .seq items nl, slots := oslots } := Heap.get?_push_of_some _ hol
      have w1 := PySem.F.sub_list_set; have w2 := PySem.F.sub_list_frozenset
      have w3 : (Value.type "list" == Value.type "dict") = false := by decide
      have il : (s.heap.push (nilSet led)).IsList l items := ⟨_, hol', rfl, nl, rfl⟩
      unfold Builtin.«set.__init__» noKeywords Builtin.Frozenset.updateFrom
      generalize hPI : pyIter = PI
      wp_walk
      subst hPI
      refine wpAny_pyIter_list il (wpAny_bind (wpAny_runValue ?_))
      have ll : l < s.heap.objs.size := Heap.lt_size hol
      have c3 : A.in1.in1.in1.handled = none := by simp [calm]
      have ne : l ≠ (s.heap.push (nilSet led)).objs.size := by rw [Heap.size_push]; exact Nat.ne_of_lt (Nat.lt_succ_of_lt ll)
      have nf : s.heap.objs.size ∉ [(s.heap.push (nilSet led)).objs.size, l] := by
        rw [Heap.size_push]
        simp only [List.mem_cons, List.not_mem_nil, or_false, not_or]
        exact ⟨Nat.ne_of_lt (Nat.lt_succ_self _), Nat.ne_of_gt ll⟩
      have sz : xs.length = items.size := by rw [← StrsAre.len_eq hi, Array.length_toList]
      have vl : ∀ (i : Nat) (v : Value), items[i]? = some v → ∃ t, v = .str (xs.getD i Str.empty) t := fun i v hv => SS.strs_at hi i v (by rw [Array.getElem?_toList]; exact hv)
      refine loopT (Walks.list c3 _ l ne items).toS nf sz (by rw [← sz]; exact hb) vl (items.size - 0) 0 _ rfl (Nat.zero_le _) ⟨⟨_, Heap.get?_push_size _ rfl, rfl, rfl⟩, il.push _⟩ ?b0 ?b1
      case b0 =>
        have hget : ((s.heap.push (nilSet led)).push { cls := .type "list_iterator", data := .fields #[.ref l, .int 0 0] }).get? s.heap.objs.size = some (nilSet led) := Heap.get?_push_of_some _ here
        exact SetOf_congr ((setObjOf_fresh (knd := PySem.strKind prog w) led).setOf hget (by unfold scanBound; omega)) (fun _ => rfl) rfl
      case b1 =>
        intro s' mv z
        obtain ⟨h', g', d', tk', os'⟩ := s'
        obtain rfl : g' = s.gens := mv.gens
        obtain rfl : d' = s.drawn := mv.drawn
        obtain rfl : os' = s.os := mv.os
        refine (show wpAny _ _ _ _ _ _ from wpAny_pure (show wpAny _ _ (ret Value.none) _ _ _ from wpAny_pure ⟨rfl, h', tk', rfl, z, fun b o hb e => ?_⟩))
        refine mv.heap b o ?_ (Heap.get?_push_of_some _ (Heap.get?_push_of_some _ e))
        rw [Heap.size_push]
        simp only [List.mem_cons, List.not_mem_nil, or_false, not_or]
        exact ⟨Nat.ne_of_lt hb, Nat.ne_of_lt (Nat.lt_succ_of_lt hb)⟩
    · match r₂, hr₂ with
      | .error e, hr₂ => exact hr₂
      | .ok (.ret r), hr₂ =>
        obtain ⟨rfl, h', tk, rfl, z, k⟩ := hr₂
        repeat (any_goals (first | assumption | wp_step))
        exact h _ _ z k
end

section
variable {X : Cx}
/-- len(set(xs)): how many different texts -/
def tLenSetT (K : PySem.W.Frag) (ta : TE) : TE := fun σ H Q => ta σ H fun x H1 => ∃ l, ∃ xs : List Str, x = .ref l ∧ SqL K H1 l (xs.map V.str) ∧ xs.length ≤ 1000 ∧ Q (.int (dd xs).length) H1
theorem pe_lenSetT {a : Expr} {ta : TE} {p p2 q pos : Pos} (hg : Gl X "len") (hm : X.mg "len" = none) (hg2 : Gl X "set") (hm2 : X.mg "set" = none) (ha : PE X a ta) (hc : X.calm = true := by rfl)
    (na : starEach [a] X.env = (false, eval a X.env) :: starEach [] X.env := by rfl) : PE X (.Call (.Name "len" p) [.Call (.Name "set" p2) [a] [] q] [] pos) (tLenSetT X.K ta) := by
  refine ⟨fun pins s σ H Q I h => Call_ (ld_blt I hg hm boot_len (PyProof.Rows.callWith_builtin1 (PyProof.Rows.args_cons ?_ rfl) rfl rfl))⟩
  refine Call_ (ld_blt I hg2 hm2 boot_set (PyProof.Rows.callWith_type1 (PyProof.Rows.args_cons (thn (ha.run pins s σ H _ I h) fun v s1 ⟨x, H1, I1, r1, q1⟩ => PyProof.Rows.args_nil ?_) na) na rfl))
  obtain ⟨l, xs, rfl, hq, few, q1⟩ := q1
  cases r1
  obtain ⟨its, r, pl, hz⟩ := I1.list hq
  refine set_of_texts (I1.ok.hd hc) pl.isList (by simpa using strsAre_of r) (by unfold scanBound; omega) fun h' tk x k => PyProof.Rows.args_nil ?_
  obtain ⟨o, es, ep, t, ho, hex, hd, _, _, _, hf, hn⟩ := x
  have I2 : Inv X pins σ H1 { s1 with heap := h', toks := tk } := I1.kept fun b o e => k b o (Heap.lt_size e) e
  have dl := dd_le xs
  exact call_len_set ho hex hd hf (by rw [hn] <;> omega) ⟨.int (dd xs).length, H1, I2.tok _, ⟨_, by rw [hn]⟩, q1⟩
end
end U
/-! promises of defs that are called where nothing is being shown (no guard stands): repr of data may be asked within -/
namespace U
open PySem PySem.Spec PyProof.Rows L2
/-- no repr is under way -/
abbrev Quiet (B : Around) : Prop := B.guards = some []
structure FnG (P : Program) (w : World) (K : PySem.W.Frag) (mg : Str → Option Value) (base : Heap) (k : Nat) (f : Addr) (fd : FuncData) (ps : List Str) (sp : Sp) : Prop where
  len : ∀ vs H Q E, sp vs H Q E → vs.length = ps.length
  run : ∀ (B : Around) (outs : List Env) (t : Shared) (H : Hp) (gv : Args) (us : List Value) (vs : List V) (Q : VK) (E : XK), Room k B → Quiet B → Env0 P w K mg base B outs t H →
    BindsTo t fd gv (ps.zip us) → Vals vs us → sp vs H Q E → codeAny (model P w) B (.call (.ref f) gv) (CR (L2.CX P w) outs P w H t Q E) t
section
variable {P : Program} {w : World} {K : PySem.W.Frag} {mg : Str → Option Value} {base : Heap}
theorem FnG.of {k : Nat} {f : Addr} {fd : FuncData} {ps : List Str} {sp : Sp} (F : FnOk P w K mg base (L2.CX P w) k f fd ps sp) : FnG P w K mg base k f fd ps sp :=
  ⟨F.len, fun B outs t H gv us vs Q E r _ => F.run B outs t H gv us vs Q E r⟩
/-- a def by its body, read where no repr is under way -/
theorem fnG_body {k : Nat} {f : Addr} {nm ql : Str} {pr : Arguments} {bd : List Stmt} {sc : Scope} {dV kV doc pm cdv ct oc : Value} {an od : Option Addr} {osl : Array (Option Value)} {N ps : List Str} {sp : Sp}
    (at_ : K.lookup f = some ⟨oc, od, .func (PySem.W.fnOf nm ql pr bd sc dV kV doc pm an cdv ct), osl⟩) (cd : PySem.W.codeIn K cdv ql = true) (S : FnScope N ps sc) (ln : ∀ vs H Q E, sp vs H Q E → vs.length = ps.length)
    (body : ∀ (B : Around) (outs : List Env) (t : Shared) (H : Hp) (vs : List V) (Q : VK) (E : XK), Room k (B.deeper (envOfC ql sc t.heap.objs.size f cdv)) → Quiet (B.deeper (envOfC ql sc t.heap.objs.size f cdv)) → sp vs H Q E →
      ∃ T, PSs (cxOf (L2.CX P w) P w K mg base N ql sc f cdv B outs t H E) bd T ∧ T { nx := fun _ G => Q .non G, rt := Q } (start N vs) H) :
    FnG P w K mg base (k + 1) f (PySem.W.fnOf nm ql pr bd sc dV kV doc pm an cdv ct) ps sp where
  len := ln
  run := fun B outs t H gv us vs Q E rm qt e0 bi rv want => by
    have kin : K.In t.heap := e0.mod.kin.keeps fun b o z => (e0.bs b o z).1
    have unl : t.heap.NoLimit := e0.mod.nolimit.keeps fun b o z => (e0.bs b o z).1
    have kinds : ∀ z ∈ ps.zip us, sc.names.lookup z.1 = some .local ∨ (sc.names.lookup z.1 = some .cell ∧ ((cellsFrom (t.heap.objs.size + 1) sc.names []).lookup z.1).isSome = true) := fun z hz =>
      (S.par z.1 (List.of_mem_zip (a := z.1) (b := z.2) hz).1).imp id fun c => ⟨c, PySem.W.cellsFrom_some _ _ _ (.inl c)⟩
    refine codeAny_call_function rm.depth (kin _ _ at_) rfl S.co S.gen rfl (PySem.W.codeRec_of kin cd) (bi _ _ _ _ (wpAny_newFunctionEnv_cells S.kind kinds ?_))
    intro env ee t1 ic
    cases ee
    refine ⟨unl.keeps ic.toInCall.keep, codeAny_func ?_⟩
    obtain ⟨T, d, hT⟩ := body B outs t H vs Q E (rm.deeper _) qt want
    refine wpAny_mono (d.run [] t1 (start N vs) H _ (inv_start S rm.hd e0 (ln _ _ _ _ want) rv ic) hT) (fun fl t2 z => ?_) fun _ _ z => z
    match fl, z with
    | .ret u, ⟨v, _, G, J, ru, q⟩ => exact ⟨v, G, J.os, J.bare, J.base, J.hok, ru, q⟩
    | .next, ⟨_, G, J, q⟩ => exact ⟨V.non, G, J.os, J.bare, J.base, J.hok, rfl, q⟩
    | .brk, ⟨_, _, _, q⟩ => exact q.elim
    | .cont, ⟨_, _, _, q⟩ => exact q.elim
end
section
variable {X : Cx} {k : Nat} {f C : Addr} {fd : FuncData} {ps : List Str} {sp : Sp} {dvs : List V} {ds : List Value} {E : XK}
def Back (X : Cx) (pins : List (Addr × Obj)) (σ : L2.St) (Q : VK) : Result → Shared → Prop
  | .ok (.ret u), t => EP X pins σ Q u t
  | .ok _, _ => False
  | .error e, t => X.xe e t
theorem back_of {pins : List (Addr × Obj)} {σ : L2.St} {H : Hp} {s s' : Shared} {Q : VK} {r : Result} (I : Inv X pins σ H s) (hx : Passes (L2.CX X.prog X.w) X E) (h : CR (L2.CX X.prog X.w) X.stack X.prog X.w H s Q E r s') :
    Back X pins σ Q r s' := by
  match r, h with
  | .error e, h => exact hx pins σ H s e s' I h
  | .ok (.ret u), h => exact I.after h
  | .ok .next, h => exact h
  | .ok .brk, h => exact h
  | .ok .cont, h => exact h
theorem run_g {pins : List (Addr × Obj)} {σ : L2.St} {H : Hp} {s : Shared} {Q : VK} {us ws : List Value} {kw : List (Str × Value)} {vs : List V} (F : FnG X.prog X.w X.K X.mg X.base k f fd ps sp) (rm : Room k X.A) (qt : Quiet X.A) (hx : Passes (L2.CX X.prog X.w) X E)
    (I : Inv X pins σ H s) (b : BindsTo s fd ⟨us, kw⟩ (ps.zip ws)) (r : Vals vs ws) (h : sp vs H Q E) : wpAny (model X.prog X.w) X.A (call (.ref f) us kw) (EP X pins σ Q) X.xe s := by
  refine wpAny_call (codeAny_mono (F.run X.A X.stack s H _ ws vs Q E rm qt I.env0 b r h) fun r t z => ?_)
  have y := back_of I hx z
  clear z
  match r, y with
  | .error _, y => exact y
  | .ok (.ret _), y => exact y
theorem run_gb {pins : List (Addr × Obj)} {σ : L2.St} {H : Hp} {s : Shared} {Q : VK} {us : List Value} {vs : List V} (F : FnG X.prog X.w X.K X.mg X.base k f fd ps sp) (rm : Room k X.A) (qt : Quiet X.A) (hb : Binds X.K fd ps ds) (hd : Vals dvs ds) (hx : Passes (L2.CX X.prog X.w) X E)
    (I : Inv X pins σ H s) (r : Vals vs us) (h : sp (vs ++ dvs) H Q E) : wpAny (model X.prog X.w) X.A (call (.ref f) us) (EP X pins σ Q) X.xe s := by
  have r2 := r.append hd
  exact run_g F rm qt hx I (hb s us I.kIn (r2.length.symm.trans (F.len _ _ _ _ h))) r2 h
theorem quiet_make {B : Around} (q : Quiet B) (C : Addr) (us : List Value) (kw : List (Str × Value)) : Quiet (B.under (.builtin "type.__call__" ⟨.ref C :: us, kw⟩)) := by
  first | exact q | (simpa [Around.under, Code.guards, Code.isGuard, pushGuards] using q)
theorem run_mkG {pins : List (Addr × Obj)} {σ : L2.St} {H : Hp} {s : Shared} {Q : VK} {us : List Value} {vs : List V} (M : Mk X.K C f) (F : FnG X.prog X.w X.K X.mg X.base k f fd ps sp) (rm : Room (k + 1) X.A) (qt : Quiet X.A) (hb : Binds X.K fd ps []) (hx : Passes (L2.CX X.prog X.w) X E)
    (I : Inv X pins σ H s) (r : Vals vs us) (h : ∀ p dx, H p = none → H dx = none → dx ≠ p → sp (.ref p :: vs) (upd (upd H dx (.own p)) p (.ins C dx [])) (fun v G => v = .non ∧ Q (.ref p) G) E) :
    wpAny (model X.prog X.w) X.A (call (.ref C) us) (EP X pins σ Q) X.xe s := by
  have J := Inv.made (C := C) I
  have want := h _ _ (I.hok.fresh (Nat.le_succ _)) (I.hok.fresh (Nat.le_refl _)) (Nat.ne_of_lt (Nat.lt_succ_self _))
  have r2 : Vals (V.ref (s.heap.objs.size + 1) :: vs) (Value.ref (s.heap.objs.size + 1) :: us) := .cons rfl r
  have bi := hb { s with heap := (s.heap.push PySem.W.emptyDict).push (PySem.W.instObj C s.heap.objs.size) } (Value.ref (s.heap.objs.size + 1) :: us) J.kIn (by rw [List.append_nil, ← r2.length]; exact F.len _ _ _ _ want)
  rw [List.append_nil] at bi
  refine wpAny_call (make_map (f := f) I.kIn M.makes M.init (beq_iff_eq.mp M.fn) (codeAny_mono (F.run _ X.stack _ _ _ _ _ _ E (rm.make C us []) (quiet_make qt C us []) (J.env0.make C us []) bi r2 want) fun r t z => ?_))
  have y := back_of J hx z
  clear z
  match r, y with
  | .error _, y => exact y
  | .ok (.ret u), y =>
    obtain ⟨v, G, J2, ru, ev, q⟩ := y
    subst ev
    exact ⟨ru, V.ref (s.heap.objs.size + 1), G, J2, rfl, q⟩
end
/-- the head: the law's def is called where no repr is under way -/
theorem law_callG {P : Program} {w : World} {K : PySem.W.Frag} {mg mb : Str → Option Value} {k : Nat} {fa a : Addr} {fd : FuncData} {x : Str} {sp : Sp} {t : Shared} {vs : List Value} {ns : List Int}
    (kin : K.In t.heap) (gN : t.heap.Ns mainGlobals mg) (bN : t.heap.Ns builtinsNs mb) (bB : ∀ x : Str, x ≠ "__name__" → mb x = bootBuiltins x) (nl : t.heap.NoLimit) (gz : t.gens = #[])
    (ob : t.heap.get? a = some { cls := .type "list", data := .seq vs.toArray }) (inz : IntsAre vs ns) (fits : ns.length ≤ sizeLine) (rm : Room k callerA)
    (F : ∀ base : Heap, K.In base → base.Ns mainGlobals mg → FnG P w K mg base k fa fd [x] sp) (bi : ∀ (s : Shared) (u : Value), BindsTo s fd ⟨[u], []⟩ [(x, u)])
    (want : ∀ H : Hp, SqL K H a (ns.map V.int) → sp [.ref a] H (fun v _ => v = .bl true) fun _ _ _ => False) :
    codeAny (model P w) callerA (.call (.ref fa) ⟨[.ref a], []⟩) (fun r s' => r = .ok (.ret (.bool true)) ∧ OldK t.heap s'.heap ∧ s'.os = t.os ∧ AllBare s'.gens) t := by
  have vals := vals_ints inz
  have len := inz.length
  suffices go : ∀ H : Hp, (∀ b u, H b = some u → b = a ∧ K.lookup a = none ∧ u = .frz { cls := .type "list", data := .seq vs.toArray } (.lst (ns.map V.int))) → SqL K H a (ns.map V.int) → HOk P w H t.heap →
      codeAny (model P w) callerA (.call (.ref fa) ⟨[.ref a], []⟩) (fun r s' => r = .ok (.ret (.bool true)) ∧ OldK t.heap s'.heap ∧ s'.os = t.os ∧ AllBare s'.gens) t by
    cases lk : K.lookup a with
    | some o =>
      have z := kin a o lk
      rw [ob] at z
      cases z
      exact go (fun _ => none) (fun b u z => nomatch z) (.inr ⟨_, vs.toArray, _, lk, rfl, rfl, rfl, by rw [List.size_toArray, len]; exact fits, by simpa using vals⟩) fun b u z => nomatch z
    | none =>
      have at_ : ∀ b u, (if b = a then some (HO.frz { cls := .type "list", data := .seq vs.toArray } (.lst (ns.map V.int))) else none) = some u → b = a ∧ u = .frz { cls := .type "list", data := .seq vs.toArray } (.lst (ns.map V.int)) := fun b u z => by
        split at z
        · rename_i e; cases z; exact ⟨e, rfl⟩
        · cases z
      refine go (fun b => if b = a then some (.frz { cls := .type "list", data := .seq vs.toArray } (.lst (ns.map V.int))) else none) (fun b u z => ⟨(at_ b u z).1, lk, (at_ b u z).2⟩) (.inl (.inr ⟨_, if_pos rfl⟩)) fun b u z => ?_
      obtain ⟨rfl, rfl⟩ := at_ b u z
      exact ⟨ob, by rw [List.length_map]; exact fits, vs, _, vals, ob⟩
  intro H only sq hok
  have free : ∀ {b : Addr} {o : Obj}, t.heap.get? b = some o → o.data ≠ .seq vs.toArray → H b = none := fun {b o} z ne => by
    cases e : H b with
    | none => rfl
    | some u => obtain ⟨rfl, _⟩ := only b u e; rw [ob] at z; cases z; exact absurd rfl ne
  have names : ∀ {b : Addr} {m : Str → Option Value}, t.heap.Ns b m → (hidT t.heap H).Ns b m := fun {b m} ⟨o, es, ep, z, d, r⟩ => ⟨o, es, ep, hidT_get z (free z (by rw [d]; exact fun z => nomatch z)), d, r⟩
  have kin2 : K.In (hidT t.heap H) := fun b o z => hidT_get (kin b o z) (by
    cases e : H b with
    | none => rfl
    | some u => obtain ⟨rfl, z2, _⟩ := only b u e; rw [z2] at z; cases z)
  have md : Mod K mg (hidT t.heap H) := ⟨kin2, names gN, ⟨mb, names bN, bB⟩, let ⟨mc, z1, z2⟩ := nl; ⟨mc, names z1, z2⟩⟩
  have e0 : Env0 P w K mg (hidT t.heap H) callerA [] t H := ⟨rfl, md, fun b o z => of_hidT z, Nat.le_of_eq (hidT_size _ _), trivial, fun b z => absurd (show b ∈ ([] : List Addr) from z) (by simp), hok, .of_eq gz⟩
  refine codeAny_mono ((F _ kin2 (names gN)).run callerA [] t H ⟨[.ref a], []⟩ [.ref a] [.ref a] _ _ rm rfl e0 (bi t (.ref a)) (.cons rfl .nil) (want H sq)) fun r s' z => ?_
  match r, z with
  | .error e, z => obtain ⟨_, _, _, _, _, _, _, _, _, _, _, _, z⟩ := z; exact z.elim
  | .ok (.ret u), ⟨v, G, os, bare, un, hok', ru, q⟩ =>
    have q : v = .bl true := q
    subst q
    obtain rfl : u = Value.bool true := ru
    refine ⟨rfl, OldK.of_keep fun b o z => ?_, os, bare⟩
    cases e : H b with
    | none => exact un.keep b o z e (by intro y; exact absurd (show b ∈ ([] : List Addr) from y) (by simp)) (by simp)
    | some u =>
      obtain ⟨rfl, _, rfl⟩ := only b u e
      obtain ⟨z2, _⟩ := hok' _ _ (un.frzs _ _ _ e)
      rw [ob] at z
      cases z
      exact z2
theorem walk_g {l : PySem.W.OpenLaw} {n k : Nat} {q : Program} {loose : List Str} {XP : (Str → Option Value) → Heap → Prop} {YP : World → Heap → Prop} {d : DefRec} {K : Params → PySem.W.Frag} {sp : PySem.W.Frag → Sp} {x : Str}
    (hn : l.most = some n) (hn2 : n ≤ sizeLine) (hdf : d.params.defaults = []) (rm : Room k callerA) (hY : ∀ (w : World) (h : Heap), YP w h → (K w.params).In h)
    (F : ∀ (w : World) (mg : Str → Option Value) (fa : Addr) (h : Heap), (K w.params).In h → h.Ns mainGlobals mg → mg d.name = some (.ref fa) →
      ∃ fd : FuncData, (∀ (s : Shared) (u : Value), BindsTo s fd ⟨[u], []⟩ [(x, u)]) ∧ ∀ base : Heap, (K w.params).In base → base.Ns mainGlobals mg → FnG l.prog w (K w.params) mg base k fa fd [x] (sp (K w.params)))
    (want : ∀ (K : PySem.W.Frag) (H : Hp) (a : Addr) (ns : List Int), ns.length ≤ n → SqL K H a (ns.map V.int) → sp K [.ref a] H (fun v _ => v = .bl true) fun _ _ _ => False) :
    PySem.W.WalkO q loose XP YP l.row.toRowW d [] (fun f vs => PySem.call f vs) := by
  refine Att.attach_call hn hdf fun w s₀ t mg mb fa o pm cd doc a vs ns G Y ho hd hcd hmg ob inz hl gz => ?_
  obtain ⟨fd, bi, hF⟩ := F w mg fa _ (hY w _ Y) G.T.g hmg
  exact law_callG (hY w _ Y) G.T.g G.T.b G.T.builtins G.T.nolimit gz ob inz (Nat.le_trans hl hn2) rm hF bi fun H sq => want _ H a ns hl sq
end U
/-! rules by the construct alone: what is asked is found by the values -/
namespace U
open PySem PySem.Spec PyProof.Rows L2 ClX

/-! ### defs, classes, methods as they may be called; what they may raise goes to E -/
structure Fn (P : Program) (w : World) (K : PySem.W.Frag) (mg : Str → Option Value) (base : Heap) (k : Nat) (x : Str) (sp : Sp) : Prop where
  ex : ∃ (f : Addr) (fd : FuncData) (ps : List Str) (ds : List Value) (dvs : List V) (sp' : Sp), FnG P w K mg base k f fd ps sp' ∧ mg x = some (.ref f) ∧ PySem.W.keepIn K (.ref f) = true ∧ Binds K fd ps ds ∧ Vals dvs ds ∧ ∀ vs H Q E, sp vs H Q E → sp' (vs ++ dvs) H Q E
structure Mkr (P : Program) (w : World) (K : PySem.W.Frag) (mg : Str → Option Value) (base : Heap) (k : Nat) (x : Str) (C : Addr) (sp : Sp) : Prop where
  ex : ∃ (f : Addr) (fd : FuncData) (ps : List Str), Mk K C f ∧ FnG P w K mg base k f fd ps sp ∧ mg x = some (.ref C) ∧ Binds K fd ps []
structure Mth (P : Program) (w : World) (K : PySem.W.Frag) (mg : Str → Option Value) (base : Heap) (k : Nat) (C : Addr) (m : Str) (sp : Sp) : Prop where
  ex : ∃ (f : Addr) (fd : FuncData) (ps : List Str), Cls K C ∧ Meth K C m f ∧ FnG P w K mg base k f fd ps sp ∧ Binds K fd ps []

/-- where a call stands: the level at hand and what becomes of an exception (E); in a comprehension's block E is E0 -/
structure At (X : Cx) (j : Nat) (E : XK) : Prop where
  hr : Room j X.A
  hx : Passes (L2.CX X.prog X.w) X E
  qt : Quiet X.A
theorem At.e0 {X : Cx} {j : Nat} (hr : Room j X.A) (qt : Quiet X.A) : At X j E0 := ⟨hr, passL, qt⟩
theorem At.of {X : Cx} {j : Nat} {E : XK} (hr : Room j X.A) (qt : Quiet X.A) (tk : Takes X (fun cls d _ H => E cls d H)) : At X j E := ⟨hr, passes_call tk fun _ _ _ _ h => h, qt⟩

def tFn (P : Program) (w : World) (K : PySem.W.Frag) (mg : Str → Option Value) (base : Heap) (x : Str) (j : Nat) (E : XK) (t : TA) : TE := fun σ H Q => ∃ k sp, Fn P w K mg base k x sp ∧ k ≤ j ∧ t σ H fun vs H1 => sp vs H1 Q E
def tMkr (P : Program) (w : World) (K : PySem.W.Frag) (mg : Str → Option Value) (base : Heap) (x : Str) (j : Nat) (E : XK) (t : TA) : TE := fun σ H Q => ∃ k C sp, Mkr P w K mg base k x C sp ∧ k + 1 ≤ j ∧ t σ H fun vs H1 =>
  ∀ p dx, H1 p = none → H1 dx = none → dx ≠ p → sp (.ref p :: vs) (upd (upd H1 dx (.own p)) p (.ins C dx [])) (fun v H' => v = .non ∧ Q (.ref p) H') E
def tMth (P : Program) (w : World) (K : PySem.W.Frag) (mg : Str → Option Value) (base : Heap) (m : Str) (j : Nat) (E : XK) (ta : TE) (t : TA) : TE := fun σ H Q => ta σ H fun x H1 => ∃ a C dx fs k sp, x = .ref a ∧ H1 a = some (.ins C dx fs) ∧ Mth P w K mg base k C m sp ∧ k ≤ j ∧ fs.lookup m = none ∧
  t σ H1 fun vs H2 => sp (.ref a :: vs) H2 Q E

section
variable {X : Cx} {j : Nat} {E : XK} {x m : Str} {e o : Expr} {es : List Expr} {t : TA} {ta tb te : TE} {p pos apos : Pos}
theorem pe_fn (a : At X j E) (hg : Gl X x) (ha : PA X (e :: es) t)
    (hdb : (x == ("__debug__" : Str)) = false := by decide) (he : starEach (e :: es) X.env = (false, eval e X.env) :: starEach es X.env := by rfl) (hpl : (backTo pos (starEach es X.env)).any (·.1) = false := by rfl) :
    PE X (.Call (.Name x p) (e :: es) [] pos) (tFn X.prog X.w X.K X.mg X.base x j E t) := by
  refine ⟨fun pins s σ H Q I h => ?_⟩
  obtain ⟨k, sp, F, hk, h⟩ := h
  obtain ⟨f, fd, ps, ds, dvs, sp', F, hm, kp, b, rd, im⟩ := F.ex
  refine wpAny_Call_Name_kw (ld_glob I hg hm (PySem.W.callWith_K (h₀ := X.base) I.ok.mod.kin kp (thn (ha.run pos pins s σ H _ I h) fun us s1 ⟨vs, H1, I1, r, q⟩ => ⟨I1.kIn, ?_⟩) he hpl) hdb)
  exact run_gb F (a.hr.mono hk) a.qt b rd a.hx I1 r (im _ _ _ _ q)
theorem pe_fn0 (a : At X j E) (hg : Gl X x) (hdb : (x == ("__debug__" : Str)) = false := by decide) : PE X (.Call (.Name x p) [] [] pos) (tFn X.prog X.w X.K X.mg X.base x j E tNil) := by
  refine ⟨fun pins s σ H Q I h => ?_⟩
  obtain ⟨k, sp, F, hk, h⟩ := h
  obtain ⟨f, fd, ps, ds, dvs, sp', F, hm, kp, b, rd, im⟩ := F.ex
  exact wpAny_Call_Name_kw (ld_glob I hg hm (PySem.W.callWith_K0 I.kIn kp (run_gb (us := []) F (a.hr.mono hk) a.qt b rd a.hx I .nil (im _ _ _ _ h))) hdb)
theorem pe_mkr (a : At X j E) (hg : Gl X x) (ha : PA X (e :: es) t)
    (hdb : (x == ("__debug__" : Str)) = false := by decide) (he : starEach (e :: es) X.env = (false, eval e X.env) :: starEach es X.env := by rfl) (hpl : (backTo pos (starEach es X.env)).any (·.1) = false := by rfl) :
    PE X (.Call (.Name x p) (e :: es) [] pos) (tMkr X.prog X.w X.K X.mg X.base x j E t) := by
  refine ⟨fun pins s σ H Q I h => ?_⟩
  obtain ⟨k, C, sp, F, hk, h⟩ := h
  obtain ⟨f, fd, ps, M, F, hm, b⟩ := F.ex
  refine wpAny_Call_Name_kw (ld_glob I hg hm (PySem.W.callWith_K (h₀ := X.base) I.ok.mod.kin M.kp (thn (ha.run pos pins s σ H _ I h) fun us s1 ⟨vs, H1, I1, r, q⟩ => ⟨I1.kIn, ?_⟩) he hpl) hdb)
  exact run_mkG M F (a.hr.mono hk) a.qt b a.hx I1 r q
theorem pe_mkr0 (a : At X j E) (hg : Gl X x) (hdb : (x == ("__debug__" : Str)) = false := by decide) : PE X (.Call (.Name x p) [] [] pos) (tMkr X.prog X.w X.K X.mg X.base x j E tNil) := by
  refine ⟨fun pins s σ H Q I h => ?_⟩
  obtain ⟨k, C, sp, F, hk, h⟩ := h
  obtain ⟨f, fd, ps, M, F, hm, b⟩ := F.ex
  exact wpAny_Call_Name_kw (ld_glob I hg hm (PySem.W.callWith_K0 I.kIn M.kp (run_mkG (us := []) M F (a.hr.mono hk) a.qt b a.hx I .nil h)) hdb)
theorem pe_mth {pl : Sem Bool} (a : At X j E) (ho : PE X o ta) (ha : PA X (e :: es) t)
    (hst : starEach (e :: es) X.env = (false, eval e X.env) :: starEach es X.env := by rfl) (hpl : (backTo pos (starEach es X.env)).any (·.1) = false := by rfl)
    (ht : eval (.Call (.Attribute o m apos) (e :: es) [] pos) X.env = (do
      let ov ← eval o X.env
      standAt apos.atName
      let (f, first) ← holding [ov] (getMethod ov m pl)
      callWith pos f first (backTo pos (starEach (e :: es) X.env)) (backToKw pos (keywordEach [] X.env))) := by rfl) :
    PE X (.Call (.Attribute o m apos) (e :: es) [] pos) (tMth X.prog X.w X.K X.mg X.base m j E ta t) := by
  refine ⟨fun pins s σ H Q I h => PySem.W.methodCall_KW (pl := pl) (thn (ho.run pins s σ H _ I h) fun u s1 ⟨x, H1, I1, rx, y, C, dx, fs, k, sp, ex, ea, M, hk, l, q⟩ => ?_) ht⟩
  subst ex
  obtain rfl : u = Value.ref y := rx
  obtain ⟨f, fd, ps, c, hm, F, b⟩ := M.ex
  refine getmeth_ok I1 ea c hm l (PySem.W.callWith_K (first := [.ref y]) (h₀ := X.base) I.ok.mod.kin hm.kp (thn (ha.run pos pins s1 σ H1 _ I1 q) fun us s2 ⟨vs, H2, I2, r, q2⟩ => ⟨I2.kIn, ?_⟩) hst hpl)
  exact run_gb (us := .ref y :: us) (vs := .ref y :: vs) F (a.hr.mono hk) a.qt b .nil a.hx I2 (.cons rfl r) (by rw [List.append_nil]; exact q2)
theorem pe_mth0 {pl : Sem Bool} (a : At X j E) (ho : PE X o ta)
    (ht : eval (.Call (.Attribute o m apos) [] [] pos) X.env = (do
      let ov ← eval o X.env
      standAt apos.atName
      let (f, first) ← holding [ov] (getMethod ov m pl)
      callWith pos f first (backTo pos (starEach [] X.env)) (backToKw pos (keywordEach [] X.env))) := by rfl) :
    PE X (.Call (.Attribute o m apos) [] [] pos) (tMth X.prog X.w X.K X.mg X.base m j E ta tNil) := by
  refine ⟨fun pins s σ H Q I h => PySem.W.methodCall_KW (pl := pl) (thn (ho.run pins s σ H _ I h) fun u s1 ⟨x, H1, I1, rx, y, C, dx, fs, k, sp, ex, ea, M, hk, l, q⟩ => ?_) ht⟩
  subst ex
  obtain rfl : u = Value.ref y := rx
  obtain ⟨f, fd, ps, c, hm, F, b⟩ := M.ex
  exact getmeth_ok I1 ea c hm l (PySem.W.callWith_K0 (first := [.ref y]) I1.kIn hm.kp (run_gb (us := [.ref y]) (vs := [.ref y]) F (a.hr.mono hk) a.qt b .nil a.hx I1 (.cons rfl .nil) q))

/-! ### attributes -/
/-- reading the attribute f of what stands at a gives v -/
inductive Att (P : Program) (w : World) (K : PySem.W.Frag) (mg : Str → Option Value) (base : Heap) (H : Hp) (a : Addr) (f : Str) (v : V) : Prop where
  | fld {C dx : Addr} {fs : List (Str × V)} (h : H a = some (.ins C dx fs)) (c : Cls K C) (n : NoAttr K C f) (l : fs.lookup f = some v)
  | con {C dx : Addr} {fs : List (Str × V)} {u : Value} (h : H a = some (.ins C dx fs)) (c : Cls K C) (k : Con K C f v u) (l : fs.lookup f = none)
  | prop {C dx p g : Addr} {fs : List (Str × V)} {f' : Str} {fd : FuncData} (h : H a = some (.ins C dx fs)) (c : Cls K C) (pr : PropOf K C f p g) (F : FnOk P w K mg base (L2.CX P w) 1 g fd ["self"] (getSp C f')) (b : Binds K fd ["self"] []) (l : fs.lookup f' = some v)
  | cls {mc u : Value} (r : CRead K a mc) (k : CVal K a mc f v u)
def tAtt (P : Program) (w : World) (K : PySem.W.Frag) (mg : Str → Option Value) (base : Heap) (f : Str) (ta : TE) : TE := fun σ H Q => ta σ H fun x H1 => ∃ a v, x = .ref a ∧ Att P w K mg base H1 a f v ∧ Q v H1
theorem pe_att {f : Str} (hr : Room j X.A) (he : PE X e ta) (hj : 2 ≤ j := by decide) (hab : attributeBase e f X.env (eval e X.env) = eval e X.env := by rfl) : PE X (.Attribute e f pos) (tAtt X.prog X.w X.K X.mg X.base f ta) := by
  refine ⟨fun pins s σ H Q I h => attr_of hab (thn (he.run pins s σ H _ I h) fun u s1 ⟨x, H1, I1, rx, a, v, ex, at_, q⟩ => ?_)⟩
  subst ex
  obtain rfl : u = Value.ref a := rx
  cases at_ with
  | fld h c n l => exact getattr_ok I1 h c n l fun u' s2 I2 ru => ⟨v, H1, I2, ru, q⟩
  | con h c k l => exact getcon_ok I1 h c k l fun s2 I2 => ⟨v, H1, I2, k.rel, q⟩
  | prop h c pr F b l => exact getprop_ok (E := E0) (dvs := []) I1 h c pr F (hr.mono hj) b .nil passL ⟨a, _, _, v, rfl, h, l, q⟩
  | cls r k => exact getcval_ok I1 r k fun s2 I2 => ⟨v, H1, I2, k.rel, q⟩

/-! ### operators by the values -/
def uAdd : R2 := fun x y H Q => match x, y with
  | .int i, .int j => Q (.int (i + j)) H
  | .str a, .str b => a.length + b.length ≤ sizeLine ∧ Q (.str (a ++ b)) H
  | .ref l, .ref b => ∃ xs zs, H l = some (.lst xs) ∧ H b = some (.lst zs) ∧ xs.length + zs.length ≤ sizeLine ∧ ∀ p, H p = none → Q (.ref p) (upd H p (.lst (xs ++ zs)))
  | _, _ => False
theorem op_uAdd : OpR X (binaryOp .Add) uAdd := by
  intro pins s σ H x y v u Q I rx ry h
  match x, y, h with
  | .int i, .int j, h => exact op_add pins s σ H _ _ v u Q I rx ry ⟨i, j, rfl, rfl, h⟩
  | .str a, .str b, h => exact op_add_str pins s σ H _ _ v u Q I rx ry ⟨a, b, rfl, rfl, h⟩
  | .ref l, .ref b, h =>
    obtain ⟨xs, zs, h⟩ := h
    exact op_cat pins s σ H _ _ v u Q I rx ry ⟨l, b, xs, zs, rfl, rfl, h⟩
def uSub : R2 := fun x y H Q => match x, y with
  | .int i, .int j => Q (.int (i - j)) H
  | _, _ => False
theorem op_uSub : OpR X (binaryOp .Sub) uSub := by
  intro pins s σ H x y v u Q I rx ry h
  match x, y, h with
  | .int i, .int j, h => exact op_sub pins s σ H _ _ v u Q I rx ry ⟨i, j, rfl, rfl, h⟩
def uMul : R2 := fun x y H Q => match x, y with
  | .int i, .int j => CMul i j ∧ Q (.int (i * j)) H
  | .ref l, .int k => ∃ xs, H l = some (.lst xs) ∧ -(2 ^ 63) ≤ k ∧ k < 2 ^ 63 ∧ xs.length * k.toNat ≤ sizeLine ∧ ∀ p, H p = none → Q (.ref p) (upd H p (.lst (List.replicate k.toNat xs).flatten))
  | _, _ => False
theorem op_uMul : OpR X (binaryOp .Mult) uMul := by
  intro pins s σ H x y v u Q I rx ry h
  match x, y, h with
  | .int i, .int j, h => exact op_mul pins s σ H _ _ v u Q I rx ry ⟨i, j, rfl, rfl, h⟩
  | .ref l, .int k, h =>
    obtain ⟨xs, h⟩ := h
    exact op_rep pins s σ H _ _ v u Q I rx ry ⟨l, k, xs, rfl, rfl, h⟩
def uDiv : R2 := fun x y H Q => match x, y with
  | .int i, .int j => (0 < j ∧ j.natAbs.log2 < 9000) ∧ Q (.int (i / j)) H
  | _, _ => False
theorem op_uDiv : OpR X (binaryOp .FloorDiv) uDiv := by
  intro pins s σ H x y v u Q I rx ry h
  match x, y, h with
  | .int i, .int j, h => exact op_fdivW pins s σ H _ _ v u Q I rx ry ⟨i, j, rfl, rfl, h⟩
def uMod : R2 := fun x y H Q => match x, y with
  | .int i, .int j => 0 < j ∧ Q (.int (i % j)) H
  | _, _ => False
theorem op_uMod : OpR X (binaryOp .Mod) uMod := by
  intro pins s σ H x y v u Q I rx ry h
  match x, y, h with
  | .int i, .int j, h => exact op_mod pins s σ H _ _ v u Q I rx ry ⟨i, j, rfl, rfl, h⟩
def uPow : R2 := fun x y H Q => match x, y with
  | .int i, .int j => (0 ≤ j ∧ (Builtin.Int.intBits i : Int) * j ≤ 2 ^ 27) ∧ Q (.int (i ^ j.toNat)) H
  | _, _ => False
theorem op_uPow : OpR X (binaryOp .Pow) uPow := by
  intro pins s σ H x y v u Q I rx ry h
  match x, y, h with
  | .int i, .int j, h =>
    exact opI (C := fun i j => 0 ≤ j ∧ (Builtin.Int.intBits i : Int) * j ≤ 2 ^ 27) (g := fun i j => i ^ j.toNat) (fun _ _ _ _ _ _ _ hc q => pow_int hc.1 hc.2 q) pins s σ H _ _ v u Q I rx ry ⟨i, j, rfl, rfl, h⟩
def uCmp (g : Int → Int → Bool) (gs : List Nat → List Nat → Bool) : R2 := fun x y H Q => match x, y with
  | .int i, .int j => Q (.bl (g i j)) H
  | .str a, .str b => Q (.bl (gs a.cps.toList b.cps.toList)) H
  | _, _ => False
def uLt : R2 := uCmp (fun i j => decide (i < j)) (fun a b => decide (a < b))
def uLe : R2 := uCmp (fun i j => decide (i ≤ j)) (fun a b => !decide (b < a))
def uGt : R2 := uCmp (fun i j => decide (j < i)) (fun a b => decide (b < a))
def uGe : R2 := uCmp (fun i j => decide (j ≤ i)) (fun a b => !decide (a < b))
theorem op_uLt : OpR X (compareOp .Lt) uLt := by
  intro pins s σ H x y v u Q I rx ry h
  match x, y, h with
  | .int i, .int j, h => exact op_lt pins s σ H _ _ v u Q I rx ry ⟨i, j, rfl, rfl, h⟩
  | .str i, .str j, h => exact op_lt_str pins s σ H _ _ v u Q I rx ry ⟨i, j, rfl, rfl, h⟩
theorem op_uLe : OpR X (compareOp .LtE) uLe := by
  intro pins s σ H x y v u Q I rx ry h
  match x, y, h with
  | .int i, .int j, h => exact op_le pins s σ H _ _ v u Q I rx ry ⟨i, j, rfl, rfl, h⟩
  | .str i, .str j, h => exact op_le_str pins s σ H _ _ v u Q I rx ry ⟨i, j, rfl, rfl, h⟩
theorem op_uGt : OpR X (compareOp .Gt) uGt := by
  intro pins s σ H x y v u Q I rx ry h
  match x, y, h with
  | .int i, .int j, h => exact op_gt pins s σ H _ _ v u Q I rx ry ⟨i, j, rfl, rfl, h⟩
  | .str i, .str j, h => exact op_gt_str pins s σ H _ _ v u Q I rx ry ⟨i, j, rfl, rfl, h⟩
theorem op_uGe : OpR X (compareOp .GtE) uGe := by
  intro pins s σ H x y v u Q I rx ry h
  match x, y, h with
  | .int i, .int j, h => exact op_ge pins s σ H _ _ v u Q I rx ry ⟨i, j, rfl, rfl, h⟩
  | .str i, .str j, h => exact op_ge_str pins s σ H _ _ v u Q I rx ry ⟨i, j, rfl, rfl, h⟩
/-- x == y: scalars; else data of any depth, or two lists of unlike lengths -/
def uEqB (K : PySem.W.Frag) (neg : Bool) : R2 := fun x y H Q =>
  (∃ d e, Dp K H x d ∧ Dp K H y e ∧ SeqAt.shaped d = true ∧ SeqAt.shaped e = true ∧ Q (.bl (if neg = true then !PyData.eqv d e else PyData.eqv d e)) H) ∨
  (∃ p q xs ys, x = .ref p ∧ y = .ref q ∧ SqL K H p xs ∧ SqL K H q ys ∧ xs.length ≠ ys.length ∧ Q (.bl neg) H)
def uEq (K : PySem.W.Frag) : R2 := fun x y H Q => if scal x y = true then Q (.bl (decide (x = y))) H else uEqB K false x y H Q
def uNe (K : PySem.W.Frag) : R2 := fun x y H Q => if scal x y = true then Q (.bl (!decide (x = y))) H else uEqB K true x y H Q
theorem len_ne {p q : Addr} {xs ys : List V} {pins : List (Addr × Obj)} {s : Shared} {σ : L2.St} {H : Hp} (I : Inv X pins σ H s) (h1 : SqL X.K H p xs) (h2 : SqL X.K H q ys) (hn : xs.length ≠ ys.length) :
    ∃ its its2 : Array Value, s.heap.IsList p its ∧ s.heap.IsList q its2 ∧ (its.size != its2.size) = true := by
  obtain ⟨its, r, pl, _⟩ := I.list h1
  obtain ⟨its2, r2, pl2, _⟩ := I.list h2
  refine ⟨_, _, pl.isList, pl2.isList, ?_⟩
  have e1 := r.length
  have e2 := r2.length
  simp only [List.size_toArray, bne_iff_ne, ne_eq]
  omega
theorem op_uEq (hr : Room j X.A) : OpR X (compareOp .Eq) (uEq X.K) := by
  intro pins s σ H x y v u Q I rx ry h
  unfold uEq at h
  split at h
  · rename_i c; exact op_eq pins s σ H _ _ v u Q I rx ry ⟨c, h⟩
  · rcases h with h | ⟨p, q, xs, ys, rfl, rfl, h1, h2, hn, h⟩
    · exact op_eqD hr.units pins s σ H _ _ v u Q I rx ry h
    · cases rx
      cases ry
      obtain ⟨its, its2, l1, l2, ne⟩ := len_ne I h1 h2 hn
      exact SeqAt.RcAt.lists_lengths l1 l2 ne hr.units0 X.prog X.w _ _ ⟨.bl false, H, I, rfl, h⟩
theorem op_uNe (hr : Room j X.A) : OpR X (compareOp .NotEq) (uNe X.K) := by
  intro pins s σ H x y v u Q I rx ry h
  unfold uNe at h
  split at h
  · rename_i c; exact op_ne pins s σ H _ _ v u Q I rx ry ⟨c, h⟩
  · rcases h with h | ⟨p, q, xs, ys, rfl, rfl, h1, h2, hn, h⟩
    · exact op_neD hr.units pins s σ H _ _ v u Q I rx ry h
    · cases rx
      cases ry
      obtain ⟨its, its2, l1, l2, ne⟩ := len_ne I h1 h2 hn
      exact SeqAt.RcNeAt.lists_lengths l1 l2 ne hr.units0 X.prog X.w _ _ ⟨.bl true, H, I, rfl, h⟩
/-- in, not in: a sign in a text, a flat value in a list or tuple -/
def uIn (K : PySem.W.Frag) (neg : Bool) : R2 := fun x y H Q => match y with
  | .str z => ∃ c : Nat, x = .str ⟨#[c]⟩ ∧ Q (.bl (if neg = true then !decide (c ∈ z.cps.toList) else decide (c ∈ z.cps.toList))) H
  | .ref p => (∃ xs, (SqL K H p xs ∨ SqT K H p xs) ∧ flatV x = true ∧ xs.all flatV = true ∧ Q (.bl (if neg = true then !inV x xs else inV x xs)) H) ∨
    (∃ d ds, Dp K H x d ∧ Dp K H (.ref p) (.list ds) ∧ SeqAt.shaped d = true ∧ SeqAt.shaped (.list ds) = true ∧ Q (.bl (if neg = true then !ds.any fun z => PyData.eqv z d else ds.any fun z => PyData.eqv z d)) H) ∨
    ∃ o, DGet H p x o ∧ Q (.bl (if neg = true then !o.isSome else o.isSome)) H
  | _ => False
theorem units65 (hr : Room j X.A) : X.A.units + 65 < cLine := by
  have := hr.un
  omega
theorem op_uIn (hr : Room j X.A) : OpR X (compareOp .In) (uIn X.K false) := by
  intro pins s σ H x y v u Q I rx ry h
  match y, h with
  | .str z, h => obtain ⟨c, e, h⟩ := h; exact op_in_sign pins s σ H _ _ v u Q I rx ry ⟨c, z, e, rfl, h⟩
  | .ref p, .inl h => obtain ⟨xs, h1, h2, h3, h⟩ := h; exact op_in_seq pins s σ H _ _ v u Q I rx ry ⟨p, xs, rfl, h1, h2, h3, h⟩
  | .ref p, .inr (.inl h) => exact op_inD (units65 hr) pins s σ H _ _ v u Q I rx ry h
  | .ref p, .inr (.inr h) =>
    obtain ⟨o, g, q⟩ := h
    obtain rfl : u = Value.ref p := ry
    exact d_in (hu_of hr) I g rx fun s3 I3 => ⟨.bl o.isSome, H, I3, rfl, q⟩
theorem op_uNotIn (hr : Room j X.A) : OpR X (compareOp .NotIn) (uIn X.K true) := by
  intro pins s σ H x y v u Q I rx ry h
  match y, h with
  | .str z, h => obtain ⟨c, e, h⟩ := h; exact op_notIn_sign pins s σ H _ _ v u Q I rx ry ⟨c, z, e, rfl, h⟩
  | .ref p, .inl h => obtain ⟨xs, h1, h2, h3, h⟩ := h; exact op_notIn_seq pins s σ H _ _ v u Q I rx ry ⟨p, xs, rfl, h1, h2, h3, h⟩
  | .ref p, .inr (.inl h) => exact op_notInD (units65 hr) pins s σ H _ _ v u Q I rx ry h
  | .ref p, .inr (.inr h) =>
    obtain ⟨o, g, q⟩ := h
    obtain rfl : u = Value.ref p := ry
    exact d_notIn (hu_of hr) I g rx fun s3 I3 => ⟨.bl (!o.isSome), H, I3, rfl, q⟩
/-- x is None -/
def uIs : R2 := fun x y H Q => y = .non ∧ Q (.bl (decide (x = .non))) H
def uIsNot : R2 := fun x y H Q => y = .non ∧ Q (.bl (!decide (x = .non))) H
theorem op_uIs : OpR X (compareOp .Is) uIs := op_isN
theorem op_uIsNot : OpR X (compareOp .IsNot) uIsNot := op_notN
/-- x[i] -/
def uIx (K : PySem.W.Frag) : R2 := fun x y H Q => match x, y with
  | .ref p, .int i => ∃ xs v, (SqL K H p xs ∨ SqT K H p xs) ∧ atI xs i = some v ∧ Q v H
  | .str z, .int i => ∃ c, z.length ≤ sizeLine ∧ atI z.cps.toList i = some c ∧ Q (.str ⟨#[c]⟩) H
  | _, _ => False
theorem ix_u : IxR X (uIx X.K) := by
  intro value slice pins s σ H x y v u Q I rx ry h hs
  match x, y, h with
  | .ref p, .int i, h =>
    obtain ⟨xs, v, h1, h2, h⟩ := h
    exact ix_seq value slice pins s σ H _ _ _ u Q I rx ry (h1.elim (fun z => .inl ⟨p, xs, i, v, rfl, rfl, z, h2, h⟩) fun z => .inr (.inl ⟨p, xs, i, v, rfl, rfl, z, h2, h⟩)) hs
  | .str z, .int i, h =>
    obtain ⟨c, h1, h2, h⟩ := h
    exact ix_seq value slice pins s σ H _ _ _ u Q I rx ry (.inr (.inr ⟨z, i, c, rfl, rfl, h1, h2, h⟩)) hs
/-- -x -/
def uNeg : V → Hp → VK → Prop := fun x H Q => match x with
  | .int i => Q (.int (-i)) H
  | _ => False
theorem un_uNeg : UnR X (unaryOp .USub) uNeg := by
  intro pins s σ H x v Q I rx h
  match x, h with
  | .int i, h => exact un_neg pins s σ H _ v Q I rx ⟨i, rfl, h⟩

/-! ### calls of builtins by the values -/
def cLen (K : PySem.W.Frag) : List V → Hp → VK → Prop := fun xs H Q => match xs with
  | [.ref p] => ∃ ys, (SqL K H p ys ∨ SqT K H p ys) ∧ Q (.int ys.length) H
  | [.str z] => z.length ≤ sizeLine ∧ Q (.int z.length) H
  | _ => False
theorem call_cLen : CallR X (.builtin "len") (cLen X.K) := by
  intro pins s σ H xs us Q I r h
  match xs, h with
  | [.ref p], h => obtain ⟨ys, h⟩ := h; exact call_len_seq pins s σ H _ us Q I r ⟨p, ys, rfl, h⟩
  | [.str z], h => exact call_len_str pins s σ H _ us Q I r ⟨z, rfl, h⟩
def cAbs : List V → Hp → VK → Prop := fun xs H Q => match xs with
  | [.int i] => Q (.int (if i < 0 then -i else i)) H
  | _ => False
theorem call_cAbs : CallR X (.builtin "abs") cAbs := by
  intro pins s σ H xs us Q I r h
  match xs, h with
  | [.int i], h => exact call_abs pins s σ H _ us Q I r ⟨i, rfl, h⟩
def cMax (K : PySem.W.Frag) : List V → Hp → VK → Prop := fun xs H Q => match xs with
  | [.int i, .int j] => Q (.int (if j > i then j else i)) H
  | [.ref p] => ∃ ns : List Int, SqL K H p (ns.map V.int) ∧ 0 < ns.length ∧ ∀ m, m ∈ ns → (∀ y ∈ ns, y ≤ m) → Q (.int m) H
  | _ => False
theorem call_cMax (hc : X.calm = true) : CallR X (.builtin "max") (cMax X.K) := by
  intro pins s σ H xs us Q I r h
  match xs, h with
  | [.int i, .int j], h => exact call_max2 hc pins s σ H _ us Q I r ⟨i, j, rfl, h⟩
  | [.ref p], h => obtain ⟨ns, h1, h2, h⟩ := h; exact cr_max hc pins s σ H _ us Q I r ⟨p, ns, rfl, h1, h2, h⟩
def cMin (K : PySem.W.Frag) : List V → Hp → VK → Prop := fun xs H Q => match xs with
  | [.int i, .int j] => Q (.int (if j < i then j else i)) H
  | _ => False
theorem call_cMin (hc : X.calm = true) : CallR X (.builtin "min") (cMin X.K) := by
  intro pins s σ H xs us Q I r h
  match xs, h with
  | [.int i, .int j], h => exact call_min2 hc pins s σ H _ us Q I r ⟨i, j, rfl, h⟩
def cAll (K : PySem.W.Frag) : List V → Hp → VK → Prop := fun xs H Q => match xs with
  | [.ref p] => ∃ bs : List Bool, SqL K H p (bs.map V.bl) ∧ Q (.bl (bs.all id)) H
  | _ => False
theorem call_cAll (hc : X.calm = true) : CallR X (.builtin "all") (cAll X.K) := by
  intro pins s σ H xs us Q I r h
  match xs, h with
  | [.ref p], h => obtain ⟨bs, h⟩ := h; exact cr_all hc pins s σ H _ us Q I r ⟨p, bs, rfl, h⟩
def cList (K : PySem.W.Frag) : List V → Hp → VK → Prop := fun xs H Q => match xs with
  | [.ref p] => ∃ ys, (SqL K H p ys ∨ SqT K H p ys) ∧ ∀ l, H l = none → Q (.ref l) (upd H l (.lst ys))
  | _ => False
theorem call_cList : CallR X (.type "list") (cList X.K) := by
  intro pins s σ H xs us Q I r h
  match xs, h with
  | [.ref p], h => obtain ⟨ys, h⟩ := h; exact call_list_of pins s σ H _ us Q I r ⟨p, ys, rfl, h⟩
/-- sorted of ints -/
def cSort (K : PySem.W.Frag) : List V → Hp → VK → Prop := fun xs H Q => match xs with
  | [.ref p] => ∃ ns : List Int, SqL K H p (ns.map V.int) ∧ ∀ (ns' : List Int) (l : Addr), ns'.Perm ns → ns'.Pairwise (· ≤ ·) → H l = none → Q (.ref l) (upd H l (.lst (ns'.map V.int)))
  | _ => False
/-- isinstance(x, c) -/
def Isi (K : PySem.W.Frag) (H : Hp) (x c : V) (b : Bool) : Prop := ∃ (t u : Value), ClsV c u ∧ TyX K H x t ∧ PySem.W.kitOne K t u = some b
def cIsi (K : PySem.W.Frag) : List V → Hp → VK → Prop := fun xs H Q => match xs with
  | [x, c] => ∃ b, Isi K H x c b ∧ Q (.bl b) H
  | _ => False
theorem call_cIsi : CallR X (.builtin "isinstance") (cIsi X.K) := by
  intro pins s σ H xs us Q I r h
  match xs, h with
  | [x, c], h => obtain ⟨b, ⟨t, u, h1, h2, h3⟩, h⟩ := h; exact call_isi pins s σ H _ us Q I r ⟨x, c, t, u, b, rfl, h1, h2, h3, h⟩
theorem call_cSort : CallR X (.builtin "sorted") (cSort X.K) := by
  intro pins s σ H xs us Q I r h
  match xs, h with
  | [.ref p], h => obtain ⟨ns, h⟩ := h; exact cr_sortedI pins s σ H _ us Q I r ⟨p, ns, rfl, h⟩
/-- sorted of texts -/
def cSortS (K : PySem.W.Frag) : List V → Hp → VK → Prop := fun xs H Q => match xs with
  | [.ref p] => ∃ zs : List Str, SqL K H p (zs.map V.str) ∧ zs.length < 64 ∧ ∀ (ys : List Str) (l : Addr), ys.Perm zs → sortedS ys = true → H l = none → Q (.ref l) (upd H l (.lst (ys.map V.str)))
  | _ => False
theorem call_cSortS : CallR X (.builtin "sorted") (cSortS X.K) := by
  intro pins s σ H xs us Q I r h
  match xs, h with
  | [.ref p], h => obtain ⟨zs, h⟩ := h; exact cr_sortedS pins s σ H _ us Q I r ⟨p, zs, rfl, h⟩
/-- sorted of a dict with ints as keys -/
def cSortD : List V → Hp → VK → Prop := fun xs H Q => match xs with
  | [.ref p] => ∃ (kvs : List (Key × V)) (ks : List Int), H p = some (.dK kvs) ∧ kvs.map (·.1) = ks.map Sum.inl ∧ ks.length < 64 ∧ ∀ (ys : List Int) (l : Addr), ys.Perm ks → ys.Pairwise (· ≤ ·) → H l = none → Q (.ref l) (upd H l (.lst (ys.map V.int)))
  | _ => False
theorem call_cSortD (hc : X.calm = true) : CallR X (.builtin "sorted") cSortD := by
  intro pins s σ H xs us Q I r h
  match xs, h with
  | [.ref p], h => obtain ⟨kvs, ks, h1, h2, h3, h⟩ := h; exact call_sortedDI hc pins s σ H _ us Q I r ⟨p, kvs, ks, rfl, .of h1, h2, h3, h⟩
/-- int(x) -/
def cInt : List V → Hp → VK → Prop := fun xs H Q => match xs with
  | [.int i] => Q (.int i) H
  | [.bl k] => Q (.int (if k = true then 1 else 0)) H
  | _ => False
theorem call_cInt : CallR X (.type "int") cInt := by
  intro pins s σ H xs us Q I r h
  match xs, h with
  | [.int i], h => exact call_int1 pins s σ H _ us Q I r (.inl ⟨i, rfl, h⟩)
  | [.bl k], h => exact call_int1 pins s σ H _ us Q I r (.inr ⟨k, rfl, h⟩)
def cTuple (K : PySem.W.Frag) : List V → Hp → VK → Prop := fun xs H Q => match xs with
  | [.ref p] => ∃ ys, (SqL K H p ys ∧ ∀ l, H l = none → Q (.ref l) (upd H l (.tup ys))) ∨ (SqT K H p ys ∧ Q (.ref p) H)
  | _ => False
theorem call_cTuple : CallR X (.type "tuple") (cTuple X.K) := by
  intro pins s σ H xs us Q I r h
  match xs, h with
  | [.ref p], h => obtain ⟨ys, h⟩ := h; exact call_tuple_of pins s σ H _ us Q I r ⟨p, ys, rfl, h⟩
/-- repr(int), repr(data) -/
def cRepr (K : PySem.W.Frag) : List V → Hp → VK → Prop := fun xs H Q => match xs with
  | [.int i] => i.natAbs.log2 < 1920 ∧ Q (.str (toString i)) H
  | [.ref p] => ∃ d, Dp K H (.ref p) d ∧ d.showable = true ∧ d.hasDict = false ∧ d.depth ≤ 60 ∧ d.shown.length ≤ sizeLine ∧ Q (.str d.shown) H
  | _ => False
theorem call_cRepr (hr : Room j X.A) (qt : Quiet X.A) : CallR X (.builtin "repr") (cRepr X.K) := by
  intro pins s σ H xs us Q I r h
  match xs, h with
  | [.int i], h => exact SkE.call_repr_int pins s σ H _ us Q I r ⟨i, rfl, h⟩
  | [.ref p], h =>
    obtain ⟨d, dp, sh, nd, de, sz, q⟩ := h
    cases r with
    | cons r0 r1 =>
      cases r1
      cases r0
      obtain ⟨as, rd⟩ := Dp.reads I d (.ref p) (.ref p) dp rfl
      refine repr_of_reads' rd sh (fun z => by rw [nd] at z; cases z) qt (by have := hr.un; omega) (fun _ _ z => z) (fun h' u tk kp => ?_) sz
      exact ⟨.str d.shown, H, I.kept (t' := tk) kp, ⟨_, rfl⟩, q⟩

/-! ### x *= y -/
def ipM : TIp := fun x y H Q => ∃ i j, x = .int i ∧ y = .int j ∧ CMul i j ∧ Q (.int (i * j)) H
theorem ip_mul : PIp X .Mult ipM := by
  intro pins s σ H x y v u Q I r1 r2 h
  obtain ⟨i, j, rfl, rfl, c, q⟩ := h
  obtain ⟨t, rfl⟩ := r1
  obtain ⟨t', rfl⟩ := r2
  exact imul_int ⟨.int _, H, I.tok _, ⟨_, rfl⟩, q⟩ c.ok
/-! ### names of the module -/
theorem pe_g {v : V} (hg : Gl X x) (h : ∃ u, X.mg x = some u ∧ RelV v u) (hdb : (x == ("__debug__" : Str)) = false := by decide) : PE X (.Name x pos) (tC v) := by
  obtain ⟨u, hm, r⟩ := h
  exact pe_glob hg hm r hdb
/-! ### a, b, c = x, y, z: three locals -/
def tPar3 (i j k : Nat) (ta : TA) : TS := fun D σ H => ta σ H fun vs H1 => ∃ v w z, vs = [v, w, z] ∧ D.nx (((σ.set i (some v)).set j (some w)).set k (some z)) H1
theorem ps_par3 {i j k : Nat} {x y z : Str} {a b c : Expr} {ta : TA} {px py pz pt : Pos} {kt k2 pt2} (hc : X.calm = true) (hN : X.N.Nodup) (hi : X.N[i]? = some x) (hj : X.N[j]? = some y) (hk : X.N[k]? = some z) (hij : i ≠ j) (hik : i ≠ k) (hjk : j ≠ k)
    (hx : X.env.scope.names.lookup x = some .local) (hy : X.env.scope.names.lookup y = some .local) (hz : X.env.scope.names.lookup z = some .local) (ha : PA X [a, b, c] ta)
    (hw : swappedStores [.Tuple [.Name x px, .Name y py, .Name z pz] kt pt] (.Tuple [a, b, c] k2 pt2) X.env = pure (some [x, y, z]))
    (hs : swapsWithSole [.Tuple [.Name x px, .Name y py, .Name z pz] kt pt] (.Tuple [a, b, c] k2 pt2) pos.line X.env = pure false := by rfl) :
    PS X (.Assign [.Tuple [.Name x px, .Name y py, .Name z pz] kt pt] (.Tuple [a, b, c] k2 pt2) pos) (tPar3 i j k ta) := by
  refine ⟨fun pins s σ H D I h => ?_⟩
  rw [exec_Assign_arm]
  refine wpAny_bind (wpAny_standAt ?_)
  rw [hs]
  refine wpAny_bind (wpAny_pure ?_)
  rw [if_neg (by decide)]
  refine wpAny_bind (Tuple_ (thn (ha.run _ pins s σ H _ I h) fun us s1 ⟨vs, H1, I1, r1, v, w, q, e1, q1⟩ => ?_))
  subst e1
  obtain ⟨u1, u2, u3, rfl, rv, rw', rq⟩ : ∃ u1 u2 u3, us = [u1, u2, u3] ∧ RelV v u1 ∧ RelV w u2 ∧ RelV q u3 := by
    cases r1 with
    | cons a1 r1 =>
      cases r1 with
      | cons a2 r1 =>
        cases r1 with
        | cons a3 r1 => cases r1; exact ⟨_, _, _, rfl, a1, a2, a3⟩
  refine wpAny_newObj_type ?_ (by show 3 ≤ sizeLine; decide)
  have I2 : Inv X pins σ H1 { s1 with heap := s1.heap.push { cls := .type "tuple", data := .seq [u1, u2, u3].toArray } } := I1.kept (t' := s1.toks) fun b o e => Heap.get?_push_of_some _ e
  rw [hw]
  refine wpAny_bind (wpAny_pure ?_)
  unfold assignStores
  refine wpAny_bind (wpAny_rule (wpAny_bind (unpackItems_tuple (items := #[u1, u2, u3]) (I.ok.hd hc) (IsTup.new s1.heap _) fun h' hx' => ?_)))
  have I3 := I2.kept (h' := h') (t' := s1.toks) fun b o e => hx' b o (Nat.ne_of_lt (Heap.lt_size e)) e
  simp only [List.reverse_cons, List.reverse_nil, List.nil_append, List.cons_append, List.map_cons, List.map_nil]
  refine wpAny_bind (assignInOrder_cons (wpAny_bindName (store_ok I3 hN hk (.inl hz) rq (fun s2 I4 => ?_) (.inr hz))))
  refine assignInOrder_cons (wpAny_bindName (store_ok I4 hN hj (.inl hy) rw' (fun s3 I5 => ?_) (.inr hy)))
  refine assignInOrder_cons (wpAny_bindName (store_ok I5 hN hi (.inl hx) rv (fun s4 I6 => assignInOrder_nil (wpAny_pure ?_)) (.inr hx)))
  rw [List.set_comm _ _ (Ne.symm hij), List.set_comm _ _ (Ne.symm hik), List.set_comm _ _ (Ne.symm hjk)] at I6
  exact ⟨_, H1, I6, q1⟩

/-! ### calls by keywords alone (behind the receiver of a method) -/
structure KB (K : PySem.W.Frag) (fd : FuncData) (ps : List Str) (n : Nat) (ks : List Str) (g : List Value → List Value) (gV : List V → List V) : Prop where
  to : ∀ (s : Shared) (us ws : List Value), K.In s.heap → us.length = n → ws.length = ks.length → BindsTo s fd ⟨us, ks.zip ws⟩ (ps.zip (us ++ g ws))
  rel : ∀ {zs : List V} {ws : List Value}, Vals zs ws → Vals (gV zs) (g ws)
structure FnK (P : Program) (w : World) (K : PySem.W.Frag) (mg : Str → Option Value) (base : Heap) (k : Nat) (x : Str) (ks : List Str) (gV : List V → List V) (sp : Sp) : Prop where
  ex : ∃ (f : Addr) (fd : FuncData) (ps : List Str) (g : List Value → List Value), FnG P w K mg base k f fd ps sp ∧ mg x = some (.ref f) ∧ PySem.W.keepIn K (.ref f) = true ∧ KB K fd ps 0 ks g gV
structure MthK (P : Program) (w : World) (K : PySem.W.Frag) (mg : Str → Option Value) (base : Heap) (k : Nat) (C : Addr) (m : Str) (ks : List Str) (gV : List V → List V) (sp : Sp) : Prop where
  ex : ∃ (f : Addr) (fd : FuncData) (ps : List Str) (g : List Value → List Value), Cls K C ∧ Meth K C m f ∧ FnG P w K mg base k f fd ps sp ∧ KB K fd ps 1 ks g gV
def tFnK (P : Program) (w : World) (K : PySem.W.Frag) (mg : Str → Option Value) (base : Heap) (x : Str) (ks : List Str) (j : Nat) (E : XK) (t : TA) : TE := fun σ H Q => ∃ k gV sp, FnK P w K mg base k x ks gV sp ∧ k ≤ j ∧ t σ H fun vs H1 => vs.length = ks.length ∧ sp (gV vs) H1 Q E
def tMthK (P : Program) (w : World) (K : PySem.W.Frag) (mg : Str → Option Value) (base : Heap) (m : Str) (ks : List Str) (j : Nat) (E : XK) (ta : TE) (t : TA) : TE := fun σ H Q => ta σ H fun x H1 => ∃ a C dx fs k gV sp, x = .ref a ∧ H1 a = some (.ins C dx fs) ∧ MthK P w K mg base k C m ks gV sp ∧ k ≤ j ∧ fs.lookup m = none ∧
  t σ H1 fun vs H2 => vs.length = ks.length ∧ sp (.ref a :: gV vs) H2 Q E
theorem run_kb {k n : Nat} {f : Addr} {fd : FuncData} {ps ks : List Str} {sp : Sp} {g : List Value → List Value} {gV : List V → List V} {pins : List (Addr × Obj)} {σ : L2.St} {H : Hp} {s : Shared} {Q : VK} {us ws : List Value} {vs zs : List V} (F : FnG X.prog X.w X.K X.mg X.base k f fd ps sp) (a : At X j E) (hk : k ≤ j)
    (hb : KB X.K fd ps n ks g gV) (I : Inv X pins σ H s) (r : Vals vs us) (hn : us.length = n) (rz : Vals zs ws) (hl : zs.length = ks.length) (h : sp (vs ++ gV zs) H Q E) : wpAny (model X.prog X.w) X.A (call (.ref f) us (ks.zip ws)) (EP X pins σ Q) X.xe s :=
  run_g F (a.hr.mono hk) a.qt a.hx I (hb.to s us ws I.kIn hn (by rw [← rz.length]; exact hl)) (r.append (hb.rel rz)) h
section
variable {ks : List Str} {kws : List Keyword}
theorem pe_fnK (a : At X j E) (hg : Gl X x) (hkw : PK X kws t) (hall : (backToKw pos (keywordEach kws X.env)).all (·.1.isSome) = true := by rfl) (hks : (backToKw pos (keywordEach kws X.env)).filterMap (·.1) = ks := by rfl)
    (hdb : (x == ("__debug__" : Str)) = false := by decide) (hpl : ((backTo pos (starEach [] X.env)).any (·.1) || (backToKw pos (keywordEach kws X.env)).any (·.1.isNone)) = false := by rfl) :
    PE X (.Call (.Name x p) [] kws pos) (tFnK X.prog X.w X.K X.mg X.base x ks j E t) := by
  refine ⟨fun pins s σ H Q I h => ?_⟩
  obtain ⟨k, gV, sp, F, hk, h⟩ := h
  obtain ⟨f, fd, ps, g, F, hm, kp, b⟩ := F.ex
  refine wpAny_Call_Name_kw (ld_glob I hg hm (PySem.W.callWith_KW0 (h₀ := X.base) I.ok.mod.kin kp hall ?_ hpl) hdb)
  refine thn (hkw.run pos pins s σ H _ I h) fun ws s2 ⟨zs, H2, I2, rz, hl, q2⟩ => ⟨I2.kIn, ?_⟩
  rw [hks]
  exact run_kb (us := []) (vs := []) F a hk b I2 .nil rfl rz hl q2
theorem pe_mthK {pl : Sem Bool} (a : At X j E) (ho : PE X o ta) (hkw : PK X kws t) (hall : (backToKw pos (keywordEach kws X.env)).all (·.1.isSome) = true := by rfl) (hks : (backToKw pos (keywordEach kws X.env)).filterMap (·.1) = ks := by rfl)
    (hpl : ((backTo pos (starEach [] X.env)).any (·.1) || (backToKw pos (keywordEach kws X.env)).any (·.1.isNone)) = false := by rfl)
    (ht : eval (.Call (.Attribute o m apos) [] kws pos) X.env = (do
      let ov ← eval o X.env
      standAt apos.atName
      let (f, first) ← holding [ov] (getMethod ov m pl)
      callWith pos f first (backTo pos (starEach [] X.env)) (backToKw pos (keywordEach kws X.env))) := by rfl) :
    PE X (.Call (.Attribute o m apos) [] kws pos) (tMthK X.prog X.w X.K X.mg X.base m ks j E ta t) := by
  refine ⟨fun pins s σ H Q I h => PySem.W.methodCall_KW (pl := pl) (thn (ho.run pins s σ H _ I h) fun u s1 ⟨x, H1, I1, rx, y, C, dx, fs, k, gV, sp, ex, ea, M, hk, l, q⟩ => ?_) ht⟩
  subst ex
  obtain rfl : u = Value.ref y := rx
  obtain ⟨f, fd, ps, g, c, hm, F, b⟩ := M.ex
  refine getmeth_ok I1 ea c hm l (PySem.W.callWith_KW0 (first := [.ref y]) (h₀ := X.base) I.ok.mod.kin hm.kp hall ?_ hpl)
  refine thn (hkw.run pos pins s1 σ H1 _ I1 q) fun ws s2 ⟨zs, H2, I2, rz, hl, q2⟩ => ⟨I2.kIn, ?_⟩
  rw [hks]
  exact run_kb (us := [.ref y]) (vs := [.ref y]) F a hk b I2 (.cons rfl .nil) rfl rz hl q2
end
end

/-! ### isinstance, told by the kinds -/
section
variable {K : PySem.W.Frag} {H : Hp}
theorem isi_int {i : Int} {n : String} {b : Bool} (h : kitB "int" n = some b) : Isi K H (.int i) (.ty n) b := ⟨_, _, .ty n, .base (.int i), kit_ty h⟩
theorem isi_str {z : Str} {n : String} {b : Bool} (h : kitB "str" n = some b) : Isi K H (.str z) (.ty n) b := ⟨_, _, .ty n, .base (.str z), kit_ty h⟩
theorem isi_lst {a : Addr} {xs : List V} {n : String} {b : Bool} (e : H a = some (.lst xs)) (h : kitB "list" n = some b) : Isi K H (.ref a) (.ty n) b := ⟨_, _, .ty n, .base (.lst e), kit_ty h⟩
/-- instances of C are told by their class -/
structure InsTy (K : PySem.W.Frag) (C : Addr) : Prop where
  ha : PySem.W.findIn K (.ref C) "__class__" = some (some (.builtin "object.__class__"))
  hn : PySem.W.specialIn K (.builtin "object.__class__") "__get__" = some (some (.builtin "getset_descriptor.__get__"))
  ht : PySem.W.takesIn K (.builtin "object.__class__") = some true
  hm : PySem.W.mroIn K C (.type "object") = some true
theorem isi_ins {a C D dx : Addr} {fs : List (Str × V)} {b : Bool} (e : H a = some (.ins C dx fs)) (c : Cls K C) (t : InsTy K C) (h : PySem.W.kitOne K (.ref C) (.ref D) = some b) : Isi K H (.ref a) (.ref D) b := ⟨_, _, .own D, .base (.ins e c t.ha t.hn t.ht t.hm), h⟩
end

/-! ### a def, by what is true of its body's reading -/
section
variable {P : Program} {w : World} {K : PySem.W.Frag} {mg : Str → Option Value} {base : Heap}
/-- the def x of the module stands as st -/
structure Df (K : PySem.W.Frag) (mg : Str → Option Value) (x : Str) (st : Stmt) (ps : List Str) : Prop where
  ex : ∃ (f : Addr) (fd : FuncData), Fun K x x st f fd ∧ mg x = some (.ref f) ∧ Binds K fd ps []
/-- the method m of the class at C stands as st (of the class qual names) -/
structure Dm (K : PySem.W.Frag) (C : Addr) (m qual : Str) (st : Stmt) (ps : List Str) : Prop where
  cls : Cls K C
  ex : ∃ (f : Addr) (fd : FuncData), Fun K m qual st f fd ∧ Meth K C m f ∧ Binds K fd ps []
/-- the class x at C is made by the __init__ st -/
structure Dk (K : PySem.W.Frag) (mg : Str → Option Value) (x : Str) (C : Addr) (qual : Str) (st : Stmt) (ps : List Str) : Prop where
  ex : ∃ (f : Addr) (fd : FuncData), Fun K "__init__" qual st f fd ∧ Mk K C f ∧ mg x = some (.ref C) ∧ Binds K fd ps []
abbrev Der (P : Program) (w : World) (K : PySem.W.Frag) (mg : Str → Option Value) (base : Heap) (N : List Str) (qual : Str) (st : Stmt) (lv : Nat) (t : XK → TS) : Prop :=
  ∀ {f : Addr} {cdv : Value} {Ar : Around} {outer : List Env} {s : Shared} {H : Hp} {E : XK}, Room lv (Ar.deeper (PyProof.Rows.envOfC qual (defScope st) s.heap.objs.size f cdv)) → Quiet (Ar.deeper (PyProof.Rows.envOfC qual (defScope st) s.heap.objs.size f cdv)) → PSs (cxOf (L2.CX P w) P w K mg base N qual (defScope st) f cdv Ar outer s H E) (defBody st) (t E)
abbrev Pur (N ps : List Str) (t : XK → TS) (sp : Sp) : Prop := ∀ vs H Q E, sp vs H Q E → vs.length = ps.length ∧ t E { nx := fun _ H' => Q .non H', rt := Q } (start N vs) H
theorem fnok_of {x qual : Str} {st : Stmt} {f : Addr} {fd : FuncData} {N ps : List Str} {lv : Nat} {t : XK → TS} {sp : Sp} (F : Fun K x qual st f fd) (S : FnScope N ps (defScope st)) (D : Der P w K mg base N qual st lv t) (p : Pur N ps t sp) : FnG P w K mg base (lv + 1) f fd ps sp := by
  obtain ⟨oc, od, kV, doc, pm, an, cdv, ct, osl, rfl, lk, hcd⟩ := F.ex
  exact fnG_body lk hcd S (fun vs H Q E h => (p vs H Q E h).1) fun Ar outer s H vs Q E hr qt h => ⟨t E, D hr qt, (p vs H Q E h).2⟩
/-- a def with keyword-only defaults -/
structure Dfd (K : PySem.W.Frag) (mg : Str → Option Value) (x : Str) (st : Stmt) (ps : List Str) (dvs : List V) : Prop where
  ex : ∃ (f : Addr) (fd : FuncData) (ds : List Value), Fun K x x st f fd ∧ mg x = some (.ref f) ∧ Vals dvs ds ∧ Binds K fd ps ds
theorem Dfd.fn {x : Str} {st : Stmt} {N ps : List Str} {dvs : List V} {lv : Nat} {t : XK → TS} {sp sp' : Sp} (d : Dfd K mg x st ps dvs) (S : FnScope N ps (defScope st)) (D : Der P w K mg base N x st lv t) (p : Pur N ps t sp') (im : ∀ vs H Q E, sp vs H Q E → sp' (vs ++ dvs) H Q E) : Fn P w K mg base (lv + 1) x sp := by
  obtain ⟨f, fd, ds, F, hm, rd, b⟩ := d.ex
  exact ⟨f, fd, ps, ds, dvs, sp', fnok_of F S D p, hm, F.kp, b, rd, im⟩
theorem Df.fn {x : Str} {st : Stmt} {N ps : List Str} {lv : Nat} {t : XK → TS} {sp : Sp} (d : Df K mg x st ps) (S : FnScope N ps (defScope st)) (D : Der P w K mg base N x st lv t) (p : Pur N ps t sp) : Fn P w K mg base (lv + 1) x sp := by
  obtain ⟨f, fd, F, hm, b⟩ := d.ex
  exact ⟨f, fd, ps, [], [], sp, fnok_of F S D p, hm, F.kp, b, .nil, fun vs H Q E h => by rw [List.append_nil]; exact h⟩
theorem Dm.mth {m qual : Str} {C : Addr} {st : Stmt} {N ps : List Str} {lv : Nat} {t : XK → TS} {sp : Sp} (d : Dm K C m qual st ps) (S : FnScope N ps (defScope st)) (D : Der P w K mg base N qual st lv t) (p : Pur N ps t sp) : Mth P w K mg base (lv + 1) C m sp := by
  obtain ⟨f, fd, F, hm, b⟩ := d.ex
  exact ⟨f, fd, ps, d.cls, hm, fnok_of F S D p, b⟩
theorem Dk.mkr {x qual : Str} {C : Addr} {st : Stmt} {N ps : List Str} {lv : Nat} {t : XK → TS} {sp : Sp} (d : Dk K mg x C qual st ps) (S : FnScope N ps (defScope st)) (D : Der P w K mg base N qual st lv t) (p : Pur N ps t sp) : Mkr P w K mg base (lv + 1) x C sp := by
  obtain ⟨f, fd, F, M, hm, b⟩ := d.ex
  exact ⟨f, fd, ps, M, fnok_of F S D p, hm, b⟩
/-- by one keyword -/
theorem Fun.kb1 {x qual k : Str} {st : Stmt} {f : Addr} {fd : FuncData} (F : Fun K x qual st f fd)
    (h : ∀ (kV doc pm : Value) (an : Option Addr) (cdv ct u : Value), bindArgs (PySem.W.fnOf x qual (defArgs st) (defBody st) (defScope st) .none kV doc pm an cdv ct) ⟨[], [(k, u)]⟩ = pure [(k, u)]) : KB K fd [k] 0 [k] id id := by
  obtain ⟨oc, od, kV, doc, pm, an, cdv, ct, osl, rfl, lk, hcd⟩ := F.ex
  refine ⟨fun s us ws _ hu hw => ?_, fun r => r⟩
  match us, ws, hu, hw with
  | [], [u], _, _ => exact .of_eq (h kV doc pm an cdv ct u)
theorem Df.fnK1 {x k : Str} {st : Stmt} {N : List Str} {lv : Nat} {t : XK → TS} {sp : Sp} (d : Df K mg x st [k]) (S : FnScope N [k] (defScope st)) (D : Der P w K mg base N x st lv t) (p : Pur N [k] t sp)
    (h : ∀ (kV doc pm : Value) (an : Option Addr) (cdv ct u : Value), bindArgs (PySem.W.fnOf x x (defArgs st) (defBody st) (defScope st) .none kV doc pm an cdv ct) ⟨[], [(k, u)]⟩ = pure [(k, u)]) : FnK P w K mg base (lv + 1) x [k] id sp := by
  obtain ⟨f, fd, F, hm, b⟩ := d.ex
  exact ⟨f, fd, [k], id, fnok_of F S D p, hm, F.kp, Fun.kb1 F h⟩
end

/-! ### comprehensions that read alone; loops -/
/-- the body of a comprehension's reading, J walked -/
def LcB (J : It) (g : TG) (tt : TT) (te : TE) (vs : List Nat) (σ : L2.St) (H1 : Hp) (Q : VK) : Prop := ∀ D, H1 D = none → ∃ W : Nat → Nat → Hp → Prop, (∃ m, W 0 m (upd H1 D (.lst []))) ∧ ∀ i m H, W i m H →
  (J.stop i H ∧ Q (.ref D) H) ∨ (J.go i H ∧ ∃ Nx : Hp → Prop, (∀ H', Nx H' → ∃ m', m' < m ∧ W (i + 1) m' H') ∧ ∀ x H', J.yld i H x H' → g x (wipe σ vs) H' fun σ2 H2 => wipe σ2 vs = wipe σ vs ∧ tt σ2 H2 fun b H3 =>
    if b = true then te σ2 H3 fun y H4 => ∃ acc, H4 D = some (.lst acc) ∧ acc.length < sizeLine ∧ Nx (upd H4 D (.lst (acc ++ [y]))) else Nx H3)
theorem tLc_eq (wi : TI) (g : TG) (tt : TT) (te : TE) (vs : List Nat) (σ : L2.St) (H : Hp) (Q : VK) : tLc wi g tt te vs σ H Q = wi σ H fun J H1 => LcB J g tt te vs σ H1 Q := rfl
def ForB (J : It) (g : TG) (tb : TS) (D : Ends) (σ : L2.St) (H1 : Hp) : Prop := ∃ W : Nat → Nat → L2.St → Hp → Prop, (∃ m, W 0 m σ H1) ∧ ∀ i m σ H, W i m σ H →
  (J.stop i H ∧ D.nx σ H) ∨ (J.go i H ∧ ∃ N : L2.St → Hp → Prop, (∀ σ' H', N σ' H' → ∃ m', m' < m ∧ W (i + 1) m' σ' H') ∧ ∀ x H', J.yld i H x H' → g x σ H' fun σ2 H2 => tb { D with nx := N, ct := N, bk := D.nx } σ2 H2)
theorem tFor_eq (wi : TI) (g : TG) (tb : TS) (D : Ends) (σ : L2.St) (H : Hp) : tFor wi g tb D σ H = wi σ H fun J H1 => ForB J g tb D σ H1 := rfl
theorem _root_.L2.Same.new {H : Hp} {p : Addr} {o : HO} (h : H p = none) : Same H (upd H p o) := fun a u e => by rw [upd_ne (ne_of_none e h)]; exact e
theorem _root_.L2.Same.mut {H H' : Hp} {p : Addr} {o : HO} (e : Same H H') (h : H p = none) : Same H (upd H' p o) := fun a u ha => by rw [upd_ne (ne_of_none ha h)]; exact e a u ha
theorem _root_.L2.Same.tup {K : PySem.W.Frag} {H H' : Hp} {a : Addr} {xs : List V} (e : Same H H') (h : SqT K H a xs) : SqT K H' a xs := by
  rcases h with (h | ⟨o, h⟩) | h
  · exact .inl (.inl (e _ _ h))
  · exact .inl (.inr ⟨o, e _ _ h⟩)
  · exact .inr h
/-- te gives v, leaving what is known -/
def Evs (te : TE) (σ : L2.St) (H : Hp) (v : V) : Prop := ∀ Q : VK, (∀ H2, Same H H2 → Q v H2) → te σ H Q
def Evt (tt : TT) (σ : L2.St) (H : Hp) (b : Bool) : Prop := ∀ Q : Bool → Hp → Prop, (∀ H2, Same H H2 → Q b H2) → tt σ H Q
theorem Evt.yes {σ : L2.St} {H : Hp} : Evt tYes σ H true := fun Q q => q H (Same.refl H)
/-- J makes n turns as long as H1 stays; item i is such that R i x H -/
structure Goes (J : It) (H1 : Hp) (n : Nat) (R : Nat → V → Hp → Prop) : Prop where
  go : ∀ i H, i < n → Same H1 H → J.go i H
  stop : ∀ H, Same H1 H → J.stop n H
  yld : ∀ i H x H', i < n → Same H1 H → J.yld i H x H' → Same H H' ∧ R i x H'
theorem goes_list {K : PySem.W.Frag} {H : Hp} {a : Addr} {xs : List V} (h : SqL K H a xs) : Goes (Itl K a) H xs.length (fun i x _ => xs[i]? = some x) where
  go := fun i H' hi e => ⟨xs, xs[i], e.seq h, by simp [hi]⟩
  stop := fun H' e => ⟨xs, e.seq h, Nat.le_refl _⟩
  yld := fun i H' x H2 hi e y => by
    obtain ⟨rfl, y⟩ := y
    exact ⟨Same.refl _, y xs (e.seq h)⟩
theorem goes_tup {K : PySem.W.Frag} {H : Hp} {a : Addr} {xs : List V} (h : SqT K H a xs) : Goes (Itt K a) H xs.length (fun i x _ => xs[i]? = some x) where
  go := fun i H' hi e => ⟨xs, xs[i], e.tup h, by simp [hi]⟩
  stop := fun H' e => ⟨xs, e.tup h, Nat.le_refl _⟩
  yld := fun i H' x H2 hi e y => by
    obtain ⟨rfl, y⟩ := y
    exact ⟨Same.refl _, y xs (e.tup h)⟩
theorem goes_str {z : Str} {H : Hp} : Goes (Its z) H z.cps.size (fun i x _ => ∃ c, z.cps[i]? = some c ∧ x = .str ⟨#[c]⟩) where
  go := fun i H' hi _ => hi
  stop := fun H' _ => Nat.le_refl _
  yld := fun i H' x H2 hi _ y => by
    obtain ⟨rfl, y⟩ := y
    exact ⟨Same.refl _, y⟩
theorem goes_range {lo : Int} {n : Nat} {H : Hp} : Goes (Itr lo n) H n (fun i x _ => x = .int (lo + i)) where
  go := fun i H' hi _ => hi
  stop := fun H' _ => Nat.le_refl _
  yld := fun i H' x H2 hi _ y => by
    obtain ⟨rfl, rfl⟩ := y
    exact ⟨Same.refl _, rfl⟩
theorem goes_enum {K : PySem.W.Frag} {H : Hp} {a : Addr} {xs : List V} (h : SqL K H a xs) : Goes (Ite K a) H xs.length (fun i x H' => ∃ T y, x = .ref T ∧ xs[i]? = some y ∧ H' T = some (.tup [.int (i : Nat), y])) where
  go := fun i H' hi e => ⟨xs, xs[i], e.seq h, by simp [hi]⟩
  stop := fun H' e => ⟨xs, e.seq h, Nat.le_refl _⟩
  yld := fun i H' x H2 hi e y => by
    obtain ⟨T, v, rfl, hn, rfl, y⟩ := y
    exact ⟨Same.new hn, T, v, rfl, y xs (e.seq h), upd_same⟩
theorem goes_zip {K : PySem.W.Frag} {H : Hp} {a b : Addr} {xs ys : List V} (h : SqL K H a xs) (h' : SqL K H b ys) (hl : xs.length = ys.length) : Goes (Itz K a b) H xs.length (fun i x H' => ∃ T u v, x = .ref T ∧ xs[i]? = some u ∧ ys[i]? = some v ∧ H' T = some (.tup [u, v])) where
  go := fun i H' hi e => ⟨xs, ys, xs[i], ys[i]'(by omega), e.seq h, e.seq h', by simp [hi], by simp [show i < ys.length by omega]⟩
  stop := fun H' e => ⟨xs, ys, e.seq h, e.seq h', .inl (Nat.le_refl _)⟩
  yld := fun i H' x H2 hi e y => by
    obtain ⟨T, u, v, rfl, hn, rfl, y1, y2⟩ := y
    exact ⟨Same.new hn, T, u, v, rfl, y1 xs (e.seq h), y2 ys (e.seq h'), upd_same⟩
/-- one turn of a comprehension: the item is taken to σ2; kept as y, or left -/
structure LcT (g : TG) (tt : TT) (te : TE) (vs : List Nat) (σ : L2.St) (x : V) (H : Hp) (sel : Option V) : Prop where
  ex : ∃ σ2, wipe σ2 vs = wipe σ vs ∧ (∀ R : L2.St → Hp → Prop, R σ2 H → g x (wipe σ vs) H R) ∧ (match sel with
    | some y => Evt tt σ2 H true ∧ ∀ H3, Same H H3 → Evs te σ2 H3 y
    | none => Evt tt σ2 H false)
theorem lc_goes {J : It} {g : TG} {tt : TT} {te : TE} {vs : List Nat} {σ : L2.St} {H1 : Hp} {Q : VK} {n : Nat} {R : Nat → V → Hp → Prop} (S : Goes J H1 n R) (sel : Nat → Option V) (hn : n < sizeLine)
    (turn : ∀ i x H, i < n → Same H1 H → R i x H → LcT g tt te vs σ x H (sel i))
    (hq : ∀ D H', H1 D = none → Same H1 H' → H' D = some (.lst ((List.range n).filterMap sel)) → Q (.ref D) H') : LcB J g tt te vs σ H1 Q := by
  intro D hD
  refine ⟨fun i m H => m = n - i ∧ i ≤ n ∧ Same H1 H ∧ H D = some (.lst ((List.range i).filterMap sel)), ⟨n, by simp, Nat.zero_le _, Same.new hD, upd_same⟩, ?_⟩
  rintro i m H ⟨rfl, hi, sm, hl⟩
  by_cases hlt : i < n
  · refine .inr ⟨S.go i H hlt sm, fun H' => Same H1 H' ∧ H' D = some (.lst ((List.range (i + 1)).filterMap sel)), fun H' h => ⟨n - (i + 1), by omega, rfl, hlt, h⟩, fun x H' y => ?_⟩
    obtain ⟨s1, r⟩ := S.yld i H x H' hlt sm y
    obtain ⟨σ2, e2, hg, ht⟩ := (turn i x H' hlt (sm.trans s1) r).ex
    refine hg _ ⟨e2, ?_⟩
    have hl1 := s1 _ _ hl
    cases e : sel i with
    | some y =>
      rw [e] at ht
      refine ht.1 _ fun H2 s2 => ?_
      rw [if_pos rfl]
      refine ht.2 H2 s2 _ fun H3 s3 => ⟨_, s3 _ _ (s2 _ _ hl1), ?_, ((sm.trans s1).trans (s2.trans s3)).mut hD, ?_⟩
      · have := List.length_filterMap_le sel (List.range i)
        rw [List.length_range] at this
        omega
      · rw [upd_same, List.range_succ, List.filterMap_append]
        simp [e]
    | none =>
      rw [e] at ht
      refine ht _ fun H2 s2 => ?_
      rw [if_neg Bool.false_ne_true]
      refine ⟨(sm.trans s1).trans s2, ?_⟩
      rw [s2 _ _ hl1, List.range_succ, List.filterMap_append]
      simp [e]
  · obtain rfl : i = n := by omega
    exact .inl ⟨S.stop H sm, hq D H hD sm hl⟩
theorem range_some {α : Type} (f : Nat → α) (n : Nat) : (List.range n).filterMap (fun i => some (f i)) = (List.range n).map f := by
  induction n with
  | zero => rfl
  | succ n ih => rw [List.range_succ, List.filterMap_append, List.map_append, ih]; rfl
theorem range_list {α β : Type} (f : α → Option β) (xs : List α) : (List.range xs.length).filterMap (fun i => (xs[i]?).bind f) = xs.filterMap f := by
  induction xs with
  | nil => rfl
  | cons x xs ih =>
    rw [List.length_cons, List.range_succ_eq_map, List.filterMap_cons, List.filterMap_map]
    have e : ((fun i => ((x :: xs)[i]?).bind f) ∘ Nat.succ) = fun i => (xs[i]?).bind f := by funext i; simp
    rw [e, ih, List.filterMap_cons]
    simp
/-- [e for v in xs if t], xs a list: e and t by a function of the item -/
theorem lc_lst {K : PySem.W.Frag} {a : Addr} {xs : List V} {g : TG} {tt : TT} {te : TE} {vs : List Nat} {σ : L2.St} {H1 : Hp} {Q : VK} (f : V → Option V) (h : SqL K H1 a xs) (hn : xs.length < sizeLine)
    (turn : ∀ x H, x ∈ xs → Same H1 H → LcT g tt te vs σ x H (f x)) (hq : ∀ D H', H1 D = none → Same H1 H' → H' D = some (.lst (xs.filterMap f)) → Q (.ref D) H') : LcB (Itl K a) g tt te vs σ H1 Q := by
  refine lc_goes (goes_list h) (fun i => (xs[i]?).bind f) hn (fun i x H hi s r => ?_) fun D H' hD s hl => hq D H' hD s (by rw [range_list] at hl; exact hl)
  have q := turn x H (List.mem_of_getElem? r) s
  rw [r]
  exact q

/-! ### data -/
section
variable {K : PySem.W.Frag} {H H' : Hp}
mutual
theorem dp_same (s : Same H H') : ∀ (d : PyData) (v : V), Dp K H v d → Dp K H' v d
  | .none, _, h => by cases h; exact .non
  | .bool _, _, h => by cases h; exact .bl _
  | .int _, _, h => by cases h; exact .int _
  | .str _, _, h => by cases h; exact .str _
  | .list ds, _, h => by
    cases h with
    | lst hs ha => exact .lst (s.seq hs) (dpa_same s ds _ ha)
  | .tuple ds, _, h => by
    cases h with
    | tup hs ha => exact .tup (s.tup hs) (dpa_same s ds _ ha)
  | .dict _, _, h => by cases h
theorem dpa_same (s : Same H H') : ∀ (ds : List PyData) (vs : List V), DpAll K H vs ds → DpAll K H' vs ds
  | [], _, h => by cases h; exact .nil
  | d :: ds, _, h => by
    cases h with
    | cons h1 h2 => exact .cons (dp_same s d _ h1) (dpa_same s ds _ h2)
end
theorem dpa_snoc {v : V} {d : PyData} : ∀ {vs : List V} {ds : List PyData}, DpAll K H vs ds → Dp K H v d → DpAll K H (vs ++ [v]) (ds ++ [d])
  | _, _, .nil, h => .cons h .nil
  | _, _, .cons a b, h => .cons a (dpa_snoc b h)
theorem dpa_map {α : Type} {f : α → V} {g : α → PyData} : ∀ (l : List α), (∀ x ∈ l, Dp K H (f x) (g x)) → DpAll K H (l.map f) (l.map g)
  | [], _ => .nil
  | x :: l, h => .cons (h x List.mem_cons_self) (dpa_map l fun y hy => h y (List.mem_cons_of_mem _ hy))
theorem dpa_len : ∀ {vs : List V} {ds : List PyData}, DpAll K H vs ds → vs.length = ds.length
  | _, _, .nil => rfl
  | _, _, .cons _ b => congrArg (· + 1) (dpa_len b)
/-- the heap without one address -/
def hide (p : Addr) (H : Hp) : Hp := fun b => if b = p then none else H b
theorem hide_same {p : Addr} : Same (hide p H) H := fun b o h => by
  unfold hide at h
  split at h
  · cases h
  · exact h
theorem hide_get {p b : Addr} {o : HO} (h : H b = some o) (n : b ≠ p) : hide p H b = some o := by unfold hide; rw [if_neg n]; exact h
theorem hide_mono {p : Addr} (s : Same H H') : Same (hide p H) (hide p H') := fun b o h => by
  unfold hide at h
  split at h
  · cases h
  · rename_i n; exact hide_get (s b o h) n
theorem hide_upd {p : Addr} {o : HO} : hide p (upd H p o) = hide p H := by
  funext b
  unfold hide upd
  split <;> rfl
/-- data of depth at most n -/
def okD (n : Nat) (d : PyData) : Prop := d.canLay0 = true ∧ d.depth ≤ n
theorem okD.list {n : Nat} {ds : List PyData} (h : ∀ d ∈ ds, okD n d) : okD (n + 1) (.list ds) := by
  have q : PyData.canLayAll0 ds = true ∧ PyData.depthAll ds ≤ n := by
    induction ds with
    | nil => exact ⟨rfl, Nat.zero_le _⟩
    | cons d ds ih =>
      have h1 := h d List.mem_cons_self
      have h2 := ih fun x hx => h x (List.mem_cons_of_mem _ hx)
      exact ⟨by unfold PyData.canLayAll0; rw [h1.1, h2.1]; rfl, Nat.max_le.mpr ⟨h1.2, h2.2⟩⟩
  exact ⟨by unfold PyData.canLay0; exact q.1, by unfold PyData.depth; exact Nat.succ_le_succ q.2⟩
theorem okD.tuple {n : Nat} {ds : List PyData} (h : ∀ d ∈ ds, okD n d) : okD (n + 1) (.tuple ds) := by
  have q := okD.list h
  exact ⟨by have := q.1; unfold PyData.canLay0 at this ⊢; exact this, by have := q.2; unfold PyData.depth at this ⊢; exact this⟩
theorem okD.int {n : Nat} {i : Int} : okD n (.int i) := ⟨rfl, Nat.zero_le _⟩
theorem okD.bool {n : Nat} {i : Bool} : okD n (.bool i) := ⟨rfl, Nat.zero_le _⟩
theorem okD.str {n : Nat} {z : Str} (h : PyData.strOk z = true) : okD n (.str z) := ⟨by unfold PyData.canLay0; exact h, Nat.zero_le _⟩
theorem okD.shaped {n : Nat} {d : PyData} (h : okD n d) (hn : n ≤ 64) : SeqAt.shaped d = true := by
  unfold SeqAt.shaped
  rw [h.1, decide_eq_true (Nat.le_trans h.2 hn)]; rfl
end

/-! ### comprehensions that make new things -/
/-- xs are related to as, item by item -/
structure Rel2 {α : Type} (Rl : V → α → Prop) (xs : List V) (as : List α) : Prop where
  len : xs.length = as.length
  at_ : ∀ (i : Nat) (x : V) (a : α), xs[i]? = some x → as[i]? = some a → Rl x a
theorem Rel2.nil {α : Type} {Rl : V → α → Prop} : Rel2 Rl [] [] := ⟨rfl, fun i x a h => by simp at h⟩
theorem Rel2.imp {α : Type} {Rl Rl' : V → α → Prop} {xs : List V} {as : List α} (h : Rel2 Rl xs as) (q : ∀ x a, Rl x a → Rl' x a) : Rel2 Rl' xs as := ⟨h.len, fun i x a h1 h2 => q x a (h.at_ i x a h1 h2)⟩
theorem Rel2.snoc {α : Type} {Rl : V → α → Prop} {xs : List V} {as : List α} {y : V} {b : α} (h : Rel2 Rl xs as) (hy : Rl y b) : Rel2 Rl (xs ++ [y]) (as ++ [b]) := by
  refine ⟨by simp [h.len], fun i x a h1 h2 => ?_⟩
  have hl := h.len
  by_cases c : i < xs.length
  · rw [List.getElem?_append_left c] at h1
    rw [List.getElem?_append_left (by omega)] at h2
    exact h.at_ i x a h1 h2
  · rw [List.getElem?_append_right (by omega)] at h1
    rw [List.getElem?_append_right (by omega)] at h2
    by_cases e : i = xs.length
    · subst e
      rw [show xs.length - xs.length = 0 by omega] at h1
      rw [show xs.length - as.length = 0 by omega] at h2
      simp at h1 h2
      subst h1; subst h2
      exact hy
    · rw [List.getElem?_eq_none (by simp; omega)] at h1
      cases h1
theorem Rel2.dpa {K : PySem.W.Frag} {H : Hp} : ∀ {xs : List V} {ds : List PyData}, Rel2 (Dp K H) xs ds → DpAll K H xs ds
  | [], [], _ => .nil
  | [], _ :: _, h => absurd h.len (by simp)
  | _ :: _, [], h => absurd h.len (by simp)
  | x :: xs, d :: ds, h => .cons (h.at_ 0 x d rfl rfl) (Rel2.dpa ⟨by have := h.len; simpa using this, fun i y e h1 h2 => h.at_ (i + 1) y e (by simpa using h1) (by simpa using h2)⟩)
theorem lc_rel {α : Type} {Rl : Hp → V → α → Prop} (mono : ∀ H H' y a, Same H H' → Rl H y a → Rl H' y a) {J : It} {g : TG} {tt : TT} {te : TE} {vs : List Nat} {σ : L2.St} {H1 : Hp} {Q : VK} {n : Nat} {R : Nat → V → Hp → Prop} (S : Goes J H1 n R) (sel : Nat → Option α) (hn : n < sizeLine)
    (turn : ∀ i x H D, i < n → Same H1 H → R i x H → H1 D = none → (∃ acc, H D = some (.lst acc)) → ∃ σ2, wipe σ2 vs = wipe σ vs ∧ (∀ R' : L2.St → Hp → Prop, R' σ2 H → g x (wipe σ vs) H R') ∧ (match sel i with
      | some d => Evt tt σ2 H true ∧ ∀ H3, Same H H3 → ∀ Q' : VK, (∀ y H4, Same H3 H4 → Rl (hide D H4) y d → Q' y H4) → te σ2 H3 Q'
      | none => Evt tt σ2 H false))
    (hq : ∀ D H' xs, H1 D = none → Same H1 H' → H' D = some (.lst xs) → Rel2 (Rl (hide D H')) xs ((List.range n).filterMap sel) → Q (.ref D) H') : LcB J g tt te vs σ H1 Q := by
  intro D hD
  refine ⟨fun i m H => m = n - i ∧ i ≤ n ∧ Same H1 H ∧ ∃ xs, H D = some (.lst xs) ∧ Rel2 (Rl (hide D H)) xs ((List.range i).filterMap sel), ⟨n, by simp, Nat.zero_le _, Same.new hD, [], upd_same, Rel2.nil⟩, ?_⟩
  rintro i m H ⟨rfl, hi, sm, xs, hl, rl⟩
  by_cases hlt : i < n
  · refine .inr ⟨S.go i H hlt sm, fun H' => Same H1 H' ∧ ∃ xs, H' D = some (.lst xs) ∧ Rel2 (Rl (hide D H')) xs ((List.range (i + 1)).filterMap sel), fun H' h => ⟨n - (i + 1), by omega, rfl, hlt, h⟩, fun x H' y => ?_⟩
    obtain ⟨s1, r⟩ := S.yld i H x H' hlt sm y
    have hl1 := s1 _ _ hl
    obtain ⟨σ2, e2, hg, ht⟩ := turn i x H' D hlt (sm.trans s1) r hD ⟨xs, hl1⟩
    refine hg _ ⟨e2, ?_⟩
    cases e : sel i with
    | some d =>
      rw [e] at ht
      refine ht.1 _ fun H2 s2 => ?_
      rw [if_pos rfl]
      refine ht.2 H2 s2 _ fun y H3 s3 ry => ⟨xs, s3 _ _ (s2 _ _ hl1), ?_, ((sm.trans s1).trans (s2.trans s3)).mut hD, xs ++ [y], upd_same, ?_⟩
      · have h1 := List.length_filterMap_le sel (List.range i)
        rw [List.length_range] at h1
        have := rl.len
        omega
      · rw [hide_upd, List.range_succ, List.filterMap_append]
        have q := (rl.imp fun z a hz => mono _ _ z a (hide_mono (s1.trans (s2.trans s3))) hz).snoc ry
        simpa [e] using q
    | none =>
      rw [e] at ht
      refine ht _ fun H2 s2 => ?_
      rw [if_neg Bool.false_ne_true]
      refine ⟨(sm.trans s1).trans s2, xs, s2 _ _ hl1, ?_⟩
      rw [List.range_succ, List.filterMap_append]
      have q := rl.imp fun z a hz => mono _ _ z a (hide_mono (s1.trans s2)) hz
      simpa [e] using q
  · obtain rfl : i = n := by omega
    exact .inl ⟨S.stop H sm, hq D H xs hD sm hl rl⟩
theorem seqU {t u : TS} {D : Ends} {σ : L2.St} {H : Hp} (h : ∀ U, U = u D → t { D with nx := U } σ H) : tSeq t u D σ H := h _ rfl
theorem kit_mk {K : PySem.W.Frag} {C D : Addr} {b : Bool} (hc : PySem.W.isClsIn K D = true) (ht : PySem.W.typeIn K (.ref D) = some (.type "type")) (hs : PySem.W.subIn K (.ref C) (.ref D) = some b) (hself : PySem.W.subIn K (.ref D) (.ref D) = some true) : PySem.W.kitOne K (.ref C) (.ref D) = some b := by
  unfold PySem.W.kitOne
  split
  · rename_i e
    have e2 : Value.ref C = Value.ref D := by simpa using e
    rw [e2, hself] at hs
    exact hs
  · have hc' : (PySem.W.clsIn K D).isSome = true := hc
    show (if ((PySem.W.clsIn K D).isSome && PySem.W.typeIn K (.ref D) == some (.type "type")) = true then PySem.W.subIn K (.ref C) (.ref D) else none) = some b
    rw [hc', ht]
    exact hs
end U
/-! data that may be shown -/
namespace U
open PySem PySem.Spec PyProof.Rows L2
/-- data of depth at most n and weight at most k that may be shown -/
structure okR (n k : Nat) (d : PyData) : Prop where
  lay : d.canLay0 = true
  dep : d.depth ≤ n
  wgt : d.weight ≤ k
  sh : d.showable = true
  ls : d.leavesShort 13 = true
theorem okR.okD {n k : Nat} {d : PyData} (h : okR n k d) : okD n d := ⟨h.lay, h.dep⟩
theorem okR.mono {n k n' k' : Nat} {d : PyData} (h : okR n k d) (h1 : n ≤ n') (h2 : k ≤ k') : okR n' k' d := ⟨h.lay, Nat.le_trans h.dep h1, Nat.le_trans h.wgt h2, h.sh, h.ls⟩
theorem okR.repr {n k : Nat} {d : PyData} (h : okR n k d) (hn : n ≤ 60) (hk : k ≤ 1000000) : d.showable = true ∧ d.hasDict = false ∧ d.depth ≤ 60 ∧ d.shown.length ≤ sizeLine :=
  ⟨h.sh, PyData.hasDict_of_canLay d h.lay, Nat.le_trans h.dep hn, PyData.shown_fits (B := 13) (by decide) (by decide) h.ls (Nat.le_trans h.wgt (Nat.le_trans hk (by decide)))⟩
theorem okR.str {n : Nat} {z : Str} (h : PyData.strOk z = true) : okR n z.cps.size (.str z) := by
  refine ⟨by unfold PyData.canLay0; exact h, Nat.zero_le _, Nat.le_refl _, rfl, ?_⟩
  exact PyData.leavesShort_of_canLay0 13 _ (by unfold PyData.canLay0; exact h) rfl
theorem okR.bool {n : Nat} {b : Bool} : okR n 0 (.bool b) := ⟨rfl, Nat.zero_le _, Nat.le_refl _, rfl, rfl⟩
theorem okR.non {n : Nat} : okR n 0 .none := ⟨rfl, Nat.zero_le _, Nat.le_refl _, rfl, rfl⟩
theorem okR_all {n k : Nat} : ∀ {ds : List PyData}, (∀ d ∈ ds, okR n k d) → PyData.canLayAll0 ds = true ∧ PyData.depthAll ds ≤ n ∧ PyData.weightAll ds ≤ (k + 1) * ds.length ∧ PyData.showableAll ds = true ∧ PyData.leavesShortAll 13 ds = true
  | [], _ => ⟨rfl, Nat.zero_le _, Nat.zero_le _, rfl, rfl⟩
  | d :: ds, h => by
    have h1 := h d List.mem_cons_self
    obtain ⟨a, b, c, e, f⟩ := okR_all fun x hx => h x (List.mem_cons_of_mem _ hx)
    refine ⟨by unfold PyData.canLayAll0; rw [h1.lay, a]; rfl, Nat.max_le.mpr ⟨h1.dep, b⟩, ?_, by unfold PyData.showableAll; rw [h1.sh, e]; rfl, by unfold PyData.leavesShortAll; rw [h1.ls, f]; rfl⟩
    have := h1.wgt
    show d.weight + 1 + PyData.weightAll ds ≤ (k + 1) * (ds.length + 1)
    rw [Nat.mul_add, Nat.mul_one]
    omega
theorem okR.list {n k : Nat} {ds : List PyData} (h : ∀ d ∈ ds, okR n k d) : okR (n + 1) ((k + 1) * ds.length) (.list ds) := by
  obtain ⟨a, b, c, e, f⟩ := okR_all h
  exact ⟨by unfold PyData.canLay0; exact a, by unfold PyData.depth; exact Nat.succ_le_succ b, c, e, f⟩
theorem okR.tuple {n k : Nat} {ds : List PyData} (h : ∀ d ∈ ds, okR n k d) : okR (n + 1) ((k + 1) * ds.length) (.tuple ds) := by
  obtain ⟨a, b, c, e, f⟩ := okR_all h
  exact ⟨by unfold PyData.canLay0; exact a, by unfold PyData.depth; exact Nat.succ_le_succ b, c, e, f⟩
theorem okR.int {n : Nat} {i : Int} (h : i.natAbs < 1024) : okR n 10 (.int i) := by
  have lg : i.natAbs ≠ 0 → i.natAbs.log2 < 10 := fun h0 => (Nat.log2_lt h0).mpr h
  refine ⟨rfl, Nat.zero_le _, ?_, ?_, ?_⟩
  · show (if i == 0 then 0 else i.natAbs.log2 + 1) ≤ 10
    split
    · omega
    · rename_i z
      have : i ≠ 0 := by simpa using z
      have := lg (by omega)
      omega
  · show decide (i.natAbs.log2 < 1920) = true
    by_cases z : i.natAbs = 0
    · rw [z]; decide
    · have := lg z; exact decide_eq_true (by omega)
  · show decide ((PyData.shown (.int i)).length ≤ 13) = true
    have e : ∀ k : Nat, k < 1024 → (PyData.shown (.int (k : Int))).length ≤ 13 ∧ (PyData.shown (.int (-(k : Int)))).length ≤ 13 := by decide +kernel
    have := e i.natAbs h
    rcases Int.natAbs_eq i with z | z
    · rw [z]; exact decide_eq_true this.1
    · rw [z]; exact decide_eq_true this.2
end U
/-! closed lists: the mathematics -/
namespace M
/-- r can be set out at the places i, i + 1, .. -/
def CF (i : Nat) (r : List Int) : Prop := ∃ r' : List Int, r'.Perm r ∧ ∀ (j : Nat) (x : Int), r'[j]? = some x → x ≤ i + j
theorem erase_perm {α : Type} : ∀ (l : List α) (j : Nat) (h : j < l.length), (l[j] :: l.eraseIdx j).Perm l
  | _ :: _, 0, _ => List.Perm.refl _
  | x :: l, j + 1, h => (List.Perm.swap _ _ _).trans ((erase_perm l j (by simpa using h)).cons x)
theorem CF.put {i t : Nat} {r : List Int} (h : t < r.length) (hx : r[t] ≤ i) (c : CF (i + 1) (r.eraseIdx t)) : CF i r := by
  obtain ⟨r', p, q⟩ := c
  refine ⟨r[t] :: r', (p.cons _).trans (erase_perm r t h), fun j x e => ?_⟩
  cases j with
  | zero => simp at e; subst e; simpa using hx
  | succ j => have := q j x (by simpa using e); push_cast at this ⊢; omega
theorem CF.take {i : Nat} {r : List Int} (c : CF i r) (hr : r ≠ []) : ∃ (t : Nat) (h : t < r.length), r[t] ≤ i ∧ CF (i + 1) (r.eraseIdx t) := by
  obtain ⟨r', p, q⟩ := c
  cases r' with
  | nil => exact absurd p.symm.eq_nil hr
  | cons y r' =>
    have hm : y ∈ r := p.mem_iff.mp List.mem_cons_self
    obtain ⟨t, h, e⟩ := List.mem_iff_getElem.mp hm
    refine ⟨t, h, ?_, r', ?_, fun j x z => ?_⟩
    · have := q 0 y rfl; rw [e]; simpa using this
    · have h2 := (p.trans (erase_perm r t h).symm)
      rw [e] at h2
      exact h2.cons_inv
    · have := q (j + 1) x (by simpa using z); push_cast at this ⊢; omega
theorem CF.nil {i : Nat} : CF i [] := ⟨[], .refl _, fun j x e => by simp at e⟩
def fac : Nat → Nat | 0 => 1 | n + 1 => (n + 1) * fac n
theorem fac_pos : ∀ n, 1 ≤ fac n
  | 0 => Nat.le_refl _
  | n + 1 => Nat.mul_pos (Nat.succ_pos n) (fac_pos n)
theorem fac_mono : ∀ {m n : Nat}, m ≤ n → fac m ≤ fac n := by
  intro m n h
  induction h with
  | refl => exact Nat.le_refl _
  | step h ih => exact Nat.le_trans ih (Nat.le_mul_of_pos_left _ (Nat.succ_pos _))
/-- what is known of the rests at the place i -/
structure Rests (ns : List Int) (i : Nat) (L : List (List Int)) : Prop where
  len : ∀ r ∈ L, r.length = ns.length - i
  sound : ∀ r ∈ L, CF i r → CF 0 ns
  full : CF 0 ns → ∃ r ∈ L, CF i r
  few : L.length * fac (ns.length - i) ≤ fac ns.length
/-- what is known of the later rests, behind j rests and t places of the next -/
structure Later (i : Nat) (L : List (List Int)) (j t : Nat) (m : Nat) (L' : List (List Int)) : Prop where
  sound : ∀ r' ∈ L', ∃ r ∈ L, ∃ (u : Nat) (h : u < r.length), r[u] ≤ i ∧ r' = r.eraseIdx u
  full : ∀ (k : Nat) (r : List Int), L[k]? = some r → ∀ (u : Nat) (h : u < r.length), (k < j ∨ k = j ∧ u < t) → r[u] ≤ i → r.eraseIdx u ∈ L'
  few : L'.length ≤ j * m + t
theorem Later.start {i m : Nat} {L : List (List Int)} : Later i L 0 0 m [] := ⟨(fun _ h => nomatch h), (fun k r _ u h q => by omega), Nat.zero_le _⟩
theorem Later.next {i j m : Nat} {L L' : List (List Int)} {r : List Int} (h : Later i L j r.length m L') (hr : L[j]? = some r) (hm : r.length = m) : Later i L (j + 1) 0 m L' :=
  ⟨h.sound, fun k r2 e u hu q => by
    rcases q with q | q
    · by_cases c : k = j
      · subst c
        rw [hr] at e; cases e
        exact h.full k r hr u hu (.inr ⟨rfl, hu⟩)
      · exact h.full k r2 e u hu (.inl (by omega))
    · omega, by have := h.few; rw [hm] at this; rw [Nat.add_mul]; omega⟩
theorem Later.skip {i j t m : Nat} {L L' : List (List Int)} {r : List Int} (h : Later i L j t m L') (hr : L[j]? = some r) (ht : t < r.length) (c : r[t] ≤ i → r.eraseIdx t ∈ L') : Later i L j (t + 1) m L' :=
  ⟨h.sound, fun k r2 e u hu q le => by
    by_cases z : k = j ∧ u = t
    · obtain ⟨rfl, rfl⟩ := z
      rw [hr] at e; cases e
      exact c le
    · exact h.full k r2 e u hu (by omega) le, by have := h.few; omega⟩
theorem Later.more {i j t m : Nat} {L L' : List (List Int)} {r : List Int} (h : Later i L j t m L') (hr : L[j]? = some r) (ht : t < r.length) (c : r[t] ≤ i) : Later i L j (t + 1) m (L' ++ [r.eraseIdx t]) :=
  ⟨fun r' hr' => by
    rcases List.mem_append.mp hr' with z | z
    · exact h.sound r' z
    · obtain rfl := List.mem_singleton.mp z
      exact ⟨r, List.mem_of_getElem? hr, t, ht, c, rfl⟩, fun k r2 e u hu q le => by
    by_cases z : k = j ∧ u = t
    · obtain ⟨rfl, rfl⟩ := z
      rw [hr] at e; cases e
      exact List.mem_append_right _ (List.mem_singleton.mpr rfl)
    · exact List.mem_append_left _ (h.full k r2 e u hu (by omega) le), by
    have := h.few
    rw [List.length_append]; simp; omega⟩
theorem Later.done {ns : List Int} {i : Nat} {L L' : List (List Int)} (hi : i < ns.length) (R : Rests ns i L) (h : Later i L L.length 0 (ns.length - i) L') : Rests ns (i + 1) L' := by
  refine ⟨fun r' hr' => ?_, fun r' hr' c => ?_, fun c => ?_, ?_⟩
  · obtain ⟨r, hr, u, hu, _, rfl⟩ := h.sound r' hr'
    rw [List.length_eraseIdx_of_lt hu, R.len r hr]; omega
  · obtain ⟨r, hr, u, hu, le, rfl⟩ := h.sound r' hr'
    exact R.sound r hr (CF.put hu le c)
  · obtain ⟨r, hr, c⟩ := R.full c
    have hl := R.len r hr
    obtain ⟨u, hu, le, c2⟩ := c.take (by intro e; subst e; simp at hl; omega)
    obtain ⟨k, hk, e⟩ := List.mem_iff_getElem.mp hr
    exact ⟨_, h.full k r (by rw [List.getElem?_eq_getElem hk, e]) u hu (.inl hk) le, c2⟩
  · have h1 := h.few
    have h2 := R.few
    have e : ns.length - i = (ns.length - (i + 1)) + 1 := by omega
    rw [e, fac] at h2
    have h3 : L'.length ≤ L.length * (ns.length - (i + 1) + 1) := by rw [← e]; simpa using h1
    calc L'.length * fac (ns.length - (i + 1)) ≤ L.length * (ns.length - (i + 1) + 1) * fac (ns.length - (i + 1)) := Nat.mul_le_mul_right _ h3
      _ = L.length * ((ns.length - (i + 1) + 1) * fac (ns.length - (i + 1))) := Nat.mul_assoc _ _ _
      _ ≤ _ := h2
theorem Rests.bound {ns : List Int} {i : Nat} {L : List (List Int)} (R : Rests ns i L) (hi : i < ns.length) (hn : ns.length ≤ 10) : L.length * (ns.length - i) ≤ 3628800 := by
  have h2 := R.few
  have e : ns.length - i = (ns.length - (i + 1)) + 1 := by omega
  have h4 : fac ns.length ≤ 3628800 := Nat.le_trans (fac_mono hn) (by decide)
  rw [e, fac, ← Nat.mul_assoc] at h2
  rw [e]
  have := Nat.le_mul_of_pos_right (L.length * (ns.length - (i + 1) + 1)) (fac_pos (ns.length - (i + 1)))
  omega
theorem Rests.start {ns ns' : List Int} (p : ns'.Perm ns) : Rests ns 0 [ns'] := by
  refine ⟨fun r hr => ?_, fun r hr c => ?_, fun c => ⟨ns', List.mem_singleton.mpr rfl, ?_⟩, by simp⟩
  · obtain rfl := List.mem_singleton.mp hr; exact p.length_eq
  · obtain rfl := List.mem_singleton.mp hr
    obtain ⟨r', q, h⟩ := c
    exact ⟨r', q.trans p, h⟩
  · obtain ⟨r', q, h⟩ := c
    exact ⟨r', q.trans p.symm, h⟩
theorem Rests.end {ns : List Int} {L : List (List Int)} (R : Rests ns ns.length L) : L ≠ [] ↔ CF 0 ns := by
  constructor
  · intro h
    obtain ⟨r, hr⟩ := List.exists_mem_of_ne_nil _ h
    have := R.len r hr
    have : r = [] := List.length_eq_zero_iff.mp (by omega)
    subst this
    exact R.sound _ hr CF.nil
  · intro c h
    obtain ⟨r, hr, _⟩ := R.full c
    rw [h] at hr
    cases hr
end M
namespace M
def diffs (ns : List Int) : List Int := (List.range ns.length).map fun i => ns.getD i 0 - i
structure IsLM (ns : List Int) (m : Int) : Prop where
  ex : ∃ ns' : List Int, ns'.Perm ns ∧ ns'.Pairwise (· ≤ ·) ∧ m ∈ 0 :: diffs ns' ∧ ∀ y ∈ 0 :: diffs ns', y ≤ m
theorem diffs_at {ns : List Int} {i : Nat} (h : i < ns.length) : ns[i] - i ∈ diffs ns := by
  unfold diffs
  exact List.mem_map.mpr ⟨i, List.mem_range.mpr h, by simp [List.getD, h]⟩
theorem IsLM.nonneg {ns : List Int} {m : Int} (h : IsLM ns m) : 0 ≤ m := by
  obtain ⟨ns', _, _, _, u⟩ := h.ex
  exact u 0 List.mem_cons_self
theorem IsLM.le {ns : List Int} {m B : Int} (h : IsLM ns m) (h0 : 0 ≤ B) (hb : ∀ x ∈ ns, x ≤ B) : m ≤ B := by
  obtain ⟨ns', p, _, hm, _⟩ := h.ex
  rcases List.mem_cons.mp hm with rfl | hm
  · exact h0
  · obtain ⟨i, hi, rfl⟩ := List.mem_map.mp hm
    have hi := List.mem_range.mp hi
    have := hb ns'[i] (p.mem_iff.mp (List.getElem_mem hi))
    simp only [List.getD, List.getElem?_eq_getElem hi, Option.getD_some]
    omega
theorem IsLM.closes {ns : List Int} {m : Int} (h : IsLM ns m) : CF 0 (ns ++ List.replicate m.toNat 0) := by
  have h0 := h.nonneg
  obtain ⟨ns', p, _, _, u⟩ := h.ex
  refine ⟨List.replicate m.toNat 0 ++ ns', (List.perm_append_comm).trans (p.append_right _), fun j x e => ?_⟩
  by_cases c : j < m.toNat
  · rw [List.getElem?_append_left (by simpa using c)] at e
    rw [List.getElem?_replicate, if_pos c] at e
    have := Option.some.inj e
    omega
  · rw [List.getElem?_append_right (by simpa using c), List.length_replicate] at e
    obtain ⟨hj, e⟩ := List.getElem?_eq_some_iff.mp e
    have := u _ (List.mem_cons_of_mem _ (diffs_at hj))
    rw [e] at this
    omega
theorem count_drop {r : List Int} {k : Nat} (h : ∀ (j : Nat) (x : Int), r[j]? = some x → x ≤ j) : r.countP (fun x => decide ((k : Int) ≤ x)) ≤ r.length - k := by
  rw [← List.take_append_drop k r, List.countP_append]
  have z : (r.take k).countP (fun x => decide ((k : Int) ≤ x)) = 0 := by
    rw [List.countP_eq_zero]
    intro x hx
    obtain ⟨j, hj, e⟩ := List.mem_iff_getElem.mp hx
    rw [List.length_take] at hj
    have := h j x (by rw [← e, List.getElem_take, List.getElem?_eq_getElem])
    simp only [decide_eq_true_eq]
    omega
  rw [z, Nat.zero_add]
  refine Nat.le_trans List.countP_le_length ?_
  simp
theorem IsLM.needs {ns more : List Int} {m : Int} (h : IsLM ns m) (hm : 0 < m) (hl : (more.length : Int) = m - 1) : ¬ CF 0 (ns ++ more) := by
  rintro ⟨r', pr, q⟩
  obtain ⟨ns', p, so, me, _⟩ := h.ex
  rcases List.mem_cons.mp me with rfl | me
  · omega
  obtain ⟨i, hi, e⟩ := List.mem_map.mp me
  have hi := List.mem_range.mp hi
  simp only [List.getD, List.getElem?_eq_getElem hi, Option.getD_some] at e
  have c1 := count_drop (r := r') (k := m.toNat + i) fun j x z => by have := q j x z; omega
  rw [pr.length_eq, List.length_append] at c1
  have c2 : (ns ++ more).countP (fun x => decide (((m.toNat + i : Nat) : Int) ≤ x)) = r'.countP (fun x => decide (((m.toNat + i : Nat) : Int) ≤ x)) := (pr.countP_eq _).symm
  have c3 : ns.length - i ≤ ns.countP (fun x => decide (((m.toNat + i : Nat) : Int) ≤ x)) := by
    rw [← p.countP_eq, ← List.take_append_drop i ns', List.countP_append]
    have al : (ns'.drop i).countP (fun x => decide (((m.toNat + i : Nat) : Int) ≤ x)) = (ns'.drop i).length := by
      rw [List.countP_eq_length]
      intro x hx
      obtain ⟨j, hj, ex⟩ := List.mem_iff_getElem.mp hx
      rw [List.length_drop] at hj
      rw [List.getElem_drop] at ex
      have le : ns'[i] ≤ ns'[i + j] := by
        by_cases z : j = 0
        · subst z; simp
        · exact List.pairwise_iff_getElem.mp so i (i + j) hi (by omega) (by omega)
      simp only [decide_eq_true_eq]
      push_cast
      omega
    rw [al, List.length_drop, p.length_eq]
    omega
  rw [List.countP_append] at c2
  have := p.length_eq
  omega
theorem CF.zero {r : List Int} (h : CF 0 r) : CF 0 (r ++ [0]) := by
  obtain ⟨r', p, q⟩ := h
  refine ⟨0 :: r', (p.cons 0).trans (List.perm_append_comm (l₁ := [0])), fun j x e => ?_⟩
  cases j with
  | zero => simp at e; omega
  | succ j => have := q j x (by simpa using e); push_cast at this ⊢; omega
theorem CF.zeros {r : List Int} {a : Nat} (h : CF 0 (r ++ List.replicate a 0)) : ∀ b : Nat, CF 0 (r ++ List.replicate (a + b) 0)
  | 0 => h
  | b + 1 => by
    have := (CF.zeros h b).zero
    rwa [List.append_assoc, ← List.replicate_succ', Nat.add_assoc] at this
theorem IsLM.lt_false {ns : List Int} {m m' : Int} (h : IsLM ns m) (h' : IsLM ns m') (c : m < m') : False := by
  have h0 := h.nonneg
  have z := CF.zeros h.closes (m' - 1 - m).toNat
  refine h'.needs (more := List.replicate (m.toNat + (m' - 1 - m).toNat) 0) (by omega) ?_ z
  rw [List.length_replicate]
  omega
theorem IsLM.uniq {ns : List Int} {m m' : Int} (h : IsLM ns m) (h' : IsLM ns m') : m = m' := by
  rcases Int.lt_trichotomy m m' with c | c | c
  · exact (h.lt_false h' c).elim
  · exact c
  · exact (h'.lt_false h c).elim
end M
/-! closed sets of records: the mathematics -/
namespace M
/-- how many have an index of at most h -/
def cntL (ns : List Int) (h : Nat) : Nat := ns.countP fun x => decide (x ≤ (h : Int))
/-- h is the first height that just its records reach -/
structure Hgt (ns : List Int) (h : Nat) : Prop where
  eq : cntL ns h = h
  lt : ∀ g, g < h → g < cntL ns g
theorem cnt_mono (ns : List Int) {g h : Nat} (l : g ≤ h) : cntL ns g ≤ cntL ns h := by
  unfold cntL
  refine List.countP_mono_left fun x _ hx => ?_
  simp only [decide_eq_true_eq] at hx ⊢
  omega
theorem cnt_le (ns : List Int) (h : Nat) : cntL ns h ≤ ns.length := List.countP_le_length
/-- sorted: the place t holds at most t -/
theorem sorted_at {r : List Int} (so : r.Pairwise (· ≤ ·)) {h : Nat} (hc : ∀ g, g < h → g < cntL r g) {t : Nat} {x : Int} (e : r[t]? = some x) (ht : t < h) : x ≤ t := by
  by_cases c : x ≤ t
  · exact c
  exfalso
  have lt := hc t ht
  obtain ⟨hl, e⟩ := List.getElem?_eq_some_iff.mp e
  unfold cntL at lt
  rw [← List.take_append_drop t r, List.countP_append] at lt
  have z : (r.drop t).countP (fun x => decide (x ≤ (t : Int))) = 0 := by
    rw [List.countP_eq_zero]
    intro y hy
    obtain ⟨j, hj, ey⟩ := List.mem_iff_getElem.mp hy
    rw [List.length_drop] at hj
    rw [List.getElem_drop] at ey
    have le : r[t] ≤ r[t + j] := by
      by_cases z : j = 0
      · subst z; simp
      · exact List.pairwise_iff_getElem.mp so t (t + j) hl (by omega) (by omega)
    simp only [decide_eq_true_eq]
    omega
  have z2 : (r.take t).countP (fun x => decide (x ≤ (t : Int))) ≤ t := Nat.le_trans List.countP_le_length (by simp; omega)
  omega
theorem CF.of_cnt {r : List Int} (hc : ∀ g, g < r.length → g < cntL r g) : CF 0 r := by
  have hp : (r.mergeSort (fun a b => decide (a ≤ b))).Perm r := List.mergeSort_perm r _
  have so : (r.mergeSort (fun a b => decide (a ≤ b))).Pairwise (· ≤ ·) := by
    have := List.pairwise_mergeSort (le := fun a b : Int => decide (a ≤ b)) (fun a b c h1 h2 => by simp only [decide_eq_true_eq] at *; omega) (fun a b => by simp only [Bool.or_eq_true, decide_eq_true_eq]; omega) r
    exact this.imp fun h => by simpa using h
  refine ⟨_, hp, fun j x e => ?_⟩
  have hl := (List.getElem?_eq_some_iff.mp e).1
  rw [hp.length_eq] at hl
  have := sorted_at so (h := r.length) (fun g hg => by rw [cntL, hp.countP_eq]; exact hc g hg) e hl
  omega
/-- a closed list: so many of at most t -/
theorem CF.cnt_ge {r : List Int} (c : CF 0 r) {t : Nat} (ht : t < r.length) : t < cntL r t := by
  obtain ⟨r', p, q⟩ := c
  unfold cntL
  rw [← p.countP_eq, ← List.take_append_drop (t + 1) r', List.countP_append]
  have al : (r'.take (t + 1)).countP (fun x => decide (x ≤ (t : Int))) = (r'.take (t + 1)).length := by
    rw [List.countP_eq_length]
    intro x hx
    obtain ⟨j, hj, e⟩ := List.mem_iff_getElem.mp hx
    rw [List.length_take] at hj
    have := q j x (by rw [← e, List.getElem_take, List.getElem?_eq_getElem])
    simp only [decide_eq_true_eq]
    omega
  have := p.length_eq
  rw [al, List.length_take]
  omega
/-- the slots of the places s -/
def slots (ns : List Int) (s : List Nat) : List Int := s.map fun i => ns.getD i 0
/-- the places of at most h -/
def low (ns : List Int) (h : Nat) : List Nat := (List.range ns.length).filter fun i => decide (ns.getD i 0 ≤ h)
theorem range_getD (ns : List Int) : (List.range ns.length).map (fun i => ns.getD i 0) = ns := by
  apply List.ext_getElem?
  intro i
  rw [List.getElem?_map]
  by_cases h : i < ns.length
  · rw [List.getElem?_range h]; simp [h]
  · rw [List.getElem?_eq_none (by simpa using h), List.getElem?_eq_none (by omega)]; rfl
theorem low_len (ns : List Int) (h : Nat) : (low ns h).length = cntL ns h := by
  unfold low cntL
  rw [← List.countP_eq_length_filter]
  conv => rhs; rw [← range_getD ns]
  rw [List.countP_map]
  rfl
theorem low_cnt (ns : List Int) {h g : Nat} (l : g ≤ h) : cntL (slots ns (low ns h)) g = cntL ns g := by
  unfold slots low cntL
  rw [List.countP_map, List.countP_filter]
  conv => rhs; rw [← range_getD ns]
  rw [List.countP_map]
  refine List.countP_congr fun i _ => ?_
  simp only [Function.comp, Bool.and_eq_true, decide_eq_true_eq]
  constructor
  · exact fun q => q.1
  · exact fun q => ⟨q, by omega⟩
theorem low_closed {ns : List Int} {h : Nat} (H : Hgt ns h) : CF 0 (slots ns (low ns h)) := by
  refine CF.of_cnt fun g hg => ?_
  have e : (slots ns (low ns h)).length = h := by unfold slots; rw [List.length_map, low_len, H.eq]
  rw [e] at hg
  rw [low_cnt ns (Nat.le_of_lt hg)]
  exact H.lt g hg
theorem cnt_sub {ns : List Int} {s : List Nat} (hs : s.Sublist (List.range ns.length)) (h : Nat) : cntL (slots ns s) h ≤ cntL ns h := by
  have := (hs.map fun i => ns.getD i 0).countP_le (p := fun x => decide (x ≤ (h : Int)))
  rw [range_getD] at this
  exact this
theorem closed_low {ns : List Int} {h : Nat} (H : Hgt ns h) {s : List Nat} (hs : s.Sublist (List.range ns.length)) (c : CF 0 (slots ns s)) : s.Sublist (low ns h) := by
  have ls : (slots ns s).length = s.length := by simp [slots]
  have le : s.length ≤ h := by
    apply Classical.byContradiction
    intro n
    have h1 := c.cnt_ge (t := h) (by omega)
    have h2 := cnt_sub hs h
    rw [H.eq] at h2
    omega
  have al : ∀ i ∈ s, decide (ns.getD i 0 ≤ (h : Int)) = true := by
    intro i hi
    by_cases z : s.length = 0
    · rw [List.length_eq_zero_iff.mp z] at hi; cases hi
    have h1 := c.cnt_ge (t := s.length - 1) (by omega)
    have h2 : cntL (slots ns s) (s.length - 1) = (slots ns s).length := by have := cnt_le (slots ns s) (s.length - 1); omega
    have h3 := List.countP_eq_length.mp h2 (ns.getD i 0) (List.mem_map.mpr ⟨i, hi, rfl⟩)
    simp only [decide_eq_true_eq] at h3 ⊢
    omega
  have := hs.filter fun i => decide (ns.getD i 0 ≤ (h : Int))
  rw [List.filter_eq_self.mpr al] at this
  exact this
/-- all sets of n places -/
def sets : Nat → List (List Nat)
  | 0 => [[]]
  | n + 1 => sets n ++ (sets n).map (· ++ [n])
theorem sets_len : ∀ n, (sets n).length = 2 ^ n
  | 0 => rfl
  | n + 1 => by rw [sets, List.length_append, List.length_map, sets_len n, Nat.pow_succ]; omega
theorem sets_sub : ∀ {n : Nat} {s : List Nat}, s ∈ sets n → s.Sublist (List.range n)
  | 0, s, h => by
    obtain rfl := List.mem_singleton.mp h; exact List.Sublist.refl _
  | n + 1, s, h => by
    rw [List.range_succ]
    rcases List.mem_append.mp h with h | h
    · exact (sets_sub h).trans (List.sublist_append_left _ _)
    · obtain ⟨u, hu, rfl⟩ := List.mem_map.mp h
      exact (sets_sub hu).append_right _
theorem sub_sets : ∀ {n : Nat} {s : List Nat}, s.Sublist (List.range n) → s ∈ sets n
  | 0, s, h => by
    have : s = [] := List.sublist_nil.mp h
    subst this; exact List.mem_singleton.mpr rfl
  | n + 1, s, h => by
    rw [List.range_succ] at h
    obtain ⟨a, b, rfl, ha, hb⟩ := List.sublist_append_iff.mp h
    rcases List.sublist_cons_iff.mp hb with hb | ⟨r, rfl, hr⟩
    · have : b = [] := List.sublist_nil.mp hb
      subst this
      rw [List.append_nil]
      exact List.mem_append_left _ (sub_sets ha)
    · have : r = [] := List.sublist_nil.mp hr
      subst this
      exact List.mem_append_right _ (List.mem_map.mpr ⟨a, sub_sets ha, rfl⟩)
theorem low_sub (ns : List Int) (h : Nat) : (low ns h).Sublist (List.range ns.length) := List.filter_sublist
/-- what is known behind the sets L: the best one b, the places ks met -/
structure Best (ns : List Int) (L : List (List Nat)) (b : List Nat) (ks : List Int) : Prop where
  src : b = [] ∨ (b ∈ L ∧ CF 0 (slots ns b))
  most : ∀ s ∈ L, CF 0 (slots ns s) → s.length ≤ b.length
  nd : ks.Nodup
  met : ∀ k : Int, k ∈ ks ↔ ∃ s ∈ L, CF 0 (slots ns s) ∧ ∃ i ∈ s, k = (i : Int)
theorem Best.start {ns : List Int} : Best ns [] [] [] := ⟨.inl rfl, (fun _ h => nomatch h), List.nodup_nil, fun k => ⟨(fun h => nomatch h), fun ⟨_, h, _⟩ => nomatch h⟩⟩
theorem Best.skip {ns : List Int} {L : List (List Nat)} {b s : List Nat} {ks : List Int} (B : Best ns L b ks) (c : ¬ CF 0 (slots ns s)) : Best ns (L ++ [s]) b ks := by
  refine ⟨B.src.imp id fun h => ⟨List.mem_append_left _ h.1, h.2⟩, fun u hu cu => ?_, B.nd, fun k => ?_⟩
  · rcases List.mem_append.mp hu with h | h
    · exact B.most u h cu
    · obtain rfl := List.mem_singleton.mp h; exact absurd cu c
  · rw [B.met]
    constructor
    · rintro ⟨u, hu, q⟩; exact ⟨u, List.mem_append_left _ hu, q⟩
    · rintro ⟨u, hu, cu, q⟩
      rcases List.mem_append.mp hu with h | h
      · exact ⟨u, h, cu, q⟩
      · obtain rfl := List.mem_singleton.mp h; exact absurd cu c
theorem Best.more {ns : List Int} {L : List (List Nat)} {b s : List Nat} {ks ks' : List Int} (B : Best ns L b ks) (c : CF 0 (slots ns s)) (nd : ks'.Nodup) (hk : ∀ k : Int, k ∈ ks' ↔ k ∈ ks ∨ ∃ i ∈ s, k = (i : Int)) : Best ns (L ++ [s]) (if b.length < s.length then s else b) ks' := by
  refine ⟨?_, fun u hu cu => ?_, nd, fun k => ?_⟩
  · split
    · exact .inr ⟨List.mem_append_right _ (List.mem_singleton.mpr rfl), c⟩
    · exact B.src.imp id fun h => ⟨List.mem_append_left _ h.1, h.2⟩
  · rcases List.mem_append.mp hu with h | h
    · have := B.most u h cu
      split <;> omega
    · obtain rfl := List.mem_singleton.mp h
      split <;> omega
  · rw [hk, B.met]
    constructor
    · rintro (⟨u, hu, q⟩ | q)
      · exact ⟨u, List.mem_append_left _ hu, q⟩
      · exact ⟨s, List.mem_append_right _ (List.mem_singleton.mpr rfl), c, q⟩
    · rintro ⟨u, hu, cu, q⟩
      rcases List.mem_append.mp hu with h | h
      · exact .inl ⟨u, h, cu, q⟩
      · obtain rfl := List.mem_singleton.mp h; exact .inr q
theorem Best.end {ns : List Int} {b : List Nat} {ks : List Int} (B : Best ns (sets ns.length) b ks) {h : Nat} (H : Hgt ns h) : b = low ns h := by
  have l1 := B.most (low ns h) (sub_sets (low_sub ns h)) (low_closed H)
  have sub : b.Sublist (low ns h) := by
    rcases B.src with rfl | ⟨hm, c⟩
    · exact List.nil_sublist _
    · exact closed_low H (sets_sub hm) c
  exact sub.eq_of_length_le l1
theorem Best.keys {ns : List Int} {b : List Nat} {ks ys : List Int} (B : Best ns (sets ns.length) b ks) {h : Nat} (H : Hgt ns h) (p : ys.Perm ks) (so : ys.Pairwise (· ≤ ·)) : ys = (low ns h).map Int.ofNat := by
  have sl : ((low ns h).map Int.ofNat).Pairwise (· < ·) := by
    refine List.pairwise_map.mpr ?_
    have := (List.pairwise_lt_range (n := ns.length)).sublist (low_sub ns h)
    exact this.imp fun q => Int.ofNat_lt.mpr q
  have nd : ((low ns h).map Int.ofNat).Nodup := sl.imp fun q => by omega
  have pm : ys.Perm ((low ns h).map Int.ofNat) := by
    refine p.trans ((List.perm_ext_iff_of_nodup B.nd nd).mpr fun k => ?_)
    rw [B.met, List.mem_map]
    constructor
    · rintro ⟨s, hs, c, i, hi, rfl⟩
      exact ⟨i, (closed_low H (sets_sub hs) c).subset hi, rfl⟩
    · rintro ⟨i, hi, rfl⟩
      exact ⟨low ns h, sub_sets (low_sub ns h), low_closed H, i, hi, rfl⟩
  exact pm.eq_of_pairwise (fun a b _ _ h1 h2 => by omega) so (sl.imp fun q => by omega)
/-- the way up -/
theorem Hgt.step {ns : List Int} {h : Nat} (lt : ∀ g, g < h → g < cntL ns g) (ne : cntL ns h ≠ h) : h < cntL ns h := by
  cases h with
  | zero => omega
  | succ h =>
    have h1 := lt h (by omega)
    have h2 := cnt_mono ns (Nat.le_succ h)
    simp only [Nat.succ_eq_add_one] at h2
    omega
end M
namespace M
theorem Hgt.ex (ns : List Int) : ∃ h, Hgt ns h := by
  suffices q : ∀ d h, ns.length - h = d → h ≤ ns.length → (∀ g, g < h → g < cntL ns g) → ∃ h, Hgt ns h from q _ 0 rfl (Nat.zero_le _) fun g hg => by omega
  intro d
  induction d with
  | zero =>
    intro h hd hl lt
    have : h = ns.length := by omega
    subst this
    refine ⟨_, ?_, lt⟩
    apply Classical.byContradiction
    intro ne
    have := Hgt.step lt ne
    have := cnt_le ns ns.length
    omega
  | succ d ih =>
    intro h hd hl lt
    by_cases c : cntL ns h = h
    · exact ⟨h, c, lt⟩
    · have st := Hgt.step lt c
      refine ih (h + 1) (by omega) (by omega) fun g hg => ?_
      by_cases z : g < h
      · exact lt g z
      · obtain rfl : g = h := by omega
        exact st
theorem Hgt.uniq {ns : List Int} {h h' : Nat} (a : Hgt ns h) (b : Hgt ns h') : h = h' := by
  rcases Nat.lt_trichotomy h h' with c | c | c
  · have := b.lt h c; rw [a.eq] at this; omega
  · exact c
  · have := a.lt h' c; rw [b.eq] at this; omega
theorem filter_range {α : Type} (f : α → Bool) (d : α) : ∀ l : List α, ((List.range l.length).filter fun i => f (l.getD i d)).map (fun i => l.getD i d) = l.filter f
  | [] => rfl
  | x :: l => by
    rw [List.length_cons, List.range_succ_eq_map, List.filter_cons, List.filter_map, List.filter_cons, ← filter_range f d l]
    have e1 : ((fun i => f ((x :: l).getD i d)) ∘ Nat.succ) = fun i => f (l.getD i d) := by funext i; simp
    rw [e1]
    have e2 : (((List.range l.length).filter (fun i => f (l.getD i d))).map Nat.succ).map (fun i => (x :: l).getD i d) = ((List.range l.length).filter fun i => f (l.getD i d)).map (fun i => l.getD i d) := by
      rw [List.map_map]
      refine List.map_congr_left fun i _ => ?_
      simp
    cases c : f x with
    | true =>
      have c0 : f ((x :: l).getD 0 d) = true := c
      rw [if_pos c0, if_pos rfl, List.map_cons, e2]
      rfl
    | false =>
      have c0 : ¬ f ((x :: l).getD 0 d) = true := by show ¬ f x = true; rw [c]; decide
      rw [if_neg c0, if_neg (by decide), e2]
theorem keys_put {ks : List Int} {k : Int} (nd : ks.Nodup) : ∃ ks' : List Int, ks'.Nodup ∧ (∀ j, j ∈ ks' ↔ j ∈ ks ∨ j = k) ∧ ks' = if k ∈ ks then ks else ks ++ [k] := by
  by_cases c : k ∈ ks
  · refine ⟨ks, nd, fun j => ⟨.inl, ?_⟩, by rw [if_pos c]⟩
    rintro (h | rfl)
    · exact h
    · exact c
  · refine ⟨ks ++ [k], ?_, fun j => by simp, by rw [if_neg c]⟩
    rw [List.nodup_append]
    exact ⟨nd, by simp, fun a ha b hb => by obtain rfl := List.mem_singleton.mp hb; exact fun e => c (e ▸ ha)⟩
end M
namespace M
theorem filter_eq_one {ks : List Int} {k : Int} (nd : ks.Nodup) : (ks.filter fun x => decide (x = k)).length ≤ 1 := by
  induction ks with
  | nil => simp
  | cons x ks ih =>
    obtain ⟨h1, h2⟩ := List.nodup_cons.mp nd
    rw [List.filter_cons]
    split
    · rename_i c
      have e : x = k := by simpa using c
      subst e
      have z : (ks.filter fun y => decide (y = x)) = [] := List.filter_eq_nil_iff.mpr fun y hy q => by
        have e : y = x := by simpa using q
        exact h1 (e ▸ hy)
      rw [z]; simp
    · exact ih h2
theorem pig : ∀ (n : Nat) (ks : List Int), ks.Nodup → (∀ k ∈ ks, 0 ≤ k ∧ k < (n : Int)) → ks.length ≤ n
  | 0, ks, nd, h => by
    cases ks with
    | nil => simp
    | cons x ks => have := h x List.mem_cons_self; omega
  | n + 1, ks, nd, h => by
    have h1 := pig n (ks.filter fun x => !decide (x = (n : Int))) (nd.filter _) fun k hk => by
      obtain ⟨h1, h2⟩ := List.mem_filter.mp hk
      have := h k h1
      simp at h2
      omega
    have h2 := filter_eq_one (k := (n : Int)) nd
    have h3 : ks.length = (ks.filter fun x => decide (x = (n : Int))).length + (ks.filter fun x => !decide (x = (n : Int))).length := by
      rw [← List.countP_eq_length_filter, ← List.countP_eq_length_filter]
      have := List.length_eq_countP_add_countP (fun x => decide (x = (n : Int))) (l := ks)
      simp only [Bool.not_eq_true, decide_eq_false_iff_not, decide_not] at this
      exact this
    omega
end M
namespace K
open PySem PySem.Spec PyProof.Rows L2 U ClX
def top (i : Nat) : Stmt := PySem.Challenge.pw_indexlogs_k45_wrong_and_nearest_of_long.main.body.getD i (.Pass ⟨0, 0, 0, 0⟩)
/-- the classes at hand, the constants -/
structure Ads where
  cFrame : Addr
  cFronted : Addr
  cImpossible : Addr
  cInserted : Addr
  cLogError : Addr
  cNoIndex : Addr
  cNoItem : Addr
  cNoList : Addr
  cNoLog : Addr
  cNoText : Addr
  cRecord : Addr
  cRemoved : Addr
abbrev Ads.kFRONTED (_ : Ads) : V := .str "^"
abbrev Ads.kINSERTED (_ : Ads) : V := .str "+"
abbrev Ads.kLETTERS (_ : Ads) : V := .str "abcdefghijklmnopqrstuvwxyz"
abbrev Ads.kMOST_ITEMS (_ : Ads) : V := .int 60
abbrev Ads.kMOST_LETTERS (_ : Ads) : V := .int 8
abbrev Ads.kMOST_LOG (_ : Ads) : V := .int 40
abbrev Ads.kREMOVED (_ : Ads) : V := .str "-"
structure Gm (mg : Str → Option Value) (A : Ads) : Prop where
  g_abs : mg "abs" = none
  g_all : mg "all" = none
  g_bool : mg "bool" = none
  g_int : mg "int" = none
  g_isinstance : mg "isinstance" = none
  g_len : mg "len" = none
  g_list : mg "list" = none
  g_max : mg "max" = none
  g_min : mg "min" = none
  g_range : mg "range" = none
  g_repr : mg "repr" = none
  g_set : mg "set" = none
  g_sorted : mg "sorted" = none
  g_str : mg "str" = none
  g_FRONTED : ∃ u, mg "FRONTED" = some u ∧ RelV A.kFRONTED u
  g_INSERTED : ∃ u, mg "INSERTED" = some u ∧ RelV A.kINSERTED u
  g_LETTERS : ∃ u, mg "LETTERS" = some u ∧ RelV A.kLETTERS u
  g_MOST_ITEMS : ∃ u, mg "MOST_ITEMS" = some u ∧ RelV A.kMOST_ITEMS u
  g_MOST_LETTERS : ∃ u, mg "MOST_LETTERS" = some u ∧ RelV A.kMOST_LETTERS u
  g_MOST_LOG : ∃ u, mg "MOST_LOG" = some u ∧ RelV A.kMOST_LOG u
  g_REMOVED : ∃ u, mg "REMOVED" = some u ∧ RelV A.kREMOVED u
  cFrame : mg "Frame" = some (.ref A.cFrame)
  cFronted : mg "Fronted" = some (.ref A.cFronted)
  cImpossible : mg "Impossible" = some (.ref A.cImpossible)
  cInserted : mg "Inserted" = some (.ref A.cInserted)
  cLogError : mg "LogError" = some (.ref A.cLogError)
  cNoIndex : mg "NoIndex" = some (.ref A.cNoIndex)
  cNoItem : mg "NoItem" = some (.ref A.cNoItem)
  cNoList : mg "NoList" = some (.ref A.cNoList)
  cNoLog : mg "NoLog" = some (.ref A.cNoLog)
  cNoText : mg "NoText" = some (.ref A.cNoText)
  cRecord : mg "Record" = some (.ref A.cRecord)
  cRemoved : mg "Removed" = some (.ref A.cRemoved)
abbrev s_is_integer : Stmt := top 19
abbrev N_is_integer : List Str := ["thing", "least", "most"]
abbrev ps_is_integer : List Str := ["thing", "least", "most"]
theorem sc_is_integer : FnScope N_is_integer ["thing", "least", "most"] (defScope s_is_integer) := ⟨rfl, rfl, rfl, by decide +kernel, rfl, by decide +kernel, by decide +kernel⟩
def t_is_integer (P : Program) (w : World) (K : PySem.W.Frag) (mg : Str → Option Value) (base : Heap) (A : Ads) (E : XK) : TS :=
  tRet (tAndV (tCB (cIsi K) (tCons (tVar 0) (tCons (tC (.ty "int")) (tNil)))) (tAndV (tNotV (tCB (cIsi K) (tCons (tVar 0) (tCons (tC (.ty "bool")) (tNil))))) (tChain uLe uLe (tVar 1) (tVar 0) (tVar 2))))
theorem d_is_integer {P : Program} {w : World} {K : PySem.W.Frag} {mg : Str → Option Value} {base : Heap} {A : Ads} {f : Addr} {cdv : Value} {Ar : Around} {outer : List Env} {s : Shared} {H : Hp} {E : XK} (G : Gm mg A) (hr : Room 1 (Ar.deeper (envOfC "is_integer" (defScope s_is_integer) s.heap.objs.size f cdv))) (qt : Quiet (Ar.deeper (envOfC "is_integer" (defScope s_is_integer) s.heap.objs.size f cdv))) :
    PSs (cxOf (L2.CX P w) P w K mg base N_is_integer "is_integer" (defScope s_is_integer) f cdv Ar outer s H E) (defBody s_is_integer) (t_is_integer P w K mg base A E) := by
  have sc := sc_is_integer
  have at_ : At (cxOf (L2.CX P w) P w K mg base N_is_integer "is_integer" (defScope s_is_integer) f cdv Ar outer s H E) 1 E := At.of hr qt (takes_of rfl rfl rfl rfl)
  have pn : PassesOwn (model P w) (cxOf (L2.CX P w) P w K mg base N_is_integer "is_integer" (defScope s_is_integer) f cdv Ar outer s H E).A (cxOf (L2.CX P w) P w K mg base N_is_integer "is_integer" (defScope s_is_integer) f cdv Ar outer s H E).env (cxOf (L2.CX P w) P w K mg base N_is_integer "is_integer" (defScope s_is_integer) f cdv Ar outer s H E).xe := passes_of rfl
  exact pss_one (ps_ret (pe_and (pe_callB call_cIsi (by rfl) G.g_isinstance (by decide +kernel) (pa_cons (pv 0) (pa_cons (pe_bltn (v := .ty "int") (by rfl) G.g_int (by decide +kernel) rfl) (pa_nil)))) (pe_and (pe_not (pe_callB call_cIsi (by rfl) G.g_isinstance (by decide +kernel) (pa_cons (pv 0) (pa_cons (pe_bltn (v := .ty "bool") (by rfl) G.g_bool (by decide +kernel) rfl) (pa_nil))))) (pe_one (pe_chain op_uLe op_uLe (pv 1) (pv 0) (pv 2))))))
abbrev s_is_item : Stmt := top 20
abbrev N_is_item : List Str := ["thing", "letter"]
abbrev ps_is_item : List Str := ["thing"]
theorem sc_is_item : FnScope N_is_item ["thing"] (defScope s_is_item) := ⟨rfl, rfl, rfl, by decide +kernel, rfl, by decide +kernel, by decide +kernel⟩
def t_is_item (P : Program) (w : World) (K : PySem.W.Frag) (mg : Str → Option Value) (base : Heap) (A : Ads) (E : XK) : TS :=
  tSeq (tIfS (tOr (tNot (tB (tCB (cIsi K) (tCons (tVar 0) (tCons (tC (.ty "str")) (tNil)))))) (tNot (tTest (tChain uLe uLe (tC (.int 1)) (tCB (cLen K) (tCons (tVar 0) (tNil))) (tC A.kMOST_LETTERS))))) (tRet (tC (.bl false))) (tNext)) (tRet (tCB (cAll K) (tCons (tLc (iStr (tVar 0)) (gName 1) (tYes) (tOp (uIn K false) (tVar 1) (tC A.kLETTERS)) [1]) (tNil))))
theorem d_is_item {P : Program} {w : World} {K : PySem.W.Frag} {mg : Str → Option Value} {base : Heap} {A : Ads} {f : Addr} {cdv : Value} {Ar : Around} {outer : List Env} {s : Shared} {H : Hp} {E : XK} (G : Gm mg A) (hr : Room 1 (Ar.deeper (envOfC "is_item" (defScope s_is_item) s.heap.objs.size f cdv))) (qt : Quiet (Ar.deeper (envOfC "is_item" (defScope s_is_item) s.heap.objs.size f cdv))) :
    PSs (cxOf (L2.CX P w) P w K mg base N_is_item "is_item" (defScope s_is_item) f cdv Ar outer s H E) (defBody s_is_item) (t_is_item P w K mg base A E) := by
  have sc := sc_is_item
  have at_ : At (cxOf (L2.CX P w) P w K mg base N_is_item "is_item" (defScope s_is_item) f cdv Ar outer s H E) 1 E := At.of hr qt (takes_of rfl rfl rfl rfl)
  have pn : PassesOwn (model P w) (cxOf (L2.CX P w) P w K mg base N_is_item "is_item" (defScope s_is_item) f cdv Ar outer s H E).A (cxOf (L2.CX P w) P w K mg base N_is_item "is_item" (defScope s_is_item) f cdv Ar outer s H E).env (cxOf (L2.CX P w) P w K mg base N_is_item "is_item" (defScope s_is_item) f cdv Ar outer s H E).xe := passes_of rfl
  exact pss_cons (ps_if (PW.pt (pw_or (pt_not (pt_val (pe_callB call_cIsi (by rfl) G.g_isinstance (by decide +kernel) (pa_cons (pv 0) (pa_cons (pe_bltn (v := .ty "str") (by rfl) G.g_str (by decide +kernel) rfl) (pa_nil)))))) (pw_or1 (pt_not (pt_chain op_uLe op_uLe (pe_int) (pe_callB call_cLen (by rfl) G.g_len (by decide +kernel) (pa_cons (pv 0) (pa_nil))) (pe_g (by rfl) G.g_MOST_LETTERS)))))) (pss_one (ps_ret (pe_bl))) (pss_nil)) (pss_one (ps_ret (pe_callB (call_cAll rfl) (by rfl) G.g_all (by decide +kernel) (pa_cons (pe_lc (own := [("letter", 1)]) (g := gName 1) (tt := tYes) rfl sc.nd (pi_str (pv 0)) (blkOk_by (N := N_is_item) (sc := defScope s_is_item) (by decide +kernel)) (fun _ _ _ _ _ => pg_name (i := 1) sc.nd rfl (by first | exact Or.inl rfl | exact Or.inr rfl)) (fun _ _ _ _ _ => pts_nil) (fun _ _ _ _ _ => pe_cmpR (op_uIn hr) (pv 1) (pe_g (by rfl) G.g_LETTERS) (by rfl))) (pa_nil)))))
abbrev s_Record_init : Stmt := inClass (top 23) 2
abbrev N_Record_init : List Str := ["self", "item", "slot"]
abbrev ps_Record_init : List Str := ["self", "item", "slot"]
theorem sc_Record_init : FnScope N_Record_init ["self", "item", "slot"] (defScope s_Record_init) := ⟨rfl, rfl, rfl, by decide +kernel, rfl, by decide +kernel, by decide +kernel⟩
def t_Record_init (P : Program) (w : World) (K : PySem.W.Frag) (mg : Str → Option Value) (base : Heap) (A : Ads) (E : XK) : TS :=
  tSeq (tIfS (tNot (tB (tFn P w K mg base "is_item" 2 E (tCons (tVar 1) (tNil))))) (tNever) (tNext)) (tSeq (tIfS (tNot (tB (tFn P w K mg base "is_integer" 2 E (tCons (tVar 2) (tCons (tC (.int 0)) (tCons (tAtt P w K mg base "MOST" (tC (.ref A.cRecord))) (tNil))))))) (tNever) (tNext)) (tSeq (sFld K (tVar 0) (tVar 1) "held_item") (sFld K (tVar 0) (tVar 2) "held_slot")))
theorem d_Record_init {P : Program} {w : World} {K : PySem.W.Frag} {mg : Str → Option Value} {base : Heap} {A : Ads} {f : Addr} {cdv : Value} {Ar : Around} {outer : List Env} {s : Shared} {H : Hp} {E : XK} (G : Gm mg A) (hr : Room 2 (Ar.deeper (envOfC "Record.__init__" (defScope s_Record_init) s.heap.objs.size f cdv))) (qt : Quiet (Ar.deeper (envOfC "Record.__init__" (defScope s_Record_init) s.heap.objs.size f cdv))) :
    PSs (cxOf (L2.CX P w) P w K mg base N_Record_init "Record.__init__" (defScope s_Record_init) f cdv Ar outer s H E) (defBody s_Record_init) (t_Record_init P w K mg base A E) := by
  have sc := sc_Record_init
  have at_ : At (cxOf (L2.CX P w) P w K mg base N_Record_init "Record.__init__" (defScope s_Record_init) f cdv Ar outer s H E) 2 E := At.of hr qt (takes_of rfl rfl rfl rfl)
  have pn : PassesOwn (model P w) (cxOf (L2.CX P w) P w K mg base N_Record_init "Record.__init__" (defScope s_Record_init) f cdv Ar outer s H E).A (cxOf (L2.CX P w) P w K mg base N_Record_init "Record.__init__" (defScope s_Record_init) f cdv Ar outer s H E).env (cxOf (L2.CX P w) P w K mg base N_Record_init "Record.__init__" (defScope s_Record_init) f cdv Ar outer s H E).xe := passes_of rfl
  exact pss_cons (ps_if (pt_not (pt_val (pe_fn at_ (by rfl) (pa_cons (pv 1) (pa_nil))))) (pss_one (ps_never)) (pss_nil)) (pss_cons (ps_if (pt_not (pt_val (pe_fn at_ (by rfl) (pa_cons (pv 2) (pa_cons (pe_int) (pa_cons (pe_att hr (pe_g (by rfl) ⟨_, G.cRecord, rfl⟩)) (pa_nil))))))) (pss_one (ps_never)) (pss_nil)) (pss_cons (ps_fld (pv 0) (pv 1) rfl) (pss_one (ps_fld (pv 0) (pv 2) rfl))))
abbrev s_Record_item : Stmt := inClass (top 23) 4
abbrev N_Record_item : List Str := ["self"]
abbrev ps_Record_item : List Str := ["self"]
theorem sc_Record_item : FnScope N_Record_item ["self"] (defScope s_Record_item) := ⟨rfl, rfl, rfl, by decide +kernel, rfl, by decide +kernel, by decide +kernel⟩
def t_Record_item (P : Program) (w : World) (K : PySem.W.Frag) (mg : Str → Option Value) (base : Heap) (A : Ads) (E : XK) : TS :=
  tRet (tAtt P w K mg base "held_item" (tVar 0))
theorem d_Record_item {P : Program} {w : World} {K : PySem.W.Frag} {mg : Str → Option Value} {base : Heap} {A : Ads} {f : Addr} {cdv : Value} {Ar : Around} {outer : List Env} {s : Shared} {H : Hp} {E : XK} (G : Gm mg A) (hr : Room 2 (Ar.deeper (envOfC "Record.item" (defScope s_Record_item) s.heap.objs.size f cdv))) (qt : Quiet (Ar.deeper (envOfC "Record.item" (defScope s_Record_item) s.heap.objs.size f cdv))) :
    PSs (cxOf (L2.CX P w) P w K mg base N_Record_item "Record.item" (defScope s_Record_item) f cdv Ar outer s H E) (defBody s_Record_item) (t_Record_item P w K mg base A E) := by
  have sc := sc_Record_item
  have at_ : At (cxOf (L2.CX P w) P w K mg base N_Record_item "Record.item" (defScope s_Record_item) f cdv Ar outer s H E) 2 E := At.of hr qt (takes_of rfl rfl rfl rfl)
  have pn : PassesOwn (model P w) (cxOf (L2.CX P w) P w K mg base N_Record_item "Record.item" (defScope s_Record_item) f cdv Ar outer s H E).A (cxOf (L2.CX P w) P w K mg base N_Record_item "Record.item" (defScope s_Record_item) f cdv Ar outer s H E).env (cxOf (L2.CX P w) P w K mg base N_Record_item "Record.item" (defScope s_Record_item) f cdv Ar outer s H E).xe := passes_of rfl
  exact pss_one (ps_ret (pe_att hr (pv 0)))
abbrev s_Record_slot : Stmt := inClass (top 23) 5
abbrev N_Record_slot : List Str := ["self"]
abbrev ps_Record_slot : List Str := ["self"]
theorem sc_Record_slot : FnScope N_Record_slot ["self"] (defScope s_Record_slot) := ⟨rfl, rfl, rfl, by decide +kernel, rfl, by decide +kernel, by decide +kernel⟩
def t_Record_slot (P : Program) (w : World) (K : PySem.W.Frag) (mg : Str → Option Value) (base : Heap) (A : Ads) (E : XK) : TS :=
  tRet (tAtt P w K mg base "held_slot" (tVar 0))
theorem d_Record_slot {P : Program} {w : World} {K : PySem.W.Frag} {mg : Str → Option Value} {base : Heap} {A : Ads} {f : Addr} {cdv : Value} {Ar : Around} {outer : List Env} {s : Shared} {H : Hp} {E : XK} (G : Gm mg A) (hr : Room 2 (Ar.deeper (envOfC "Record.slot" (defScope s_Record_slot) s.heap.objs.size f cdv))) (qt : Quiet (Ar.deeper (envOfC "Record.slot" (defScope s_Record_slot) s.heap.objs.size f cdv))) :
    PSs (cxOf (L2.CX P w) P w K mg base N_Record_slot "Record.slot" (defScope s_Record_slot) f cdv Ar outer s H E) (defBody s_Record_slot) (t_Record_slot P w K mg base A E) := by
  have sc := sc_Record_slot
  have at_ : At (cxOf (L2.CX P w) P w K mg base N_Record_slot "Record.slot" (defScope s_Record_slot) f cdv Ar outer s H E) 2 E := At.of hr qt (takes_of rfl rfl rfl rfl)
  have pn : PassesOwn (model P w) (cxOf (L2.CX P w) P w K mg base N_Record_slot "Record.slot" (defScope s_Record_slot) f cdv Ar outer s H E).A (cxOf (L2.CX P w) P w K mg base N_Record_slot "Record.slot" (defScope s_Record_slot) f cdv Ar outer s H E).env (cxOf (L2.CX P w) P w K mg base N_Record_slot "Record.slot" (defScope s_Record_slot) f cdv Ar outer s H E).xe := passes_of rfl
  exact pss_one (ps_ret (pe_att hr (pv 0)))
abbrev s_Record_move_to : Stmt := inClass (top 23) 7
abbrev N_Record_move_to : List Str := ["self", "slot"]
abbrev ps_Record_move_to : List Str := ["self", "slot"]
theorem sc_Record_move_to : FnScope N_Record_move_to ["self", "slot"] (defScope s_Record_move_to) := ⟨rfl, rfl, rfl, by decide +kernel, rfl, by decide +kernel, by decide +kernel⟩
def t_Record_move_to (P : Program) (w : World) (K : PySem.W.Frag) (mg : Str → Option Value) (base : Heap) (A : Ads) (E : XK) : TS :=
  tSeq (tIfS (tNot (tB (tFn P w K mg base "is_integer" 2 E (tCons (tVar 1) (tCons (tC (.int 0)) (tCons (tAtt P w K mg base "MOST" (tC (.ref A.cRecord))) (tNil))))))) (tNever) (tNext)) (sFld K (tVar 0) (tVar 1) "held_slot")
theorem d_Record_move_to {P : Program} {w : World} {K : PySem.W.Frag} {mg : Str → Option Value} {base : Heap} {A : Ads} {f : Addr} {cdv : Value} {Ar : Around} {outer : List Env} {s : Shared} {H : Hp} {E : XK} (G : Gm mg A) (hr : Room 2 (Ar.deeper (envOfC "Record.move_to" (defScope s_Record_move_to) s.heap.objs.size f cdv))) (qt : Quiet (Ar.deeper (envOfC "Record.move_to" (defScope s_Record_move_to) s.heap.objs.size f cdv))) :
    PSs (cxOf (L2.CX P w) P w K mg base N_Record_move_to "Record.move_to" (defScope s_Record_move_to) f cdv Ar outer s H E) (defBody s_Record_move_to) (t_Record_move_to P w K mg base A E) := by
  have sc := sc_Record_move_to
  have at_ : At (cxOf (L2.CX P w) P w K mg base N_Record_move_to "Record.move_to" (defScope s_Record_move_to) f cdv Ar outer s H E) 2 E := At.of hr qt (takes_of rfl rfl rfl rfl)
  have pn : PassesOwn (model P w) (cxOf (L2.CX P w) P w K mg base N_Record_move_to "Record.move_to" (defScope s_Record_move_to) f cdv Ar outer s H E).A (cxOf (L2.CX P w) P w K mg base N_Record_move_to "Record.move_to" (defScope s_Record_move_to) f cdv Ar outer s H E).env (cxOf (L2.CX P w) P w K mg base N_Record_move_to "Record.move_to" (defScope s_Record_move_to) f cdv Ar outer s H E).xe := passes_of rfl
  exact pss_cons (ps_if (pt_not (pt_val (pe_fn at_ (by rfl) (pa_cons (pv 1) (pa_cons (pe_int) (pa_cons (pe_att hr (pe_g (by rfl) ⟨_, G.cRecord, rfl⟩)) (pa_nil))))))) (pss_one (ps_never)) (pss_nil)) (pss_one (ps_fld (pv 0) (pv 1) rfl))
abbrev s_are_records : Stmt := top 32
abbrev N_are_records : List Str := ["thing", "most", "record"]
abbrev ps_are_records : List Str := ["thing", "most"]
theorem sc_are_records : FnScope N_are_records ["thing", "most"] (defScope s_are_records) := ⟨rfl, rfl, rfl, by decide +kernel, rfl, by decide +kernel, by decide +kernel⟩
def t_are_records (P : Program) (w : World) (K : PySem.W.Frag) (mg : Str → Option Value) (base : Heap) (A : Ads) (E : XK) : TS :=
  tSeq (tIfS (tOr (tNot (tB (tCB (cIsi K) (tCons (tVar 0) (tCons (tC (.ty "list")) (tNil)))))) (tTest (tOp uGt (tCB (cLen K) (tCons (tVar 0) (tNil))) (tVar 1)))) (tRet (tC (.bl false))) (tNext)) (tRet (tCB (cAll K) (tCons (tLc (iList K (tVar 0)) (gName 2) (tYes) (tAndV (tCB (cIsi K) (tCons (tVar 2) (tCons (tC (.ref A.cRecord)) (tNil)))) (tOp (uNe K) (tAtt P w K mg base "SIGN" (tVar 2)) (tC (.str "")))) [2]) (tNil))))
theorem d_are_records {P : Program} {w : World} {K : PySem.W.Frag} {mg : Str → Option Value} {base : Heap} {A : Ads} {f : Addr} {cdv : Value} {Ar : Around} {outer : List Env} {s : Shared} {H : Hp} {E : XK} (G : Gm mg A) (hr : Room 2 (Ar.deeper (envOfC "are_records" (defScope s_are_records) s.heap.objs.size f cdv))) (qt : Quiet (Ar.deeper (envOfC "are_records" (defScope s_are_records) s.heap.objs.size f cdv))) :
    PSs (cxOf (L2.CX P w) P w K mg base N_are_records "are_records" (defScope s_are_records) f cdv Ar outer s H E) (defBody s_are_records) (t_are_records P w K mg base A E) := by
  have sc := sc_are_records
  have at_ : At (cxOf (L2.CX P w) P w K mg base N_are_records "are_records" (defScope s_are_records) f cdv Ar outer s H E) 2 E := At.of hr qt (takes_of rfl rfl rfl rfl)
  have pn : PassesOwn (model P w) (cxOf (L2.CX P w) P w K mg base N_are_records "are_records" (defScope s_are_records) f cdv Ar outer s H E).A (cxOf (L2.CX P w) P w K mg base N_are_records "are_records" (defScope s_are_records) f cdv Ar outer s H E).env (cxOf (L2.CX P w) P w K mg base N_are_records "are_records" (defScope s_are_records) f cdv Ar outer s H E).xe := passes_of rfl
  exact pss_cons (ps_if (PW.pt (pw_or (pt_not (pt_val (pe_callB call_cIsi (by rfl) G.g_isinstance (by decide +kernel) (pa_cons (pv 0) (pa_cons (pe_bltn (v := .ty "list") (by rfl) G.g_list (by decide +kernel) rfl) (pa_nil)))))) (pw_or1 (pt_cmpR op_uGt (pe_callB call_cLen (by rfl) G.g_len (by decide +kernel) (pa_cons (pv 0) (pa_nil))) (pv 1) (nomark _))))) (pss_one (ps_ret (pe_bl))) (pss_nil)) (pss_one (ps_ret (pe_callB (call_cAll rfl) (by rfl) G.g_all (by decide +kernel) (pa_cons (pe_lc (own := [("record", 2)]) (g := gName 2) (tt := tYes) rfl sc.nd (pi_list (pv 0)) (blkOk_by (N := N_are_records) (sc := defScope s_are_records) (by decide +kernel)) (fun _ _ _ _ _ => pg_name (i := 2) sc.nd rfl (by first | exact Or.inl rfl | exact Or.inr rfl)) (fun _ _ _ _ _ => pts_nil) (fun _ _ _ _ _ => pe_and (pe_callB call_cIsi (by rfl) G.g_isinstance (by decide +kernel) (pa_cons (pv 2) (pa_cons (pe_g (by rfl) ⟨_, G.cRecord, rfl⟩) (pa_nil)))) (pe_one (pe_cmpR (op_uNe hr) (pe_att hr (pv 2)) (pe_str) (nomark _))))) (pa_nil)))))
abbrev s_sign_of : Stmt := top 33
abbrev N_sign_of : List Str := ["log"]
abbrev ps_sign_of : List Str := ["log"]
theorem sc_sign_of : FnScope N_sign_of ["log"] (defScope s_sign_of) := ⟨rfl, rfl, rfl, by decide +kernel, rfl, by decide +kernel, by decide +kernel⟩
def t_sign_of (P : Program) (w : World) (K : PySem.W.Frag) (mg : Str → Option Value) (base : Heap) (A : Ads) (E : XK) : TS :=
  tRet (tIf (tTest (tOp (uNe K) (tVar 0) (tLst (tNil)))) (tAtt P w K mg base "SIGN" (tOp (uIx K) (tVar 0) (tC (.int 0)))) (tC (.str "")))
theorem d_sign_of {P : Program} {w : World} {K : PySem.W.Frag} {mg : Str → Option Value} {base : Heap} {A : Ads} {f : Addr} {cdv : Value} {Ar : Around} {outer : List Env} {s : Shared} {H : Hp} {E : XK} (G : Gm mg A) (hr : Room 2 (Ar.deeper (envOfC "sign_of" (defScope s_sign_of) s.heap.objs.size f cdv))) (qt : Quiet (Ar.deeper (envOfC "sign_of" (defScope s_sign_of) s.heap.objs.size f cdv))) :
    PSs (cxOf (L2.CX P w) P w K mg base N_sign_of "sign_of" (defScope s_sign_of) f cdv Ar outer s H E) (defBody s_sign_of) (t_sign_of P w K mg base A E) := by
  have sc := sc_sign_of
  have at_ : At (cxOf (L2.CX P w) P w K mg base N_sign_of "sign_of" (defScope s_sign_of) f cdv Ar outer s H E) 2 E := At.of hr qt (takes_of rfl rfl rfl rfl)
  have pn : PassesOwn (model P w) (cxOf (L2.CX P w) P w K mg base N_sign_of "sign_of" (defScope s_sign_of) f cdv Ar outer s H E).A (cxOf (L2.CX P w) P w K mg base N_sign_of "sign_of" (defScope s_sign_of) f cdv Ar outer s H E).env (cxOf (L2.CX P w) P w K mg base N_sign_of "sign_of" (defScope s_sign_of) f cdv Ar outer s H E).xe := passes_of rfl
  exact pss_one (ps_ret (pe_ifExp (pt_cmpR (op_uNe hr) (pv 0) (pe_lst (pa_nil)) (nomark _)) (pe_att hr (pe_ix ix_u (pv 0) (pe_int) (fun _ _ => rfl))) (pe_str)))
abbrev s_items_of : Stmt := top 34
abbrev N_items_of : List Str := ["log", "record"]
abbrev ps_items_of : List Str := ["log"]
theorem sc_items_of : FnScope N_items_of ["log"] (defScope s_items_of) := ⟨rfl, rfl, rfl, by decide +kernel, rfl, by decide +kernel, by decide +kernel⟩
def t_items_of (P : Program) (w : World) (K : PySem.W.Frag) (mg : Str → Option Value) (base : Heap) (A : Ads) (E : XK) : TS :=
  tRet (tLc (iList K (tVar 0)) (gName 1) (tYes) (tAtt P w K mg base "item" (tVar 1)) [1])
theorem d_items_of {P : Program} {w : World} {K : PySem.W.Frag} {mg : Str → Option Value} {base : Heap} {A : Ads} {f : Addr} {cdv : Value} {Ar : Around} {outer : List Env} {s : Shared} {H : Hp} {E : XK} (G : Gm mg A) (hr : Room 2 (Ar.deeper (envOfC "items_of" (defScope s_items_of) s.heap.objs.size f cdv))) (qt : Quiet (Ar.deeper (envOfC "items_of" (defScope s_items_of) s.heap.objs.size f cdv))) :
    PSs (cxOf (L2.CX P w) P w K mg base N_items_of "items_of" (defScope s_items_of) f cdv Ar outer s H E) (defBody s_items_of) (t_items_of P w K mg base A E) := by
  have sc := sc_items_of
  have at_ : At (cxOf (L2.CX P w) P w K mg base N_items_of "items_of" (defScope s_items_of) f cdv Ar outer s H E) 2 E := At.of hr qt (takes_of rfl rfl rfl rfl)
  have pn : PassesOwn (model P w) (cxOf (L2.CX P w) P w K mg base N_items_of "items_of" (defScope s_items_of) f cdv Ar outer s H E).A (cxOf (L2.CX P w) P w K mg base N_items_of "items_of" (defScope s_items_of) f cdv Ar outer s H E).env (cxOf (L2.CX P w) P w K mg base N_items_of "items_of" (defScope s_items_of) f cdv Ar outer s H E).xe := passes_of rfl
  exact pss_one (ps_ret (pe_lc (own := [("record", 1)]) (g := gName 1) (tt := tYes) rfl sc.nd (pi_list (pv 0)) (blkOk_by (N := N_items_of) (sc := defScope s_items_of) (by decide +kernel)) (fun _ _ _ _ _ => pg_name (i := 1) sc.nd rfl (by first | exact Or.inl rfl | exact Or.inr rfl)) (fun _ _ _ _ _ => pts_nil) (fun _ _ _ _ _ => pe_att hr (pv 1))))
abbrev s_is_log : Stmt := top 35
abbrev N_is_log : List Str := ["thing", "record"]
abbrev ps_is_log : List Str := ["thing"]
theorem sc_is_log : FnScope N_is_log ["thing"] (defScope s_is_log) := ⟨rfl, rfl, rfl, by decide +kernel, rfl, by decide +kernel, by decide +kernel⟩
def t_is_log (P : Program) (w : World) (K : PySem.W.Frag) (mg : Str → Option Value) (base : Heap) (A : Ads) (E : XK) : TS :=
  tSeq (tIfS (tNot (tB (tFn P w K mg base "are_records" 3 E (tCons (tVar 0) (tCons (tC A.kMOST_LOG) (tNil)))))) (tRet (tC (.bl false))) (tNext)) (tRet (tAndV (tOp uLe (tLenSetT K (tLc (iList K (tVar 0)) (gName 1) (tYes) (tAtt P w K mg base "SIGN" (tVar 1)) [1])) (tC (.int 1))) (tOp (uEq K) (tLenSetT K (tFn P w K mg base "items_of" 3 E (tCons (tVar 0) (tNil)))) (tCB (cLen K) (tCons (tVar 0) (tNil))))))
theorem d_is_log {P : Program} {w : World} {K : PySem.W.Frag} {mg : Str → Option Value} {base : Heap} {A : Ads} {f : Addr} {cdv : Value} {Ar : Around} {outer : List Env} {s : Shared} {H : Hp} {E : XK} (G : Gm mg A) (hr : Room 3 (Ar.deeper (envOfC "is_log" (defScope s_is_log) s.heap.objs.size f cdv))) (qt : Quiet (Ar.deeper (envOfC "is_log" (defScope s_is_log) s.heap.objs.size f cdv))) :
    PSs (cxOf (L2.CX P w) P w K mg base N_is_log "is_log" (defScope s_is_log) f cdv Ar outer s H E) (defBody s_is_log) (t_is_log P w K mg base A E) := by
  have sc := sc_is_log
  have at_ : At (cxOf (L2.CX P w) P w K mg base N_is_log "is_log" (defScope s_is_log) f cdv Ar outer s H E) 3 E := At.of hr qt (takes_of rfl rfl rfl rfl)
  have pn : PassesOwn (model P w) (cxOf (L2.CX P w) P w K mg base N_is_log "is_log" (defScope s_is_log) f cdv Ar outer s H E).A (cxOf (L2.CX P w) P w K mg base N_is_log "is_log" (defScope s_is_log) f cdv Ar outer s H E).env (cxOf (L2.CX P w) P w K mg base N_is_log "is_log" (defScope s_is_log) f cdv Ar outer s H E).xe := passes_of rfl
  exact pss_cons (ps_if (pt_not (pt_val (pe_fn at_ (by rfl) (pa_cons (pv 0) (pa_cons (pe_g (by rfl) G.g_MOST_LOG) (pa_nil)))))) (pss_one (ps_ret (pe_bl))) (pss_nil)) (pss_one (ps_ret (pe_and (pe_cmpR op_uLe (pe_lenSetT (by rfl) G.g_len (by rfl) G.g_set (pe_lc (own := [("record", 1)]) (g := gName 1) (tt := tYes) rfl sc.nd (pi_list (pv 0)) (blkOk_by (N := N_is_log) (sc := defScope s_is_log) (by decide +kernel)) (fun _ _ _ _ _ => pg_name (i := 1) sc.nd rfl (by first | exact Or.inl rfl | exact Or.inr rfl)) (fun _ _ _ _ _ => pts_nil) (fun _ _ _ _ _ => pe_att hr (pv 1)))) (pe_int) (nomark _)) (pe_one (pe_cmpR (op_uEq hr) (pe_lenSetT (by rfl) G.g_len (by rfl) G.g_set (pe_fn at_ (by rfl) (pa_cons (pv 0) (pa_nil)))) (pe_callB call_cLen (by rfl) G.g_len (by decide +kernel) (pa_cons (pv 0) (pa_nil))) (nomark _))))))
abbrev s_need_log : Stmt := top 36
abbrev N_need_log : List Str := ["thing"]
abbrev ps_need_log : List Str := ["thing"]
theorem sc_need_log : FnScope N_need_log ["thing"] (defScope s_need_log) := ⟨rfl, rfl, rfl, by decide +kernel, rfl, by decide +kernel, by decide +kernel⟩
def t_need_log (P : Program) (w : World) (K : PySem.W.Frag) (mg : Str → Option Value) (base : Heap) (A : Ads) (E : XK) : TS :=
  tIfS (tNot (tB (tFn P w K mg base "is_log" 4 E (tCons (tVar 0) (tNil))))) (tNever) (tNext)
theorem d_need_log {P : Program} {w : World} {K : PySem.W.Frag} {mg : Str → Option Value} {base : Heap} {A : Ads} {f : Addr} {cdv : Value} {Ar : Around} {outer : List Env} {s : Shared} {H : Hp} {E : XK} (G : Gm mg A) (hr : Room 4 (Ar.deeper (envOfC "need_log" (defScope s_need_log) s.heap.objs.size f cdv))) (qt : Quiet (Ar.deeper (envOfC "need_log" (defScope s_need_log) s.heap.objs.size f cdv))) :
    PSs (cxOf (L2.CX P w) P w K mg base N_need_log "need_log" (defScope s_need_log) f cdv Ar outer s H E) (defBody s_need_log) (t_need_log P w K mg base A E) := by
  have sc := sc_need_log
  have at_ : At (cxOf (L2.CX P w) P w K mg base N_need_log "need_log" (defScope s_need_log) f cdv Ar outer s H E) 4 E := At.of hr qt (takes_of rfl rfl rfl rfl)
  have pn : PassesOwn (model P w) (cxOf (L2.CX P w) P w K mg base N_need_log "need_log" (defScope s_need_log) f cdv Ar outer s H E).A (cxOf (L2.CX P w) P w K mg base N_need_log "need_log" (defScope s_need_log) f cdv Ar outer s H E).env (cxOf (L2.CX P w) P w K mg base N_need_log "need_log" (defScope s_need_log) f cdv Ar outer s H E).xe := passes_of rfl
  exact pss_one (ps_if (pt_not (pt_val (pe_fn at_ (by rfl) (pa_cons (pv 0) (pa_nil))))) (pss_one (ps_never)) (pss_nil))
abbrev s_are_items : Stmt := top 21
abbrev N_are_items : List Str := ["thing", "item"]
abbrev ps_are_items : List Str := ["thing"]
theorem sc_are_items : FnScope N_are_items ["thing"] (defScope s_are_items) := ⟨rfl, rfl, rfl, by decide +kernel, rfl, by decide +kernel, by decide +kernel⟩
def t_are_items (P : Program) (w : World) (K : PySem.W.Frag) (mg : Str → Option Value) (base : Heap) (A : Ads) (E : XK) : TS :=
  tSeq (tIfS (tOr (tNot (tB (tCB (cIsi K) (tCons (tVar 0) (tCons (tC (.ty "list")) (tNil)))))) (tOr (tTest (tOp uGt (tCB (cLen K) (tCons (tVar 0) (tNil))) (tC A.kMOST_ITEMS))) (tNot (tB (tCB (cAll K) (tCons (tLc (iList K (tVar 0)) (gName 1) (tYes) (tFn P w K mg base "is_item" 2 E0 (tCons (tVar 1) (tNil))) [1]) (tNil))))))) (tRet (tC (.bl false))) (tNext)) (tRet (tOp (uEq K) (tLenSetT K (tVar 0)) (tCB (cLen K) (tCons (tVar 0) (tNil)))))
theorem d_are_items {P : Program} {w : World} {K : PySem.W.Frag} {mg : Str → Option Value} {base : Heap} {A : Ads} {f : Addr} {cdv : Value} {Ar : Around} {outer : List Env} {s : Shared} {H : Hp} {E : XK} (G : Gm mg A) (hr : Room 2 (Ar.deeper (envOfC "are_items" (defScope s_are_items) s.heap.objs.size f cdv))) (qt : Quiet (Ar.deeper (envOfC "are_items" (defScope s_are_items) s.heap.objs.size f cdv))) :
    PSs (cxOf (L2.CX P w) P w K mg base N_are_items "are_items" (defScope s_are_items) f cdv Ar outer s H E) (defBody s_are_items) (t_are_items P w K mg base A E) := by
  have sc := sc_are_items
  have at_ : At (cxOf (L2.CX P w) P w K mg base N_are_items "are_items" (defScope s_are_items) f cdv Ar outer s H E) 2 E := At.of hr qt (takes_of rfl rfl rfl rfl)
  have pn : PassesOwn (model P w) (cxOf (L2.CX P w) P w K mg base N_are_items "are_items" (defScope s_are_items) f cdv Ar outer s H E).A (cxOf (L2.CX P w) P w K mg base N_are_items "are_items" (defScope s_are_items) f cdv Ar outer s H E).env (cxOf (L2.CX P w) P w K mg base N_are_items "are_items" (defScope s_are_items) f cdv Ar outer s H E).xe := passes_of rfl
  exact pss_cons (ps_if (PW.pt (pw_or (pt_not (pt_val (pe_callB call_cIsi (by rfl) G.g_isinstance (by decide +kernel) (pa_cons (pv 0) (pa_cons (pe_bltn (v := .ty "list") (by rfl) G.g_list (by decide +kernel) rfl) (pa_nil)))))) (pw_or (pt_cmpR op_uGt (pe_callB call_cLen (by rfl) G.g_len (by decide +kernel) (pa_cons (pv 0) (pa_nil))) (pe_g (by rfl) G.g_MOST_ITEMS) (nomark _)) (pw_or1 (pt_not (pt_val (pe_callB (call_cAll rfl) (by rfl) G.g_all (by decide +kernel) (pa_cons (pe_lc (own := [("item", 1)]) (g := gName 1) (tt := tYes) rfl sc.nd (pi_list (pv 0)) (blkOk_by (N := N_are_items) (sc := defScope s_are_items) (by decide +kernel)) (fun _ _ _ _ _ => pg_name (i := 1) sc.nd rfl (by first | exact Or.inl rfl | exact Or.inr rfl)) (fun _ _ _ _ _ => pts_nil) (fun _ _ _ _ _ => pe_fn (At.e0 hr qt) (by rfl) (pa_cons (pv 1) (pa_nil)))) (pa_nil))))))))) (pss_one (ps_ret (pe_bl))) (pss_nil)) (pss_one (ps_ret (pe_cmpR (op_uEq hr) (pe_lenSetT (by rfl) G.g_len (by rfl) G.g_set (pv 0)) (pe_callB call_cLen (by rfl) G.g_len (by decide +kernel) (pa_cons (pv 0) (pa_nil))) (nomark _))))
abbrev s_need_known : Stmt := top 38
abbrev N_need_known : List Str := ["log", "items", "record"]
abbrev ps_need_known : List Str := ["log", "items"]
theorem sc_need_known : FnScope N_need_known ["log", "items"] (defScope s_need_known) := ⟨rfl, rfl, rfl, by decide +kernel, rfl, by decide +kernel, by decide +kernel⟩
def t_need_known (P : Program) (w : World) (K : PySem.W.Frag) (mg : Str → Option Value) (base : Heap) (A : Ads) (E : XK) : TS :=
  tIfS (tOr (tNot (tB (tFn P w K mg base "are_items" 3 E (tCons (tVar 1) (tNil))))) (tNot (tB (tCB (cAll K) (tCons (tLc (iList K (tVar 0)) (gName 2) (tYes) (tOp (uIn K false) (tAtt P w K mg base "item" (tVar 2)) (tVar 1)) [2]) (tNil)))))) (tNever) (tNext)
theorem d_need_known {P : Program} {w : World} {K : PySem.W.Frag} {mg : Str → Option Value} {base : Heap} {A : Ads} {f : Addr} {cdv : Value} {Ar : Around} {outer : List Env} {s : Shared} {H : Hp} {E : XK} (G : Gm mg A) (hr : Room 3 (Ar.deeper (envOfC "need_known" (defScope s_need_known) s.heap.objs.size f cdv))) (qt : Quiet (Ar.deeper (envOfC "need_known" (defScope s_need_known) s.heap.objs.size f cdv))) :
    PSs (cxOf (L2.CX P w) P w K mg base N_need_known "need_known" (defScope s_need_known) f cdv Ar outer s H E) (defBody s_need_known) (t_need_known P w K mg base A E) := by
  have sc := sc_need_known
  have at_ : At (cxOf (L2.CX P w) P w K mg base N_need_known "need_known" (defScope s_need_known) f cdv Ar outer s H E) 3 E := At.of hr qt (takes_of rfl rfl rfl rfl)
  have pn : PassesOwn (model P w) (cxOf (L2.CX P w) P w K mg base N_need_known "need_known" (defScope s_need_known) f cdv Ar outer s H E).A (cxOf (L2.CX P w) P w K mg base N_need_known "need_known" (defScope s_need_known) f cdv Ar outer s H E).env (cxOf (L2.CX P w) P w K mg base N_need_known "need_known" (defScope s_need_known) f cdv Ar outer s H E).xe := passes_of rfl
  exact pss_one (ps_if (PW.pt (pw_or (pt_not (pt_val (pe_fn at_ (by rfl) (pa_cons (pv 1) (pa_nil))))) (pw_or1 (pt_not (pt_val (pe_callB (call_cAll rfl) (by rfl) G.g_all (by decide +kernel) (pa_cons (pe_lc (own := [("record", 2)]) (g := gName 2) (tt := tYes) rfl sc.nd (pi_list (pv 0)) (blkOk_by (N := N_need_known) (sc := defScope s_need_known) (by decide +kernel)) (fun _ _ _ _ _ => pg_name (i := 2) sc.nd rfl (by first | exact Or.inl rfl | exact Or.inr rfl)) (fun _ _ _ _ _ => pts_nil) (fun _ _ _ _ _ => pe_cmpR (op_uIn hr) (pe_att hr (pv 2)) (pv 1) (by rfl))) (pa_nil)))))))) (pss_one (ps_never)) (pss_nil))
abbrev s_Frame_init : Stmt := inClass (top 39) 0
abbrev N_Frame_init : List Str := ["self", "log", "items", "record", "item"]
abbrev ps_Frame_init : List Str := ["self", "log", "items"]
theorem sc_Frame_init : FnScope N_Frame_init ["self", "log", "items"] (defScope s_Frame_init) := ⟨rfl, rfl, rfl, by decide +kernel, rfl, by decide +kernel, by decide +kernel⟩
def t_Frame_init (P : Program) (w : World) (K : PySem.W.Frag) (mg : Str → Option Value) (base : Heap) (A : Ads) (E : XK) : TS :=
  tSeq (sFld K (tVar 0) (tDc (iList K (tVar 1)) (gName 3) (tYes) (tAtt P w K mg base "item" (tVar 3)) (tVar 3) [3]) "by_item") (tSeq (sFld K (tVar 0) (tLc (iList K (tVar 2)) (gName 4) (tTest (tOp (uIn K false) (tVar 4) (tAtt P w K mg base "by_item" (tVar 0)))) (tVar 4) [4]) "marked") (tSeq (sFld K (tVar 0) (tDc (iList K (tAtt P w K mg base "marked" (tVar 0))) (gName 4) (tYes) (tVar 4) (tBM K "list" (rIndex K) (tVar 2) (tCons (tVar 4) (tNil))) [4]) "places") (sFld K (tVar 0) (tOp (uEq K) (tFn P w K mg base "sign_of" 3 E (tCons (tVar 1) (tNil))) (tC A.kFRONTED)) "is_fronted")))
theorem d_Frame_init {P : Program} {w : World} {K : PySem.W.Frag} {mg : Str → Option Value} {base : Heap} {A : Ads} {f : Addr} {cdv : Value} {Ar : Around} {outer : List Env} {s : Shared} {H : Hp} {E : XK} (G : Gm mg A) (hr : Room 3 (Ar.deeper (envOfC "Frame.__init__" (defScope s_Frame_init) s.heap.objs.size f cdv))) (qt : Quiet (Ar.deeper (envOfC "Frame.__init__" (defScope s_Frame_init) s.heap.objs.size f cdv))) :
    PSs (cxOf (L2.CX P w) P w K mg base N_Frame_init "Frame.__init__" (defScope s_Frame_init) f cdv Ar outer s H E) (defBody s_Frame_init) (t_Frame_init P w K mg base A E) := by
  have sc := sc_Frame_init
  have at_ : At (cxOf (L2.CX P w) P w K mg base N_Frame_init "Frame.__init__" (defScope s_Frame_init) f cdv Ar outer s H E) 3 E := At.of hr qt (takes_of rfl rfl rfl rfl)
  have pn : PassesOwn (model P w) (cxOf (L2.CX P w) P w K mg base N_Frame_init "Frame.__init__" (defScope s_Frame_init) f cdv Ar outer s H E).A (cxOf (L2.CX P w) P w K mg base N_Frame_init "Frame.__init__" (defScope s_Frame_init) f cdv Ar outer s H E).env (cxOf (L2.CX P w) P w K mg base N_Frame_init "Frame.__init__" (defScope s_Frame_init) f cdv Ar outer s H E).xe := passes_of rfl
  exact pss_cons (ps_fld (pv 0) (pe_dc (own := [("record", 3)]) (g := gName 3) (tt := tYes) rfl sc.nd (pi_list (pv 1)) (blkOk_by (N := N_Frame_init) (sc := defScope s_Frame_init) (by decide +kernel)) (fun _ _ _ _ _ => pg_name (i := 3) sc.nd rfl (by first | exact Or.inl rfl | exact Or.inr rfl)) (fun _ _ _ _ _ => pts_nil) (fun _ _ _ _ _ => pe_att hr (pv 3)) (fun _ _ _ _ _ => pv 3)) rfl) (pss_cons (ps_fld (pv 0) (pe_lc (own := [("item", 4)]) (g := gName 4) (tt := tTest (tOp (uIn K false) (tVar 4) (tAtt P w K mg base "by_item" (tVar 0)))) rfl sc.nd (pi_list (pv 2)) (blkOk_by (N := N_Frame_init) (sc := defScope s_Frame_init) (by decide +kernel)) (fun _ _ _ _ _ => pg_name (i := 4) sc.nd rfl (by first | exact Or.inl rfl | exact Or.inr rfl)) (fun _ _ _ _ _ => pts_one (pt_cmpR (op_uIn hr) (pv 4) (pe_att hr (pv 0)) (by rfl))) (fun _ _ _ _ _ => pv 4)) rfl) (pss_cons (ps_fld (pv 0) (pe_dc (own := [("item", 4)]) (g := gName 4) (tt := tYes) rfl sc.nd (pi_list (pe_att hr (pv 0))) (blkOk_by (N := N_Frame_init) (sc := defScope s_Frame_init) (by decide +kernel)) (fun _ _ _ _ _ => pg_name (i := 4) sc.nd rfl (by first | exact Or.inl rfl | exact Or.inr rfl)) (fun _ _ _ _ _ => pts_nil) (fun _ _ _ _ _ => pv 4) (fun _ _ _ _ _ => pe_bm PySem.F.plainAttrs_list PySem.F.slot_list_index PySem.F.type_list_index mt_index (pv 2) (pa_cons (pv 4) (pa_nil)))) rfl) (pss_one (ps_fld (pv 0) (pe_cmpR (op_uEq hr) (pe_fn at_ (by rfl) (pa_cons (pv 1) (pa_nil))) (pe_g (by rfl) G.g_FRONTED) (nomark _)) rfl))))
abbrev s_Frame_room : Stmt := inClass (top 39) 1
abbrev N_Frame_room : List Str := ["self", "item", "before"]
abbrev ps_Frame_room : List Str := ["self", "item"]
theorem sc_Frame_room : FnScope N_Frame_room ["self", "item"] (defScope s_Frame_room) := ⟨rfl, rfl, rfl, by decide +kernel, rfl, by decide +kernel, by decide +kernel⟩
def t_Frame_room (P : Program) (w : World) (K : PySem.W.Frag) (mg : Str → Option Value) (base : Heap) (A : Ads) (E : XK) : TS :=
  tSeq (tAsg (tBM K "list" (rIndex K) (tAtt P w K mg base "marked" (tVar 0)) (tCons (tVar 1) (tNil))) (gName 2)) (tRet (tIf (tB (tAtt P w K mg base "is_fronted" (tVar 0))) (tOp uSub (tOp uSub (tCB (cLen K) (tCons (tAtt P w K mg base "marked" (tVar 0)) (tNil))) (tC (.int 1))) (tVar 2)) (tVar 2)))
theorem d_Frame_room {P : Program} {w : World} {K : PySem.W.Frag} {mg : Str → Option Value} {base : Heap} {A : Ads} {f : Addr} {cdv : Value} {Ar : Around} {outer : List Env} {s : Shared} {H : Hp} {E : XK} (G : Gm mg A) (hr : Room 2 (Ar.deeper (envOfC "Frame.room" (defScope s_Frame_room) s.heap.objs.size f cdv))) (qt : Quiet (Ar.deeper (envOfC "Frame.room" (defScope s_Frame_room) s.heap.objs.size f cdv))) :
    PSs (cxOf (L2.CX P w) P w K mg base N_Frame_room "Frame.room" (defScope s_Frame_room) f cdv Ar outer s H E) (defBody s_Frame_room) (t_Frame_room P w K mg base A E) := by
  have sc := sc_Frame_room
  have at_ : At (cxOf (L2.CX P w) P w K mg base N_Frame_room "Frame.room" (defScope s_Frame_room) f cdv Ar outer s H E) 2 E := At.of hr qt (takes_of rfl rfl rfl rfl)
  have pn : PassesOwn (model P w) (cxOf (L2.CX P w) P w K mg base N_Frame_room "Frame.room" (defScope s_Frame_room) f cdv Ar outer s H E).A (cxOf (L2.CX P w) P w K mg base N_Frame_room "Frame.room" (defScope s_Frame_room) f cdv Ar outer s H E).env (cxOf (L2.CX P w) P w K mg base N_Frame_room "Frame.room" (defScope s_Frame_room) f cdv Ar outer s H E).xe := passes_of rfl
  exact pss_cons (ps_set (i := 2) sc.nd rfl (by first | exact Or.inl rfl | exact Or.inr rfl) (pe_bm PySem.F.plainAttrs_list PySem.F.slot_list_index PySem.F.type_list_index mt_index (pe_att hr (pv 0)) (pa_cons (pv 1) (pa_nil)))) (pss_one (ps_ret (pe_ifExp (pt_val (pe_att hr (pv 0))) (pe_op op_uSub (pe_op op_uSub (pe_callB call_cLen (by rfl) G.g_len (by decide +kernel) (pa_cons (pe_att hr (pv 0)) (pa_nil))) (pe_int)) (pv 2)) (pv 2))))
abbrev s_Frame_shift : Stmt := inClass (top 39) 2
abbrev N_Frame_shift : List Str := ["self", "item", "distance"]
abbrev ps_Frame_shift : List Str := ["self", "item"]
theorem sc_Frame_shift : FnScope N_Frame_shift ["self", "item"] (defScope s_Frame_shift) := ⟨rfl, rfl, rfl, by decide +kernel, rfl, by decide +kernel, by decide +kernel⟩
def t_Frame_shift (P : Program) (w : World) (K : PySem.W.Frag) (mg : Str → Option Value) (base : Heap) (A : Ads) (E : XK) : TS :=
  tSeq (tAsg (tOp uSub (tDGet (tAtt P w K mg base "places" (tVar 0)) (tVar 1)) (tAtt P w K mg base "slot" (tDGet (tAtt P w K mg base "by_item" (tVar 0)) (tVar 1)))) (gName 2)) (tRet (tIf (tB (tAtt P w K mg base "is_fronted" (tVar 0))) (tUn uNeg (tVar 2)) (tVar 2)))
theorem d_Frame_shift {P : Program} {w : World} {K : PySem.W.Frag} {mg : Str → Option Value} {base : Heap} {A : Ads} {f : Addr} {cdv : Value} {Ar : Around} {outer : List Env} {s : Shared} {H : Hp} {E : XK} (G : Gm mg A) (hr : Room 2 (Ar.deeper (envOfC "Frame.shift" (defScope s_Frame_shift) s.heap.objs.size f cdv))) (qt : Quiet (Ar.deeper (envOfC "Frame.shift" (defScope s_Frame_shift) s.heap.objs.size f cdv))) :
    PSs (cxOf (L2.CX P w) P w K mg base N_Frame_shift "Frame.shift" (defScope s_Frame_shift) f cdv Ar outer s H E) (defBody s_Frame_shift) (t_Frame_shift P w K mg base A E) := by
  have sc := sc_Frame_shift
  have at_ : At (cxOf (L2.CX P w) P w K mg base N_Frame_shift "Frame.shift" (defScope s_Frame_shift) f cdv Ar outer s H E) 2 E := At.of hr qt (takes_of rfl rfl rfl rfl)
  have pn : PassesOwn (model P w) (cxOf (L2.CX P w) P w K mg base N_Frame_shift "Frame.shift" (defScope s_Frame_shift) f cdv Ar outer s H E).A (cxOf (L2.CX P w) P w K mg base N_Frame_shift "Frame.shift" (defScope s_Frame_shift) f cdv Ar outer s H E).env (cxOf (L2.CX P w) P w K mg base N_Frame_shift "Frame.shift" (defScope s_Frame_shift) f cdv Ar outer s H E).xe := passes_of rfl
  exact pss_cons (ps_set (i := 2) sc.nd rfl (by first | exact Or.inl rfl | exact Or.inr rfl) (pe_op op_uSub (pe_dget (hu_of hr) (pe_att hr (pv 0)) (pv 1) (fun _ _ => rfl)) (pe_att hr (pe_dget (hu_of hr) (pe_att hr (pv 0)) (pv 1) (fun _ _ => rfl))))) (pss_one (ps_ret (pe_ifExp (pt_val (pe_att hr (pv 0))) (pe_un un_uNeg (pv 2)) (pv 2))))
abbrev s_Frame_bounds : Stmt := inClass (top 39) 3
abbrev N_Frame_bounds : List Str := ["self", "item", "place", "room"]
abbrev ps_Frame_bounds : List Str := ["self", "item"]
theorem sc_Frame_bounds : FnScope N_Frame_bounds ["self", "item"] (defScope s_Frame_bounds) := ⟨rfl, rfl, rfl, by decide +kernel, rfl, by decide +kernel, by decide +kernel⟩
def t_Frame_bounds (P : Program) (w : World) (K : PySem.W.Frag) (mg : Str → Option Value) (base : Heap) (A : Ads) (E : XK) : TS :=
  tSeq (tPar 2 3 (tCons (tDGet (tAtt P w K mg base "places" (tVar 0)) (tVar 1)) (tCons (tMth P w K mg base "room" 3 E (tVar 0) (tCons (tVar 1) (tNil))) (tNil)))) (tRet (tIf (tB (tAtt P w K mg base "is_fronted" (tVar 0))) (tTup (tCons (tVar 2) (tCons (tOp uAdd (tVar 2) (tVar 3)) (tNil)))) (tTup (tCons (tOp uSub (tVar 2) (tVar 3)) (tCons (tVar 2) (tNil))))))
theorem d_Frame_bounds {P : Program} {w : World} {K : PySem.W.Frag} {mg : Str → Option Value} {base : Heap} {A : Ads} {f : Addr} {cdv : Value} {Ar : Around} {outer : List Env} {s : Shared} {H : Hp} {E : XK} (G : Gm mg A) (hr : Room 3 (Ar.deeper (envOfC "Frame.bounds" (defScope s_Frame_bounds) s.heap.objs.size f cdv))) (qt : Quiet (Ar.deeper (envOfC "Frame.bounds" (defScope s_Frame_bounds) s.heap.objs.size f cdv))) :
    PSs (cxOf (L2.CX P w) P w K mg base N_Frame_bounds "Frame.bounds" (defScope s_Frame_bounds) f cdv Ar outer s H E) (defBody s_Frame_bounds) (t_Frame_bounds P w K mg base A E) := by
  have sc := sc_Frame_bounds
  have at_ : At (cxOf (L2.CX P w) P w K mg base N_Frame_bounds "Frame.bounds" (defScope s_Frame_bounds) f cdv Ar outer s H E) 3 E := At.of hr qt (takes_of rfl rfl rfl rfl)
  have pn : PassesOwn (model P w) (cxOf (L2.CX P w) P w K mg base N_Frame_bounds "Frame.bounds" (defScope s_Frame_bounds) f cdv Ar outer s H E).A (cxOf (L2.CX P w) P w K mg base N_Frame_bounds "Frame.bounds" (defScope s_Frame_bounds) f cdv Ar outer s H E).env (cxOf (L2.CX P w) P w K mg base N_Frame_bounds "Frame.bounds" (defScope s_Frame_bounds) f cdv Ar outer s H E).xe := passes_of rfl
  exact pss_cons (ps_par rfl sc.nd rfl rfl (by decide) rfl rfl (pa_cons (pe_dget (hu_of hr) (pe_att hr (pv 0)) (pv 1) (fun _ _ => rfl)) (pa_cons (pe_mth at_ (pv 0) (pa_cons (pv 1) (pa_nil))) (pa_nil))) (by rfl)) (pss_one (ps_ret (pe_ifExp (pt_val (pe_att hr (pv 0))) (pe_tup (pa_cons (pv 2) (pa_cons (pe_op op_uAdd (pv 2) (pv 3)) (pa_nil)))) (pe_tup (pa_cons (pe_op op_uSub (pv 2) (pv 3)) (pa_cons (pv 2) (pa_nil)))))))
abbrev s_framed_log : Stmt := top 41
abbrev N_framed_log : List Str := ["log", "items"]
abbrev ps_framed_log : List Str := ["log", "items"]
theorem sc_framed_log : FnScope N_framed_log ["log", "items"] (defScope s_framed_log) := ⟨rfl, rfl, rfl, by decide +kernel, rfl, by decide +kernel, by decide +kernel⟩
def t_framed_log (P : Program) (w : World) (K : PySem.W.Frag) (mg : Str → Option Value) (base : Heap) (A : Ads) (E : XK) : TS :=
  tSeq (tDrop (tFn P w K mg base "need_log" 5 E (tCons (tVar 0) (tNil)))) (tSeq (tDrop (tFn P w K mg base "need_known" 5 E (tCons (tVar 0) (tCons (tVar 1) (tNil))))) (tRet (tMkr P w K mg base "Frame" 5 E (tCons (tVar 0) (tCons (tVar 1) (tNil))))))
theorem d_framed_log {P : Program} {w : World} {K : PySem.W.Frag} {mg : Str → Option Value} {base : Heap} {A : Ads} {f : Addr} {cdv : Value} {Ar : Around} {outer : List Env} {s : Shared} {H : Hp} {E : XK} (G : Gm mg A) (hr : Room 5 (Ar.deeper (envOfC "framed_log" (defScope s_framed_log) s.heap.objs.size f cdv))) (qt : Quiet (Ar.deeper (envOfC "framed_log" (defScope s_framed_log) s.heap.objs.size f cdv))) :
    PSs (cxOf (L2.CX P w) P w K mg base N_framed_log "framed_log" (defScope s_framed_log) f cdv Ar outer s H E) (defBody s_framed_log) (t_framed_log P w K mg base A E) := by
  have sc := sc_framed_log
  have at_ : At (cxOf (L2.CX P w) P w K mg base N_framed_log "framed_log" (defScope s_framed_log) f cdv Ar outer s H E) 5 E := At.of hr qt (takes_of rfl rfl rfl rfl)
  have pn : PassesOwn (model P w) (cxOf (L2.CX P w) P w K mg base N_framed_log "framed_log" (defScope s_framed_log) f cdv Ar outer s H E).A (cxOf (L2.CX P w) P w K mg base N_framed_log "framed_log" (defScope s_framed_log) f cdv Ar outer s H E).env (cxOf (L2.CX P w) P w K mg base N_framed_log "framed_log" (defScope s_framed_log) f cdv Ar outer s H E).xe := passes_of rfl
  exact pss_cons (ps_expr (pe_fn at_ (by rfl) (pa_cons (pv 0) (pa_nil)))) (pss_cons (ps_expr (pe_fn at_ (by rfl) (pa_cons (pv 0) (pa_cons (pv 1) (pa_nil))))) (pss_one (ps_ret (pe_mkr at_ (by rfl) (pa_cons (pv 0) (pa_cons (pv 1) (pa_nil)))))))
abbrev s_made : Stmt := top 29
abbrev N_made : List Str := ["sign", "item", "slot"]
abbrev ps_made : List Str := ["sign", "item", "slot"]
theorem sc_made : FnScope N_made ["sign", "item", "slot"] (defScope s_made) := ⟨rfl, rfl, rfl, by decide +kernel, rfl, by decide +kernel, by decide +kernel⟩
def t_made (P : Program) (w : World) (K : PySem.W.Frag) (mg : Str → Option Value) (base : Heap) (A : Ads) (E : XK) : TS :=
  tSeq (tIfS (tTest (tOp (uEq K) (tVar 0) (tC A.kINSERTED))) (tRet (tMkr P w K mg base "Inserted" 4 E (tCons (tVar 1) (tCons (tVar 2) (tNil))))) (tNext)) (tSeq (tIfS (tTest (tOp (uEq K) (tVar 0) (tC A.kREMOVED))) (tRet (tMkr P w K mg base "Removed" 4 E (tCons (tVar 1) (tCons (tVar 2) (tNil))))) (tNext)) (tRet (tIf (tTest (tOp (uEq K) (tVar 0) (tC A.kFRONTED))) (tMkr P w K mg base "Fronted" 4 E (tCons (tVar 1) (tCons (tVar 2) (tNil)))) (tMkr P w K mg base "Record" 4 E (tCons (tVar 1) (tCons (tVar 2) (tNil)))))))
theorem d_made {P : Program} {w : World} {K : PySem.W.Frag} {mg : Str → Option Value} {base : Heap} {A : Ads} {f : Addr} {cdv : Value} {Ar : Around} {outer : List Env} {s : Shared} {H : Hp} {E : XK} (G : Gm mg A) (hr : Room 4 (Ar.deeper (envOfC "made" (defScope s_made) s.heap.objs.size f cdv))) (qt : Quiet (Ar.deeper (envOfC "made" (defScope s_made) s.heap.objs.size f cdv))) :
    PSs (cxOf (L2.CX P w) P w K mg base N_made "made" (defScope s_made) f cdv Ar outer s H E) (defBody s_made) (t_made P w K mg base A E) := by
  have sc := sc_made
  have at_ : At (cxOf (L2.CX P w) P w K mg base N_made "made" (defScope s_made) f cdv Ar outer s H E) 4 E := At.of hr qt (takes_of rfl rfl rfl rfl)
  have pn : PassesOwn (model P w) (cxOf (L2.CX P w) P w K mg base N_made "made" (defScope s_made) f cdv Ar outer s H E).A (cxOf (L2.CX P w) P w K mg base N_made "made" (defScope s_made) f cdv Ar outer s H E).env (cxOf (L2.CX P w) P w K mg base N_made "made" (defScope s_made) f cdv Ar outer s H E).xe := passes_of rfl
  exact pss_cons (ps_if (pt_cmpR (op_uEq hr) (pv 0) (pe_g (by rfl) G.g_INSERTED) (nomark _)) (pss_one (ps_ret (pe_mkr at_ (by rfl) (pa_cons (pv 1) (pa_cons (pv 2) (pa_nil)))))) (pss_nil)) (pss_cons (ps_if (pt_cmpR (op_uEq hr) (pv 0) (pe_g (by rfl) G.g_REMOVED) (nomark _)) (pss_one (ps_ret (pe_mkr at_ (by rfl) (pa_cons (pv 1) (pa_cons (pv 2) (pa_nil)))))) (pss_nil)) (pss_one (ps_ret (pe_ifExp (pt_cmpR (op_uEq hr) (pv 0) (pe_g (by rfl) G.g_FRONTED) (nomark _)) (pe_mkr at_ (by rfl) (pa_cons (pv 1) (pa_cons (pv 2) (pa_nil)))) (pe_mkr at_ (by rfl) (pa_cons (pv 1) (pa_cons (pv 2) (pa_nil))))))))
abbrev s_wrong_items : Stmt := top 42
abbrev N_wrong_items : List Str := ["log", "items", "frame", "item"]
abbrev ps_wrong_items : List Str := ["log", "items"]
theorem sc_wrong_items : FnScope N_wrong_items ["log", "items"] (defScope s_wrong_items) := ⟨rfl, rfl, rfl, by decide +kernel, rfl, by decide +kernel, by decide +kernel⟩
def t_wrong_items (P : Program) (w : World) (K : PySem.W.Frag) (mg : Str → Option Value) (base : Heap) (A : Ads) (E : XK) : TS :=
  tSeq (tAsg (tFn P w K mg base "framed_log" 6 E (tCons (tVar 0) (tCons (tVar 1) (tNil)))) (gName 2)) (tRet (tLc (iList K (tAtt P w K mg base "marked" (tVar 2))) (gName 3) (tNot (tTest (tChain uLe uLe (tC (.int 0)) (tMth P w K mg base "shift" 6 E0 (tVar 2) (tCons (tVar 3) (tNil))) (tMth P w K mg base "room" 6 E0 (tVar 2) (tCons (tVar 3) (tNil)))))) (tVar 3) [3]))
theorem d_wrong_items {P : Program} {w : World} {K : PySem.W.Frag} {mg : Str → Option Value} {base : Heap} {A : Ads} {f : Addr} {cdv : Value} {Ar : Around} {outer : List Env} {s : Shared} {H : Hp} {E : XK} (G : Gm mg A) (hr : Room 6 (Ar.deeper (envOfC "wrong_items" (defScope s_wrong_items) s.heap.objs.size f cdv))) (qt : Quiet (Ar.deeper (envOfC "wrong_items" (defScope s_wrong_items) s.heap.objs.size f cdv))) :
    PSs (cxOf (L2.CX P w) P w K mg base N_wrong_items "wrong_items" (defScope s_wrong_items) f cdv Ar outer s H E) (defBody s_wrong_items) (t_wrong_items P w K mg base A E) := by
  have sc := sc_wrong_items
  have at_ : At (cxOf (L2.CX P w) P w K mg base N_wrong_items "wrong_items" (defScope s_wrong_items) f cdv Ar outer s H E) 6 E := At.of hr qt (takes_of rfl rfl rfl rfl)
  have pn : PassesOwn (model P w) (cxOf (L2.CX P w) P w K mg base N_wrong_items "wrong_items" (defScope s_wrong_items) f cdv Ar outer s H E).A (cxOf (L2.CX P w) P w K mg base N_wrong_items "wrong_items" (defScope s_wrong_items) f cdv Ar outer s H E).env (cxOf (L2.CX P w) P w K mg base N_wrong_items "wrong_items" (defScope s_wrong_items) f cdv Ar outer s H E).xe := passes_of rfl
  exact pss_cons (ps_set (i := 2) sc.nd rfl (by first | exact Or.inl rfl | exact Or.inr rfl) (pe_fn at_ (by rfl) (pa_cons (pv 0) (pa_cons (pv 1) (pa_nil))))) (pss_one (ps_ret (pe_lc (own := [("item", 3)]) (g := gName 3) (tt := tNot (tTest (tChain uLe uLe (tC (.int 0)) (tMth P w K mg base "shift" 6 E0 (tVar 2) (tCons (tVar 3) (tNil))) (tMth P w K mg base "room" 6 E0 (tVar 2) (tCons (tVar 3) (tNil)))))) rfl sc.nd (pi_list (pe_att hr (pv 2))) (blkOk_by (N := N_wrong_items) (sc := defScope s_wrong_items) (by decide +kernel)) (fun _ _ _ _ _ => pg_name (i := 3) sc.nd rfl (by first | exact Or.inl rfl | exact Or.inr rfl)) (fun _ _ _ _ _ => pts_one (pt_not (pt_chain op_uLe op_uLe (pe_int) (pe_mth (At.e0 hr qt) (pv 2) (pa_cons (pv 3) (pa_nil))) (pe_mth (At.e0 hr qt) (pv 2) (pa_cons (pv 3) (pa_nil)))))) (fun _ _ _ _ _ => pv 3))))
abbrev s_nearest : Stmt := top 43
abbrev N_nearest : List Str := ["log", "items", "frame", "found", "record", "least", "greatest"]
abbrev ps_nearest : List Str := ["log", "items"]
theorem sc_nearest : FnScope N_nearest ["log", "items"] (defScope s_nearest) := ⟨rfl, rfl, rfl, by decide +kernel, rfl, by decide +kernel, by decide +kernel⟩
def t_nearest (P : Program) (w : World) (K : PySem.W.Frag) (mg : Str → Option Value) (base : Heap) (A : Ads) (E : XK) : TS :=
  tSeq (tAsg (tFn P w K mg base "framed_log" 6 E (tCons (tVar 0) (tCons (tVar 1) (tNil)))) (gName 2)) (tSeq (tAsg (tLst (tNil)) (gName 3)) (tSeq (tFor (iList K (tVar 0)) (gName 4) (tSeq (tAsg (tMth P w K mg base "bounds" 6 E (tVar 2) (tCons (tAtt P w K mg base "item" (tVar 4)) (tNil))) (gTup K 2 (gCons (gName 5) (gCons (gName 6) (gNil))))) (tDrop (tBM K "list" rAppend (tVar 3) (tCons (tFn P w K mg base "made" 6 E (tCons (tAtt P w K mg base "SIGN" (tVar 4)) (tCons (tAtt P w K mg base "item" (tVar 4)) (tCons (tCB (cMin K) (tCons (tCB (cMax K) (tCons (tAtt P w K mg base "slot" (tVar 4)) (tCons (tVar 5) (tNil)))) (tCons (tVar 6) (tNil)))) (tNil))))) (tNil)))))) (tRet (tVar 3))))
theorem d_nearest {P : Program} {w : World} {K : PySem.W.Frag} {mg : Str → Option Value} {base : Heap} {A : Ads} {f : Addr} {cdv : Value} {Ar : Around} {outer : List Env} {s : Shared} {H : Hp} {E : XK} (G : Gm mg A) (hr : Room 6 (Ar.deeper (envOfC "nearest" (defScope s_nearest) s.heap.objs.size f cdv))) (qt : Quiet (Ar.deeper (envOfC "nearest" (defScope s_nearest) s.heap.objs.size f cdv))) :
    PSs (cxOf (L2.CX P w) P w K mg base N_nearest "nearest" (defScope s_nearest) f cdv Ar outer s H E) (defBody s_nearest) (t_nearest P w K mg base A E) := by
  have sc := sc_nearest
  have at_ : At (cxOf (L2.CX P w) P w K mg base N_nearest "nearest" (defScope s_nearest) f cdv Ar outer s H E) 6 E := At.of hr qt (takes_of rfl rfl rfl rfl)
  have pn : PassesOwn (model P w) (cxOf (L2.CX P w) P w K mg base N_nearest "nearest" (defScope s_nearest) f cdv Ar outer s H E).A (cxOf (L2.CX P w) P w K mg base N_nearest "nearest" (defScope s_nearest) f cdv Ar outer s H E).env (cxOf (L2.CX P w) P w K mg base N_nearest "nearest" (defScope s_nearest) f cdv Ar outer s H E).xe := passes_of rfl
  exact pss_cons (ps_set (i := 2) sc.nd rfl (by first | exact Or.inl rfl | exact Or.inr rfl) (pe_fn at_ (by rfl) (pa_cons (pv 0) (pa_cons (pv 1) (pa_nil))))) (pss_cons (ps_set (i := 3) sc.nd rfl (by first | exact Or.inl rfl | exact Or.inr rfl) (pe_lst (pa_nil))) (pss_cons (ps_for pn rfl (pi_list (pv 0)) (pg_name (i := 4) sc.nd rfl (by first | exact Or.inl rfl | exact Or.inr rfl)) (pss_cons (ps_asg (pe_mth at_ (pv 2) (pa_cons (pe_att hr (pv 4)) (pa_nil))) (pg_tup rfl (pgs_cons (pg_name (i := 5) sc.nd rfl (by first | exact Or.inl rfl | exact Or.inr rfl)) (pgs_cons (pg_name (i := 6) sc.nd rfl (by first | exact Or.inl rfl | exact Or.inr rfl)) (pgs_nil))))) (pss_one (ps_expr (pe_bm PySem.F.plainAttrs_list PySem.F.slot_list_append PySem.F.type_list_append mt_append (pv 3) (pa_cons (pe_fn at_ (by rfl) (pa_cons (pe_att hr (pv 4)) (pa_cons (pe_att hr (pv 4)) (pa_cons (pe_callB (call_cMin rfl) (by rfl) G.g_min (by decide +kernel) (pa_cons (pe_callB (call_cMax rfl) (by rfl) G.g_max (by decide +kernel) (pa_cons (pe_att hr (pv 4)) (pa_cons (pv 5) (pa_nil)))) (pa_cons (pv 6) (pa_nil)))) (pa_nil))))) (pa_nil))))))) (pss_one (ps_ret (pv 3)))))
abbrev s_law_tape : Stmt := top 45
abbrev N_law_tape : List Str := ["_law_script", "_law_k", "_law_cell"]
abbrev ps_law_tape : List Str := ["_law_script", "_law_k"]
theorem sc_law_tape : FnScope N_law_tape ["_law_script", "_law_k"] (defScope s_law_tape) := ⟨rfl, rfl, rfl, by decide +kernel, rfl, by decide +kernel, by decide +kernel⟩
def t_law_tape (P : Program) (w : World) (K : PySem.W.Frag) (mg : Str → Option Value) (base : Heap) (A : Ads) (E : XK) : TS :=
  tSeq (tAsg (tIf (tTest (tOp uLt (tVar 1) (tCB (cLen K) (tCons (tVar 0) (tNil))))) (tCB (cAbs) (tCons (tOp (uIx K) (tVar 0) (tVar 1)) (tNil))) (tC (.int 0))) (gName 2)) (tRet (tLst (tCons (tCB (cMax K) (tCons (tC (.int 0)) (tCons (tOp uSub (tVar 2) (tOp uPow (tC (.int 10)) (tC (.int 18)))) (tNil)))) (tCons (tOp uAdd (tOp uMul (tOp uMod (tVar 2) (tOp uAdd (tOp uPow (tC (.int 10)) (tC (.int 39))) (tC (.int 3)))) (tC (.int 71))) (tVar 1)) (tCons (tC (.int 0)) (tNil))))))
theorem d_law_tape {P : Program} {w : World} {K : PySem.W.Frag} {mg : Str → Option Value} {base : Heap} {A : Ads} {f : Addr} {cdv : Value} {Ar : Around} {outer : List Env} {s : Shared} {H : Hp} {E : XK} (G : Gm mg A) (hr : Room 1 (Ar.deeper (envOfC "_law_tape" (defScope s_law_tape) s.heap.objs.size f cdv))) (qt : Quiet (Ar.deeper (envOfC "_law_tape" (defScope s_law_tape) s.heap.objs.size f cdv))) :
    PSs (cxOf (L2.CX P w) P w K mg base N_law_tape "_law_tape" (defScope s_law_tape) f cdv Ar outer s H E) (defBody s_law_tape) (t_law_tape P w K mg base A E) := by
  have sc := sc_law_tape
  have at_ : At (cxOf (L2.CX P w) P w K mg base N_law_tape "_law_tape" (defScope s_law_tape) f cdv Ar outer s H E) 1 E := At.of hr qt (takes_of rfl rfl rfl rfl)
  have pn : PassesOwn (model P w) (cxOf (L2.CX P w) P w K mg base N_law_tape "_law_tape" (defScope s_law_tape) f cdv Ar outer s H E).A (cxOf (L2.CX P w) P w K mg base N_law_tape "_law_tape" (defScope s_law_tape) f cdv Ar outer s H E).env (cxOf (L2.CX P w) P w K mg base N_law_tape "_law_tape" (defScope s_law_tape) f cdv Ar outer s H E).xe := passes_of rfl
  exact pss_cons (ps_set (i := 2) sc.nd rfl (by first | exact Or.inl rfl | exact Or.inr rfl) (pe_ifExp (pt_cmpR op_uLt (pv 1) (pe_callB call_cLen (by rfl) G.g_len (by decide +kernel) (pa_cons (pv 0) (pa_nil))) (nomark _)) (pe_callB call_cAbs (by rfl) G.g_abs (by decide +kernel) (pa_cons (pe_ix ix_u (pv 0) (pv 1) (fun _ _ => rfl)) (pa_nil))) (pe_int))) (pss_one (ps_ret (pe_lst (pa_cons (pe_callB (call_cMax rfl) (by rfl) G.g_max (by decide +kernel) (pa_cons (pe_int) (pa_cons (pe_op op_uSub (pv 2) (pe_op op_uPow (pe_int) (pe_int))) (pa_nil)))) (pa_cons (pe_op op_uAdd (pe_op op_uMul (pe_op op_uMod (pv 2) (pe_op op_uAdd (pe_op op_uPow (pe_int) (pe_int)) (pe_int))) (pe_int)) (pv 1)) (pa_cons (pe_int) (pa_nil)))))))
abbrev s_law_next : Stmt := top 46
abbrev N_law_next : List Str := ["_law_tape_here", "_law_size", "_law_digit", "_law_mixed"]
abbrev ps_law_next : List Str := ["_law_tape_here", "_law_size"]
theorem sc_law_next : FnScope N_law_next ["_law_tape_here", "_law_size"] (defScope s_law_next) := ⟨rfl, rfl, rfl, by decide +kernel, rfl, by decide +kernel, by decide +kernel⟩
def t_law_next (P : Program) (w : World) (K : PySem.W.Frag) (mg : Str → Option Value) (base : Heap) (A : Ads) (E : XK) : TS :=
  tSeq (tIfS (tTest (tOp uGt (tOp (uIx K) (tVar 0) (tC (.int 0))) (tC (.int 0)))) (tSeq (tAsg (tOp uMod (tOp (uIx K) (tVar 0) (tC (.int 0))) (tVar 1)) (gName 2)) (tSeq (tAsg (tOp uDiv (tOp (uIx K) (tVar 0) (tC (.int 0))) (tVar 1)) (gSub (tVar 0) (tC (.int 0)) rSetL)) (tRet (tVar 2)))) (tNext)) (tSeq (tAsg (tOp uAdd (tOp (uIx K) (tVar 0) (tC (.int 2))) (tC (.int 1))) (gSub (tVar 0) (tC (.int 2)) rSetL)) (tSeq (tAsg (tOp uMod (tOp uPow (tOp uAdd (tOp (uIx K) (tVar 0) (tC (.int 1))) (tOp uMul (tC (.int 10000019)) (tOp (uIx K) (tVar 0) (tC (.int 2))))) (tC (.int 3))) (tOp uAdd (tOp uPow (tC (.int 10)) (tC (.int 41))) (tC (.int 37)))) (gName 3)) (tSeq (tAsg (tOp uMod (tOp uPow (tOp uAdd (tVar 3) (tOp uMul (tC (.int 32452843)) (tOp (uIx K) (tVar 0) (tC (.int 2))))) (tC (.int 3))) (tOp uAdd (tOp uPow (tC (.int 10)) (tC (.int 38))) (tC (.int 133)))) (gName 3)) (tRet (tOp uMod (tOp uDiv (tVar 3) (tC (.int 8191))) (tVar 1))))))
theorem d_law_next {P : Program} {w : World} {K : PySem.W.Frag} {mg : Str → Option Value} {base : Heap} {A : Ads} {f : Addr} {cdv : Value} {Ar : Around} {outer : List Env} {s : Shared} {H : Hp} {E : XK} (G : Gm mg A) (hr : Room 1 (Ar.deeper (envOfC "_law_next" (defScope s_law_next) s.heap.objs.size f cdv))) (qt : Quiet (Ar.deeper (envOfC "_law_next" (defScope s_law_next) s.heap.objs.size f cdv))) :
    PSs (cxOf (L2.CX P w) P w K mg base N_law_next "_law_next" (defScope s_law_next) f cdv Ar outer s H E) (defBody s_law_next) (t_law_next P w K mg base A E) := by
  have sc := sc_law_next
  have at_ : At (cxOf (L2.CX P w) P w K mg base N_law_next "_law_next" (defScope s_law_next) f cdv Ar outer s H E) 1 E := At.of hr qt (takes_of rfl rfl rfl rfl)
  have pn : PassesOwn (model P w) (cxOf (L2.CX P w) P w K mg base N_law_next "_law_next" (defScope s_law_next) f cdv Ar outer s H E).A (cxOf (L2.CX P w) P w K mg base N_law_next "_law_next" (defScope s_law_next) f cdv Ar outer s H E).env (cxOf (L2.CX P w) P w K mg base N_law_next "_law_next" (defScope s_law_next) f cdv Ar outer s H E).xe := passes_of rfl
  exact pss_cons (ps_if (pt_cmpR op_uGt (pe_ix ix_u (pv 0) (pe_int) (fun _ _ => rfl)) (pe_int) (nomark _)) (pss_cons (ps_set (i := 2) sc.nd rfl (by first | exact Or.inl rfl | exact Or.inr rfl) (pe_op op_uMod (pe_ix ix_u (pv 0) (pe_int) (fun _ _ => rfl)) (pv 1))) (pss_cons (ps_asg (pe_op op_uDiv (pe_ix ix_u (pv 0) (pe_int) (fun _ _ => rfl)) (pv 1)) (pg_sub (pv 0) (pe_int) set_list)) (pss_one (ps_ret (pv 2))))) (pss_nil)) (pss_cons (ps_asg (pe_op op_uAdd (pe_ix ix_u (pv 0) (pe_int) (fun _ _ => rfl)) (pe_int)) (pg_sub (pv 0) (pe_int) set_list)) (pss_cons (ps_set (i := 3) sc.nd rfl (by first | exact Or.inl rfl | exact Or.inr rfl) (pe_op op_uMod (pe_op op_uPow (pe_op op_uAdd (pe_ix ix_u (pv 0) (pe_int) (fun _ _ => rfl)) (pe_op op_uMul (pe_int) (pe_ix ix_u (pv 0) (pe_int) (fun _ _ => rfl)))) (pe_int)) (pe_op op_uAdd (pe_op op_uPow (pe_int) (pe_int)) (pe_int)))) (pss_cons (ps_set (i := 3) sc.nd rfl (by first | exact Or.inl rfl | exact Or.inr rfl) (pe_op op_uMod (pe_op op_uPow (pe_op op_uAdd (pv 3) (pe_op op_uMul (pe_int) (pe_ix ix_u (pv 0) (pe_int) (fun _ _ => rfl)))) (pe_int)) (pe_op op_uAdd (pe_op op_uPow (pe_int) (pe_int)) (pe_int)))) (pss_one (ps_ret (pe_op op_uMod (pe_op op_uDiv (pv 3) (pe_int)) (pv 1)))))))
abbrev s_law_items : Stmt := top 47
abbrev N_law_items : List Str := ["_law_tape_here", "_law_many", "_law_signs", "_law_pool", "_law_sign", "_law_k"]
abbrev ps_law_items : List Str := ["_law_tape_here", "_law_many"]
theorem sc_law_items : FnScope N_law_items ["_law_tape_here", "_law_many"] (defScope s_law_items) := ⟨rfl, rfl, rfl, by decide +kernel, rfl, by decide +kernel, by decide +kernel⟩
def t_law_items (P : Program) (w : World) (K : PySem.W.Frag) (mg : Str → Option Value) (base : Heap) (A : Ads) (E : XK) : TS :=
  tSeq (tAsg (tC (.str "abcdefghijklmnopqrstuvwxyz")) (gName 2)) (tSeq (tAsg (tOp uAdd (tOp uAdd (tLc (iStr (tVar 2)) (gName 4) (tYes) (tVar 4) [4]) (tLc (iStr (tVar 2)) (gName 4) (tYes) (tOp uAdd (tC (.str "z")) (tVar 4)) [4])) (tLc (iStr (tVar 2)) (gName 4) (tYes) (tOp uAdd (tC (.str "abcdefg")) (tVar 4)) [4])) (gName 3)) (tRet (tLc (iRng1 (tCons (tVar 1) (tNil))) (gName 5) (tYes) (tBM K "list" rPopAt (tVar 3) (tCons (tFn P w K mg base "_law_next" 2 E0 (tCons (tVar 0) (tCons (tCB (cLen K) (tCons (tVar 3) (tNil))) (tNil)))) (tNil))) [5])))
theorem d_law_items {P : Program} {w : World} {K : PySem.W.Frag} {mg : Str → Option Value} {base : Heap} {A : Ads} {f : Addr} {cdv : Value} {Ar : Around} {outer : List Env} {s : Shared} {H : Hp} {E : XK} (G : Gm mg A) (hr : Room 2 (Ar.deeper (envOfC "_law_items" (defScope s_law_items) s.heap.objs.size f cdv))) (qt : Quiet (Ar.deeper (envOfC "_law_items" (defScope s_law_items) s.heap.objs.size f cdv))) :
    PSs (cxOf (L2.CX P w) P w K mg base N_law_items "_law_items" (defScope s_law_items) f cdv Ar outer s H E) (defBody s_law_items) (t_law_items P w K mg base A E) := by
  have sc := sc_law_items
  have at_ : At (cxOf (L2.CX P w) P w K mg base N_law_items "_law_items" (defScope s_law_items) f cdv Ar outer s H E) 2 E := At.of hr qt (takes_of rfl rfl rfl rfl)
  have pn : PassesOwn (model P w) (cxOf (L2.CX P w) P w K mg base N_law_items "_law_items" (defScope s_law_items) f cdv Ar outer s H E).A (cxOf (L2.CX P w) P w K mg base N_law_items "_law_items" (defScope s_law_items) f cdv Ar outer s H E).env (cxOf (L2.CX P w) P w K mg base N_law_items "_law_items" (defScope s_law_items) f cdv Ar outer s H E).xe := passes_of rfl
  exact pss_cons (ps_set (i := 2) sc.nd rfl (by first | exact Or.inl rfl | exact Or.inr rfl) (pe_str)) (pss_cons (ps_set (i := 3) sc.nd rfl (by first | exact Or.inl rfl | exact Or.inr rfl) (pe_op op_uAdd (pe_op op_uAdd (pe_lc (own := [("_law_sign", 4)]) (g := gName 4) (tt := tYes) rfl sc.nd (pi_str (pv 2)) (blkOk_by (N := N_law_items) (sc := defScope s_law_items) (by decide +kernel)) (fun _ _ _ _ _ => pg_name (i := 4) sc.nd rfl (by first | exact Or.inl rfl | exact Or.inr rfl)) (fun _ _ _ _ _ => pts_nil) (fun _ _ _ _ _ => pv 4)) (pe_lc (own := [("_law_sign", 4)]) (g := gName 4) (tt := tYes) rfl sc.nd (pi_str (pv 2)) (blkOk_by (N := N_law_items) (sc := defScope s_law_items) (by decide +kernel)) (fun _ _ _ _ _ => pg_name (i := 4) sc.nd rfl (by first | exact Or.inl rfl | exact Or.inr rfl)) (fun _ _ _ _ _ => pts_nil) (fun _ _ _ _ _ => pe_op op_uAdd (pe_str) (pv 4)))) (pe_lc (own := [("_law_sign", 4)]) (g := gName 4) (tt := tYes) rfl sc.nd (pi_str (pv 2)) (blkOk_by (N := N_law_items) (sc := defScope s_law_items) (by decide +kernel)) (fun _ _ _ _ _ => pg_name (i := 4) sc.nd rfl (by first | exact Or.inl rfl | exact Or.inr rfl)) (fun _ _ _ _ _ => pts_nil) (fun _ _ _ _ _ => pe_op op_uAdd (pe_str) (pv 4))))) (pss_one (ps_ret (pe_lc (own := [("_law_k", 5)]) (g := gName 5) (tt := tYes) rfl sc.nd (pi_range1 (by rfl) G.g_range (pa_cons (pv 1) (pa_nil))) (blkOk_by (N := N_law_items) (sc := defScope s_law_items) (by decide +kernel)) (fun _ _ _ _ _ => pg_name (i := 5) sc.nd rfl (by first | exact Or.inl rfl | exact Or.inr rfl)) (fun _ _ _ _ _ => pts_nil) (fun _ _ _ _ _ => pe_bm PySem.F.plainAttrs_list PySem.F.slot_list_pop PySem.F.type_list_pop mt_popAt (pv 3) (pa_cons (pe_fn (At.e0 hr qt) (by rfl) (pa_cons (pv 0) (pa_cons (pe_callB call_cLen (by rfl) G.g_len (by decide +kernel) (pa_cons (pv 3) (pa_nil))) (pa_nil)))) (pa_nil)))))))
abbrev s_law_made : Stmt := top 48
abbrev N_law_made : List Str := ["_law_kind", "_law_item", "_law_slot"]
abbrev ps_law_made : List Str := ["_law_kind", "_law_item", "_law_slot"]
theorem sc_law_made : FnScope N_law_made ["_law_kind", "_law_item", "_law_slot"] (defScope s_law_made) := ⟨rfl, rfl, rfl, by decide +kernel, rfl, by decide +kernel, by decide +kernel⟩
def t_law_made (P : Program) (w : World) (K : PySem.W.Frag) (mg : Str → Option Value) (base : Heap) (A : Ads) (E : XK) : TS :=
  tSeq (tIfS (tTest (tOp (uEq K) (tVar 0) (tC (.int 0)))) (tRet (tMkr P w K mg base "Inserted" 4 E (tCons (tVar 1) (tCons (tVar 2) (tNil))))) (tNext)) (tRet (tIf (tTest (tOp (uEq K) (tVar 0) (tC (.int 1)))) (tMkr P w K mg base "Removed" 4 E (tCons (tVar 1) (tCons (tVar 2) (tNil)))) (tMkr P w K mg base "Fronted" 4 E (tCons (tVar 1) (tCons (tVar 2) (tNil))))))
theorem d_law_made {P : Program} {w : World} {K : PySem.W.Frag} {mg : Str → Option Value} {base : Heap} {A : Ads} {f : Addr} {cdv : Value} {Ar : Around} {outer : List Env} {s : Shared} {H : Hp} {E : XK} (G : Gm mg A) (hr : Room 4 (Ar.deeper (envOfC "_law_made" (defScope s_law_made) s.heap.objs.size f cdv))) (qt : Quiet (Ar.deeper (envOfC "_law_made" (defScope s_law_made) s.heap.objs.size f cdv))) :
    PSs (cxOf (L2.CX P w) P w K mg base N_law_made "_law_made" (defScope s_law_made) f cdv Ar outer s H E) (defBody s_law_made) (t_law_made P w K mg base A E) := by
  have sc := sc_law_made
  have at_ : At (cxOf (L2.CX P w) P w K mg base N_law_made "_law_made" (defScope s_law_made) f cdv Ar outer s H E) 4 E := At.of hr qt (takes_of rfl rfl rfl rfl)
  have pn : PassesOwn (model P w) (cxOf (L2.CX P w) P w K mg base N_law_made "_law_made" (defScope s_law_made) f cdv Ar outer s H E).A (cxOf (L2.CX P w) P w K mg base N_law_made "_law_made" (defScope s_law_made) f cdv Ar outer s H E).env (cxOf (L2.CX P w) P w K mg base N_law_made "_law_made" (defScope s_law_made) f cdv Ar outer s H E).xe := passes_of rfl
  exact pss_cons (ps_if (pt_cmpR (op_uEq hr) (pv 0) (pe_int) (nomark _)) (pss_one (ps_ret (pe_mkr at_ (by rfl) (pa_cons (pv 1) (pa_cons (pv 2) (pa_nil)))))) (pss_nil)) (pss_one (ps_ret (pe_ifExp (pt_cmpR (op_uEq hr) (pv 0) (pe_int) (nomark _)) (pe_mkr at_ (by rfl) (pa_cons (pv 1) (pa_cons (pv 2) (pa_nil)))) (pe_mkr at_ (by rfl) (pa_cons (pv 1) (pa_cons (pv 2) (pa_nil)))))))
abbrev s_law_facts : Stmt := top 49
abbrev N_law_facts : List Str := ["_law_log", "_law_found", "_law_record", "_law_kinds"]
abbrev ps_law_facts : List Str := ["_law_log"]
theorem sc_law_facts : FnScope N_law_facts ["_law_log"] (defScope s_law_facts) := ⟨rfl, rfl, rfl, by decide +kernel, rfl, by decide +kernel, by decide +kernel⟩
def t_law_facts (P : Program) (w : World) (K : PySem.W.Frag) (mg : Str → Option Value) (base : Heap) (A : Ads) (E : XK) : TS :=
  tSeq (tAsg (tLst (tNil)) (gName 1)) (tSeq (tFor (iList K (tVar 0)) (gName 2) (tSeq (tAsg (tLst (tCons (tCB (cIsi K) (tCons (tVar 2) (tCons (tC (.ref A.cInserted)) (tNil)))) (tCons (tCB (cIsi K) (tCons (tVar 2) (tCons (tC (.ref A.cRemoved)) (tNil)))) (tCons (tCB (cIsi K) (tCons (tVar 2) (tCons (tC (.ref A.cFronted)) (tNil)))) (tNil))))) (gName 3)) (tDrop (tBM K "list" rAppend (tVar 1) (tCons (tTup (tCons (tVar 3) (tCons (tAtt P w K mg base "item" (tVar 2)) (tCons (tAtt P w K mg base "slot" (tVar 2)) (tNil))))) (tNil)))))) (tRet (tVar 1)))
theorem d_law_facts {P : Program} {w : World} {K : PySem.W.Frag} {mg : Str → Option Value} {base : Heap} {A : Ads} {f : Addr} {cdv : Value} {Ar : Around} {outer : List Env} {s : Shared} {H : Hp} {E : XK} (G : Gm mg A) (hr : Room 2 (Ar.deeper (envOfC "_law_facts" (defScope s_law_facts) s.heap.objs.size f cdv))) (qt : Quiet (Ar.deeper (envOfC "_law_facts" (defScope s_law_facts) s.heap.objs.size f cdv))) :
    PSs (cxOf (L2.CX P w) P w K mg base N_law_facts "_law_facts" (defScope s_law_facts) f cdv Ar outer s H E) (defBody s_law_facts) (t_law_facts P w K mg base A E) := by
  have sc := sc_law_facts
  have at_ : At (cxOf (L2.CX P w) P w K mg base N_law_facts "_law_facts" (defScope s_law_facts) f cdv Ar outer s H E) 2 E := At.of hr qt (takes_of rfl rfl rfl rfl)
  have pn : PassesOwn (model P w) (cxOf (L2.CX P w) P w K mg base N_law_facts "_law_facts" (defScope s_law_facts) f cdv Ar outer s H E).A (cxOf (L2.CX P w) P w K mg base N_law_facts "_law_facts" (defScope s_law_facts) f cdv Ar outer s H E).env (cxOf (L2.CX P w) P w K mg base N_law_facts "_law_facts" (defScope s_law_facts) f cdv Ar outer s H E).xe := passes_of rfl
  exact pss_cons (ps_set (i := 1) sc.nd rfl (by first | exact Or.inl rfl | exact Or.inr rfl) (pe_lst (pa_nil))) (pss_cons (ps_for pn rfl (pi_list (pv 0)) (pg_name (i := 2) sc.nd rfl (by first | exact Or.inl rfl | exact Or.inr rfl)) (pss_cons (ps_set (i := 3) sc.nd rfl (by first | exact Or.inl rfl | exact Or.inr rfl) (pe_lst (pa_cons (pe_callB call_cIsi (by rfl) G.g_isinstance (by decide +kernel) (pa_cons (pv 2) (pa_cons (pe_g (by rfl) ⟨_, G.cInserted, rfl⟩) (pa_nil)))) (pa_cons (pe_callB call_cIsi (by rfl) G.g_isinstance (by decide +kernel) (pa_cons (pv 2) (pa_cons (pe_g (by rfl) ⟨_, G.cRemoved, rfl⟩) (pa_nil)))) (pa_cons (pe_callB call_cIsi (by rfl) G.g_isinstance (by decide +kernel) (pa_cons (pv 2) (pa_cons (pe_g (by rfl) ⟨_, G.cFronted, rfl⟩) (pa_nil)))) (pa_nil)))))) (pss_one (ps_expr (pe_bm PySem.F.plainAttrs_list PySem.F.slot_list_append PySem.F.type_list_append mt_append (pv 1) (pa_cons (pe_tup (pa_cons (pv 3) (pa_cons (pe_att hr (pv 2)) (pa_cons (pe_att hr (pv 2)) (pa_nil))))) (pa_nil))))))) (pss_one (ps_ret (pv 1))))
abbrev s_law_drawn : Stmt := top 50
abbrev N_law_drawn : List Str := ["_law_tape_here", "_law_items_here", "_law_most", "_law_left", "_law_many", "_law_k"]
abbrev ps_law_drawn : List Str := ["_law_tape_here", "_law_items_here", "_law_most"]
theorem sc_law_drawn : FnScope N_law_drawn ["_law_tape_here", "_law_items_here", "_law_most"] (defScope s_law_drawn) := ⟨rfl, rfl, rfl, by decide +kernel, rfl, by decide +kernel, by decide +kernel⟩
def t_law_drawn (P : Program) (w : World) (K : PySem.W.Frag) (mg : Str → Option Value) (base : Heap) (A : Ads) (E : XK) : TS :=
  tSeq (tAsg (tCB (cList K) (tCons (tVar 1) (tNil))) (gName 3)) (tSeq (tAsg (tFn P w K mg base "_law_next" 2 E (tCons (tVar 0) (tCons (tOp uAdd (tCB (cMin K) (tCons (tVar 2) (tCons (tCB (cLen K) (tCons (tVar 3) (tNil))) (tNil)))) (tC (.int 1))) (tNil)))) (gName 4)) (tRet (tLc (iRng1 (tCons (tVar 4) (tNil))) (gName 5) (tYes) (tBM K "list" rPopAt (tVar 3) (tCons (tFn P w K mg base "_law_next" 2 E0 (tCons (tVar 0) (tCons (tCB (cLen K) (tCons (tVar 3) (tNil))) (tNil)))) (tNil))) [5])))
theorem d_law_drawn {P : Program} {w : World} {K : PySem.W.Frag} {mg : Str → Option Value} {base : Heap} {A : Ads} {f : Addr} {cdv : Value} {Ar : Around} {outer : List Env} {s : Shared} {H : Hp} {E : XK} (G : Gm mg A) (hr : Room 2 (Ar.deeper (envOfC "_law_drawn" (defScope s_law_drawn) s.heap.objs.size f cdv))) (qt : Quiet (Ar.deeper (envOfC "_law_drawn" (defScope s_law_drawn) s.heap.objs.size f cdv))) :
    PSs (cxOf (L2.CX P w) P w K mg base N_law_drawn "_law_drawn" (defScope s_law_drawn) f cdv Ar outer s H E) (defBody s_law_drawn) (t_law_drawn P w K mg base A E) := by
  have sc := sc_law_drawn
  have at_ : At (cxOf (L2.CX P w) P w K mg base N_law_drawn "_law_drawn" (defScope s_law_drawn) f cdv Ar outer s H E) 2 E := At.of hr qt (takes_of rfl rfl rfl rfl)
  have pn : PassesOwn (model P w) (cxOf (L2.CX P w) P w K mg base N_law_drawn "_law_drawn" (defScope s_law_drawn) f cdv Ar outer s H E).A (cxOf (L2.CX P w) P w K mg base N_law_drawn "_law_drawn" (defScope s_law_drawn) f cdv Ar outer s H E).env (cxOf (L2.CX P w) P w K mg base N_law_drawn "_law_drawn" (defScope s_law_drawn) f cdv Ar outer s H E).xe := passes_of rfl
  exact pss_cons (ps_set (i := 3) sc.nd rfl (by first | exact Or.inl rfl | exact Or.inr rfl) (pe_callTy call_cList (by rfl) G.g_list (by decide +kernel) (pa_cons (pv 1) (pa_nil)))) (pss_cons (ps_set (i := 4) sc.nd rfl (by first | exact Or.inl rfl | exact Or.inr rfl) (pe_fn at_ (by rfl) (pa_cons (pv 0) (pa_cons (pe_op op_uAdd (pe_callB (call_cMin rfl) (by rfl) G.g_min (by decide +kernel) (pa_cons (pv 2) (pa_cons (pe_callB call_cLen (by rfl) G.g_len (by decide +kernel) (pa_cons (pv 3) (pa_nil))) (pa_nil)))) (pe_int)) (pa_nil))))) (pss_one (ps_ret (pe_lc (own := [("_law_k", 5)]) (g := gName 5) (tt := tYes) rfl sc.nd (pi_range1 (by rfl) G.g_range (pa_cons (pv 4) (pa_nil))) (blkOk_by (N := N_law_drawn) (sc := defScope s_law_drawn) (by decide +kernel)) (fun _ _ _ _ _ => pg_name (i := 5) sc.nd rfl (by first | exact Or.inl rfl | exact Or.inr rfl)) (fun _ _ _ _ _ => pts_nil) (fun _ _ _ _ _ => pe_bm PySem.F.plainAttrs_list PySem.F.slot_list_pop PySem.F.type_list_pop mt_popAt (pv 3) (pa_cons (pe_fn (At.e0 hr qt) (by rfl) (pa_cons (pv 0) (pa_cons (pe_callB call_cLen (by rfl) G.g_len (by decide +kernel) (pa_cons (pv 3) (pa_nil))) (pa_nil)))) (pa_nil)))))))
abbrev s_law_told : Stmt := top 51
abbrev N_law_told : List Str := ["_law_kind", "_law_items_here", "_law_names", "_law_here", "_law_found", "_law_name", "_law_item"]
abbrev ps_law_told : List Str := ["_law_kind", "_law_items_here", "_law_names"]
theorem sc_law_told : FnScope N_law_told ["_law_kind", "_law_items_here", "_law_names"] (defScope s_law_told) := ⟨rfl, rfl, rfl, by decide +kernel, rfl, by decide +kernel, by decide +kernel⟩
def t_law_told (P : Program) (w : World) (K : PySem.W.Frag) (mg : Str → Option Value) (base : Heap) (A : Ads) (E : XK) : TS :=
  tSeq (tPar 3 4 (tCons (tCB (cList K) (tCons (tVar 1) (tNil))) (tCons (tDNewK) (tNil)))) (tSeq (tFor (iList K (tIf (tTest (tOp (uEq K) (tVar 0) (tC (.int 0)))) (tRevL K (tVar 2)) (tVar 2))) (gName 5) (tSeq (sDPut (tVar 4) (tVar 5) (tBM K "list" (rIndex K) (tVar 3) (tCons (tVar 5) (tNil)))) (tSeq (tAsg (tLc (iList K (tVar 3)) (gName 6) (tTest (tOp (uNe K) (tVar 6) (tVar 5))) (tVar 6) [6]) (gName 3)) (tAsg (tIf (tTest (tOp (uEq K) (tVar 0) (tC (.int 2)))) (tOp uAdd (tLst (tCons (tVar 5) (tNil))) (tVar 3)) (tVar 3)) (gName 3))))) (tRet (tVar 4)))
theorem d_law_told {P : Program} {w : World} {K : PySem.W.Frag} {mg : Str → Option Value} {base : Heap} {A : Ads} {f : Addr} {cdv : Value} {Ar : Around} {outer : List Env} {s : Shared} {H : Hp} {E : XK} (G : Gm mg A) (hr : Room 2 (Ar.deeper (envOfC "_law_told" (defScope s_law_told) s.heap.objs.size f cdv))) (qt : Quiet (Ar.deeper (envOfC "_law_told" (defScope s_law_told) s.heap.objs.size f cdv))) :
    PSs (cxOf (L2.CX P w) P w K mg base N_law_told "_law_told" (defScope s_law_told) f cdv Ar outer s H E) (defBody s_law_told) (t_law_told P w K mg base A E) := by
  have sc := sc_law_told
  have at_ : At (cxOf (L2.CX P w) P w K mg base N_law_told "_law_told" (defScope s_law_told) f cdv Ar outer s H E) 2 E := At.of hr qt (takes_of rfl rfl rfl rfl)
  have pn : PassesOwn (model P w) (cxOf (L2.CX P w) P w K mg base N_law_told "_law_told" (defScope s_law_told) f cdv Ar outer s H E).A (cxOf (L2.CX P w) P w K mg base N_law_told "_law_told" (defScope s_law_told) f cdv Ar outer s H E).env (cxOf (L2.CX P w) P w K mg base N_law_told "_law_told" (defScope s_law_told) f cdv Ar outer s H E).xe := passes_of rfl
  exact pss_cons (ps_par rfl sc.nd rfl rfl (by decide) rfl rfl (pa_cons (pe_callTy call_cList (by rfl) G.g_list (by decide +kernel) (pa_cons (pv 1) (pa_nil))) (pa_cons (pe_dnewK) (pa_nil))) (by rfl)) (pss_cons (ps_for pn rfl (pi_list (pe_ifExp (pt_cmpR (op_uEq hr) (pv 0) (pe_int) (nomark _)) (pe_revL (pv 2)) (pv 2))) (pg_name (i := 5) sc.nd rfl (by first | exact Or.inl rfl | exact Or.inr rfl)) (pss_cons (ps_dput (hu_of hr) (pv 4) (pv 5) (pe_bm PySem.F.plainAttrs_list PySem.F.slot_list_index PySem.F.type_list_index mt_index (pv 3) (pa_cons (pv 5) (pa_nil))) rfl) (pss_cons (ps_setLc (i := 3) (own := [("_law_item", 6)]) (g := gName 6) (tt := tTest (tOp (uNe K) (tVar 6) (tVar 5))) rfl sc.nd rfl rfl (sw_true rfl rfl rfl (by decide +kernel)) (pi_list (pv 3)) (blkOk_by (N := N_law_told) (sc := defScope s_law_told) (by decide +kernel)) (fun _ _ _ _ _ => pg_name (i := 6) sc.nd rfl (by first | exact Or.inl rfl | exact Or.inr rfl)) (fun _ _ _ _ _ => pts_one (pt_cmpR (op_uNe hr) (pv 6) (pv 5) (nomark _))) (fun _ _ _ _ _ => pv 6)) (pss_one (ps_set (i := 3) sc.nd rfl (by first | exact Or.inl rfl | exact Or.inr rfl) (pe_ifExp (pt_cmpR (op_uEq hr) (pv 0) (pe_int) (nomark _)) (pe_op op_uAdd (pe_lst (pa_cons (pv 5) (pa_nil))) (pv 3)) (pv 3))))))) (pss_one (ps_ret (pv 4))))
abbrev s_law_bounds : Stmt := top 52
abbrev N_law_bounds : List Str := ["_law_kind", "_law_items_here", "_law_names", "_law_item", "_law_place", "_law_before", "_law_behind", "_law_other"]
abbrev ps_law_bounds : List Str := ["_law_kind", "_law_items_here", "_law_names", "_law_item"]
theorem sc_law_bounds : FnScope N_law_bounds ["_law_kind", "_law_items_here", "_law_names", "_law_item"] (defScope s_law_bounds) := ⟨rfl, rfl, rfl, by decide +kernel, rfl, by decide +kernel, by decide +kernel⟩
def t_law_bounds (P : Program) (w : World) (K : PySem.W.Frag) (mg : Str → Option Value) (base : Heap) (A : Ads) (E : XK) : TS :=
  tSeq (tAsg (tBM K "list" (rIndex K) (tVar 1) (tCons (tVar 3) (tNil))) (gName 4)) (tSeq (tAsg (tCB (cLen K) (tCons (tLc (iList K (tSl (rSlL K) (tVar 1) (tNoPart) (tPart (tVar 4)))) (gName 7) (tTest (tOp (uIn K false) (tVar 7) (tVar 2))) (tVar 7) [7]) (tNil))) (gName 5)) (tSeq (tAsg (tOp uSub (tOp uSub (tCB (cLen K) (tCons (tVar 2) (tNil))) (tC (.int 1))) (tVar 5)) (gName 6)) (tRet (tIf (tTest (tOp (uEq K) (tVar 0) (tC (.int 2)))) (tTup (tCons (tVar 4) (tCons (tOp uAdd (tVar 4) (tVar 6)) (tNil)))) (tTup (tCons (tOp uSub (tVar 4) (tVar 5)) (tCons (tVar 4) (tNil))))))))
theorem d_law_bounds {P : Program} {w : World} {K : PySem.W.Frag} {mg : Str → Option Value} {base : Heap} {A : Ads} {f : Addr} {cdv : Value} {Ar : Around} {outer : List Env} {s : Shared} {H : Hp} {E : XK} (G : Gm mg A) (hr : Room 2 (Ar.deeper (envOfC "_law_bounds" (defScope s_law_bounds) s.heap.objs.size f cdv))) (qt : Quiet (Ar.deeper (envOfC "_law_bounds" (defScope s_law_bounds) s.heap.objs.size f cdv))) :
    PSs (cxOf (L2.CX P w) P w K mg base N_law_bounds "_law_bounds" (defScope s_law_bounds) f cdv Ar outer s H E) (defBody s_law_bounds) (t_law_bounds P w K mg base A E) := by
  have sc := sc_law_bounds
  have at_ : At (cxOf (L2.CX P w) P w K mg base N_law_bounds "_law_bounds" (defScope s_law_bounds) f cdv Ar outer s H E) 2 E := At.of hr qt (takes_of rfl rfl rfl rfl)
  have pn : PassesOwn (model P w) (cxOf (L2.CX P w) P w K mg base N_law_bounds "_law_bounds" (defScope s_law_bounds) f cdv Ar outer s H E).A (cxOf (L2.CX P w) P w K mg base N_law_bounds "_law_bounds" (defScope s_law_bounds) f cdv Ar outer s H E).env (cxOf (L2.CX P w) P w K mg base N_law_bounds "_law_bounds" (defScope s_law_bounds) f cdv Ar outer s H E).xe := passes_of rfl
  exact pss_cons (ps_set (i := 4) sc.nd rfl (by first | exact Or.inl rfl | exact Or.inr rfl) (pe_bm PySem.F.plainAttrs_list PySem.F.slot_list_index PySem.F.type_list_index mt_index (pv 1) (pa_cons (pv 3) (pa_nil)))) (pss_cons (ps_set (i := 5) sc.nd rfl (by first | exact Or.inl rfl | exact Or.inr rfl) (pe_callB call_cLen (by rfl) G.g_len (by decide +kernel) (pa_cons (pe_lc (own := [("_law_other", 7)]) (g := gName 7) (tt := tTest (tOp (uIn K false) (tVar 7) (tVar 2))) rfl sc.nd (pi_list (pe_slice sl_list (pv 1) (po_none) (po_some (pv 4)))) (blkOk_by (N := N_law_bounds) (sc := defScope s_law_bounds) (by decide +kernel)) (fun _ _ _ _ _ => pg_name (i := 7) sc.nd rfl (by first | exact Or.inl rfl | exact Or.inr rfl)) (fun _ _ _ _ _ => pts_one (pt_cmpR (op_uIn hr) (pv 7) (pv 2) (by rfl))) (fun _ _ _ _ _ => pv 7)) (pa_nil)))) (pss_cons (ps_set (i := 6) sc.nd rfl (by first | exact Or.inl rfl | exact Or.inr rfl) (pe_op op_uSub (pe_op op_uSub (pe_callB call_cLen (by rfl) G.g_len (by decide +kernel) (pa_cons (pv 2) (pa_nil))) (pe_int)) (pv 5))) (pss_one (ps_ret (pe_ifExp (pt_cmpR (op_uEq hr) (pv 0) (pe_int) (nomark _)) (pe_tup (pa_cons (pv 4) (pa_cons (pe_op op_uAdd (pv 4) (pv 6)) (pa_nil)))) (pe_tup (pa_cons (pe_op op_uSub (pv 4) (pv 5)) (pa_cons (pv 4) (pa_nil)))))))))
abbrev s_law_changed : Stmt := top 53
abbrev N_law_changed : List Str := ["_law_tape_here", "_law_slot", "_law_bounds_here", "_law_some"]
abbrev ps_law_changed : List Str := ["_law_tape_here", "_law_slot", "_law_bounds_here"]
theorem sc_law_changed : FnScope N_law_changed ["_law_tape_here", "_law_slot", "_law_bounds_here"] (defScope s_law_changed) := ⟨rfl, rfl, rfl, by decide +kernel, rfl, by decide +kernel, by decide +kernel⟩
def t_law_changed (P : Program) (w : World) (K : PySem.W.Frag) (mg : Str → Option Value) (base : Heap) (A : Ads) (E : XK) : TS :=
  tSeq (tAsg (tLst (tCons (tVar 1) (tCons (tVar 1) (tCons (tVar 1) (tCons (tOp (uIx K) (tVar 2) (tC (.int 0))) (tCons (tOp (uIx K) (tVar 2) (tC (.int 1))) (tCons (tOp uSub (tOp (uIx K) (tVar 2) (tC (.int 0))) (tC (.int 1))) (tCons (tOp uAdd (tOp (uIx K) (tVar 2) (tC (.int 1))) (tC (.int 1))) (tCons (tC (.int 0)) (tCons (tC (.int 60)) (tCons (tFn P w K mg base "_law_next" 2 E (tCons (tVar 0) (tCons (tC (.int 61)) (tNil)))) (tNil)))))))))))) (gName 3)) (tRet (tCB (cMax K) (tCons (tC (.int 0)) (tCons (tCB (cMin K) (tCons (tC (.int 60)) (tCons (tOp (uIx K) (tVar 3) (tFn P w K mg base "_law_next" 2 E (tCons (tVar 0) (tCons (tC (.int 10)) (tNil))))) (tNil)))) (tNil)))))
theorem d_law_changed {P : Program} {w : World} {K : PySem.W.Frag} {mg : Str → Option Value} {base : Heap} {A : Ads} {f : Addr} {cdv : Value} {Ar : Around} {outer : List Env} {s : Shared} {H : Hp} {E : XK} (G : Gm mg A) (hr : Room 2 (Ar.deeper (envOfC "_law_changed" (defScope s_law_changed) s.heap.objs.size f cdv))) (qt : Quiet (Ar.deeper (envOfC "_law_changed" (defScope s_law_changed) s.heap.objs.size f cdv))) :
    PSs (cxOf (L2.CX P w) P w K mg base N_law_changed "_law_changed" (defScope s_law_changed) f cdv Ar outer s H E) (defBody s_law_changed) (t_law_changed P w K mg base A E) := by
  have sc := sc_law_changed
  have at_ : At (cxOf (L2.CX P w) P w K mg base N_law_changed "_law_changed" (defScope s_law_changed) f cdv Ar outer s H E) 2 E := At.of hr qt (takes_of rfl rfl rfl rfl)
  have pn : PassesOwn (model P w) (cxOf (L2.CX P w) P w K mg base N_law_changed "_law_changed" (defScope s_law_changed) f cdv Ar outer s H E).A (cxOf (L2.CX P w) P w K mg base N_law_changed "_law_changed" (defScope s_law_changed) f cdv Ar outer s H E).env (cxOf (L2.CX P w) P w K mg base N_law_changed "_law_changed" (defScope s_law_changed) f cdv Ar outer s H E).xe := passes_of rfl
  exact pss_cons (ps_set (i := 3) sc.nd rfl (by first | exact Or.inl rfl | exact Or.inr rfl) (pe_lst (pa_cons (pv 1) (pa_cons (pv 1) (pa_cons (pv 1) (pa_cons (pe_ix ix_u (pv 2) (pe_int) (fun _ _ => rfl)) (pa_cons (pe_ix ix_u (pv 2) (pe_int) (fun _ _ => rfl)) (pa_cons (pe_op op_uSub (pe_ix ix_u (pv 2) (pe_int) (fun _ _ => rfl)) (pe_int)) (pa_cons (pe_op op_uAdd (pe_ix ix_u (pv 2) (pe_int) (fun _ _ => rfl)) (pe_int)) (pa_cons (pe_int) (pa_cons (pe_int) (pa_cons (pe_fn at_ (by rfl) (pa_cons (pv 0) (pa_cons (pe_int) (pa_nil)))) (pa_nil))))))))))))) (pss_one (ps_ret (pe_callB (call_cMax rfl) (by rfl) G.g_max (by decide +kernel) (pa_cons (pe_int) (pa_cons (pe_callB (call_cMin rfl) (by rfl) G.g_min (by decide +kernel) (pa_cons (pe_int) (pa_cons (pe_ix ix_u (pv 3) (pe_fn at_ (by rfl) (pa_cons (pv 0) (pa_cons (pe_int) (pa_nil)))) (fun _ _ => rfl)) (pa_nil)))) (pa_nil))))))
abbrev s_law_right : Stmt := top 54
abbrev N_law_right : List Str := ["_law_tape_here", "_law_items_here", "_law_names", "_law_kind", "_law_slots", "_law_ends", "_law_name", "_law_log", "_law_kept", "_law_due", "_law_fixed", "_law_record", "_law_low", "_law_high", "_law_again", "_law_found", "_law_item"]
abbrev ps_law_right : List Str := ["_law_tape_here", "_law_items_here", "_law_names", "_law_kind"]
theorem sc_law_right : FnScope N_law_right ["_law_tape_here", "_law_items_here", "_law_names", "_law_kind"] (defScope s_law_right) := ⟨rfl, rfl, rfl, by decide +kernel, rfl, by decide +kernel, by decide +kernel⟩
def t_law_right (P : Program) (w : World) (K : PySem.W.Frag) (mg : Str → Option Value) (base : Heap) (A : Ads) (E : XK) : TS :=
  tSeq (tAsg (tTup (tCons (tFn P w K mg base "_law_told" 7 E (tCons (tVar 3) (tCons (tVar 1) (tCons (tVar 2) (tNil))))) (tCons (tDNewK) (tNil)))) (gTup K 2 (gCons (gName 4) (gCons (gName 5) (gNil))))) (tSeq (tFor (iList K (tVar 2)) (gName 6) (tSeq (sDPut (tVar 5) (tVar 6) (tFn P w K mg base "_law_bounds" 7 E (tCons (tVar 3) (tCons (tVar 1) (tCons (tVar 2) (tCons (tVar 6) (tNil))))))) (sDPut (tVar 4) (tVar 6) (tFn P w K mg base "_law_changed" 7 E (tCons (tVar 0) (tCons (tDGet (tVar 4) (tVar 6)) (tCons (tDGet (tVar 5) (tVar 6)) (tNil)))))))) (tSeq (tAsg (tLc (iList K (tCB (cSortS K) (tCons (tVar 2) (tNil)))) (gName 6) (tYes) (tFn P w K mg base "_law_made" 7 E0 (tCons (tVar 3) (tCons (tVar 6) (tCons (tDGet (tVar 4) (tVar 6)) (tNil))))) [6]) (gName 7)) (tSeq (tAsg (tLst (tCons (tFn P w K mg base "_law_facts" 7 E (tCons (tVar 7) (tNil))) (tCons (tCB (cList K) (tCons (tVar 1) (tNil))) (tNil)))) (gName 8)) (tSeq (tAsg (tLc (iList K (tVar 1)) (gName 16) (tAnd (tTest (tOp (uIn K false) (tVar 16) (tVar 4))) (tNot (tTest (tChain uLe uLe (tOp (uIx K) (tDGet (tVar 5) (tVar 16)) (tC (.int 0))) (tDGet (tVar 4) (tVar 16)) (tOp (uIx K) (tDGet (tVar 5) (tVar 16)) (tC (.int 1))))))) (tVar 16) [16]) (gName 9)) (tSeq (tAsg (tLst (tNil)) (gName 10)) (tSeq (tFor (iList K (tVar 7)) (gName 11) (tSeq (tAsg (tDGet (tVar 5) (tAtt P w K mg base "item" (tVar 11))) (gTup K 2 (gCons (gName 12) (gCons (gName 13) (gNil))))) (tDrop (tBM K "list" rAppend (tVar 10) (tCons (tTup (tCons (tLst (tCons (tOp (uEq K) (tVar 3) (tC (.int 0))) (tCons (tOp (uEq K) (tVar 3) (tC (.int 1))) (tCons (tOp (uEq K) (tVar 3) (tC (.int 2))) (tNil))))) (tCons (tAtt P w K mg base "item" (tVar 11)) (tCons (tCB (cMax K) (tCons (tVar 12) (tCons (tCB (cMin K) (tCons (tVar 13) (tCons (tAtt P w K mg base "slot" (tVar 11)) (tNil)))) (tNil)))) (tNil))))) (tNil)))))) (tSeq (tFor (iRng1 (tCons (tC (.int 2)) (tNil))) (gName 14) (tSeq (tAsg (tFn P w K mg base "nearest" 7 E (tCons (tVar 7) (tCons (tVar 1) (tNil)))) (gName 15)) (tSeq (tIfS (tOr (tTest (tOp (uNe K) (tCB (cRepr K) (tCons (tFn P w K mg base "wrong_items" 7 E (tCons (tVar 7) (tCons (tVar 1) (tNil)))) (tNil))) (tCB (cRepr K) (tCons (tVar 9) (tNil))))) (tTest (tOp (uNe K) (tFn P w K mg base "_law_facts" 7 E (tCons (tVar 15) (tNil))) (tVar 10)))) (tRet (tC (.bl false))) (tNext)) (tSeq (tFor (iList K (tVar 15)) (gName 11) (tDrop (tMth P w K mg base "move_to" 7 E (tVar 11) (tCons (tOp uSub (tC (.int 60)) (tAtt P w K mg base "slot" (tVar 11))) (tNil))))) (tIfS (tTest (tOp (uNe K) (tLst (tCons (tFn P w K mg base "_law_facts" 7 E (tCons (tVar 7) (tNil))) (tCons (tVar 1) (tNil)))) (tVar 8))) (tRet (tC (.bl false))) (tNext)))))) (tRet (tC (.bl true))))))))))
theorem d_law_right {P : Program} {w : World} {K : PySem.W.Frag} {mg : Str → Option Value} {base : Heap} {A : Ads} {f : Addr} {cdv : Value} {Ar : Around} {outer : List Env} {s : Shared} {H : Hp} {E : XK} (G : Gm mg A) (hr : Room 7 (Ar.deeper (envOfC "_law_right" (defScope s_law_right) s.heap.objs.size f cdv))) (qt : Quiet (Ar.deeper (envOfC "_law_right" (defScope s_law_right) s.heap.objs.size f cdv))) :
    PSs (cxOf (L2.CX P w) P w K mg base N_law_right "_law_right" (defScope s_law_right) f cdv Ar outer s H E) (defBody s_law_right) (t_law_right P w K mg base A E) := by
  have sc := sc_law_right
  have at_ : At (cxOf (L2.CX P w) P w K mg base N_law_right "_law_right" (defScope s_law_right) f cdv Ar outer s H E) 7 E := At.of hr qt (takes_of rfl rfl rfl rfl)
  have pn : PassesOwn (model P w) (cxOf (L2.CX P w) P w K mg base N_law_right "_law_right" (defScope s_law_right) f cdv Ar outer s H E).A (cxOf (L2.CX P w) P w K mg base N_law_right "_law_right" (defScope s_law_right) f cdv Ar outer s H E).env (cxOf (L2.CX P w) P w K mg base N_law_right "_law_right" (defScope s_law_right) f cdv Ar outer s H E).xe := passes_of rfl
  exact pss_cons (ps_asg (pe_tup (pa_cons (pe_fn at_ (by rfl) (pa_cons (pv 3) (pa_cons (pv 1) (pa_cons (pv 2) (pa_nil))))) (pa_cons (pe_dnewK) (pa_nil)))) (pg_tup rfl (pgs_cons (pg_name (i := 4) sc.nd rfl (by first | exact Or.inl rfl | exact Or.inr rfl)) (pgs_cons (pg_name (i := 5) sc.nd rfl (by first | exact Or.inl rfl | exact Or.inr rfl)) (pgs_nil))))) (pss_cons (ps_for pn rfl (pi_list (pv 2)) (pg_name (i := 6) sc.nd rfl (by first | exact Or.inl rfl | exact Or.inr rfl)) (pss_cons (ps_dput (hu_of hr) (pv 5) (pv 6) (pe_fn at_ (by rfl) (pa_cons (pv 3) (pa_cons (pv 1) (pa_cons (pv 2) (pa_cons (pv 6) (pa_nil)))))) rfl) (pss_one (ps_dput (hu_of hr) (pv 4) (pv 6) (pe_fn at_ (by rfl) (pa_cons (pv 0) (pa_cons (pe_dget (hu_of hr) (pv 4) (pv 6) (fun _ _ => rfl)) (pa_cons (pe_dget (hu_of hr) (pv 5) (pv 6) (fun _ _ => rfl)) (pa_nil))))) rfl)))) (pss_cons (ps_setLc (i := 7) (own := [("_law_name", 6)]) (g := gName 6) (tt := tYes) rfl sc.nd rfl rfl (sw_true rfl rfl rfl (by decide +kernel)) (pi_list (pe_callB call_cSortS (by rfl) G.g_sorted (by decide +kernel) (pa_cons (pv 2) (pa_nil)))) (blkOk_by (N := N_law_right) (sc := defScope s_law_right) (by decide +kernel)) (fun _ _ _ _ _ => pg_name (i := 6) sc.nd rfl (by first | exact Or.inl rfl | exact Or.inr rfl)) (fun _ _ _ _ _ => pts_nil) (fun _ _ _ _ _ => pe_fn (At.e0 hr qt) (by rfl) (pa_cons (pv 3) (pa_cons (pv 6) (pa_cons (pe_dget (hu_of hr) (pv 4) (pv 6) (fun _ _ => rfl)) (pa_nil)))))) (pss_cons (ps_set (i := 8) sc.nd rfl (by first | exact Or.inl rfl | exact Or.inr rfl) (pe_lst (pa_cons (pe_fn at_ (by rfl) (pa_cons (pv 7) (pa_nil))) (pa_cons (pe_callTy call_cList (by rfl) G.g_list (by decide +kernel) (pa_cons (pv 1) (pa_nil))) (pa_nil))))) (pss_cons (ps_setLc (i := 9) (own := [("_law_item", 16)]) (g := gName 16) (tt := tAnd (tTest (tOp (uIn K false) (tVar 16) (tVar 4))) (tNot (tTest (tChain uLe uLe (tOp (uIx K) (tDGet (tVar 5) (tVar 16)) (tC (.int 0))) (tDGet (tVar 4) (tVar 16)) (tOp (uIx K) (tDGet (tVar 5) (tVar 16)) (tC (.int 1))))))) rfl sc.nd rfl rfl (sw_true rfl rfl rfl (by decide +kernel)) (pi_list (pv 1)) (blkOk_by (N := N_law_right) (sc := defScope s_law_right) (by decide +kernel)) (fun _ _ _ _ _ => pg_name (i := 16) sc.nd rfl (by first | exact Or.inl rfl | exact Or.inr rfl)) (fun _ _ _ _ _ => pts_one (PW.pt (pw_and (pt_cmpR (op_uIn hr) (pv 16) (pv 4) (by rfl)) (pw_and1 (pt_not (pt_chain op_uLe op_uLe (pe_ix ix_u (pe_dget (hu_of hr) (pv 5) (pv 16) (fun _ _ => rfl)) (pe_int) (fun _ _ => rfl)) (pe_dget (hu_of hr) (pv 4) (pv 16) (fun _ _ => rfl)) (pe_ix ix_u (pe_dget (hu_of hr) (pv 5) (pv 16) (fun _ _ => rfl)) (pe_int) (fun _ _ => rfl)))))))) (fun _ _ _ _ _ => pv 16)) (pss_cons (ps_set (i := 10) sc.nd rfl (by first | exact Or.inl rfl | exact Or.inr rfl) (pe_lst (pa_nil))) (pss_cons (ps_for pn rfl (pi_list (pv 7)) (pg_name (i := 11) sc.nd rfl (by first | exact Or.inl rfl | exact Or.inr rfl)) (pss_cons (ps_asg (pe_dget (hu_of hr) (pv 5) (pe_att hr (pv 11)) (fun _ _ => rfl)) (pg_tup rfl (pgs_cons (pg_name (i := 12) sc.nd rfl (by first | exact Or.inl rfl | exact Or.inr rfl)) (pgs_cons (pg_name (i := 13) sc.nd rfl (by first | exact Or.inl rfl | exact Or.inr rfl)) (pgs_nil))))) (pss_one (ps_expr (pe_bm PySem.F.plainAttrs_list PySem.F.slot_list_append PySem.F.type_list_append mt_append (pv 10) (pa_cons (pe_tup (pa_cons (pe_lst (pa_cons (pe_cmpR (op_uEq hr) (pv 3) (pe_int) (nomark _)) (pa_cons (pe_cmpR (op_uEq hr) (pv 3) (pe_int) (nomark _)) (pa_cons (pe_cmpR (op_uEq hr) (pv 3) (pe_int) (nomark _)) (pa_nil))))) (pa_cons (pe_att hr (pv 11)) (pa_cons (pe_callB (call_cMax rfl) (by rfl) G.g_max (by decide +kernel) (pa_cons (pv 12) (pa_cons (pe_callB (call_cMin rfl) (by rfl) G.g_min (by decide +kernel) (pa_cons (pv 13) (pa_cons (pe_att hr (pv 11)) (pa_nil)))) (pa_nil)))) (pa_nil))))) (pa_nil))))))) (pss_cons (ps_for pn rfl (pi_range1 (by rfl) G.g_range (pa_cons (pe_int) (pa_nil))) (pg_name (i := 14) sc.nd rfl (by first | exact Or.inl rfl | exact Or.inr rfl)) (pss_cons (ps_set (i := 15) sc.nd rfl (by first | exact Or.inl rfl | exact Or.inr rfl) (pe_fn at_ (by rfl) (pa_cons (pv 7) (pa_cons (pv 1) (pa_nil))))) (pss_cons (ps_if (PW.pt (pw_or (pt_cmpR (op_uNe hr) (pe_callB (call_cRepr hr qt) (by rfl) G.g_repr (by decide +kernel) (pa_cons (pe_fn at_ (by rfl) (pa_cons (pv 7) (pa_cons (pv 1) (pa_nil)))) (pa_nil))) (pe_callB (call_cRepr hr qt) (by rfl) G.g_repr (by decide +kernel) (pa_cons (pv 9) (pa_nil))) (nomark _)) (pw_or1 (pt_cmpR (op_uNe hr) (pe_fn at_ (by rfl) (pa_cons (pv 15) (pa_nil))) (pv 10) (nomark _))))) (pss_one (ps_ret (pe_bl))) (pss_nil)) (pss_cons (ps_for pn rfl (pi_list (pv 15)) (pg_name (i := 11) sc.nd rfl (by first | exact Or.inl rfl | exact Or.inr rfl)) (pss_one (ps_expr (pe_mth at_ (pv 11) (pa_cons (pe_op op_uSub (pe_int) (pe_att hr (pv 11))) (pa_nil)))))) (pss_one (ps_if (pt_cmpR (op_uNe hr) (pe_lst (pa_cons (pe_fn at_ (by rfl) (pa_cons (pv 7) (pa_nil))) (pa_cons (pv 1) (pa_nil)))) (pv 8) (nomark _)) (pss_one (ps_ret (pe_bl))) (pss_nil))))))) (pss_one (ps_ret (pe_bl))))))))))
abbrev s_law : Stmt := top 55
abbrev N_law : List Str := ["_law_script", "_law_k", "_law_tape_here", "_law_turn", "_law_items_here", "_law_kind"]
abbrev ps_law : List Str := ["_law_script"]
theorem sc_law : FnScope N_law ["_law_script"] (defScope s_law) := ⟨rfl, rfl, rfl, by decide +kernel, rfl, by decide +kernel, by decide +kernel⟩
def t_law (P : Program) (w : World) (K : PySem.W.Frag) (mg : Str → Option Value) (base : Heap) (A : Ads) (E : XK) : TS :=
  tSeq (tFor (iRng1 (tCons (tCB (cMax K) (tCons (tC (.int 1)) (tCons (tCB (cMin K) (tCons (tC (.int 3)) (tCons (tCB (cLen K) (tCons (tVar 0) (tNil))) (tNil)))) (tNil)))) (tNil))) (gName 1) (tSeq (tAsg (tFn P w K mg base "_law_tape" 8 E (tCons (tVar 0) (tCons (tVar 1) (tNil)))) (gName 2)) (tFor (iRng1 (tCons (tC (.int 3)) (tNil))) (gName 3) (tSeq (tAsg (tFn P w K mg base "_law_items" 8 E (tCons (tVar 2) (tCons (tFn P w K mg base "_law_next" 8 E (tCons (tVar 2) (tCons (tOp (uIx K) (tLst (tCons (tC (.int 20)) (tCons (tC (.int 61)) (tNil)))) (tFn P w K mg base "_law_next" 8 E (tCons (tVar 2) (tCons (tC (.int 2)) (tNil))))) (tNil)))) (tNil)))) (gName 4)) (tIfS (tNot (tB (tFn P w K mg base "_law_right" 8 E (tCons (tVar 2) (tCons (tVar 4) (tCons (tFn P w K mg base "_law_drawn" 8 E (tCons (tVar 2) (tCons (tVar 4) (tCons (tC (.int 40)) (tNil))))) (tCons (tVar 3) (tNil)))))))) (tRet (tC (.bl false))) (tNext)))))) (tSeq (tAsg (tFn P w K mg base "_law_tape" 8 E (tCons (tVar 0) (tCons (tC (.int 0)) (tNil)))) (gName 2)) (tSeq (tFor (iRng1 (tCons (tC (.int 3)) (tNil))) (gName 5) (tSeq (tAsg (tFn P w K mg base "_law_items" 8 E (tCons (tVar 2) (tCons (tC (.int 60)) (tNil)))) (gName 4)) (tIfS (tNot (tB (tFn P w K mg base "_law_right" 8 E (tCons (tVar 2) (tCons (tVar 4) (tCons (tSl (rSlL K) (tRevL K (tVar 4)) (tNoPart) (tPart (tC (.int 40)))) (tCons (tVar 5) (tNil)))))))) (tRet (tC (.bl false))) (tNext)))) (tRet (tC (.bl true)))))
theorem d_law {P : Program} {w : World} {K : PySem.W.Frag} {mg : Str → Option Value} {base : Heap} {A : Ads} {f : Addr} {cdv : Value} {Ar : Around} {outer : List Env} {s : Shared} {H : Hp} {E : XK} (G : Gm mg A) (hr : Room 8 (Ar.deeper (envOfC "law" (defScope s_law) s.heap.objs.size f cdv))) (qt : Quiet (Ar.deeper (envOfC "law" (defScope s_law) s.heap.objs.size f cdv))) :
    PSs (cxOf (L2.CX P w) P w K mg base N_law "law" (defScope s_law) f cdv Ar outer s H E) (defBody s_law) (t_law P w K mg base A E) := by
  have sc := sc_law
  have at_ : At (cxOf (L2.CX P w) P w K mg base N_law "law" (defScope s_law) f cdv Ar outer s H E) 8 E := At.of hr qt (takes_of rfl rfl rfl rfl)
  have pn : PassesOwn (model P w) (cxOf (L2.CX P w) P w K mg base N_law "law" (defScope s_law) f cdv Ar outer s H E).A (cxOf (L2.CX P w) P w K mg base N_law "law" (defScope s_law) f cdv Ar outer s H E).env (cxOf (L2.CX P w) P w K mg base N_law "law" (defScope s_law) f cdv Ar outer s H E).xe := passes_of rfl
  exact pss_cons (ps_for pn rfl (pi_range1 (by rfl) G.g_range (pa_cons (pe_callB (call_cMax rfl) (by rfl) G.g_max (by decide +kernel) (pa_cons (pe_int) (pa_cons (pe_callB (call_cMin rfl) (by rfl) G.g_min (by decide +kernel) (pa_cons (pe_int) (pa_cons (pe_callB call_cLen (by rfl) G.g_len (by decide +kernel) (pa_cons (pv 0) (pa_nil))) (pa_nil)))) (pa_nil)))) (pa_nil))) (pg_name (i := 1) sc.nd rfl (by first | exact Or.inl rfl | exact Or.inr rfl)) (pss_cons (ps_set (i := 2) sc.nd rfl (by first | exact Or.inl rfl | exact Or.inr rfl) (pe_fn at_ (by rfl) (pa_cons (pv 0) (pa_cons (pv 1) (pa_nil))))) (pss_one (ps_for pn rfl (pi_range1 (by rfl) G.g_range (pa_cons (pe_int) (pa_nil))) (pg_name (i := 3) sc.nd rfl (by first | exact Or.inl rfl | exact Or.inr rfl)) (pss_cons (ps_set (i := 4) sc.nd rfl (by first | exact Or.inl rfl | exact Or.inr rfl) (pe_fn at_ (by rfl) (pa_cons (pv 2) (pa_cons (pe_fn at_ (by rfl) (pa_cons (pv 2) (pa_cons (pe_ix ix_u (pe_lst (pa_cons (pe_int) (pa_cons (pe_int) (pa_nil)))) (pe_fn at_ (by rfl) (pa_cons (pv 2) (pa_cons (pe_int) (pa_nil)))) (fun _ _ => rfl)) (pa_nil)))) (pa_nil))))) (pss_one (ps_if (pt_not (pt_val (pe_fn at_ (by rfl) (pa_cons (pv 2) (pa_cons (pv 4) (pa_cons (pe_fn at_ (by rfl) (pa_cons (pv 2) (pa_cons (pv 4) (pa_cons (pe_int) (pa_nil))))) (pa_cons (pv 3) (pa_nil)))))))) (pss_one (ps_ret (pe_bl))) (pss_nil)))))))) (pss_cons (ps_set (i := 2) sc.nd rfl (by first | exact Or.inl rfl | exact Or.inr rfl) (pe_fn at_ (by rfl) (pa_cons (pv 0) (pa_cons (pe_int) (pa_nil))))) (pss_cons (ps_for pn rfl (pi_range1 (by rfl) G.g_range (pa_cons (pe_int) (pa_nil))) (pg_name (i := 5) sc.nd rfl (by first | exact Or.inl rfl | exact Or.inr rfl)) (pss_cons (ps_set (i := 4) sc.nd rfl (by first | exact Or.inl rfl | exact Or.inr rfl) (pe_fn at_ (by rfl) (pa_cons (pv 2) (pa_cons (pe_int) (pa_nil))))) (pss_one (ps_if (pt_not (pt_val (pe_fn at_ (by rfl) (pa_cons (pv 2) (pa_cons (pv 4) (pa_cons (pe_slice sl_list (pe_revL (pv 4)) (po_none) (po_some (pe_int))) (pa_cons (pv 5) (pa_nil)))))))) (pss_one (ps_ret (pe_bl))) (pss_nil))))) (pss_one (ps_ret (pe_bl)))))
def Ads.kind (A : Ads) : Nat → Addr | 0 => A.cInserted | 1 => A.cRemoved | 2 => A.cFronted | _ => A.cRecord
def kName : Nat → Str | 0 => "Inserted" | 1 => "Removed" | 2 => "Fronted" | _ => "Record"
def sgn : Nat → Str | 0 => "+" | 1 => "-" | 2 => "^" | _ => ""
/-- what the text says of the k-th class of records -/
structure Kd (K : PySem.W.Frag) (mg : Str → Option Value) (A : Ads) (k : Nat) : Prop where
  cls : Cls K (A.kind k)
  ty : InsTy K (A.kind k)
  made : Dk K mg (kName k) (A.kind k) "Record.__init__" s_Record_init ["self", "item", "slot"]
  sign : ∃ u, Con K (A.kind k) "SIGN" (.str (sgn k)) u
  ni : NoAttr K (A.kind k) "held_item"
  ns : NoAttr K (A.kind k) "held_slot"
  item : ∃ p g fd, PropOf K (A.kind k) "item" p g ∧ Fun K "item" "Record.item" s_Record_item g fd ∧ Binds K fd ["self"] []
  slot : ∃ p g fd, PropOf K (A.kind k) "slot" p g ∧ Fun K "slot" "Record.slot" s_Record_slot g fd ∧ Binds K fd ["self"] []
  mv : Dm K (A.kind k) "move_to" "Record.move_to" s_Record_move_to ["self", "slot"]
structure Tx (K : PySem.W.Frag) (mg : Str → Option Value) (A : Ads) : Prop where
  G : Gm mg A
  kd : ∀ k, k < 4 → Kd K mg A k
  most : ∃ mc u, CRead K A.cRecord mc ∧ CVal K A.cRecord mc "MOST" (.int 60) u
  kit : ∀ i j, i < 4 → j < 4 → PySem.W.kitOne K (.ref (A.kind i)) (.ref (A.kind j)) = some (decide (i = j ∨ j = 3))
  cls_Frame : Cls K A.cFrame
  made_Frame : Dk K mg "Frame" A.cFrame "Frame.__init__" s_Frame_init ["self", "log", "items"]
  n_Frame_by_item : NoAttr K A.cFrame "by_item"
  n_Frame_marked : NoAttr K A.cFrame "marked"
  n_Frame_places : NoAttr K A.cFrame "places"
  n_Frame_is_fronted : NoAttr K A.cFrame "is_fronted"
  m_Frame_room : Dm K A.cFrame "room" "Frame.room" s_Frame_room ["self", "item"]
  m_Frame_shift : Dm K A.cFrame "shift" "Frame.shift" s_Frame_shift ["self", "item"]
  m_Frame_bounds : Dm K A.cFrame "bounds" "Frame.bounds" s_Frame_bounds ["self", "item"]
  f_is_integer : Df K mg "is_integer" s_is_integer ["thing", "least", "most"]
  f_is_item : Df K mg "is_item" s_is_item ["thing"]
  f_are_records : Df K mg "are_records" s_are_records ["thing", "most"]
  f_sign_of : Df K mg "sign_of" s_sign_of ["log"]
  f_items_of : Df K mg "items_of" s_items_of ["log"]
  f_is_log : Df K mg "is_log" s_is_log ["thing"]
  f_need_log : Df K mg "need_log" s_need_log ["thing"]
  f_are_items : Df K mg "are_items" s_are_items ["thing"]
  f_need_known : Df K mg "need_known" s_need_known ["log", "items"]
  f_framed_log : Df K mg "framed_log" s_framed_log ["log", "items"]
  f_made : Df K mg "made" s_made ["sign", "item", "slot"]
  f_wrong_items : Df K mg "wrong_items" s_wrong_items ["log", "items"]
  f_nearest : Df K mg "nearest" s_nearest ["log", "items"]
  f_law_tape : Df K mg "_law_tape" s_law_tape ["_law_script", "_law_k"]
  f_law_next : Df K mg "_law_next" s_law_next ["_law_tape_here", "_law_size"]
  f_law_items : Df K mg "_law_items" s_law_items ["_law_tape_here", "_law_many"]
  f_law_made : Df K mg "_law_made" s_law_made ["_law_kind", "_law_item", "_law_slot"]
  f_law_facts : Df K mg "_law_facts" s_law_facts ["_law_log"]
  f_law_drawn : Df K mg "_law_drawn" s_law_drawn ["_law_tape_here", "_law_items_here", "_law_most"]
  f_law_told : Df K mg "_law_told" s_law_told ["_law_kind", "_law_items_here", "_law_names"]
  f_law_bounds : Df K mg "_law_bounds" s_law_bounds ["_law_kind", "_law_items_here", "_law_names", "_law_item"]
  f_law_changed : Df K mg "_law_changed" s_law_changed ["_law_tape_here", "_law_slot", "_law_bounds_here"]
  f_law_right : Df K mg "_law_right" s_law_right ["_law_tape_here", "_law_items_here", "_law_names", "_law_kind"]
  f_law : Df K mg "law" s_law ["_law_script"]
end K
namespace K
open PySem PySem.Spec PyProof.Rows L2 U ClX M
local macro_rules | `(tactic| walk_at "rd") => `(tactic| simp only [tSeq, tRet, tIfS, tAsg, tDrop, tNext, tNever, tRetN, tAndV, tOrV, tNotV, tAnd, tOr, tNot, tB, tTest, tChain, tCB, tCons, tNil, tVar, tC, tOp, tUn, tIf, gName, uLe, uLt, uGe, uGt, uCmp, uAdd, uSub, uMul, uDiv, uMod, uPow, uNeg, uEq, uNe, uIs, uIsNot, uIx, uIn, cIsi, cLen, cAll, cMax, cMin, cAbs, cSort, cSortD, cInt, cTuple, cRepr, cList, cSortS, tRevL, tDGet, tLstRg, tTupRg, tRg1, tRg2, sDPut, tDNewK, tAug, ipI, iZip, tLst, tTup, tPar, U.tPar3, tFn, tMkr, tMth, tFnK, tMthK, tAtt, sFld, tYes, tLc_eq, tFor_eq, iList, iStr, iRng1, iRng2, iEnum, tLenSetT, tSl, tPart, tNoPart, gTup, gCons, gNil, gSub, tBM, tBM0, List.getElem?_cons_zero, List.getElem?_cons_succ, List.set_cons_zero, List.set_cons_succ, Option.some.injEq, V.bl.injEq, V.int.injEq, V.str.injEq, V.ref.injEq, exists_eq_left', exists_eq_left, exists_eq_right, exists_eq_right', and_true, true_and, scal, if_true, Bool.false_eq_true, if_false, List.cons.injEq, exists_const, false_and, and_false, ite_true, ite_false, Bool.not_true, Bool.not_false])
def recF (x : Str) (n : Int) : List (Str × V) := [("held_item", .str x), ("held_slot", .int n)]
abbrev hI : Str := "held_item"
abbrev hS : Str := "held_slot"
theorem is_ne : ¬ (("held_item" : Str) = "held_slot") := by decide +kernel
theorem put_item (x : Str) : putF hI (.str x) [] = ([(hI, .str x)] : List (Str × V)) := rfl
theorem put_slot0 (x : Str) (n : Int) : putF hS (.int n) ([(hI, .str x)] : List (Str × V)) = recF x n := by
  simp only [putF, recF, hI, hS, if_neg is_ne]
theorem put_slot (x : Str) (n m : Int) : putF hS (.int m) (recF x n) = recF x m := by
  simp only [putF, recF, hI, hS, if_neg is_ne, if_true]
theorem look_item (x : Str) (n : Int) : (recF x n).lookup hI = some (.str x) := by
  simp [recF, List.lookup]
theorem look_slot (x : Str) (n : Int) : (recF x n).lookup hS = some (.int n) := by
  have : (("held_slot" : Str) == "held_item") = false := by decide +kernel
  simp [recF, List.lookup, this]
theorem look_none (x : Str) (n : Int) {m : Str} (h1 : (m == ("held_item" : Str)) = false) (h2 : (m == ("held_slot" : Str)) = false) : (recF x n).lookup m = none := by
  simp [recF, List.lookup, h1, h2]
section
variable {P : Program} {w : World} {K : PySem.W.Frag} {mg : Str → Option Value} {base : Heap} {A : Ads}
/-! ### is_integer, is_item -/
def sp_is_integer : Sp := fun vs H Q _ => ∃ i lo hi : Int, vs = [.int i, .int lo, .int hi] ∧ Q (.bl (decide (lo ≤ i) && decide (i ≤ hi))) H
theorem p_is_integer : Pur N_is_integer ps_is_integer (t_is_integer P w K mg base A) sp_is_integer := by
  intro vs H Q E h
  obtain ⟨i, lo, hi, rfl, q⟩ := h
  refine ⟨rfl, ?_⟩
  show t_is_integer P w K mg base A E _ [some (.int i), some (.int lo), some (.int hi)] H
  unfold t_is_integer
  walk_at "rd"
  refine ⟨true, isi_int (by decide +kernel), ?_⟩
  walk_at "rd"
  refine ⟨false, isi_int (by decide +kernel), ?_⟩
  walk_at "rd"
  by_cases c : lo ≤ i
  · simpa [c] using q
  · simpa [c] using q
theorem fn_is_integer (T : Tx K mg A) : Fn P w K mg base 2 "is_integer" sp_is_integer := T.f_is_integer.fn sc_is_integer (fun hr => d_is_integer T.G hr) p_is_integer
/-- a text is an item -/
def isItem (z : Str) : Bool := decide (1 ≤ z.length) && decide (z.length ≤ 8) && z.cps.toList.all fun c => decide (97 ≤ c) && decide (c ≤ 122)
theorem letters_iff (c : Nat) : (c ∈ ("abcdefghijklmnopqrstuvwxyz" : Str).cps.toList) ↔ (97 ≤ c ∧ c ≤ 122) := by
  have e : ("abcdefghijklmnopqrstuvwxyz" : Str).cps.toList = (List.range 26).map (· + 97) := by decide +kernel
  rw [e]
  simp only [List.mem_map, List.mem_range]
  constructor
  · rintro ⟨a, h, rfl⟩; omega
  · intro h; exact ⟨c - 97, by omega, by omega⟩
def sp_is_item : Sp := fun vs H Q _ => ∃ z : Str, vs = [.str z] ∧ z.length ≤ 1000 ∧ ∀ H', Same H H' → Q (.bl (isItem z)) H'
theorem p_is_item : Pur N_is_item ps_is_item (t_is_item P w K mg base A) sp_is_item := by
  intro vs H Q E h
  obtain ⟨z, rfl, hz, q⟩ := h
  refine ⟨rfl, ?_⟩
  show t_is_item P w K mg base A E _ [some (.str z), none] H
  unfold t_is_item
  walk_at "rd"
  refine ⟨true, isi_str (by decide +kernel), ?_⟩
  walk_at "rd"
  have hl : z.length ≤ sizeLine := Nat.le_trans hz (by decide)
  refine ⟨hl, ?_⟩
  by_cases c1 : 1 ≤ z.length
  · rw [if_pos (decide_eq_true (show (1 : Int) ≤ z.length by omega))]
    by_cases c2 : z.length ≤ 8
    · rw [decide_eq_true (show (z.length : Int) ≤ 8 by omega)]
      walk_at "rd"
      refine lc_goes goes_str (fun i => some (.bl (decide (z.cps.toList[i]?.getD 0 ∈ ("abcdefghijklmnopqrstuvwxyz" : Str).cps.toList)))) (Nat.lt_of_le_of_lt hz (by decide)) (fun i x H' hi s r => ?_) fun D H' hD s hl => ?_
      · obtain ⟨c, hc, rfl⟩ := r
        refine ⟨[some (.str z), some (.str ⟨#[c]⟩)], rfl, fun R r => r, Evt.yes, fun H3 s3 Q' q' => ?_⟩
        walk_at "rd"
        refine ⟨c, rfl, ?_⟩
        have e : z.cps.toList[i]?.getD 0 = c := by rw [Array.getElem?_toList, hc]; rfl
        rw [e] at q'
        exact q' H3 (Same.refl _)
      · refine ⟨z.cps.toList.map fun c => decide (c ∈ ("abcdefghijklmnopqrstuvwxyz" : Str).cps.toList), .inl (.inl ?_), ?_⟩
        · rw [hl, range_some]
          congr 2
          apply List.ext_getElem?
          intro i
          rw [List.map_map, List.getElem?_map, List.getElem?_map]
          by_cases hi : i < z.cps.size
          · rw [List.getElem?_range hi]
            have : i < z.cps.toList.length := by simpa using hi
            simp only [List.getElem?_eq_getElem this, Option.map_some, Function.comp, Option.getD_some]
          · rw [List.getElem?_eq_none (by simpa using hi), List.getElem?_eq_none (by simpa using hi)]
            rfl
        · have e : (List.map (fun c => decide (c ∈ ("abcdefghijklmnopqrstuvwxyz" : Str).cps.toList)) z.cps.toList).all id = isItem z := by
            have l1 : decide (1 ≤ z.length) = true := decide_eq_true c1
            have l2 : decide (z.length ≤ 8) = true := decide_eq_true c2
            unfold isItem
            rw [List.all_map, l1, l2, Bool.true_and, Bool.true_and]
            congr 1
            funext c
            simp only [Function.comp, id]
            rw [Bool.eq_iff_iff]
            simp only [decide_eq_true_eq, Bool.and_eq_true]
            exact letters_iff c
          rw [e]
          exact q H' s
    · rw [decide_eq_false (show ¬ (z.length : Int) ≤ 8 by omega)]
      have e : isItem z = false := by simp [isItem, c2]
      rw [e] at q
      walk_at "rd"
      exact q H (Same.refl _)
  · rw [if_neg (by simp; omega)]
    have e : isItem z = false := by simp [isItem, c1]
    rw [e] at q
    try walk_at "rd"
    exact q H (Same.refl _)
theorem fn_is_item (T : Tx K mg A) : Fn P w K mg base 2 "is_item" sp_is_item := T.f_is_item.fn sc_is_item (fun hr => d_is_item T.G hr) p_is_item
/-! ### making and changing records -/
theorem att_most (T : Tx K mg A) {H : Hp} : Att P w K mg base H A.cRecord "MOST" (.int 60) := by
  obtain ⟨mc, u, r, k⟩ := T.most
  exact .cls r k
/-- a record of kind k stands at a -/
def Rec (A : Ads) (H : Hp) (a : Addr) (k : Nat) (x : Str) (n : Int) : Prop := k < 4 ∧ ∃ dx, H a = some (.ins (A.kind k) dx (recF x n))
theorem Rec.same {H H' : Hp} {a : Addr} {k : Nat} {x : Str} {n : Int} (r : Rec A H a k x n) (s : Same H H') : Rec A H' a k x n := ⟨r.1, r.2.choose, s _ _ r.2.choose_spec⟩
def sp_init (A : Ads) (k : Nat) : Sp := fun vs H Q _ => ∃ (p dx : Addr) (z : Str) (n : Int), vs = [.ref p, .str z, .int n] ∧ H p = some (.ins (A.kind k) dx []) ∧ isItem z = true ∧ 0 ≤ n ∧ n ≤ 60 ∧
  ∀ H', H' p = some (.ins (A.kind k) dx (recF z n)) → (∀ b o, b ≠ p → H b = some o → H' b = some o) → Q .non H'
theorem item_len {z : Str} (h : isItem z = true) : 1 ≤ z.length ∧ z.length ≤ 8 := by
  unfold isItem at h
  simp only [Bool.and_eq_true, decide_eq_true_eq] at h
  exact h.1
theorem p_init (T : Tx K mg A) {k : Nat} (hk : k < 4) : Pur N_Record_init ps_Record_init (t_Record_init P w K mg base A) (sp_init A k) := by
  intro vs H Q E h
  obtain ⟨p, dx, z, n, rfl, hp, hz, h0, h60, q⟩ := h
  refine ⟨rfl, ?_⟩
  have I := T.kd k hk
  have zl := item_len hz
  show t_Record_init P w K mg base A E _ [some (.ref p), some (.str z), some (.int n)] H
  unfold t_Record_init
  walk_at "rd"
  refine ⟨2, _, fn_is_item T, by decide, z, rfl, by omega, fun H1 s1 => ?_⟩
  rw [hz]
  walk_at "rd"
  refine ⟨2, _, fn_is_integer T, by decide, _, _, rfl, att_most T, n, 0, 60, rfl, true, ?_, ?_⟩
  · simp [h0, h60]
  walk_at "rd"
  refine ⟨p, _, dx, _, rfl, s1 _ _ hp, I.cls, I.ni, by decide, p, _, dx, _, rfl, upd_same, I.cls, I.ns, (by show 1 < 1000; decide), ?_⟩
  rw [put_item, put_slot0]
  exact q _ upd_same fun b o hb e => by rw [upd_ne hb, upd_ne hb]; exact s1 _ _ e
theorem mkr (T : Tx K mg A) {k : Nat} (hk : k < 4) : Mkr P w K mg base 3 (kName k) (A.kind k) (sp_init A k) := (T.kd k hk).made.mkr sc_Record_init (fun hr => d_Record_init T.G hr) (p_init T hk)
/-- C(x, n): a new record -/
theorem made_ok (T : Tx K mg A) {k : Nat} (hk : k < 4) {H : Hp} {z : Str} {n : Int} {Q : VK} {E : XK} (hz : isItem z = true) (h0 : 0 ≤ n) (h60 : n ≤ 60) (q : ∀ p H', H p = none → Same H H' → Rec A H' p k z n → Q (.ref p) H') :
    ∀ p dx, H p = none → H dx = none → dx ≠ p → sp_init A k [.ref p, .str z, .int n] (upd (upd H dx (.own p)) p (.ins (A.kind k) dx [])) (fun v H' => v = .non ∧ Q (.ref p) H') E := by
  intro p dx hp hd ne
  refine ⟨p, dx, z, n, rfl, upd_same, hz, h0, h60, fun H' h1 h2 => ⟨rfl, q p H' hp (fun b o e => ?_) ⟨hk, dx, h1⟩⟩⟩
  refine h2 b o (ne_of_none e hp) ?_
  rw [upd_ne (ne_of_none e hp), upd_ne (ne_of_none e hd)]
  exact e
def sp_move (A : Ads) (k : Nat) : Sp := fun vs H Q _ => ∃ (p dx : Addr) (z : Str) (m n : Int), vs = [.ref p, .int n] ∧ H p = some (.ins (A.kind k) dx (recF z m)) ∧ 0 ≤ n ∧ n ≤ 60 ∧ Q .non (upd H p (.ins (A.kind k) dx (recF z n)))
theorem p_move (T : Tx K mg A) {k : Nat} (hk : k < 4) : Pur N_Record_move_to ps_Record_move_to (t_Record_move_to P w K mg base A) (sp_move A k) := by
  intro vs H Q E h
  obtain ⟨p, dx, z, m, n, rfl, hp, h0, h60, q⟩ := h
  refine ⟨rfl, ?_⟩
  have I := T.kd k hk
  show t_Record_move_to P w K mg base A E _ [some (.ref p), some (.int n)] H
  unfold t_Record_move_to
  walk_at "rd"
  refine ⟨2, _, fn_is_integer T, by decide, _, _, rfl, att_most T, n, 0, 60, rfl, true, ?_, ?_⟩
  · simp [h0, h60]
  walk_at "rd"
  refine ⟨p, _, dx, _, rfl, hp, I.cls, I.ns, (by show 2 < 1000; decide), ?_⟩
  rw [put_slot]
  exact q
theorem mth_move (T : Tx K mg A) {k : Nat} (hk : k < 4) : Mth P w K mg base 3 (A.kind k) "move_to" (sp_move A k) := (T.kd k hk).mv.mth sc_Record_move_to (fun hr => d_Record_move_to T.G hr) (p_move T hk)
/-! ### what a record tells -/
theorem fnok_item {C g : Addr} {fd : FuncData} (F : Fun K "item" "Record.item" s_Record_item g fd) (c : Cls K C) (n : NoAttr K C "held_item") : FnOk P w K mg base (L2.CX P w) 1 g fd ["self"] (getSp C "held_item") := by
  obtain ⟨oc, od, kV, doc, pm, an, cdv, ct, osl, rfl, lk, hcd⟩ := F.ex
  exact fn_getter (N := ["self"]) lk hcd sc_Record_item rfl rfl c n
theorem fnok_slot {C g : Addr} {fd : FuncData} (F : Fun K "slot" "Record.slot" s_Record_slot g fd) (c : Cls K C) (n : NoAttr K C "held_slot") : FnOk P w K mg base (L2.CX P w) 1 g fd ["self"] (getSp C "held_slot") := by
  obtain ⟨oc, od, kV, doc, pm, an, cdv, ct, osl, rfl, lk, hcd⟩ := F.ex
  exact fn_getter (N := ["self"]) lk hcd sc_Record_slot rfl rfl c n
theorem att_item (T : Tx K mg A) {H : Hp} {a : Addr} {k : Nat} {x : Str} {n : Int} (r : Rec A H a k x n) : Att P w K mg base H a "item" (.str x) := by
  obtain ⟨hk, dx, h⟩ := r
  have I := T.kd k hk
  obtain ⟨p, g, fd, pr, F, b⟩ := I.item
  exact .prop h I.cls pr (fnok_item F I.cls I.ni) b (look_item x n)
theorem att_slot (T : Tx K mg A) {H : Hp} {a : Addr} {k : Nat} {x : Str} {n : Int} (r : Rec A H a k x n) : Att P w K mg base H a "slot" (.int n) := by
  obtain ⟨hk, dx, h⟩ := r
  have I := T.kd k hk
  obtain ⟨p, g, fd, pr, F, b⟩ := I.slot
  exact .prop h I.cls pr (fnok_slot F I.cls I.ns) b (look_slot x n)
theorem att_sign (T : Tx K mg A) {H : Hp} {a : Addr} {k : Nat} {x : Str} {n : Int} (r : Rec A H a k x n) : Att P w K mg base H a "SIGN" (.str (sgn k)) := by
  obtain ⟨hk, dx, h⟩ := r
  have I := T.kd k hk
  obtain ⟨u, c⟩ := I.sign
  exact .con h I.cls c (look_none x n (by decide +kernel) (by decide +kernel))
theorem isi_rec (T : Tx K mg A) {H : Hp} {a : Addr} {k j : Nat} {x : Str} {n : Int} (r : Rec A H a k x n) (hj : j < 4) : Isi K H (.ref a) (.ref (A.kind j)) (decide (k = j ∨ j = 3)) := by
  obtain ⟨hk, dx, h⟩ := r
  have I := T.kd k hk
  exact isi_ins h I.cls I.ty (T.kit k j hk hj)
/-! ### lists of records -/
abbrev Rc := Nat × Str × Int
/-- rs stand in the list at l, in this order, at as -/
structure Book (A : Ads) (H : Hp) (l : Addr) (as : List Addr) (rs : List Rc) : Prop where
  lst : H l = some (.lst (as.map V.ref))
  len : as.length = rs.length
  at_ : ∀ (i : Nat) (a : Addr) (r : Rc), as[i]? = some a → rs[i]? = some r → Rec A H a r.1 r.2.1 r.2.2
theorem Book.same {H H' : Hp} {l : Addr} {as : List Addr} {rs : List Rc} (b : Book A H l as rs) (s : Same H H') : Book A H' l as rs := ⟨s _ _ b.lst, b.len, fun i a r h1 h2 => (b.at_ i a r h1 h2).same s⟩
theorem Book.get {H : Hp} {l : Addr} {as : List Addr} {rs : List Rc} (b : Book A H l as rs) {i : Nat} {x : V} (h : (as.map V.ref)[i]? = some x) : ∃ a r, x = .ref a ∧ as[i]? = some a ∧ rs[i]? = some r ∧ Rec A H a r.1 r.2.1 r.2.2 := by
  rw [List.getElem?_map] at h
  cases e : as[i]? with
  | none => rw [e] at h; cases h
  | some a =>
    rw [e] at h
    have hi : i < rs.length := by rw [← b.len]; exact (List.getElem?_eq_some_iff.mp e).1
    exact ⟨a, rs[i], (Option.some.inj h).symm, rfl, List.getElem?_eq_getElem hi, b.at_ i a _ e (List.getElem?_eq_getElem hi)⟩
/-- [f(record) for record in book] -/
theorem lc_book {H1 : Hp} {l : Addr} {as : List Addr} {rs : List Rc} (b : Book A H1 l as rs) (hn : rs.length ≤ 1000) {te : TE} {v : Nat} {σ : L2.St} {Q : VK} (f : Rc → V)
    (hv : ∀ x, wipe ((wipe σ [v]).set v (some x)) [v] = wipe σ [v]) (turn : ∀ a r H, Same H1 H → Rec A H a r.1 r.2.1 r.2.2 → r ∈ rs → Evs te ((wipe σ [v]).set v (some (.ref a))) H (f r))
    (hq : ∀ D H', H1 D = none → Same H1 H' → H' D = some (.lst (rs.map f)) → Q (.ref D) H') : LcB (Itl K l) (gName v) tYes te [v] σ H1 Q := by
  refine lc_goes (goes_list (.inl (.inl b.lst))) (fun i => (rs[i]?).map f) ?_ (fun i x H hi s r => ?_) fun D H' hD s hl => hq D H' hD s ?_
  · rw [List.length_map, b.len]; exact Nat.lt_of_le_of_lt hn (by decide)
  · obtain ⟨a, q, rfl, ha, hr, rc⟩ := b.get r
    rw [hr]
    refine ⟨(wipe σ [v]).set v (some (.ref a)), hv _, fun R r => r, Evt.yes, fun H3 s3 => turn a q H3 (s.trans s3) (rc.same (s.trans s3)) (List.mem_of_getElem? hr)⟩
  · rw [hl, List.length_map, b.len]
    congr 2
    have e := range_list (fun r => some (f r)) rs
    rw [List.filterMap_eq_map'] at e
    rw [← e]
    congr 1
    funext i
    cases rs[i]? <;> rfl
theorem book_len {H : Hp} {l : Addr} {as : List Addr} {rs : List Rc} (b : Book A H l as rs) : (as.map V.ref).length = rs.length := by rw [List.length_map, b.len]
def sp_are_records (A : Ads) : Sp := fun vs H Q _ => ∃ (l : Addr) (as : List Addr) (rs : List Rc) (m : Int), vs = [.ref l, .int m] ∧ Book A H l as rs ∧ rs.length ≤ 1000 ∧ (∀ r ∈ rs, r.1 < 3) ∧ ∀ H', Same H H' → Q (.bl (decide ((rs.length : Int) ≤ m))) H'
theorem sgn_ne {k : Nat} (h : k < 3) : sgn k ≠ "" := by
  match k, h with
  | 0, _ => decide +kernel
  | 1, _ => decide +kernel
  | 2, _ => decide +kernel
theorem all_true {α : Type} (l : List α) : (l.map fun _ => true).all id = true := by
  induction l with
  | nil => rfl
  | cons x l ih => simp
theorem p_are_records (T : Tx K mg A) : Pur N_are_records ps_are_records (t_are_records P w K mg base A) (sp_are_records A) := by
  intro vs H Q E h
  obtain ⟨l, as, rs, m, rfl, b, hn, h3, q⟩ := h
  refine ⟨rfl, ?_⟩
  show t_are_records P w K mg base A E _ [some (.ref l), some (.int m), none] H
  unfold t_are_records
  walk_at "rd"
  refine ⟨true, isi_lst b.lst (by decide +kernel), ?_⟩
  walk_at "rd"
  refine ⟨_, .inl (.inl (.inl b.lst)), ?_⟩
  rw [book_len b]
  by_cases c : (rs.length : Int) ≤ m
  · rw [if_neg (by simpa using c)]
    refine ⟨⟨_, .inl (.inl b.lst)⟩, lc_book b hn (fun _ => .bl true) (fun x => rfl) (fun a r H1 s1 rc hr => fun Q' q' => ?_) fun D H' hD s hl => ⟨rs.map fun _ => true, .inl (.inl ?_), ?_⟩⟩
    · show tAndV _ _ [some (.ref l), some (.int m), some (.ref a)] H1 Q'
      walk_at "rd"
      refine ⟨_, isi_rec T rc (j := 3) (by decide), ?_⟩
      rw [decide_eq_true (.inr rfl)]
      walk_at "rd"
      refine ⟨_, _, rfl, att_sign T rc, ?_⟩
      walk_at "rd"
      have : decide (sgn r.1 = "") = false := decide_eq_false (sgn_ne (h3 r hr))
      rw [this]
      exact q' H1 (Same.refl _)
    · rw [hl, List.map_map]; rfl
    · rw [all_true]
      have := q H' s
      rwa [decide_eq_true c] at this
  · rw [if_pos (by simpa using c)]
    have := q H (Same.refl _)
    rwa [decide_eq_false c] at this
theorem fn_are_records (T : Tx K mg A) : Fn P w K mg base 3 "are_records" (sp_are_records A) := T.f_are_records.fn sc_are_records (fun hr => d_are_records T.G hr) (p_are_records T)
def sp_items_of (A : Ads) : Sp := fun vs H Q _ => ∃ (l : Addr) (as : List Addr) (rs : List Rc), vs = [.ref l] ∧ Book A H l as rs ∧ rs.length ≤ 1000 ∧ ∀ D H', H D = none → Same H H' → H' D = some (.lst (rs.map fun r => .str r.2.1)) → Q (.ref D) H'
theorem p_items_of (T : Tx K mg A) : Pur N_items_of ps_items_of (t_items_of P w K mg base A) (sp_items_of A) := by
  intro vs H Q E h
  obtain ⟨l, as, rs, rfl, b, hn, q⟩ := h
  refine ⟨rfl, ?_⟩
  show t_items_of P w K mg base A E _ [some (.ref l), none] H
  unfold t_items_of
  walk_at "rd"
  refine ⟨⟨_, .inl (.inl b.lst)⟩, lc_book b hn (fun r => .str r.2.1) (fun x => rfl) (fun a r H1 s1 rc hr => fun Q' q' => ?_) q⟩
  exact ⟨.ref a, rfl, a, _, rfl, att_item T rc, q' H1 (Same.refl _)⟩
theorem fn_items_of (T : Tx K mg A) : Fn P w K mg base 3 "items_of" (sp_items_of A) := T.f_items_of.fn sc_items_of (fun hr => d_items_of T.G hr) (p_items_of T)
def sign1 : List Rc → Str | [] => "" | r :: _ => sgn r.1
def sp_sign_of (A : Ads) : Sp := fun vs H Q _ => ∃ (l : Addr) (as : List Addr) (rs : List Rc), vs = [.ref l] ∧ Book A H l as rs ∧ ∀ H', Same H H' → Q (.str (sign1 rs)) H'
theorem p_sign_of (T : Tx K mg A) : Pur N_sign_of ps_sign_of (t_sign_of P w K mg base A) (sp_sign_of A) := by
  intro vs H Q E h
  obtain ⟨l, as, rs, rfl, b, q⟩ := h
  refine ⟨rfl, ?_⟩
  show t_sign_of P w K mg base A E _ [some (.ref l)] H
  unfold t_sign_of
  walk_at "rd"
  refine ⟨by decide, fun p hp => ?_⟩
  have np : l ≠ p := ne_of_none b.lst hp
  have s1 : Same H (upd H p (.lst [])) := Same.new hp
  match rs, as, b, q with
  | [], [], b, q =>
    refine .inl ⟨.list [], .list [], .lst (.inl (.inl (s1 _ _ b.lst))) .nil, .lst (.inl (.inl upd_same)) .nil, rfl, rfl, ?_⟩
    exact ⟨false, rfl, q _ s1⟩
  | r :: rs, a :: as, b, q =>
    refine .inr ⟨l, p, (.ref a :: as.map V.ref), [], rfl, rfl, .inl (.inl (s1 _ _ b.lst)), .inl (.inl upd_same), by simp, true, rfl, ?_⟩
    have rc := (b.at_ 0 a r rfl rfl).same s1
    exact ⟨_, _, .inl (.inl (.inl (s1 _ _ b.lst))), at_of (j := 0) rfl rfl, _, _, rfl, att_sign T rc, q _ s1⟩
  | [], _ :: _, b, _ => exact absurd b.len (by simp)
  | _ :: _, [], b, _ => exact absurd b.len (by simp)
theorem fn_sign_of (T : Tx K mg A) : Fn P w K mg base 3 "sign_of" (sp_sign_of A) := T.f_sign_of.fn sc_sign_of (fun hr => d_sign_of T.G hr) (p_sign_of T)
/-! ### logs -/
def isLog (rs : List Rc) : Bool := decide (rs.length ≤ 40) && (decide ((dd (rs.map fun r => sgn r.1)).length ≤ 1) && decide ((dd (rs.map fun r => r.2.1)).length = rs.length))
def sp_is_log (A : Ads) : Sp := fun vs H Q _ => ∃ (l : Addr) (as : List Addr) (rs : List Rc), vs = [.ref l] ∧ Book A H l as rs ∧ rs.length ≤ 1000 ∧ (∀ r ∈ rs, r.1 < 3) ∧ ∀ H', Same H H' → Q (.bl (isLog rs)) H'
theorem p_is_log (T : Tx K mg A) : Pur N_is_log ps_is_log (t_is_log P w K mg base A) (sp_is_log A) := by
  intro vs H Q E h
  obtain ⟨l, as, rs, rfl, b, hn, h3, q⟩ := h
  refine ⟨rfl, ?_⟩
  show t_is_log P w K mg base A E _ [some (.ref l), none] H
  unfold t_is_log
  walk_at "rd"
  refine ⟨3, _, fn_are_records T, by decide, l, as, rs, _, rfl, b, hn, h3, fun H1 s1 => ⟨_, rfl, ?_⟩⟩
  by_cases c : rs.length ≤ 40
  · rw [decide_eq_true (show (rs.length : Int) ≤ 40 by omega)]
    walk_at "rd"
    have b1 := b.same s1
    refine ⟨⟨_, .inl (.inl b1.lst)⟩, lc_book b1 hn (fun r => .str (sgn r.1)) (fun x => rfl) (fun a r H2 s2 rc hr => fun Q' q' => ?_) fun D H2 hD s2 hl => ?_⟩
    · exact ⟨.ref a, rfl, a, _, rfl, att_sign T rc, q' H2 (Same.refl _)⟩
    refine ⟨D, rs.map fun r => sgn r.1, rfl, .inl (.inl ?_), by simpa using hn, ?_⟩
    · rw [hl, List.map_map]; rfl
    have b2 := b1.same s2
    by_cases c1 : (dd (rs.map fun r => sgn r.1)).length ≤ 1
    · rw [if_pos (by simp only [decide_eq_true_eq]; omega)]
      refine ⟨3, _, fn_items_of T, by decide, l, as, rs, rfl, b2, hn, fun D2 H3 hD2 s3 hl3 => ?_⟩
      refine ⟨D2, rs.map fun r => r.2.1, rfl, .inl (.inl ?_), by simpa using hn, ?_⟩
      · rw [hl3, List.map_map]; rfl
      have b3 := b2.same s3
      refine ⟨_, .inl (.inl (.inl b3.lst)), ?_⟩
      have e : isLog rs = decide (((dd (rs.map fun r => r.2.1)).length : Int) = ((as.map V.ref).length : Nat)) := by
        unfold isLog
        rw [book_len b, decide_eq_true c, decide_eq_true c1, Bool.true_and, Bool.true_and, Bool.eq_iff_iff]
        simp only [decide_eq_true_eq]
        omega
      have := q H3 ((s1.trans s2).trans s3)
      rwa [e] at this
    · rw [if_neg (by simp only [decide_eq_true_eq]; omega)]
      have e : isLog rs = false := by simp [isLog, c1]
      have := q H2 (s1.trans s2)
      rwa [e] at this
  · rw [decide_eq_false (show ¬ (rs.length : Int) ≤ 40 by omega)]
    walk_at "rd"
    have e : isLog rs = false := by simp [isLog, c]
    have := q H1 s1
    rwa [e] at this
theorem fn_is_log (T : Tx K mg A) : Fn P w K mg base 4 "is_log" (sp_is_log A) := T.f_is_log.fn sc_is_log (fun hr => d_is_log T.G hr) (p_is_log T)
def sp_need_log (A : Ads) : Sp := fun vs H Q _ => ∃ (l : Addr) (as : List Addr) (rs : List Rc), vs = [.ref l] ∧ Book A H l as rs ∧ isLog rs = true ∧ (∀ r ∈ rs, r.1 < 3) ∧ ∀ H', Same H H' → Q .non H'
theorem log_40 {rs : List Rc} (h : isLog rs = true) : rs.length ≤ 40 := by
  unfold isLog at h
  simp only [Bool.and_eq_true, decide_eq_true_eq] at h
  exact h.1
theorem p_need_log (T : Tx K mg A) : Pur N_need_log ps_need_log (t_need_log P w K mg base A) (sp_need_log A) := by
  intro vs H Q E h
  obtain ⟨l, as, rs, rfl, b, hl, h3, q⟩ := h
  refine ⟨rfl, ?_⟩
  show t_need_log P w K mg base A E _ [some (.ref l)] H
  unfold t_need_log
  walk_at "rd"
  have := log_40 hl
  refine ⟨4, _, fn_is_log T, by decide, l, as, rs, rfl, b, by omega, h3, fun H1 s1 => ⟨_, rfl, ?_⟩⟩
  rw [hl]
  exact q H1 s1
theorem fn_need_log (T : Tx K mg A) : Fn P w K mg base 5 "need_log" (sp_need_log A) := T.f_need_log.fn sc_need_log (fun hr => d_need_log T.G hr) (p_need_log T)
end
end K
namespace K
open PySem PySem.Spec PyProof.Rows L2 U ClX M
local macro_rules | `(tactic| walk_at "rd") => `(tactic| simp only [tSeq, tRet, tIfS, tAsg, tDrop, tNext, tNever, tRetN, tAndV, tOrV, tNotV, tAnd, tOr, tNot, tB, tTest, tChain, tCB, tCons, tNil, tVar, tC, tOp, tUn, tIf, gName, uLe, uLt, uGe, uGt, uCmp, uAdd, uSub, uMul, uDiv, uMod, uPow, uNeg, uEq, uNe, uIs, uIsNot, uIx, uIn, cIsi, cLen, cAll, cMax, cMin, cAbs, cSort, cSortD, cInt, cTuple, cRepr, cList, cSortS, tRevL, tDGet, tLstRg, tTupRg, tRg1, tRg2, sDPut, tDNewK, tAug, ipI, iZip, tLst, tTup, tPar, U.tPar3, tFn, tMkr, tMth, tFnK, tMthK, tAtt, sFld, tYes, tLc_eq, tFor_eq, iList, iStr, iRng1, iRng2, iEnum, tLenSetT, tSl, tPart, tNoPart, gTup, gCons, gNil, gSub, tBM, tBM0, List.getElem?_cons_zero, List.getElem?_cons_succ, List.set_cons_zero, List.set_cons_succ, Option.some.injEq, V.bl.injEq, V.int.injEq, V.str.injEq, V.ref.injEq, exists_eq_left', exists_eq_left, exists_eq_right, exists_eq_right', and_true, true_and, scal, if_true, Bool.false_eq_true, if_false, List.cons.injEq, exists_const, false_and, and_false, ite_true, ite_false, Bool.not_true, Bool.not_false])
section
variable {P : Program} {w : World} {K : PySem.W.Frag} {mg : Str → Option Value} {base : Heap} {A : Ads}
/-! ### the tape: drawn numbers -/
theorem bits_le {i : Int} {n : Nat} (h0 : 0 < n) (h : i.natAbs < 2 ^ n) : Builtin.Int.intBits i ≤ n := by
  have := PySem.Flt.log2_lt_of h0 h
  unfold Builtin.Int.intBits
  split <;> omega
/-- a tape of which at most c numbers were mixed -/
def TapeL (c : Int) (xs : List V) : Prop := ∃ n0 n1 n2 : Int, xs = [.int n0, .int n1, .int n2] ∧ 0 ≤ n0 ∧ 0 ≤ n1 ∧ n1 < 2 ^ 200 ∧ 0 ≤ n2 ∧ n2 ≤ c
theorem TapeL.mono {c d : Int} {xs : List V} (h : TapeL c xs) (hd : c ≤ d) : TapeL d xs := by
  obtain ⟨n0, n1, n2, e, h1, h2, h3, h4, h5⟩ := h
  exact ⟨n0, n1, n2, e, h1, h2, h3, h4, by omega⟩
def sp_next : Sp := fun vs H Q _ => ∃ (a : Addr) (sz c : Int) (xs : List V), vs = [.ref a, .int sz] ∧ H a = some (.lst xs) ∧ TapeL c xs ∧ c ≤ 1000000 ∧ 0 < sz ∧ sz ≤ 1000 ∧
  ∀ r ys, 0 ≤ r → r < sz → TapeL (c + 1) ys → Q (.int r) (upd H a (.lst ys))
theorem p_next : Pur N_law_next ps_law_next (t_law_next P w K mg base A) sp_next := by
  intro vs H Q E h
  obtain ⟨a, sz, c, xs, rfl, ha, ⟨n0, n1, n2, rfl, h0, h1, h1', h2, h2'⟩, hc, hs, hs', q⟩ := h
  refine ⟨rfl, ?_⟩
  show t_law_next P w K mg base A E _ [some (.ref a), some (.int sz), none, none] H
  unfold t_law_next
  walk_at "rd"
  refine ⟨_, _, .inl (.inl (.inl ha)), at_of (j := 0) rfl rfl, ?_⟩
  walk_at "rd"
  have lg : sz.natAbs.log2 < 9000 := Nat.lt_of_lt_of_le (PySem.Flt.log2_lt_of (show 0 < 10 by decide) (show sz.natAbs < 2 ^ 10 by omega)) (by decide)
  by_cases c0 : 0 < n0
  · rw [if_pos (decide_eq_true c0)]
    refine ⟨_, _, .inl (.inl (.inl ha)), at_of (j := 0) rfl rfl, hs, _, _, .inl (.inl (.inl ha)), at_of (j := 0) rfl rfl, ⟨hs, lg⟩, a, _, 0, 0, rfl, rfl, ha, rfl, ?_⟩
    exact q _ _ (Int.emod_nonneg _ (by omega)) (Int.emod_lt_of_pos _ hs) ⟨n0 / sz, n1, n2, rfl, Int.ediv_nonneg h0 (by omega), h1, h1', h2, by omega⟩
  · rw [if_neg (by simpa using c0)]
    refine ⟨_, _, .inl (.inl (.inl ha)), at_of (j := 2) rfl rfl, a, _, 2, 2, rfl, rfl, ha, rfl, _, _, .inl (.inl (.inl upd_same)), at_of (j := 1) rfl rfl, _, _, .inl (.inl (.inl upd_same)), at_of (j := 2) rfl rfl, .inl ⟨by decide, by decide⟩, ?_⟩
    have b1 : Builtin.Int.intBits (n1 + 10000019 * (n2 + 1)) ≤ 201 := bits_le (by decide) (by omega)
    refine ⟨⟨by decide, by omega⟩, ⟨by decide, by decide⟩, by decide, _, _, .inl (.inl (.inl upd_same)), at_of (j := 2) rfl rfl, .inl ⟨by decide, by decide⟩, ?_⟩
    have m0 : 0 ≤ (n1 + 10000019 * (n2 + 1)) ^ Int.toNat 3 % (10 ^ Int.toNat 41 + 37) := Int.emod_nonneg _ (by decide)
    have m1 : (n1 + 10000019 * (n2 + 1)) ^ Int.toNat 3 % (10 ^ Int.toNat 41 + 37) < 10 ^ Int.toNat 41 + 37 := Int.emod_lt_of_pos _ (by decide)
    generalize (n1 + 10000019 * (n2 + 1)) ^ Int.toNat 3 % (10 ^ Int.toNat 41 + 37) = m at m0 m1
    have m2 : (10 : Int) ^ Int.toNat 41 + 37 < 2 ^ 150 := by decide
    have b2 : Builtin.Int.intBits (m + 32452843 * (n2 + 1)) ≤ 151 := bits_le (by decide) (by omega)
    refine ⟨⟨by decide, by omega⟩, ⟨by decide, by decide⟩, by decide, ⟨by decide, by decide⟩, hs, ?_⟩
    exact q _ _ (Int.emod_nonneg _ (by omega)) (Int.emod_lt_of_pos _ hs) ⟨n0, n1, n2 + 1, rfl, h0, h1, h1', by omega, by omega⟩
theorem fn_next (T : Tx K mg A) : Fn P w K mg base 2 "_law_next" sp_next := T.f_law_next.fn sc_law_next (fun hr => d_law_next T.G hr) p_next
def sp_tape (K : PySem.W.Frag) : Sp := fun vs H Q _ => ∃ (a : Addr) (ns : List Int) (k : Int), vs = [.ref a, .int k] ∧ SqL K H a (ns.map V.int) ∧ 0 ≤ k ∧ k ≤ 100 ∧ ∀ p xs, H p = none → TapeL 0 xs → Q (.ref p) (upd H p (.lst xs))
theorem p_tape : Pur N_law_tape ps_law_tape (t_law_tape P w K mg base A) (sp_tape K) := by
  intro vs H Q E h
  obtain ⟨a, ns, k, rfl, ha, k0, k1, q⟩ := h
  refine ⟨rfl, ?_⟩
  show t_law_tape P w K mg base A E _ [some (.ref a), some (.int k), none] H
  unfold t_law_tape
  walk_at "rd"
  refine ⟨_, .inl ha, ?_⟩
  have fin : ∀ x : Int, 0 ≤ x → (((0 : Int) ≤ 18 ∧ (Builtin.Int.intBits 10 : Int) * 18 ≤ 2 ^ 27) ∧ ((0 : Int) ≤ 39 ∧ (Builtin.Int.intBits 10 : Int) * 39 ≤ 2 ^ 27) ∧ 0 < (10 : Int) ^ Int.toNat 39 + 3 ∧ CMul (x % (10 ^ Int.toNat 39 + 3)) 71 ∧ 3 ≤ sizeLine ∧
      TapeL 0 [.int (if x - 10 ^ Int.toNat 18 > 0 then x - 10 ^ Int.toNat 18 else 0), .int (x % (10 ^ Int.toNat 39 + 3) * 71 + k), .int 0]) := by
    intro x hx
    refine ⟨⟨by decide, by decide⟩, ⟨by decide, by decide⟩, by decide, .inr ⟨by decide, by decide⟩, by decide, ?_⟩
    have m0 : 0 ≤ x % (10 ^ Int.toNat 39 + 3) := Int.emod_nonneg _ (by decide)
    have m1 : x % (10 ^ Int.toNat 39 + 3) < 10 ^ Int.toNat 39 + 3 := Int.emod_lt_of_pos _ (by decide)
    have m2 : (10 : Int) ^ Int.toNat 39 + 3 < 2 ^ 150 := by decide
    refine ⟨_, _, _, rfl, ?_, ?_, ?_, by omega, by omega⟩
    · split <;> omega
    · omega
    · omega
  by_cases c : k < ns.length
  · rw [if_pos (by simpa using c)]
    obtain ⟨j, rfl⟩ : ∃ j : Nat, k = j := ⟨k.toNat, by omega⟩
    have hj : j < ns.length := by omega
    refine ⟨_, .int ns[j], .inl ha, at_of (j := j) rfl (by rw [List.getElem?_map, List.getElem?_eq_getElem hj]; rfl), ?_⟩
    obtain ⟨f1, f2, f3, f4, f5, f6⟩ := fin (if ns[j] < 0 then -ns[j] else ns[j]) (by split <;> omega)
    exact ⟨f1, f2, f3, f4, f5, fun p hp => q p _ hp f6⟩
  · rw [if_neg (by simpa using c)]
    obtain ⟨f1, f2, f3, f4, f5, f6⟩ := fin 0 (by decide)
    exact ⟨f1, f2, f3, f4, f5, fun p hp => q p _ hp f6⟩
theorem fn_tape (T : Tx K mg A) : Fn P w K mg base 2 "_law_tape" (sp_tape K) := T.f_law_tape.fn sc_law_tape (fun hr => d_law_tape T.G hr) p_tape
/-! ### drawn items -/
/-- a text of the pool -/
structure Pool (xs : List Str) : Prop where
  nd : xs.Nodup
  it : ∀ x ∈ xs, isItem x = true
def pool0 : List Str := (List.range 26).map (fun i => (⟨#[97 + i]⟩ : Str)) ++ (List.range 26).map (fun i => (⟨#[122, 97 + i]⟩ : Str)) ++ (List.range 26).map (fun i => (⟨#[97, 98, 99, 100, 101, 102, 103, 97 + i]⟩ : Str))
theorem pool0_ok : Pool pool0 := ⟨by decide +kernel, by decide +kernel⟩
/-- H' is H but for the tape's list at a, which stands anew, and for new objects -/
def But (a : Addr) (H H' : Hp) : Prop := ∀ b o, b ≠ a → H b = some o → H' b = some o
theorem But.refl {a : Addr} {H : Hp} : But a H H := fun _ _ _ h => h
theorem But.trans {a : Addr} {H H1 H2 : Hp} (x : But a H H1) (y : But a H1 H2) : But a H H2 := fun b o hb e => y b o hb (x b o hb e)
theorem But.same {a : Addr} {H H1 : Hp} (x : Same H H1) : But a H H1 := fun b o _ e => x b o e
theorem But.upd {a : Addr} {H : Hp} {o : HO} : But a H (upd H a o) := fun b o hb e => by rw [upd_ne hb]; exact e
theorem But.mut {a p : Addr} {H H1 : Hp} {o : HO} (x : But a H H1) (hp : H p = none) : But a H (L2.upd H1 p o) := fun b u hb e => by rw [upd_ne (ne_of_none e hp)]; exact x b u hb e
/-- the tape stands at a -/
def Tape (H : Hp) (a : Addr) (c : Int) : Prop := ∃ xs, H a = some (.lst xs) ∧ TapeL c xs
theorem Tape.same {H H' : Hp} {a : Addr} {c : Int} (t : Tape H a c) (s : Same H H') : Tape H' a c := let ⟨xs, h, t⟩ := t; ⟨xs, s _ _ h, t⟩
theorem Tape.mono {H : Hp} {a : Addr} {c d : Int} (t : Tape H a c) (h : c ≤ d) : Tape H a d := let ⟨xs, h1, t⟩ := t; ⟨xs, h1, t.mono h⟩
/-- next as one step -/
theorem next_ok {H : Hp} {a : Addr} {c sz : Int} {Q : VK} {E : XK} (t : Tape H a c) (hc : c ≤ 1000000) (h0 : 0 < sz) (h1 : sz ≤ 1000) (q : ∀ r H', 0 ≤ r → r < sz → Tape H' a (c + 1) → But a H H' → (∀ b, b ≠ a → H' b = H b) → Q (.int r) H') : sp_next [.ref a, .int sz] H Q E := by
  obtain ⟨xs, h, t⟩ := t
  exact ⟨a, sz, c, xs, rfl, h, t, hc, h0, h1, fun r ys r0 r1 ty => q r _ r0 r1 ⟨ys, upd_same, ty⟩ But.upd fun b hb => upd_ne hb⟩
theorem erase_map {α β : Type} (f : α → β) : ∀ (l : List α) (j : Nat), (l.map f).eraseIdx j = (l.eraseIdx j).map f
  | [], _ => rfl
  | _ :: _, 0 => rfl
  | x :: l, j + 1 => congrArg (f x :: ·) (erase_map f l j)
theorem move_perm {α : Type} (zs rest : List α) (j : Nat) (h : j < rest.length) : ((zs ++ [rest[j]]) ++ rest.eraseIdx j).Perm (zs ++ rest) := by
  rw [List.append_assoc]
  exact List.Perm.append_left zs (erase_perm rest j h)
theorem Tape.other {H : Hp} {a p : Addr} {c : Int} {o : HO} (t : Tape H a c) (h : p ≠ a) : Tape (upd H p o) a c := let ⟨xs, h1, t⟩ := t; ⟨xs, by rw [upd_ne (Ne.symm h)]; exact h1, t⟩
def sp_items : Sp := fun vs H Q _ => ∃ (a : Addr) (c : Int) (n : Nat), vs = [.ref a, .int n] ∧ Tape H a c ∧ c ≤ 900000 ∧ n ≤ 70 ∧
  ∀ (p : Addr) (zs : List Str) (H' : Hp), H p = none → zs.length = n → zs.Nodup → (∀ z ∈ zs, z ∈ pool0) → H' p = some (.lst (zs.map V.str)) → Tape H' a (c + n) → But a H H' → Q (.ref p) H'
theorem lc_text {z : Str} {te : TE} {v : Nat} {σ : L2.St} {H1 : Hp} {Q : VK} (f : Nat → V) (hz : z.cps.size ≤ 1000) (hv : ∀ x, wipe ((wipe σ [v]).set v (some x)) [v] = wipe σ [v])
    (turn : ∀ (i c : Nat) (H : Hp), z.cps[i]? = some c → Evs te ((wipe σ [v]).set v (some (.str ⟨#[c]⟩))) H (f c)) (hq : ∀ D H', H1 D = none → Same H1 H' → H' D = some (.lst (z.cps.toList.map f)) → Q (.ref D) H') : LcB (Its z) (gName v) tYes te [v] σ H1 Q := by
  refine lc_goes goes_str (fun i => (z.cps.toList[i]?).map f) (Nat.lt_of_le_of_lt hz (by decide)) (fun i x H hi s r => ?_) fun D H' hD s hl => hq D H' hD s ?_
  · obtain ⟨c, hc, rfl⟩ := r
    have e : z.cps.toList[i]? = some c := by rw [Array.getElem?_toList]; exact hc
    rw [e]
    exact ⟨(wipe σ [v]).set v (some (.str ⟨#[c]⟩)), hv _, fun R r => r, Evt.yes, fun H3 s3 => turn i c H3 hc⟩
  · rw [hl]
    congr 2
    have e := range_list (fun r => some (f r)) z.cps.toList
    rw [List.filterMap_eq_map', Array.length_toList] at e
    rw [← e]
    congr 1
    funext i
    cases z.cps.toList[i]? <;> rfl
theorem p_items (T : Tx K mg A) : Pur N_law_items ps_law_items (t_law_items P w K mg base A) sp_items := by
  intro vs H Q E h
  obtain ⟨a, c, n, rfl, t, hc, hn, q⟩ := h
  refine ⟨rfl, ?_⟩
  show t_law_items P w K mg base A E _ [some (.ref a), some (.int n), none, none, none, none] H
  unfold t_law_items
  walk_at "rd"
  refine lc_text (fun c => .str ⟨#[c]⟩) (by decide +kernel) (fun x => rfl) (fun i c H _ Q q => ⟨_, rfl, q H (Same.refl _)⟩) fun D1 H1 hD1 s1 hl1 => ?_
  refine lc_text (fun c => .str ("z" ++ ⟨#[c]⟩)) (by decide +kernel) (fun x => rfl) (fun i c H _ Q q => ⟨_, rfl, ⟨(by show 1 + 1 ≤ sizeLine; decide), q H (Same.refl _)⟩⟩) fun D2 H2 hD2 s2 hl2 => ?_
  have n12 : D1 ≠ D2 := ne_of_none hl1 hD2
  have hl1' := s2 _ _ hl1
  refine ⟨_, _, hl1', hl2, (by decide +kernel), fun p3 hp3 => ?_⟩
  refine lc_text (fun c => .str ("abcdefg" ++ ⟨#[c]⟩)) (by decide +kernel) (fun x => rfl) (fun i c H _ Q q => ⟨_, rfl, ⟨(by show 7 + 1 ≤ sizeLine; decide), q H (Same.refl _)⟩⟩) fun D4 H4 hD4 s4 hl4 => ?_
  refine ⟨_, _, s4 _ _ upd_same, hl4, (by decide +kernel), fun pl hpl => ?_⟩
  have ep : (List.map (fun c => V.str { cps := #[c] }) (Str.ofString "abcdefghijklmnopqrstuvwxyz").cps.toList ++ List.map (fun c => V.str (Str.ofString "z" ++ { cps := #[c] })) (Str.ofString "abcdefghijklmnopqrstuvwxyz").cps.toList ++ List.map (fun c => V.str (Str.ofString "abcdefg" ++ { cps := #[c] })) (Str.ofString "abcdefghijklmnopqrstuvwxyz").cps.toList) = pool0.map V.str := by decide +kernel
  rw [ep]
  have S : Same H (upd H4 pl (.lst (pool0.map V.str))) := (((s1.trans s2).trans (Same.new hp3)).trans s4).trans (Same.new hpl)
  generalize hH5 : upd H4 pl (.lst (pool0.map V.str)) = H5 at S
  have hpool : H5 pl = some (.lst (pool0.map V.str)) := by rw [← hH5]; exact upd_same
  have fpl : H pl = none := (((s1.trans s2).trans (Same.new hp3)).trans s4).free hpl
  refine ⟨by omega, by omega, fun D hD => L2.lc_range (n := n) (fun i G => ∃ zs rest : List Str, zs.length = i ∧ rest.length + i = 78 ∧ (zs ++ rest).Nodup ∧ (∀ z ∈ zs ++ rest, z ∈ pool0) ∧ G D = some (.lst (zs.map V.str)) ∧ G pl = some (.lst (rest.map V.str)) ∧ Tape G a (c + i) ∧ But a H G) ?_ ?_ ?_⟩
  · have fD : H D = none := S.free hD
    refine ⟨[], pool0, rfl, by decide +kernel, pool0_ok.nd, (fun z hz => hz), upd_same, ?_, ?_, (But.same S).mut fD⟩
    · rw [upd_ne (ne_of_none hpool hD)]; exact hpool
    · have := (t.same S).same (Same.new (o := .lst []) hD)
      simpa using this
  · rintro i G hi ⟨zs, rest, hz, hr, nd, it, gD, gpl, tp, bt⟩
    refine ⟨rfl, ?_⟩
    show tBM K "list" rPopAt (tVar 3) _ [some (.ref a), some (.int n), some (.str "abcdefghijklmnopqrstuvwxyz"), some (.ref pl), none, some (.int (0 + i))] G _
    walk_at "rd"
    refine ⟨.inl ⟨rfl, _, .inl (.inl gpl)⟩, 2, _, fn_next T, by decide, _, .inl (.inl (.inl gpl)), next_ok tp (by omega) ?_ ?_ fun r G1 r0 r1 tp1 bt1 eq1 => ?_⟩
    · rw [List.length_map]; omega
    · rw [List.length_map]; omega
    rw [List.length_map] at r1
    have na : pl ≠ a := fun e => by subst e; obtain ⟨xs, hx, _⟩ := t; rw [fpl] at hx; cases hx
    have nD : D ≠ a := fun e => by subst e; obtain ⟨xs, hx, _⟩ := t.same S; rw [hD] at hx; cases hx
    have nDp : D ≠ pl := fun e => by subst e; rw [hpool] at hD; cases hD
    obtain ⟨j, rfl⟩ : ∃ j : Nat, r = j := ⟨r.toNat, by omega⟩
    have hj : j < rest.length := by omega
    refine ⟨pl, _, j, j, .str rest[j], rfl, rfl, (eq1 pl na).trans gpl, by omega, by omega, ?_, ?_, zs.map V.str, ?_, ?_, ?_⟩
    · rw [List.length_map]; simp [seqIndex?, hj]; omega
    · rw [List.getElem?_map, List.getElem?_eq_getElem hj]; rfl
    · rw [upd_ne nDp, eq1 D nD]; exact gD
    · rw [List.length_map, hz]; exact Nat.lt_of_lt_of_le (by omega : i < 1000) (by decide)
    have er : (rest.map V.str).eraseIdx j = (rest.eraseIdx j).map V.str := erase_map _ _ _
    refine ⟨zs ++ [rest[j]], rest.eraseIdx j, by simp [hz], by rw [List.length_eraseIdx_of_lt hj]; omega, ?_, ?_, ?_, ?_, ?_, ?_⟩
    · exact (move_perm zs rest j hj).nodup_iff.mpr nd
    · exact fun z hz => it z ((move_perm zs rest j hj).mem_iff.mp hz)
    · rw [upd_same, List.map_append]; rfl
    · rw [upd_ne (Ne.symm nDp), upd_same, er]
    · have := (tp1.other (o := .lst ((rest.map V.str).eraseIdx j)) na).other (o := .lst (zs.map V.str ++ [V.str rest[j]])) nD
      exact this.mono (by omega)
    · exact ((bt.trans bt1).mut fpl).mut (S.free hD)
  · rintro G ⟨zs, rest, hz, hr, nd, it, gD, gpl, tp, bt⟩
    exact q D zs G (S.free hD) hz (List.nodup_append.mp nd).1 (fun z h => it z (List.mem_append_left _ h)) gD tp bt
theorem fn_items (T : Tx K mg A) : Fn P w K mg base 3 "_law_items" sp_items := T.f_law_items.fn sc_law_items (fun hr => d_law_items T.G hr) (p_items T)
/-! ### made, facts -/
def sp_made (A : Ads) : Sp := fun vs H Q _ => ∃ (k : Nat) (z : Str) (n : Int), vs = [.int k, .str z, .int n] ∧ k < 3 ∧ isItem z = true ∧ 0 ≤ n ∧ n ≤ 60 ∧ ∀ p H', H p = none → Same H H' → Rec A H' p k z n → Q (.ref p) H'
theorem p_made (T : Tx K mg A) : Pur N_law_made ps_law_made (t_law_made P w K mg base A) (sp_made A) := by
  intro vs H Q E h
  obtain ⟨k, z, n, rfl, hk, hz, h0, h60, q⟩ := h
  refine ⟨rfl, ?_⟩
  show t_law_made P w K mg base A E _ [some (.int k), some (.str z), some (.int n)] H
  unfold t_law_made
  walk_at "rd"
  match k, hk, q with
  | 0, hk, q => exact ⟨3, _, _, mkr T (k := 0) (by decide), by decide, made_ok T (by decide) hz h0 h60 q⟩
  | 1, hk, q => exact ⟨3, _, _, mkr T (k := 1) (by decide), by decide, made_ok T (by decide) hz h0 h60 q⟩
  | 2, hk, q => exact ⟨3, _, _, mkr T (k := 2) (by decide), by decide, made_ok T (by decide) hz h0 h60 q⟩
theorem fn_made (T : Tx K mg A) : Fn P w K mg base 5 "_law_made" (sp_made A) := T.f_law_made.fn sc_law_made (fun hr => d_law_made T.G hr) (p_made T)
/-- what is told of a record -/
def fact (r : Rc) : PyData := .tuple [.list [.bool (decide (r.1 = 0)), .bool (decide (r.1 = 1)), .bool (decide (r.1 = 2))], .str r.2.1, .int r.2.2]
def sp_facts (K : PySem.W.Frag) (A : Ads) : Sp := fun vs H Q _ => ∃ (l : Addr) (as : List Addr) (rs : List Rc), vs = [.ref l] ∧ Book A H l as rs ∧ rs.length ≤ 1000 ∧ ∀ p H', H p = none → Same H H' → Dp K H' (.ref p) (.list (rs.map fact)) → Q (.ref p) H'
theorem isi_rec3 (T : Tx K mg A) {H : Hp} {a : Addr} {k j : Nat} {x : Str} {n : Int} (r : Rec A H a k x n) (hj : j < 3) : Isi K H (.ref a) (.ref (A.kind j)) (decide (k = j)) := by
  have h := isi_rec T r (j := j) (by omega)
  have e : decide (k = j ∨ j = 3) = decide (k = j) := by
    rw [Bool.eq_iff_iff]; simp only [decide_eq_true_eq]; omega
  rwa [e] at h
theorem item_ok {z : Str} (h : isItem z = true) : PyData.strOk z = true := by
  unfold isItem at h
  simp only [Bool.and_eq_true, List.all_eq_true, decide_eq_true_eq] at h
  unfold PyData.strOk
  rw [← Array.all_toList, List.all_eq_true]
  intro c hc
  have := h.2 c hc
  simp only [decide_eq_true_eq]
  omega
theorem fact_ok {r : Rc} (h : isItem r.2.1 = true) : okD 2 (fact r) := by
  refine okD.tuple fun d hd => ?_
  simp only [List.mem_cons, List.not_mem_nil, or_false] at hd
  rcases hd with rfl | rfl | rfl
  · refine okD.list fun d hd => ?_
    simp only [List.mem_cons, List.not_mem_nil, or_false] at hd
    rcases hd with rfl | rfl | rfl <;> exact okD.bool
  · exact okD.str (item_ok h)
  · exact okD.int
/-- what H' has and H has not -/
def newer (H H' : Hp) : Hp := fun b => match H b with | none => H' b | some _ => none
theorem newer_same {H H' : Hp} : Same (newer H H') H' := fun b o e => by
  unfold newer at e
  split at e
  · exact e
  · cases e
theorem newer_get {H H' : Hp} {b : Addr} {o : HO} (h : H b = none) (e : H' b = some o) : newer H H' b = some o := by unfold newer; rw [h]; exact e
theorem newer_mono {H H1 H2 : Hp} (s : Same H1 H2) : Same (newer H H1) (newer H H2) := fun b o e => by
  unfold newer at e
  split at e
  · rename_i h; exact newer_get h (s b o e)
  · cases e
/-- all but a known address: what is new stays -/
theorem newer_but {H H1 H2 : Hp} {tp : Addr} {o : HO} (h : H tp = some o) (b : But tp H1 H2) : Same (newer H H1) H2 := fun a u e => by
  refine b a u (fun z => ?_) (newer_same a u e)
  subst z
  unfold newer at e
  rw [h] at e
  cases e
def sp_factsN (K : PySem.W.Frag) (A : Ads) : Sp := fun vs H Q _ => ∃ (l : Addr) (as : List Addr) (rs : List Rc), vs = [.ref l] ∧ Book A H l as rs ∧ rs.length ≤ 1000 ∧ ∀ p H', H p = none → Same H H' → Dp K (newer H H') (.ref p) (.list (rs.map fact)) → Q (.ref p) H'
theorem p_factsN (T : Tx K mg A) : Pur N_law_facts ps_law_facts (t_law_facts P w K mg base A) (sp_factsN K A) := by
  intro vs H Q E h
  obtain ⟨l, as, rs, rfl, b, hn, q⟩ := h
  refine ⟨rfl, ?_⟩
  show t_law_facts P w K mg base A E _ [some (.ref l), none, none, none] H
  unfold t_law_facts
  walk_at "rd"
  refine ⟨by decide, fun F hF => ?_⟩
  have s0 : Same H (upd H F (.lst [])) := Same.new hF
  refine ⟨⟨_, .inl (.inl (s0 _ _ b.lst))⟩, for_list (K := K) (a := l) (xs := as.map V.ref) (fun i σ G => ∃ ys v2 v3, σ = [some (.ref l), some (.ref F), v2, v3] ∧ Same H G ∧ G F = some (.lst ys) ∧ DpAll K (hide F (newer H G)) ys ((rs.take i).map fact)) ⟨[], none, none, rfl, s0, upd_same, .nil⟩ (fun i σ G _ ⟨_, _, _, _, s, _⟩ => .inl (.inl (s _ _ b.lst))) ?_ ?_⟩
  · rintro i x σ G hi ⟨ys, v2, v3, rfl, s, hl, dp⟩
    obtain ⟨a, r, rfl, ha, hr, rc⟩ := (b.same s).get hi
    walk_at "rd"
    refine ⟨_, isi_rec3 T rc (j := 0) (by decide), _, isi_rec3 T rc (j := 1) (by decide), _, isi_rec3 T rc (j := 2) (by decide), (by show 3 ≤ sizeLine; decide), fun p1 hp1 => ?_⟩
    have s1 : Same G (upd G p1 (.lst [.bl (decide (r.1 = 0)), .bl (decide (r.1 = 1)), .bl (decide (r.1 = 2))])) := Same.new hp1
    have n1 : p1 ≠ F := Ne.symm (ne_of_none hl hp1)
    refine ⟨.inl ⟨rfl, _, .inl (.inl (s1 _ _ hl))⟩, _, _, rfl, att_item T (rc.same s1), _, _, rfl, att_slot T (rc.same s1), (by show 3 ≤ sizeLine; decide), fun p2 hp2 => ?_⟩
    have s2 := Same.new (o := .tup [.ref p1, .str r.2.1, .int r.2.2]) hp2
    have n2 : p2 ≠ F := Ne.symm (ne_of_none (s1 _ _ hl) hp2)
    have yl := dpa_len dp
    rw [List.length_map, List.length_take] at yl
    have hi' : i < rs.length := (List.getElem?_eq_some_iff.mp hr).1
    refine ⟨F, ys, _, rfl, rfl, s2 _ _ (s1 _ _ hl), Nat.lt_of_lt_of_le (by omega : ys.length < 1001) (by decide), ys ++ [.ref p2], _, _, ⟨rfl, rfl⟩, ((s.trans s1).trans s2).mut hF, upd_same, ?_⟩
    have eh : hide F (newer H (upd (upd (upd G p1 (.lst [.bl (decide (r.1 = 0)), .bl (decide (r.1 = 1)), .bl (decide (r.1 = 2))])) p2 (.tup [.ref p1, .str r.2.1, .int r.2.2])) F (.lst (ys ++ [.ref p2])))) = hide F (newer H (upd (upd G p1 (.lst [.bl (decide (r.1 = 0)), .bl (decide (r.1 = 1)), .bl (decide (r.1 = 2))])) p2 (.tup [.ref p1, .str r.2.1, .int r.2.2]))) := by
      funext b
      unfold hide newer
      by_cases c : b = F
      · rw [if_pos c, if_pos c]
      · rw [if_neg c, if_neg c, upd_ne c]
    rw [eh, List.take_add_one, hr, List.map_append]
    refine dpa_snoc (dpa_same (hide_mono (newer_mono (s1.trans s2))) _ _ dp) (.tup (.inl (.inl (hide_get (newer_get ((s.trans s1).free hp2) upd_same) n2))) (.cons (.lst (.inl (.inl (hide_get (newer_get (s.free hp1) (s2 _ _ upd_same)) n1))) (.cons (.bl _) (.cons (.bl _) (.cons (.bl _) .nil)))) (.cons (.str _) (.cons (.int _) .nil))))
  · rintro σ G ⟨ys, v2, v3, rfl, s, hl, dp⟩
    walk_at "rd"
    rw [book_len b, List.take_length] at dp
    exact q F G hF s (.lst (.inl (.inl (newer_get hF hl))) (dpa_same hide_same _ _ dp))
theorem p_facts (T : Tx K mg A) : Pur N_law_facts ps_law_facts (t_law_facts P w K mg base A) (sp_facts K A) := fun vs H Q E h => p_factsN T vs H Q E (let ⟨l, as, rs, e, b, n, q⟩ := h; ⟨l, as, rs, e, b, n, fun p H' hp s d => q p H' hp s (dp_same newer_same _ _ d)⟩)
theorem fn_factsN (T : Tx K mg A) : Fn P w K mg base 3 "_law_facts" (sp_factsN K A) := T.f_law_facts.fn sc_law_facts (fun hr => d_law_facts T.G hr) (p_factsN T)
theorem fn_facts (T : Tx K mg A) : Fn P w K mg base 3 "_law_facts" (sp_facts K A) := T.f_law_facts.fn sc_law_facts (fun hr => d_law_facts T.G hr) (p_facts T)
end
end K
namespace K
open PySem PySem.Spec PyProof.Rows L2 U ClX M
local macro_rules | `(tactic| walk_at "rd") => `(tactic| simp only [tSeq, tRet, tIfS, tAsg, tDrop, tNext, tNever, tRetN, tAndV, tOrV, tNotV, tAnd, tOr, tNot, tB, tTest, tChain, tCB, tCons, tNil, tVar, tC, tOp, tUn, tIf, gName, uLe, uLt, uGe, uGt, uCmp, uAdd, uSub, uMul, uDiv, uMod, uPow, uNeg, uEq, uNe, uIs, uIsNot, uIx, uIn, cIsi, cLen, cAll, cMax, cMin, cAbs, cSort, cSortD, cInt, cTuple, cRepr, cList, cSortS, tRevL, tDGet, tLstRg, tTupRg, tRg1, tRg2, sDPut, tDNewK, tAug, ipI, iZip, tLst, tTup, tPar, U.tPar3, tFn, tMkr, tMth, tFnK, tMthK, tAtt, sFld, tYes, tLc_eq, tFor_eq, iList, iStr, iRng1, iRng2, iEnum, tLenSetT, tSl, tPart, tNoPart, gTup, gCons, gNil, gSub, tBM, tBM0, List.getElem?_cons_zero, List.getElem?_cons_succ, List.set_cons_zero, List.set_cons_succ, Option.some.injEq, V.bl.injEq, V.int.injEq, V.str.injEq, V.ref.injEq, exists_eq_left', exists_eq_left, exists_eq_right, exists_eq_right', and_true, true_and, scal, if_true, Bool.false_eq_true, if_false, List.cons.injEq, exists_const, false_and, and_false, ite_true, ite_false, Bool.not_true, Bool.not_false])
section
variable {P : Program} {w : World} {K : PySem.W.Frag} {mg : Str → Option Value} {base : Heap} {A : Ads}
theorem cut_to (xs : List V) (t : Nat) : cutV xs none (some (t : Int)) = xs.take t := by
  unfold cutV
  rw [HT.sIx_none, HT.sIx_nat, List.drop_zero, Nat.sub_zero]
  by_cases h : t ≤ xs.length
  · rw [Nat.min_eq_left h]
  · rw [Nat.min_eq_right (by omega), List.take_of_length_le (Nat.le_refl _), List.take_of_length_le (by omega)]
theorem cut_from (xs : List V) (t : Nat) : cutV xs (some (t : Int)) none = xs.drop t := by
  unfold cutV
  rw [HT.sIx_none, HT.sIx_nat]
  by_cases h : t ≤ xs.length
  · rw [Nat.min_eq_left h, List.take_of_length_le (by simp)]
  · rw [Nat.min_eq_right (by omega), List.drop_of_length_le (Nat.le_refl _), List.drop_of_length_le (by omega)]; simp
/-- a list of ints as data -/
def dI (r : List Int) : PyData := .list (r.map .int)
theorem dp_dI {H : Hp} {a : Addr} {r : List Int} (h : SqL K H a (r.map V.int)) : Dp K H (.ref a) (dI r) := .lst h (dpa_map r fun x _ => .int x)
theorem dpa_ints {H : Hp} : ∀ {vs : List V} (r : List Int), DpAll K H vs (r.map .int) → vs = r.map V.int
  | _, [], h => by cases h; rfl
  | _, i :: r, h => by
    cases h with
    | cons h1 h2 => cases h1; rw [dpa_ints r h2]; rfl
theorem of_dI {H : Hp} {x : V} {r : List Int} (h : Dp K H x (dI r)) : ∃ a, x = .ref a ∧ SqL K H a (r.map V.int) := by
  cases h with
  | lst hs ha => exact ⟨_, rfl, by rw [dpa_ints r ha] at hs; exact hs⟩
theorem dpa_get {H : Hp} : ∀ {vs : List V} {ds : List PyData} {i : Nat} {x : V}, DpAll K H vs ds → vs[i]? = some x → ∃ d, ds[i]? = some d ∧ Dp K H x d
  | _, _, _, _, .nil, e => by simp at e
  | _, _, 0, _, .cons h _, e => by simp at e; subst e; exact ⟨_, rfl, h⟩
  | _, _, i + 1, x, .cons _ t, e => by
    obtain ⟨d, h1, h2⟩ := dpa_get (i := i) (x := x) t (by simpa using e)
    exact ⟨d, by simpa using h1, h2⟩
theorem dI_ok (r : List Int) : okD 1 (dI r) := okD.list fun d hd => by
  obtain ⟨i, _, rfl⟩ := List.mem_map.mp hd; exact okD.int
theorem eqv_ints : ∀ r s : List Int, PyData.eqvAll (r.map .int) (s.map .int) = decide (r = s)
  | [], [] => rfl
  | [], _ :: _ => rfl
  | _ :: _, [] => rfl
  | i :: r, j :: s => by
    show (PyData.eqv (.int i) (.int j) && PyData.eqvAll (r.map .int) (s.map .int)) = _
    rw [eqv_ints r s]
    show ((i == j) && decide (r = s)) = _
    rw [Bool.eq_iff_iff]
    simp
theorem eqv_dI (r s : List Int) : PyData.eqv (dI r) (dI s) = decide (r = s) := eqv_ints r s
theorem any_dI (L : List (List Int)) (s : List Int) : ((L.map dI).any fun z => PyData.eqv z (dI s)) = decide (s ∈ L) := by
  induction L with
  | nil => rfl
  | cons r L ih =>
    rw [List.map_cons, List.any_cons, ih, eqv_dI, Bool.eq_iff_iff]
    simp only [Bool.or_eq_true, decide_eq_true_eq, List.mem_cons]
    constructor
    · rintro (h | h)
      · exact .inl h.symm
      · exact .inr h
    · rintro (h | h)
      · exact .inl h.symm
      · exact .inr h
/-- a list of ints of our own -/
def LI (H : Hp) (x : V) (r : List Int) : Prop := ∃ a, x = .ref a ∧ H a = some (.lst (r.map V.int))
theorem LI.same {H H' : Hp} {x : V} {r : List Int} (s : Same H H') (h : LI H x r) : LI H' x r := let ⟨a, e, h⟩ := h; ⟨a, e, s _ _ h⟩
/-- .. that B does not know -/
def LIf (B H : Hp) (x : V) (r : List Int) : Prop := ∃ a, x = .ref a ∧ B a = none ∧ H a = some (.lst (r.map V.int))
theorem LIf.same {B H H' : Hp} {x : V} {r : List Int} (s : Same H H') (h : LIf B H x r) : LIf B H' x r := let ⟨a, e, n, h⟩ := h; ⟨a, e, n, s _ _ h⟩
theorem Rel2.app {α : Type} {Rl : V → α → Prop} {xs ys : List V} {as bs : List α} (h : Rel2 Rl xs as) (h2 : Rel2 Rl ys bs) : Rel2 Rl (xs ++ ys) (as ++ bs) := by
  have hl := h.len
  have hl2 := h2.len
  refine ⟨by simp [hl, hl2], fun i x a h1 h3 => ?_⟩
  by_cases c : i < xs.length
  · rw [List.getElem?_append_left c] at h1
    rw [List.getElem?_append_left (by omega)] at h3
    exact h.at_ i x a h1 h3
  · rw [List.getElem?_append_right (by omega)] at h1
    rw [List.getElem?_append_right (by omega)] at h3
    exact h2.at_ (i - xs.length) x a h1 (by rw [hl]; exact h3)
theorem at_last {r : List Int} (h : r ≠ []) : atI (r.map V.int) (-1) = some (.int (r.getD (r.length - 1) 0)) := by
  have e := List.dropLast_concat_getLast h
  have g : r.getD (r.length - 1) 0 = r.getLast h := by
    rw [List.getLast_eq_getElem, List.getD, List.getElem?_eq_getElem, Option.getD_some]
  rw [g]
  conv => lhs; rw [← e]
  rw [List.map_append]
  exact atI_last _ _
theorem eqv_nil (r : List Int) : PyData.eqv (dI r) (.list []) = decide (r = []) := by
  have := eqv_dI r []
  exact this
end
end K
namespace K
open PySem PySem.Spec PyProof.Rows L2 U ClX M
local macro_rules | `(tactic| walk_at "rd") => `(tactic| simp only [tSeq, tRet, tIfS, tAsg, tDrop, tNext, tNever, tRetN, tAndV, tOrV, tNotV, tAnd, tOr, tNot, tB, tTest, tChain, tCB, tCons, tNil, tVar, tC, tOp, tUn, tIf, gName, uLe, uLt, uGe, uGt, uCmp, uAdd, uSub, uMul, uDiv, uMod, uPow, uNeg, uEq, uNe, uIs, uIsNot, uIx, uIn, cIsi, cLen, cAll, cMax, cMin, cAbs, cSort, cSortD, cInt, cTuple, cRepr, cList, cSortS, tRevL, tDGet, tLstRg, tTupRg, tRg1, tRg2, sDPut, tDNewK, tAug, ipI, iZip, tLst, tTup, tPar, U.tPar3, tFn, tMkr, tMth, tFnK, tMthK, tAtt, sFld, tYes, tLc_eq, tFor_eq, iList, iStr, iRng1, iRng2, iEnum, tLenSetT, tSl, tPart, tNoPart, gTup, gCons, gNil, gSub, tBM, tBM0, List.getElem?_cons_zero, List.getElem?_cons_succ, List.set_cons_zero, List.set_cons_succ, Option.some.injEq, V.bl.injEq, V.int.injEq, V.str.injEq, V.ref.injEq, exists_eq_left', exists_eq_left, exists_eq_right, exists_eq_right', and_true, true_and, scal, if_true, Bool.false_eq_true, if_false, List.cons.injEq, exists_const, false_and, and_false, ite_true, ite_false, Bool.not_true, Bool.not_false])
section
variable {P : Program} {w : World} {K : PySem.W.Frag} {mg : Str → Option Value} {base : Heap} {A : Ads}
/-! ### logs at hand -/
theorem ddS_new {acc : List Str} {x : Str} (h : x ∉ acc) : ddS acc x = acc ++ [x] := by
  unfold ddS
  rw [if_neg]
  rw [List.any_eq_true]
  rintro ⟨y, hy, e⟩
  exact h (by rw [beq_iff_eq] at e; rw [← e]; exact hy)
theorem dd_nodup {xs : List Str} (h : xs.Nodup) : dd xs = xs := by
  unfold dd
  suffices q : ∀ (l acc : List Str), (acc ++ l).Nodup → l.foldl ddS acc = acc ++ l by simpa using q xs [] (by simpa using h)
  intro l
  induction l with
  | nil => intro acc _; simp
  | cons x l ih =>
    intro acc nd
    rw [List.foldl_cons, ddS_new]
    · rw [ih (acc ++ [x]) (by simpa using nd)]; simp
    · intro hx
      have := List.nodup_append.mp nd
      exact this.2.2 x hx x List.mem_cons_self rfl
theorem dd_const {xs : List Str} {c : Str} (h : ∀ x ∈ xs, x = c) : (dd xs).length ≤ 1 := by
  unfold dd
  suffices q : ∀ (l acc : List Str), (∀ x ∈ l, x = c) → (acc = [] ∨ acc = [c]) → (l.foldl ddS acc = [] ∨ l.foldl ddS acc = [c]) by
    rcases q xs [] h (.inl rfl) with e | e <;> rw [e] <;> simp
  intro l
  induction l with
  | nil => intro acc _ h; exact h
  | cons x l ih =>
    intro acc hl ha
    obtain rfl := hl x List.mem_cons_self
    refine ih _ (fun y hy => hl y (List.mem_cons_of_mem _ hy)) ?_
    rcases ha with rfl | rfl
    · exact .inr rfl
    · exact .inr (by unfold ddS; rw [if_pos (by simp)])
theorem isLog_of {rs : List Rc} {k : Nat} (hk : ∀ r ∈ rs, r.1 = k) (nd : (rs.map fun r => r.2.1).Nodup) (h : rs.length ≤ 40) : isLog rs = true := by
  unfold isLog
  rw [decide_eq_true h, dd_nodup nd, List.length_map, decide_eq_true rfl, decide_eq_true (dd_const (c := sgn k) ?_)]
  · rfl
  · intro x hx
    obtain ⟨r, hr, rfl⟩ := List.mem_map.mp hx
    rw [hk r hr]
theorem repA (n : Nat) (x : Int) : (List.replicate n [V.int x]).flatten = (List.replicate n x).map V.int := by
  induction n with
  | zero => rfl
  | succ n ih => rw [List.replicate_succ, List.flatten_cons, ih, List.replicate_succ]; rfl
/-- the records of a kind with these items and indices -/
def recs (k : Nat) (zs : List Str) (ns : List Int) : List Rc := (zs.zip ns).map fun p => (k, p.1, p.2)
/-! ### drawn lists -/
/-- [next(tape, wide) for at in range(n)] -/
theorem lc_draw {H G0 : Hp} {tp : Addr} {c wd : Int} {n v : Nat} {te : TE} {σ : L2.St} {Q : VK} (t : Tape G0 tp c) (ft : H tp = none) (S : Same H G0) (hc : c + n ≤ 1000000) (w0 : 0 < wd) (w1 : wd ≤ 1000) (hn : n ≤ 1000) (hv : ∀ x, wipe ((wipe σ [v]).set v (some x)) [v] = wipe σ [v])
    (turn : ∀ (x : V) (G : Hp) (Q' : VK), sp_next [.ref tp, .int wd] G Q' E0 → te ((wipe σ [v]).set v (some x)) G Q')
    (hq : ∀ (D : Addr) (zs : List Int) (G : Hp), G0 D = none → Same H G → zs.length = n → (∀ z ∈ zs, 0 ≤ z ∧ z < wd) → G D = some (.lst (zs.map V.int)) → Tape G tp (c + n) → D ≠ tp → (∀ b o, b ≠ tp → G0 b = some o → G b = some o) → Q (.ref D) G) : LcB (Itr 0 n) (gName v) tYes te [v] σ G0 Q := by
  intro D hD
  have fD : H D = none := S.free hD
  have nD : D ≠ tp := fun e => by subst e; obtain ⟨xs, hx, _⟩ := t; rw [hD] at hx; cases hx
  refine L2.lc_range (n := n) (fun i G => ∃ zs : List Int, zs.length = i ∧ (∀ z ∈ zs, 0 ≤ z ∧ z < wd) ∧ G D = some (.lst (zs.map V.int)) ∧ Tape G tp (c + i) ∧ Same H G ∧ (∀ b o, b ≠ tp → G0 b = some o → G b = some o)) ?_ ?_ ?_
  · exact ⟨[], rfl, (fun _ h => nomatch h), upd_same, by simpa using t.other nD, S.mut fD, fun b o _ e => by rw [upd_ne (ne_of_none e hD)]; exact e⟩
  · rintro i G hi ⟨zs, hz, hr, gD, tG, sG, kG⟩
    refine ⟨hv _, ?_⟩
    show tYes _ G _
    refine turn _ G _ (next_ok tG (by omega) w0 w1 fun r G1 r0 r1 t1 b1 e1 => ?_)
    refine ⟨zs.map V.int, (e1 D nD).trans gD, ?_, zs ++ [r], by simp [hz], ?_, ?_, ?_, ?_, ?_⟩
    · rw [List.length_map, hz]; exact Nat.lt_of_lt_of_le (by omega : i < 1001) (by decide)
    · intro z hz'
      rcases List.mem_append.mp hz' with q | q
      · exact hr z q
      · obtain rfl := List.mem_singleton.mp q; exact ⟨r0, r1⟩
    · rw [upd_same, List.map_append]; rfl
    · exact (t1.other nD).mono (by push_cast; omega)
    · intro b o e
      rw [upd_ne (ne_of_none e fD), e1 b (ne_of_none e ft)]
      exact sG b o e
    · intro b o hb e
      rw [upd_ne (ne_of_none e hD), e1 b hb]
      exact kG b o hb e
  · rintro G ⟨zs, hz, hr, gD, tG, sG, kG⟩
    exact hq D zs G hD sG hz hr gD tG nD kG
/-- [made(kind, items[at], slots[at]) for at in range(n)] -/
theorem lc_made {G0 : Hp} {n v k : Nat} {te : TE} {σ : L2.St} {Q : VK} {zs : List Str} {ns : List Int} (hz : zs.length = n) (hs : ns.length = n) (hn : n ≤ 1000) (hv : ∀ x, wipe ((wipe σ [v]).set v (some x)) [v] = wipe σ [v])
    (turn : ∀ (i : Nat) (z : Str) (m : Int) (G : Hp) (Q' : VK), Same G0 G → zs[i]? = some z → ns[i]? = some m → (∀ p H', G p = none → Same G H' → Rec A H' p k z m → Q' (.ref p) H') → te ((wipe σ [v]).set v (some (.int (0 + i)))) G Q')
    (hq : ∀ (D : Addr) (as : List Addr) (G : Hp), G0 D = none → Same G0 G → Book A G D as ((zs.zip ns).map fun p => (k, p.1, p.2)) → as.Nodup → (∀ a ∈ as, G0 a = none) → (∀ a ∈ as, a ≠ D) → Q (.ref D) G) : LcB (Itr 0 n) (gName v) tYes te [v] σ G0 Q := by
  intro D hD
  refine L2.lc_range (n := n) (fun i G => ∃ as : List Addr, as.length = i ∧ as.Nodup ∧ (∀ a ∈ as, G0 a = none ∧ a ≠ D ∧ ∃ o, G a = some o) ∧ G D = some (.lst (as.map V.ref)) ∧ Same G0 G ∧ ∀ (j : Nat) (a : Addr) (z : Str) (m : Int), as[j]? = some a → zs[j]? = some z → ns[j]? = some m → Rec A G a k z m) ?_ ?_ ?_
  · exact ⟨[], rfl, List.nodup_nil, (fun _ h => nomatch h), upd_same, Same.new hD, fun j a z m h => by simp at h⟩
  · rintro i G hi ⟨as, hl, nd, fr, gD, sG, rc⟩
    refine ⟨hv _, ?_⟩
    show tYes _ G _
    have hi1 : i < zs.length := by omega
    have hi2 : i < ns.length := by omega
    refine turn i zs[i] ns[i] G _ sG (List.getElem?_eq_getElem hi1) (List.getElem?_eq_getElem hi2) fun p G1 hp s1 r1 => ?_
    have np : p ≠ D := Ne.symm (ne_of_none gD hp)
    have nas : p ∉ as := fun h => by obtain ⟨_, _, o, ho⟩ := fr p h; rw [hp] at ho; cases ho
    refine ⟨as.map V.ref, s1 _ _ gD, ?_, as ++ [p], by simp [hl], ?_, ?_, ?_, ?_, ?_⟩
    · rw [List.length_map, hl]; exact Nat.lt_of_lt_of_le (by omega : i < 1001) (by decide)
    · rw [List.nodup_append]
      exact ⟨nd, by simp, fun a ha b hb => by obtain rfl := List.mem_singleton.mp hb; exact fun e => nas (e ▸ ha)⟩
    · intro a ha
      rcases List.mem_append.mp ha with q | q
      · obtain ⟨h1, h2, o, h3⟩ := fr a q
        exact ⟨h1, h2, o, by rw [upd_ne h2]; exact s1 _ _ h3⟩
      · obtain rfl := List.mem_singleton.mp q
        obtain ⟨_, dx, h⟩ := r1
        exact ⟨sG.free hp, np, _, by rw [upd_ne np]; exact h⟩
    · rw [upd_same, List.map_append]; rfl
    · exact (sG.trans s1).mut hD
    · intro j a z m h1 h2 h3
      by_cases c : j < as.length
      · rw [List.getElem?_append_left c] at h1
        obtain ⟨hk, dx, h⟩ := rc j a z m h1 h2 h3
        exact ⟨hk, dx, by rw [upd_ne (fr a (List.mem_of_getElem? h1)).2.1]; exact s1 _ _ h⟩
      · rw [List.getElem?_append_right (by omega)] at h1
        by_cases e : j = as.length
        · subst e
          simp at h1
          subst h1
          rw [hl] at h2 h3
          rw [List.getElem?_eq_getElem hi1] at h2
          rw [List.getElem?_eq_getElem hi2] at h3
          cases h2; cases h3
          obtain ⟨hk, dx, h⟩ := r1
          exact ⟨hk, dx, by rw [upd_ne np]; exact h⟩
        · rw [List.getElem?_eq_none (by simp; omega)] at h1
          cases h1
  · rintro G ⟨as, hl, nd, fr, gD, sG, rc⟩
    refine hq D as G hD sG ⟨gD, by simp [hl, hz, hs], fun j a r h1 h2 => ?_⟩ nd (fun a ha => (fr a ha).1) fun a ha => (fr a ha).2.1
    rw [List.getElem?_map] at h2
    cases e : (zs.zip ns)[j]? with
    | none => rw [e] at h2; cases h2
    | some p =>
      rw [e] at h2
      obtain rfl := Option.some.inj h2
      obtain ⟨e1, e2⟩ := List.getElem?_zip_eq_some.mp e
      exact rc j a p.1 p.2 h1 e1 e2

theorem made_at {k : Nat} (hk : k < 4) {H : Hp} {p dx : Addr} {z : Str} {n : Int} {R : Hp → Prop} {E : XK} (hp : H p = none) (hd : H dx = none) (hz : isItem z = true) (h0 : 0 ≤ n) (h60 : n ≤ 60) (q : ∀ H', Same H H' → Rec A H' p k z n → R H') :
    sp_init A k [.ref p, .str z, .int n] (upd (upd H dx (.own p)) p (.ins (A.kind k) dx [])) (fun v H' => v = .non ∧ R H') E := by
  refine ⟨p, dx, z, n, rfl, upd_same, hz, h0, h60, fun H' h1 h2 => ⟨rfl, q H' (fun b o e => ?_) ⟨hk, dx, h1⟩⟩⟩
  refine h2 b o (ne_of_none e hp) ?_
  rw [upd_ne (ne_of_none e hp), upd_ne (ne_of_none e hd)]
  exact e
end
end K
namespace K
open PySem PySem.Spec PyProof.Rows L2 U ClX M
local macro_rules | `(tactic| walk_at "rd") => `(tactic| simp only [tSeq, tRet, tIfS, tAsg, tDrop, tNext, tNever, tRetN, tAndV, tOrV, tNotV, tAnd, tOr, tNot, tB, tTest, tChain, tCB, tCons, tNil, tVar, tC, tOp, tUn, tIf, gName, uLe, uLt, uGe, uGt, uCmp, uAdd, uSub, uMul, uDiv, uMod, uPow, uNeg, uEq, uNe, uIs, uIsNot, uIx, uIn, cIsi, cLen, cAll, cMax, cMin, cAbs, cSort, cSortD, cInt, cTuple, cRepr, cList, cSortS, tRevL, tDGet, tLstRg, tTupRg, tRg1, tRg2, sDPut, tDNewK, tAug, ipI, iZip, tLst, tTup, tPar, U.tPar3, tFn, tMkr, tMth, tFnK, tMthK, tAtt, sFld, tYes, tLc_eq, tFor_eq, iList, iStr, iRng1, iRng2, iEnum, tLenSetT, tSl, tPart, tNoPart, gTup, gCons, gNil, gSub, tBM, tBM0, List.getElem?_cons_zero, List.getElem?_cons_succ, List.set_cons_zero, List.set_cons_succ, Option.some.injEq, V.bl.injEq, V.int.injEq, V.str.injEq, V.ref.injEq, exists_eq_left', exists_eq_left, exists_eq_right, exists_eq_right', and_true, true_and, scal, if_true, Bool.false_eq_true, if_false, List.cons.injEq, exists_const, false_and, and_false, ite_true, ite_false, Bool.not_true, Bool.not_false])
section
variable {P : Program} {w : World} {K : PySem.W.Frag} {mg : Str → Option Value} {base : Heap} {A : Ads}
/-! ### made, copied, usable -/
def sp_mk (A : Ads) : Sp := fun vs H Q _ => ∃ (k : Nat) (z : Str) (n : Int), vs = [.str (sgn k), .str z, .int n] ∧ k < 4 ∧ isItem z = true ∧ 0 ≤ n ∧ n ≤ 60 ∧ ∀ p H', H p = none → Same H H' → Rec A H' p k z n → Q (.ref p) H'
theorem p_mk (T : Tx K mg A) : Pur N_made ps_made (t_made P w K mg base A) (sp_mk A) := by
  intro vs H Q E h
  obtain ⟨k, z, n, rfl, hk, hz, h0, h60, q⟩ := h
  refine ⟨rfl, ?_⟩
  show t_made P w K mg base A E _ [some (.str (sgn k)), some (.str z), some (.int n)] H
  unfold t_made
  walk_at "rd"
  match k, hk, q with
  | 0, hk, q =>
    rw [if_pos (show decide (sgn 0 = ("+" : Str)) = true by decide +kernel)]
    exact ⟨3, _, _, mkr T (k := 0) (by decide), by decide, made_ok T (by decide) hz h0 h60 q⟩
  | 1, hk, q =>
    rw [if_neg (show ¬ decide (sgn 1 = ("+" : Str)) = true by decide +kernel), if_pos (show decide (sgn 1 = ("-" : Str)) = true by decide +kernel)]
    exact ⟨3, _, _, mkr T (k := 1) (by decide), by decide, made_ok T (by decide) hz h0 h60 q⟩
  | 2, hk, q =>
    rw [if_neg (show ¬ decide (sgn 2 = ("+" : Str)) = true by decide +kernel), if_neg (show ¬ decide (sgn 2 = ("-" : Str)) = true by decide +kernel), if_pos (show decide (sgn 2 = ("^" : Str)) = true by decide +kernel)]
    exact ⟨3, _, _, mkr T (k := 2) (by decide), by decide, made_ok T (by decide) hz h0 h60 q⟩
  | 3, hk, q =>
    rw [if_neg (show ¬ decide (sgn 3 = ("+" : Str)) = true by decide +kernel), if_neg (show ¬ decide (sgn 3 = ("-" : Str)) = true by decide +kernel), if_neg (show ¬ decide (sgn 3 = ("^" : Str)) = true by decide +kernel)]
    exact ⟨3, _, _, mkr T (k := 3) (by decide), by decide, made_ok T (by decide) hz h0 h60 q⟩
theorem fn_mk (T : Tx K mg A) : Fn P w K mg base 5 "made" (sp_mk A) := T.f_made.fn sc_made (fun hr => d_made T.G hr) (p_mk T)
/-- a record whose item and index may be made anew -/
def RcOk (r : Rc) : Prop := isItem r.2.1 = true ∧ 0 ≤ r.2.2 ∧ r.2.2 ≤ 60
/-- new records, at addresses that H does not know -/
structure NewBook (A : Ads) (H H' : Hp) (l : Addr) (as : List Addr) (rs : List Rc) : Prop where
  book : Book A H' l as rs
  nd : as.Nodup
  fr : ∀ a ∈ as, H a = none
  ne : ∀ a ∈ as, a ≠ l
  frl : H l = none
theorem NewBook.old {H0 H H' : Hp} {l : Addr} {as : List Addr} {rs : List Rc} (s : Same H0 H) (b : NewBook A H H' l as rs) : NewBook A H0 H' l as rs := ⟨b.book, b.nd, fun a h => s.free (b.fr a h), b.ne, s.free b.frl⟩
theorem NewBook.same {H H' H2 : Hp} {l : Addr} {as : List Addr} {rs : List Rc} (b : NewBook A H H' l as rs) (s : Same H' H2) : NewBook A H H2 l as rs := ⟨b.book.same s, b.nd, b.fr, b.ne, b.frl⟩
/-- [copied(record) for record in book] and the like: each turn makes a new record -/
theorem lc_copies {H1 : Hp} {l : Addr} {as : List Addr} {rs qs : List Rc} (b : Book A H1 l as rs) (hn : rs.length ≤ 1000) {te : TE} {v : Nat} {σ : L2.St} {Q : VK} (hq : qs.length = rs.length)
    (hv : ∀ x, wipe ((wipe σ [v]).set v (some x)) [v] = wipe σ [v])
    (turn : ∀ (i : Nat) (a : Addr) (r r' : Rc) (H : Hp) (Q' : VK), rs[i]? = some r → qs[i]? = some r' → Same H1 H → Rec A H a r.1 r.2.1 r.2.2 → (∀ p H', H p = none → Same H H' → Rec A H' p r'.1 r'.2.1 r'.2.2 → Q' (.ref p) H') → te ((wipe σ [v]).set v (some (.ref a))) H Q')
    (hq : ∀ D as' H', Same H1 H' → NewBook A H1 H' D as' qs → Q (.ref D) H') : LcB (Itl K l) (gName v) tYes te [v] σ H1 Q := by
  intro D hD
  have bl := book_len b
  refine ⟨fun i m G => m = rs.length - i ∧ i ≤ rs.length ∧ Same H1 G ∧ ∃ bs : List Addr, bs.length = i ∧ bs.Nodup ∧ (∀ a ∈ bs, H1 a = none ∧ a ≠ D ∧ ∃ o, G a = some o) ∧ G D = some (.lst (bs.map V.ref)) ∧ ∀ (j : Nat) (a : Addr) (r : Rc), bs[j]? = some a → qs[j]? = some r → Rec A G a r.1 r.2.1 r.2.2, ⟨rs.length, by simp, Nat.zero_le _, Same.new hD, [], rfl, List.nodup_nil, (fun _ h => nomatch h), upd_same, fun j a r h => by simp at h⟩, ?_⟩
  rintro i m G ⟨rfl, hi, sG, bs, hl, nd, fr, gD, rc⟩
  have bG : SqL K G l (as.map V.ref) := .inl (.inl (sG _ _ b.lst))
  by_cases hlt : i < rs.length
  · have hla : i < as.length := by rw [b.len]; exact hlt
    refine .inr ⟨⟨_, (as.map V.ref)[i]'(by rw [bl]; exact hlt), bG, List.getElem?_eq_getElem _⟩, fun G' => Same H1 G' ∧ ∃ bs : List Addr, bs.length = i + 1 ∧ bs.Nodup ∧ (∀ a ∈ bs, H1 a = none ∧ a ≠ D ∧ ∃ o, G' a = some o) ∧ G' D = some (.lst (bs.map V.ref)) ∧ ∀ (j : Nat) (a : Addr) (r : Rc), bs[j]? = some a → qs[j]? = some r → Rec A G' a r.1 r.2.1 r.2.2, fun G' h => ⟨rs.length - (i + 1), by omega, rfl, hlt, h⟩, fun x G' y => ?_⟩
    obtain ⟨rfl, y⟩ := y
    have y := y _ bG
    obtain ⟨a, r, rfl, ha, hr, ra⟩ := (b.same sG).get y
    have hi2 : i < qs.length := by omega
    refine ⟨hv _, ?_⟩
    show tYes _ _ _
    refine turn i a r qs[i] _ _ hr (List.getElem?_eq_getElem hi2) sG ra fun p G1 hp s1 r1 => ?_
    have np : p ≠ D := Ne.symm (ne_of_none gD hp)
    have nas : p ∉ bs := fun h => by obtain ⟨_, _, o, ho⟩ := fr p h; rw [hp] at ho; cases ho
    refine ⟨bs.map V.ref, s1 _ _ gD, ?_, (sG.trans s1).mut hD, bs ++ [p], by simp [hl], ?_, ?_, ?_, ?_⟩
    · rw [List.length_map, hl]; exact Nat.lt_of_lt_of_le (by omega : i < 1001) (by decide)
    · rw [List.nodup_append]
      exact ⟨nd, by simp, fun a ha b hb => by obtain rfl := List.mem_singleton.mp hb; exact fun e => nas (e ▸ ha)⟩
    · intro a ha
      rcases List.mem_append.mp ha with q | q
      · obtain ⟨h1, h2, o, h3⟩ := fr a q
        exact ⟨h1, h2, o, by rw [upd_ne h2]; exact s1 _ _ h3⟩
      · obtain rfl := List.mem_singleton.mp q
        obtain ⟨_, dx, h⟩ := r1
        exact ⟨sG.free hp, np, _, by rw [upd_ne np]; exact h⟩
    · rw [upd_same, List.map_append]; rfl
    · intro j a r h1 h2
      by_cases c : j < bs.length
      · rw [List.getElem?_append_left c] at h1
        obtain ⟨hk, dx, h⟩ := rc j a r h1 h2
        exact ⟨hk, dx, by rw [upd_ne (fr a (List.mem_of_getElem? h1)).2.1]; exact s1 _ _ h⟩
      · rw [List.getElem?_append_right (by omega)] at h1
        by_cases e : j = bs.length
        · subst e
          simp at h1
          subst h1
          rw [hl, List.getElem?_eq_getElem hi2] at h2
          cases h2
          obtain ⟨hk, dx, h⟩ := r1
          exact ⟨hk, dx, by rw [upd_ne np]; exact h⟩
        · rw [List.getElem?_eq_none (by simp; omega)] at h1
          cases h1
  · obtain rfl : i = rs.length := by omega
    refine .inl ⟨⟨_, bG, by rw [bl]; exact Nat.le_refl _⟩, hq D bs G sG ⟨⟨gD, by omega, rc⟩, nd, fun a ha => (fr a ha).1, fun a ha => (fr a ha).2.1, hD⟩⟩
/-- [record for record in book if t] -/
theorem lc_filter {H1 : Hp} {l : Addr} {as : List Addr} {rs : List Rc} (b : Book A H1 l as rs) (hn : rs.length ≤ 1000) {tt : TT} {te : TE} {v : Nat} {σ : L2.St} {Q : VK} (f : Rc → Bool)
    (hv : ∀ x, wipe ((wipe σ [v]).set v (some x)) [v] = wipe σ [v])
    (turn : ∀ a r H, Same H1 H → Rec A H a r.1 r.2.1 r.2.2 → r ∈ rs → Evt tt ((wipe σ [v]).set v (some (.ref a))) H (f r) ∧ ∀ H2, Same H H2 → Evs te ((wipe σ [v]).set v (some (.ref a))) H2 (.ref a))
    (hq : ∀ D as' H', H1 D = none → Same H1 H' → Book A H' D as' (rs.filter f) → as'.Sublist as → Q (.ref D) H') : LcB (Itl K l) (gName v) tt te [v] σ H1 Q := by
  refine lc_goes (goes_list (.inl (.inl b.lst))) (fun i => (as[i]?).bind fun a => (rs[i]?).bind fun r => if f r = true then some (V.ref a) else none) ?_ (fun i x H hi s r => ?_) fun D H' hD s hl => ?_
  · rw [List.length_map, b.len]; exact Nat.lt_of_le_of_lt hn (by decide)
  · obtain ⟨a, q, rfl, ha, hr, rc⟩ := b.get r
    rw [ha, hr]
    obtain ⟨t1, t2⟩ := turn a q H s (rc.same s) (List.mem_of_getElem? hr)
    refine ⟨(wipe σ [v]).set v (some (.ref a)), hv _, fun R r => r, ?_⟩
    simp only [Option.bind_some]
    cases e : f q with
    | true => rw [e] at t1; exact ⟨t1, t2⟩
    | false => rw [e] at t1; exact t1
  · suffices key : ∀ (as : List Addr) (rs : List Rc) (_ : as.length = rs.length) (_ : ∀ (i : Nat) (a : Addr) (r : Rc), as[i]? = some a → rs[i]? = some r → Rec A H' a r.1 r.2.1 r.2.2), ∃ as' : List Addr, as'.Sublist as ∧ (List.range as.length).filterMap (fun i => (as[i]?).bind fun a => (rs[i]?).bind fun r => if f r = true then some (V.ref a) else none) = as'.map V.ref ∧ as'.length = (rs.filter f).length ∧ ∀ (i : Nat) (a : Addr) (r : Rc), as'[i]? = some a → (rs.filter f)[i]? = some r → Rec A H' a r.1 r.2.1 r.2.2 by
      obtain ⟨as', h1, h2, h3, h4⟩ := key as rs b.len (b.same s).at_
      rw [List.length_map, h2] at hl
      exact hq D as' H' hD s ⟨hl, h3, h4⟩ h1
    intro as
    induction as with
    | nil =>
      intro rs hl _
      have : rs = [] := List.length_eq_zero_iff.mp hl.symm
      subst this
      exact ⟨[], List.Sublist.refl _, rfl, rfl, fun i a r h => by simp at h⟩
    | cons a as ih =>
      intro rs hl hr
      cases rs with
      | nil => simp at hl
      | cons r rs =>
        obtain ⟨as', h1, h2, h3, h4⟩ := ih rs (by simpa using hl) fun i a' r' e1 e2 => hr (i + 1) a' r' (by simpa using e1) (by simpa using e2)
        have e0 : (List.range (a :: as).length).filterMap (fun i => ((a :: as)[i]?).bind fun a => ((r :: rs)[i]?).bind fun r => if f r = true then some (V.ref a) else none) = (if f r = true then [V.ref a] else []) ++ as'.map V.ref := by
          rw [List.length_cons, List.range_succ_eq_map, List.filterMap_cons, List.filterMap_map, ← h2]
          have e1 : ((fun i => ((a :: as)[i]?).bind fun a => ((r :: rs)[i]?).bind fun r => if f r = true then some (V.ref a) else none) ∘ Nat.succ) = fun i => (as[i]?).bind fun a => (rs[i]?).bind fun r => if f r = true then some (V.ref a) else none := by funext i; simp
          rw [e1]
          simp only [List.getElem?_cons_zero, Option.bind_some]
          cases f r <;> rfl
        rw [e0]
        cases e : f r with
        | true =>
          refine ⟨a :: as', h1.cons₂ _, by simp, by simp [e, h3], fun i a' r' q1 q2 => ?_⟩
          rw [List.filter_cons_of_pos e] at q2
          cases i with
          | zero => simp at q1 q2; subst q1; subst q2; exact hr 0 a r rfl rfl
          | succ i => exact h4 i a' r' (by simpa using q1) (by simpa using q2)
        | false =>
          refine ⟨as', h1.cons _, by simp, by rw [List.filter_cons_of_neg (by simp [e])]; exact h3, fun i a' r' q1 q2 => ?_⟩
          rw [List.filter_cons_of_neg (by simp [e])] at q2
          exact h4 i a' r' q1 q2
end
section
variable {P : Program} {w : World} {K : PySem.W.Frag} {mg : Str → Option Value} {base : Heap} {A : Ads}
/-! ### drawn logs, records moved -/
theorem Rec.but {tp : Addr} {G G' : Hp} {a : Addr} {k : Nat} {z : Str} {m : Int} (r : Rec A G a k z m) (s : But tp G G') (na : a ≠ tp) : Rec A G' a k z m := ⟨r.1, r.2.choose, s _ _ na r.2.choose_spec⟩
theorem Book.but {tp : Addr} {G G' : Hp} {D : Addr} {as : List Addr} {rs : List Rc} (b : Book A G D as rs) (s : But tp G G') (nD : D ≠ tp) (na : ∀ a ∈ as, a ≠ tp) : Book A G' D as rs := ⟨s _ _ nD b.lst, b.len, fun i a r h1 h2 => (b.at_ i a r h1 h2).but s (na a (List.mem_of_getElem? h1))⟩
theorem Book.moved {G : Hp} {D a dx : Addr} {as : List Addr} {rs : List Rc} {i k : Nat} {z : Str} {m n : Int} (b : Book A G D as rs) (nd : as.Nodup) (ha : as[i]? = some a) (hr : rs[i]? = some (k, z, m)) (nD : a ≠ D) (hk : k < 4) : Book A (upd G a (.ins (A.kind k) dx (recF z n))) D as (rs.set i (k, z, n)) := by
  have hi : i < rs.length := (List.getElem?_eq_some_iff.mp hr).1
  refine ⟨by rw [upd_ne (Ne.symm nD)]; exact b.lst, by simp [b.len], fun j a' r' h1 h2 => ?_⟩
  by_cases e : j = i
  · subst e
    rw [ha] at h1
    obtain rfl := Option.some.inj h1
    rw [List.getElem?_set_self hi] at h2
    obtain rfl := Option.some.inj h2
    exact ⟨hk, dx, upd_same⟩
  · rw [List.getElem?_set_ne (Ne.symm e)] at h2
    obtain ⟨q1, dy, q2⟩ := b.at_ j a' r' h1 h2
    refine ⟨q1, dy, ?_⟩
    rw [upd_ne]
    · exact q2
    intro z
    subst z
    obtain ⟨hj, ej⟩ := List.getElem?_eq_some_iff.mp h1
    obtain ⟨hi2, ei⟩ := List.getElem?_eq_some_iff.mp ha
    rcases Nat.lt_trichotomy i j with l | l | l
    · exact List.pairwise_iff_getElem.mp nd i j hi2 hj l (ei.trans ej.symm)
    · exact e l.symm
    · exact List.pairwise_iff_getElem.mp nd j i hj hi2 l (ej.trans ei.symm)
/-- records of the kind k with the items zs and lawful indices -/
structure Drawn (k : Nat) (zs : List Str) (rs : List Rc) : Prop where
  kind : ∀ r ∈ rs, r.1 = k
  items : rs.map (fun r => r.2.1) = zs
  slot : ∀ r ∈ rs, 0 ≤ r.2.2 ∧ r.2.2 ≤ 60
theorem Drawn.len {k : Nat} {zs : List Str} {rs : List Rc} (d : Drawn k zs rs) : rs.length = zs.length := by rw [← d.items, List.length_map]
theorem Drawn.of {k : Nat} {zs : List Str} {ms : List Int} (hl : zs.length = ms.length) (hm : ∀ m ∈ ms, 0 ≤ m ∧ m ≤ 60) : Drawn k zs (recs k zs ms) := by
  have mem : ∀ r ∈ recs k zs ms, r.1 = k ∧ r.2.2 ∈ ms := by
    intro r hr
    obtain ⟨p, hp, rfl⟩ := List.mem_map.mp hr
    exact ⟨rfl, (List.of_mem_zip hp).2⟩
  refine ⟨fun r hr => (mem r hr).1, ?_, fun r hr => hm _ (mem r hr).2⟩
  unfold recs
  rw [List.map_map]
  exact List.map_fst_zip (by omega)
theorem Drawn.set {k : Nat} {zs : List Str} {rs : List Rc} {i : Nat} {z : Str} {m n : Int} (d : Drawn k zs rs) (hr : rs[i]? = some (k, z, m)) (hn : 0 ≤ n ∧ n ≤ 60) : Drawn k zs (rs.set i (k, z, n)) := by
  have mem : ∀ r ∈ rs.set i (k, z, n), r ∈ rs ∨ r = (k, z, n) := fun r hr => List.mem_or_eq_of_mem_set hr
  refine ⟨fun r h => ?_, ?_, fun r h => ?_⟩
  · rcases mem r h with h | rfl
    · exact d.kind r h
    · rfl
  · rw [← d.items]
    apply List.ext_getElem?
    intro j
    rw [List.getElem?_map, List.getElem?_map]
    by_cases e : j = i
    · subst e
      rw [List.getElem?_set_self (List.getElem?_eq_some_iff.mp hr).1, hr]
      rfl
    · rw [List.getElem?_set_ne (Ne.symm e)]
  · rcases mem r h with h | rfl
    · exact d.slot r h
    · exact hn
theorem Drawn.at_ {k : Nat} {zs : List Str} {rs : List Rc} (d : Drawn k zs rs) {i : Nat} (hi : i < rs.length) : ∃ z m, rs[i]? = some (k, z, m) := by
  refine ⟨(rs[i]).2.1, (rs[i]).2.2, ?_⟩
  rw [List.getElem?_eq_getElem hi, ← d.kind _ (List.getElem_mem hi)]
theorem Drawn.log {k : Nat} {zs : List Str} {rs : List Rc} (d : Drawn k zs rs) (nd : zs.Nodup) (h : zs.length ≤ 40) : isLog rs = true := isLog_of d.kind (by rw [d.items]; exact nd) (by rw [d.len]; exact h)
theorem Drawn.ok {k : Nat} {zs : List Str} {rs : List Rc} (d : Drawn k zs rs) (it : ∀ z ∈ zs, isItem z = true) : ∀ r ∈ rs, RcOk r := fun r hr => ⟨it _ (by rw [← d.items]; exact List.mem_map.mpr ⟨r, hr, rfl⟩), d.slot r hr⟩
/-- [made(kind, items[at], <drawn>) for at in range(n)]: e numbers drawn in each turn -/
theorem lc_makes {G0 : Hp} {tp : Addr} {c : Int} {n v k e : Nat} {te : TE} {σ : L2.St} {Q : VK} {zs : List Str} {L : Int → Prop} (t : Tape G0 tp c) (hz : zs.length = n) (hn : n ≤ 1000) (hv : ∀ x, wipe ((wipe σ [v]).set v (some x)) [v] = wipe σ [v])
    (turn : ∀ (i : Nat) (z : Str) (G : Hp) (Q' : VK), i < n → zs[i]? = some z → Tape G tp (c + e * i) → But tp G0 G → (∀ p m G', G p = none → But tp G G' → Tape G' tp (c + e * i + e) → L m → Rec A G' p k z m → Q' (.ref p) G') → te ((wipe σ [v]).set v (some (.int (0 + i)))) G Q')
    (hq : ∀ (D : Addr) (as : List Addr) (ms : List Int) (G : Hp), ms.length = n → (∀ m ∈ ms, L m) → But tp G0 G → Tape G tp (c + e * n) → NewBook A G0 G D as (recs k zs ms) → Q (.ref D) G) : LcB (Itr 0 n) (gName v) tYes te [v] σ G0 Q := by
  intro D hD
  have tk : ∃ xs, G0 tp = some (.lst xs) := let ⟨xs, h, _⟩ := t; ⟨xs, h⟩
  have ntp : ∀ {p : Addr}, G0 p = none → p ≠ tp := fun {p} h e => by subst e; obtain ⟨xs, hx⟩ := tk; rw [hx] at h; cases h
  have nD : D ≠ tp := ntp hD
  refine L2.lc_range (n := n) (fun i G => ∃ (as : List Addr) (ms : List Int), as.length = i ∧ ms.length = i ∧ (∀ m ∈ ms, L m) ∧ as.Nodup ∧ (∀ a ∈ as, G0 a = none ∧ a ≠ D ∧ ∃ o, G a = some o) ∧ G D = some (.lst (as.map V.ref)) ∧ But tp G0 G ∧ Tape G tp (c + e * i) ∧ ∀ (j : Nat) (a : Addr) (z : Str) (m : Int), as[j]? = some a → zs[j]? = some z → ms[j]? = some m → Rec A G a k z m) ?_ ?_ ?_
  · exact ⟨[], [], rfl, rfl, (fun _ h => nomatch h), List.nodup_nil, (fun _ h => nomatch h), upd_same, But.refl.mut hD, by simpa using t.other nD, fun j a z m h => by simp at h⟩
  · rintro i G hi ⟨as, ms, hl, hm, hL, nd, fr, gD, bG, tG, rc⟩
    refine ⟨hv _, ?_⟩
    show tYes _ G _
    have hi1 : i < zs.length := by omega
    refine turn i zs[i] G _ hi (List.getElem?_eq_getElem hi1) tG bG fun p m G1 hp s1 t1 Lm r1 => ?_
    have np : p ≠ D := Ne.symm (ne_of_none gD hp)
    have fp : G0 p = none := by
      cases h : G0 p with
      | none => rfl
      | some o =>
        by_cases e : p = tp
        · subst e; obtain ⟨xs, hx, _⟩ := tG; rw [hp] at hx; cases hx
        · rw [bG p o e h] at hp; cases hp
    have nas : p ∉ as := fun h => by obtain ⟨_, _, o, ho⟩ := fr p h; rw [hp] at ho; cases ho
    refine ⟨as.map V.ref, s1 _ _ nD gD, ?_, as ++ [p], ms ++ [m], by simp [hl], by simp [hm], ?_, ?_, ?_, ?_, ?_, ?_, ?_⟩
    · rw [List.length_map, hl]; exact Nat.lt_of_lt_of_le (by omega : i < 1001) (by decide)
    · intro x hx
      rcases List.mem_append.mp hx with q | q
      · exact hL x q
      · obtain rfl := List.mem_singleton.mp q; exact Lm
    · rw [List.nodup_append]
      exact ⟨nd, by simp, fun a ha b hb => by obtain rfl := List.mem_singleton.mp hb; exact fun e => nas (e ▸ ha)⟩
    · intro a ha
      rcases List.mem_append.mp ha with q | q
      · obtain ⟨h1, h2, o, h3⟩ := fr a q
        exact ⟨h1, h2, o, by rw [upd_ne h2]; exact s1 _ _ (ntp h1) h3⟩
      · obtain rfl := List.mem_singleton.mp q
        obtain ⟨_, dx, h⟩ := r1
        exact ⟨fp, np, _, by rw [upd_ne np]; exact h⟩
    · rw [upd_same, List.map_append]; rfl
    · exact (bG.trans s1).mut hD
    · have := t1.other (o := .lst (as.map V.ref ++ [.ref p])) nD
      refine this.mono ?_
      push_cast
      rw [Int.mul_add]
      omega
    · intro j a z m' h1 h2 h3
      by_cases cj : j < as.length
      · rw [List.getElem?_append_left cj] at h1
        rw [List.getElem?_append_left (by omega)] at h3
        obtain ⟨hk, dx, h⟩ := rc j a z m' h1 h2 h3
        have fa := fr a (List.mem_of_getElem? h1)
        exact ⟨hk, dx, by rw [upd_ne fa.2.1]; exact s1 _ _ (ntp fa.1) h⟩
      · rw [List.getElem?_append_right (by omega)] at h1
        rw [List.getElem?_append_right (by omega)] at h3
        by_cases e : j = as.length
        · subst e
          simp at h1
          subst h1
          rw [hl, hm] at h3
          simp at h3
          subst h3
          rw [hl, List.getElem?_eq_getElem hi1] at h2
          cases h2
          obtain ⟨hk, dx, h⟩ := r1
          exact ⟨hk, dx, by rw [upd_ne np]; exact h⟩
        · rw [List.getElem?_eq_none (by simp; omega)] at h1
          cases h1
  · rintro G ⟨as, ms, hl, hm, hL, nd, fr, gD, bG, tG, rc⟩
    refine hq D as ms G hm hL bG tG ⟨⟨gD, by simp [recs, hl, hz, hm], fun j a r h1 h2 => ?_⟩, nd, fun a ha => (fr a ha).1, fun a ha => (fr a ha).2.1, hD⟩
    unfold recs at h2
    rw [List.getElem?_map] at h2
    cases ez : (zs.zip ms)[j]? with
    | none => rw [ez] at h2; cases h2
    | some p =>
      rw [ez] at h2
      obtain rfl := Option.some.inj h2
      obtain ⟨e1, e2⟩ := List.getElem?_zip_eq_some.mp ez
      exact rc j a p.1 p.2 h1 e1 e2
end
end K
namespace K
open PySem PySem.Spec PyProof.Rows L2 U ClX M
local macro_rules | `(tactic| walk_at "rd") => `(tactic| simp only [tSeq, tRet, tIfS, tAsg, tDrop, tNext, tNever, tRetN, tAndV, tOrV, tNotV, tAnd, tOr, tNot, tB, tTest, tChain, tCB, tCons, tNil, tVar, tC, tOp, tUn, tIf, gName, uLe, uLt, uGe, uGt, uCmp, uAdd, uSub, uMul, uDiv, uMod, uPow, uNeg, uEq, uNe, uIs, uIsNot, uIx, uIn, cIsi, cLen, cAll, cMax, cMin, cAbs, cSort, cSortD, cInt, cTuple, cRepr, cList, cSortS, tRevL, tDGet, tLstRg, tTupRg, tRg1, tRg2, sDPut, tDNewK, tAug, ipI, iZip, tLst, tTup, tPar, U.tPar3, tFn, tMkr, tMth, tFnK, tMthK, tAtt, sFld, tYes, tLc_eq, tFor_eq, iList, iStr, iRng1, iRng2, iEnum, tLenSetT, tSl, tPart, tNoPart, gTup, gCons, gNil, gSub, tBM, tBM0, List.getElem?_cons_zero, List.getElem?_cons_succ, List.set_cons_zero, List.set_cons_succ, Option.some.injEq, V.bl.injEq, V.int.injEq, V.str.injEq, V.ref.injEq, exists_eq_left', exists_eq_left, exists_eq_right, exists_eq_right', and_true, true_and, scal, if_true, Bool.false_eq_true, if_false, List.cons.injEq, exists_const, false_and, and_false, ite_true, ite_false, Bool.not_true, Bool.not_false])
section
variable {P : Program} {w : World} {K : PySem.W.Frag} {mg : Str → Option Value} {base : Heap} {A : Ads}
theorem Tape.ne {G : Hp} {tp p : Addr} {c : Int} (t : Tape G tp c) (h : G p = none) : p ≠ tp := fun e => by subst e; obtain ⟨xs, hx, _⟩ := t; rw [h] at hx; cases hx
theorem But.free {tp p : Addr} {G G' : Hp} (b : But tp G G') (h : G' p = none) (n : p ≠ tp) : G p = none := by
  cases e : G p with
  | none => rfl
  | some o => rw [b p o n e] at h; cases h
/-- [<an int, drawn> for v in xs]: e numbers drawn in each turn -/
theorem lc_ints {G0 : Hp} {tp l : Addr} {c : Int} {v e : Nat} {te : TE} {σ : L2.St} {Q : VK} {xs : List V} {L : Int → Prop} (t : Tape G0 tp c) (hx : G0 l = some (.lst xs)) (nl : l ≠ tp) (hn : xs.length ≤ 1000) (hv : ∀ x, wipe ((wipe σ [v]).set v (some x)) [v] = wipe σ [v])
    (turn : ∀ (i : Nat) (x : V) (G : Hp) (Q' : VK), xs[i]? = some x → Tape G tp (c + e * i) → But tp G0 G → (∀ r G', L r → Tape G' tp (c + e * i + e) → But tp G G' → Q' (.int r) G') → te ((wipe σ [v]).set v (some x)) G Q')
    (hq : ∀ (D : Addr) (zs : List Int) (G : Hp), G0 D = none → zs.length = xs.length → (∀ z ∈ zs, L z) → G D = some (.lst (zs.map V.int)) → But tp G0 G → Tape G tp (c + e * xs.length) → Q (.ref D) G) : LcB (Itl K l) (gName v) tYes te [v] σ G0 Q := by
  intro D hD
  have nD : D ≠ tp := t.ne hD
  refine ⟨fun i m G => m = xs.length - i ∧ i ≤ xs.length ∧ ∃ zs : List Int, zs.length = i ∧ (∀ z ∈ zs, L z) ∧ G D = some (.lst (zs.map V.int)) ∧ But tp G0 G ∧ Tape G tp (c + e * i), ⟨xs.length, by simp, Nat.zero_le _, [], rfl, (fun _ h => nomatch h), upd_same, But.refl.mut hD, by simpa using t.other nD⟩, ?_⟩
  rintro i m G ⟨rfl, hi, zs, hz, hL, gD, bG, tG⟩
  have gl : SqL K G l xs := .inl (.inl (bG _ _ nl hx))
  by_cases hlt : i < xs.length
  · refine .inr ⟨⟨_, xs[i], gl, List.getElem?_eq_getElem hlt⟩, fun G' => ∃ zs : List Int, zs.length = i + 1 ∧ (∀ z ∈ zs, L z) ∧ G' D = some (.lst (zs.map V.int)) ∧ But tp G0 G' ∧ Tape G' tp (c + e * ((i + 1 : Nat) : Int)), fun G' h => ⟨xs.length - (i + 1), by omega, rfl, hlt, h⟩, fun x G' y => ?_⟩
    obtain ⟨rfl, y⟩ := y
    refine ⟨hv _, ?_⟩
    show tYes _ _ _
    refine turn i x _ _ (y _ gl) tG bG fun r G1 hr t1 b1 => ⟨zs.map V.int, b1 _ _ nD gD, ?_, zs ++ [r], by simp [hz], ?_, ?_, (bG.trans b1).mut hD, ?_⟩
    · rw [List.length_map, hz]; exact Nat.lt_of_lt_of_le (by omega : i < 1001) (by decide)
    · intro x hx
      rcases List.mem_append.mp hx with q | q
      · exact hL x q
      · obtain rfl := List.mem_singleton.mp q; exact hr
    · rw [upd_same, List.map_append]; rfl
    · refine (t1.other nD).mono ?_
      push_cast
      rw [Int.mul_add]
      omega
  · obtain rfl : i = xs.length := by omega
    exact .inl ⟨⟨_, gl, Nat.le_refl _⟩, hq D zs G hD hz hL gD bG tG⟩
end
end K
namespace K
open PySem PySem.Spec PyProof.Rows L2 U ClX M
local macro_rules | `(tactic| walk_at "rd") => `(tactic| simp only [tSeq, tRet, tIfS, tAsg, tDrop, tNext, tNever, tRetN, tAndV, tOrV, tNotV, tAnd, tOr, tNot, tB, tTest, tChain, tCB, tCons, tNil, tVar, tC, tOp, tUn, tIf, gName, uLe, uLt, uGe, uGt, uCmp, uAdd, uSub, uMul, uDiv, uMod, uPow, uNeg, uEq, uNe, uIs, uIsNot, uIx, uIn, cIsi, cLen, cAll, cMax, cMin, cAbs, cSort, cSortD, cInt, cTuple, cRepr, cList, cSortS, tRevL, tDGet, tLstRg, tTupRg, tRg1, tRg2, sDPut, tDNewK, tAug, ipI, iZip, tLst, tTup, tPar, U.tPar3, tFn, tMkr, tMth, tFnK, tMthK, tAtt, sFld, tYes, tLc_eq, tFor_eq, iList, iStr, iRng1, iRng2, iEnum, tLenSetT, tSl, tPart, tNoPart, gTup, gCons, gNil, gSub, tBM, tBM0, List.getElem?_cons_zero, List.getElem?_cons_succ, List.set_cons_zero, List.set_cons_succ, Option.some.injEq, V.bl.injEq, V.int.injEq, V.str.injEq, V.ref.injEq, exists_eq_left', exists_eq_left, exists_eq_right, exists_eq_right', and_true, true_and, scal, if_true, Bool.false_eq_true, if_false, List.cons.injEq, exists_const, false_and, and_false, ite_true, ite_false, Bool.not_true, Bool.not_false])
section
variable {P : Program} {w : World} {K : PySem.W.Frag} {mg : Str → Option Value} {base : Heap} {A : Ads}
abbrev slot (r : Rc) : Int := r.2.2
abbrev item (r : Rc) : Str := r.2.1
/-! ### places -/
def ix : List Str → Str → Nat
  | [], _ => 0
  | y :: ys, z => if y = z then 0 else ix ys z + 1
theorem ix_lt : ∀ {ys : List Str} {z : Str}, z ∈ ys → ix ys z < ys.length
  | y :: ys, z, h => by
    unfold ix
    split
    · simp
    · rename_i ne
      have := ix_lt (ys := ys) (z := z) (by rcases List.mem_cons.mp h with e | e; exact absurd e.symm ne; exact e)
      simp; omega
theorem ix_get : ∀ {ys : List Str} {z : Str}, z ∈ ys → ys[ix ys z]? = some z
  | y :: ys, z, h => by
    unfold ix
    split
    · rename_i e; simp [e]
    · rename_i ne
      simpa using ix_get (ys := ys) (z := z) (by rcases List.mem_cons.mp h with e | e; exact absurd e.symm ne; exact e)
theorem ix_min : ∀ {ys : List Str} {z w : Str} {m : Nat}, m < ix ys z → ys[m]? = some w → w ≠ z
  | [], z, w, m, h, e => by simp at e
  | y :: ys, z, w, 0, h, e => by
    unfold ix at h
    split at h
    · omega
    · rename_i ne; simp at e; subst e; exact ne
  | y :: ys, z, w, m + 1, h, e => by
    unfold ix at h
    split at h
    · omega
    · exact ix_min (ys := ys) (m := m) (by omega) (by simpa using e)
theorem flat_strs (zs : List Str) : (zs.map V.str).all flatV = true := by
  rw [List.all_map]
  exact List.all_eq_true.mpr fun _ _ => rfl
theorem inV_str (z : Str) (zs : List Str) : inV (.str z) (zs.map V.str) = decide (z ∈ zs) := by
  unfold inV
  induction zs with
  | nil => rfl
  | cons y zs ih =>
    rw [List.map_cons, List.any_cons, ih, Bool.eq_iff_iff]
    show ((y == z) || decide (z ∈ zs)) = true ↔ _
    simp only [Bool.or_eq_true, beq_iff_eq, decide_eq_true_eq, List.mem_cons]
    exact ⟨fun h => h.imp Eq.symm id, fun h => h.imp Eq.symm id⟩
/-- l.index(z) -/
theorem index_ok {H : Hp} {a : Addr} {zs : List Str} {z : Str} {Q : VK} (h : SqL K H a (zs.map V.str)) (hz : z ∈ zs) (q : Q (.int (ix zs z : Nat)) H) : rIndex K (.ref a) [.str z] H Q := by
  refine ⟨a, _, .str z, ix zs z, .str z, rfl, rfl, h, rfl, flat_strs _, by rw [List.getElem?_map, ix_get hz]; rfl, ?_, fun m z' hm e => ?_, q⟩
  · show (z == z) = true
    simp
  · rw [List.getElem?_map] at e
    cases e2 : zs[m]? with
    | none => rw [e2] at e; cases e
    | some y =>
      rw [e2] at e
      obtain rfl := (Option.some.inj e).symm
      show (y == z) = false
      exact beq_eq_false_iff_ne.mpr (ix_min hm e2)
/-! ### dict comprehensions that read alone -/
def DcB (J : It) (g : TG) (tt : TT) (tk tv : TE) (vs : List Nat) (σ : L2.St) (H1 : Hp) (Q : VK) : Prop := ∀ D, H1 D = none → ∃ W : Nat → Nat → Hp → Prop, (∃ m, W 0 m (upd H1 D (.dK []))) ∧ ∀ i m H, W i m H →
  (J.stop i H ∧ Q (.ref D) H) ∨ (J.go i H ∧ ∃ Nx : Hp → Prop, (∀ H', Nx H' → ∃ m', m' < m ∧ W (i + 1) m' H') ∧ ∀ x H', J.yld i H x H' → g x (wipe σ vs) H' fun σ2 H2 => wipe σ2 vs = wipe σ vs ∧ tt σ2 H2 fun b H3 =>
    if b = true then tk σ2 H3 fun y H4 => tv σ2 H4 fun z H5 => ∃ kvs k, y = kV k ∧ H5 D = some (.dK kvs) ∧ kvs.length < sizeLine ∧ Nx (upd H5 D (.dK (putK kvs k z))) else Nx H3)
theorem tDc_eq (wi : TI) (g : TG) (tt : TT) (tk tv : TE) (vs : List Nat) (σ : L2.St) (H : Hp) (Q : VK) : tDc wi g tt tk tv vs σ H Q = wi σ H fun J H1 => DcB J g tt tk tv vs σ H1 Q := rfl
def kvR (key : Nat → Key) (val : Nat → V) (n : Nat) : List (Key × V) := (List.range n).map fun i => (key i, val i)
theorem val_out {k : Key} : ∀ {kvs : List (Key × V)}, (∀ p ∈ kvs, p.1 ≠ k) → valV kvs k = none
  | [], _ => rfl
  | p :: kvs, h => by rw [valV_neg (h p List.mem_cons_self)]; exact val_out fun q hq => h q (List.mem_cons_of_mem _ hq)
theorem kvR_none {key : Nat → Key} {val : Nat → V} {k : Key} {n : Nat} (h : ∀ i, i < n → key i ≠ k) : valV (kvR key val n) k = none := val_out fun p hp => by
  obtain ⟨i, hi, rfl⟩ := List.mem_map.mp hp
  exact h i (List.mem_range.mp hi)
theorem kvR_succ (key : Nat → Key) (val : Nat → V) (n : Nat) : kvR key val (n + 1) = kvR key val n ++ [(key n, val n)] := by unfold kvR; rw [List.range_succ, List.map_append]; rfl
theorem kvR_some {key : Nat → Key} {val : Nat → V} : ∀ {n : Nat} {j : Nat}, (∀ i j, i < j → j < n → key i ≠ key j) → j < n → valV (kvR key val n) (key j) = some (val j)
  | n + 1, j, nd, hj => by
    rw [kvR_succ, valV_snoc _ _ _ _ (kvR_none fun i hi => nd i n hi (by omega))]
    by_cases e : j = n
    · subst e; rw [if_pos rfl]
    · rw [if_neg (nd j n (by omega) (by omega))]
      exact kvR_some (fun a b h1 h2 => nd a b h1 (by omega)) (by omega)
theorem dc_goes {J : It} {g : TG} {tt : TT} {tk tv : TE} {vs : List Nat} {σ : L2.St} {H1 : Hp} {Q : VK} {n : Nat} {R : Nat → V → Hp → Prop} (S : Goes J H1 n R) (key : Nat → Key) (val : Nat → V) (hn : n < sizeLine) (nd : ∀ i j, i < j → j < n → key i ≠ key j)
    (turn : ∀ i x H, i < n → Same H1 H → R i x H → ∃ σ2, wipe σ2 vs = wipe σ vs ∧ (∀ R' : L2.St → Hp → Prop, R' σ2 H → g x (wipe σ vs) H R') ∧ Evt tt σ2 H true ∧ (∀ H3, Same H H3 → Evs tk σ2 H3 (kV (key i))) ∧ ∀ H3, Same H H3 → Evs tv σ2 H3 (val i))
    (hq : ∀ D H', H1 D = none → Same H1 H' → H' D = some (.dK (kvR key val n)) → Q (.ref D) H') : DcB J g tt tk tv vs σ H1 Q := by
  intro D hD
  refine ⟨fun i m H => m = n - i ∧ i ≤ n ∧ Same H1 H ∧ H D = some (.dK (kvR key val i)), ⟨n, by simp, Nat.zero_le _, Same.new hD, upd_same⟩, ?_⟩
  rintro i m H ⟨rfl, hi, sm, hl⟩
  by_cases hlt : i < n
  · refine .inr ⟨S.go i H hlt sm, fun H' => Same H1 H' ∧ H' D = some (.dK (kvR key val (i + 1))), fun H' h => ⟨n - (i + 1), by omega, rfl, hlt, h⟩, fun x H' y => ?_⟩
    obtain ⟨s1, r⟩ := S.yld i H x H' hlt sm y
    obtain ⟨σ2, e2, hg, h1, h2, h3⟩ := turn i x H' hlt (sm.trans s1) r
    have hl1 := s1 _ _ hl
    refine hg _ ⟨e2, h1 _ fun H2 s2 => ?_⟩
    rw [if_pos rfl]
    refine h2 H2 s2 _ fun H3 s3 => h3 H3 (s2.trans s3) _ fun H4 s4 => ⟨_, key i, rfl, s4 _ _ (s3 _ _ (s2 _ _ hl1)), ?_, ((sm.trans s1).trans (s2.trans (s3.trans s4))).mut hD, ?_⟩
    · unfold kvR; rw [List.length_map, List.length_range]; omega
    · rw [upd_same, putK_new _ (kvR_none fun a ha => nd a i ha hlt), kvR_succ]
  · obtain rfl : i = n := by omega
    exact .inl ⟨S.stop H sm, hq D H hD sm hl⟩
/-! ### lists of items, known lists -/
/-- a list of different items -/
structure Its (zs : List Str) : Prop where
  nd : zs.Nodup
  it : ∀ z ∈ zs, isItem z = true
  few : zs.length ≤ 60
def sp_are_items (K : PySem.W.Frag) : Sp := fun vs H Q _ => ∃ (a : Addr) (zs : List Str), vs = [.ref a] ∧ H a = some (.lst (zs.map V.str)) ∧ Its zs ∧ ∀ H', Same H H' → Q (.bl true) H'
theorem p_are_items (T : Tx K mg A) : Pur N_are_items ps_are_items (t_are_items P w K mg base A) (sp_are_items K) := by
  intro vs H Q E h
  obtain ⟨a, zs, rfl, ha, hz, q⟩ := h
  refine ⟨rfl, ?_⟩
  have few := hz.few
  show t_are_items P w K mg base A E _ [some (.ref a), none] H
  unfold t_are_items
  walk_at "rd"
  refine ⟨true, isi_lst ha (by decide +kernel), ?_⟩
  walk_at "rd"
  refine ⟨_, .inl (.inl (.inl ha)), ?_⟩
  rw [List.length_map, if_neg (by simp only [decide_eq_true_eq]; omega)]
  refine ⟨⟨_, .inl (.inl ha)⟩, lc_lst (fun _ => some (.bl true)) (.inl (.inl ha)) (by rw [List.length_map]; exact Nat.lt_of_le_of_lt few (by decide)) (fun x H1 hx s1 => ?_) fun D H1 hD s1 hl => ?_⟩
  · obtain ⟨z, hz', rfl⟩ := List.mem_map.mp hx
    refine ⟨[some (.ref a), some (.str z)], rfl, fun R' h => h, Evt.yes, fun H2 s2 Q' q' => ?_⟩
    walk_at "rd"
    have zl := item_len (hz.it z hz')
    refine ⟨2, _, fn_is_item T, by decide, z, rfl, by omega, fun H3 s3 => ?_⟩
    rw [hz.it z hz']
    exact q' H3 s3
  refine ⟨zs.map fun _ => true, .inl (.inl ?_), ?_⟩
  · rw [hl, List.map_map, List.filterMap_eq_map' (f := fun _ : V => V.bl true), List.map_map]; rfl
  rw [all_true]
  walk_at "rd"
  have ha1 := s1 _ _ ha
  refine ⟨a, zs, rfl, .inl (.inl ha1), by omega, _, .inl (.inl (.inl ha1)), ?_⟩
  rw [dd_nodup hz.nd, List.length_map, decide_eq_true rfl]
  exact q H1 s1
theorem fn_are_items (T : Tx K mg A) : Fn P w K mg base 3 "are_items" (sp_are_items K) := T.f_are_items.fn sc_are_items (fun hr => d_are_items T.G hr) (p_are_items T)
def sp_need_known (K : PySem.W.Frag) (A : Ads) : Sp := fun vs H Q _ => ∃ (l a : Addr) (as : List Addr) (rs : List Rc) (zs : List Str), vs = [.ref l, .ref a] ∧ Book A H l as rs ∧ rs.length ≤ 1000 ∧ H a = some (.lst (zs.map V.str)) ∧ Its zs ∧ (∀ r ∈ rs, item r ∈ zs) ∧ ∀ H', Same H H' → Q .non H'
theorem p_need_known (T : Tx K mg A) : Pur N_need_known ps_need_known (t_need_known P w K mg base A) (sp_need_known K A) := by
  intro vs H Q E h
  obtain ⟨l, a, as, rs, zs, rfl, b, hn, ha, hz, sub, q⟩ := h
  refine ⟨rfl, ?_⟩
  show t_need_known P w K mg base A E _ [some (.ref l), some (.ref a), none] H
  unfold t_need_known
  walk_at "rd"
  refine ⟨3, _, fn_are_items T, by decide, a, zs, rfl, ha, hz, fun H1 s1 => ⟨true, rfl, ?_⟩⟩
  rw [if_neg (by decide)]
  have b1 := b.same s1
  have ha1 := s1 _ _ ha
  refine ⟨⟨_, .inl (.inl b1.lst)⟩, lc_book b1 hn (fun _ => .bl true) (fun x => rfl) (fun a' r H2 s2 rc hr => fun Q' q' => ?_) fun D H2 hD s2 hl => ⟨rs.map fun _ => true, .inl (.inl ?_), ?_⟩⟩
  · show tOp _ _ _ [some (.ref l), some (.ref a), some (.ref a')] H2 Q'
    walk_at "rd"
    refine ⟨_, _, rfl, att_item T rc, .inl ⟨_, .inl (.inl (.inl (s2 _ _ ha1))), rfl, flat_strs _, ?_⟩⟩
    rw [inV_str, decide_eq_true (sub r hr)]
    exact q' H2 (Same.refl _)
  · rw [hl, List.map_map]; rfl
  · rw [all_true]
    walk_at "rd"
    exact q H2 (s1.trans s2)
theorem fn_need_known (T : Tx K mg A) : Fn P w K mg base 4 "need_known" (sp_need_known K A) := T.f_need_known.fn sc_need_known (fun hr => d_need_known T.G hr) (p_need_known T)
end
end K
namespace K
open PySem PySem.Spec PyProof.Rows L2 U ClX M
local macro_rules | `(tactic| walk_at "rd") => `(tactic| simp only [tSeq, tRet, tIfS, tAsg, tDrop, tNext, tNever, tRetN, tAndV, tOrV, tNotV, tAnd, tOr, tNot, tB, tTest, tChain, tCB, tCons, tNil, tVar, tC, tOp, tUn, tIf, gName, uLe, uLt, uGe, uGt, uCmp, uAdd, uSub, uMul, uDiv, uMod, uPow, uNeg, uEq, uNe, uIs, uIsNot, uIx, uIn, cIsi, cLen, cAll, cMax, cMin, cAbs, cSort, cSortD, cInt, cTuple, cRepr, cList, cSortS, tRevL, tDGet, tLstRg, tTupRg, tRg1, tRg2, sDPut, tDNewK, tAug, ipI, iZip, tLst, tTup, tPar, U.tPar3, tFn, tMkr, tMth, tFnK, tMthK, tAtt, sFld, tYes, tLc_eq, tFor_eq, iList, iStr, iRng1, iRng2, iEnum, tLenSetT, tSl, tPart, tNoPart, gTup, gCons, gNil, gSub, tBM, tBM0, List.getElem?_cons_zero, List.getElem?_cons_succ, List.set_cons_zero, List.set_cons_succ, Option.some.injEq, V.bl.injEq, V.int.injEq, V.str.injEq, V.ref.injEq, exists_eq_left', exists_eq_left, exists_eq_right, exists_eq_right', and_true, true_and, scal, if_true, Bool.false_eq_true, if_false, List.cons.injEq, exists_const, false_and, and_false, ite_true, ite_false, Bool.not_true, Bool.not_false])
section
variable {P : Program} {w : World} {K : PySem.W.Frag} {mg : Str → Option Value} {base : Heap} {A : Ads}
/-! ### frames -/
/-- the items with records, in the order of the known list -/
def mkd (zs : List Str) (rs : List Rc) : List Str := zs.filter fun z => decide (z ∈ rs.map item)
def frF (pb pm pp : Addr) (fr : Bool) : List (Str × V) := [(("by_item" : Str), V.ref pb), (("marked" : Str), V.ref pm), (("places" : Str), V.ref pp), ("is_fronted", .bl fr)]
theorem f_put1 (v : V) : putF ("by_item" : Str) v ([] : List (Str × V)) = [(("by_item" : Str), v)] := rfl
theorem f_put2 (a v : V) : putF ("marked" : Str) v ([(("by_item" : Str), a)] : List (Str × V)) = [(("by_item" : Str), a), (("marked" : Str), v)] := by
  simp only [putF, if_neg (show ¬ (("by_item" : Str) = "marked") by decide +kernel)]
theorem f_put3 (a b v : V) : putF ("places" : Str) v ([(("by_item" : Str), a), (("marked" : Str), b)] : List (Str × V)) = [(("by_item" : Str), a), (("marked" : Str), b), (("places" : Str), v)] := by
  simp only [putF, if_neg (show ¬ (("by_item" : Str) = "places") by decide +kernel), if_neg (show ¬ (("marked" : Str) = "places") by decide +kernel)]
theorem f_put4 (a b c v : V) : putF ("is_fronted" : Str) v ([(("by_item" : Str), a), (("marked" : Str), b), (("places" : Str), c)] : List (Str × V)) = [(("by_item" : Str), a), (("marked" : Str), b), (("places" : Str), c), (("is_fronted" : Str), v)] := by
  simp only [putF, if_neg (show ¬ (("by_item" : Str) = "is_fronted") by decide +kernel), if_neg (show ¬ (("marked" : Str) = "is_fronted") by decide +kernel), if_neg (show ¬ (("places" : Str) = "is_fronted") by decide +kernel)]
theorem l_by (a : V) (r : List (Str × V)) : ((("by_item" : Str), a) :: r : List (Str × V)).lookup ("by_item" : Str) = some a := by simp [List.lookup]
theorem l_mk (a b : V) (r : List (Str × V)) : ((("by_item" : Str), a) :: (("marked" : Str), b) :: r : List (Str × V)).lookup ("marked" : Str) = some b := by
  simp [List.lookup, show (("marked" : Str) == "by_item") = false by decide +kernel]
theorem l_pl (a b c : V) (r : List (Str × V)) : ((("by_item" : Str), a) :: (("marked" : Str), b) :: (("places" : Str), c) :: r : List (Str × V)).lookup ("places" : Str) = some c := by
  simp [List.lookup, show (("places" : Str) == "by_item") = false by decide +kernel, show (("places" : Str) == "marked") = false by decide +kernel]
theorem l_fr (a b c d : V) (r : List (Str × V)) : ((("by_item" : Str), a) :: (("marked" : Str), b) :: (("places" : Str), c) :: (("is_fronted" : Str), d) :: r : List (Str × V)).lookup ("is_fronted" : Str) = some d := by
  simp [List.lookup, show (("is_fronted" : Str) == "by_item") = false by decide +kernel, show (("is_fronted" : Str) == "marked") = false by decide +kernel, show (("is_fronted" : Str) == "places") = false by decide +kernel]
theorem l_no {m : Str} (a b c d : V) (h1 : (m == ("by_item" : Str)) = false) (h2 : (m == ("marked" : Str)) = false) (h3 : (m == ("places" : Str)) = false) (h4 : (m == ("is_fronted" : Str)) = false) : ([(("by_item" : Str), a), (("marked" : Str), b), (("places" : Str), c), (("is_fronted" : Str), d)] : List (Str × V)).lookup m = none := by
  simp [List.lookup, h1, h2, h3, h4]
/-- a frame stands at p -/
structure Fm (A : Ads) (H : Hp) (p : Addr) (fr : Bool) (zs : List Str) (as : List Addr) (rs : List Rc) : Prop where
  ex : ∃ (dx pb pm pp : Addr) (kb kp : List (Key × V)), H p = some (.ins A.cFrame dx (frF pb pm pp fr)) ∧ H pb = some (.dK kb) ∧ H pm = some (.lst ((mkd zs rs).map V.str)) ∧ H pp = some (.dK kp) ∧
    (∀ (i : Nat) (a : Addr) (r : Rc), as[i]? = some a → rs[i]? = some r → valV kb (.inr (item r)) = some (.ref a)) ∧ (∀ z, z ∉ rs.map item → valV kb (.inr z) = none) ∧ ∀ z ∈ mkd zs rs, valV kp (.inr z) = some (.int (ix zs z : Nat))
theorem Fm.same {H H' : Hp} {p : Addr} {fr : Bool} {zs : List Str} {as : List Addr} {rs : List Rc} (f : Fm A H p fr zs as rs) (s : Same H H') : Fm A H' p fr zs as rs := by
  obtain ⟨dx, pb, pm, pp, kb, kp, h1, h2, h3, h4, h⟩ := f.ex
  exact ⟨dx, pb, pm, pp, kb, kp, s _ _ h1, s _ _ h2, s _ _ h3, s _ _ h4, h⟩
theorem fm_filter (zs : List Str) (its : List Str) : (zs.map V.str).filterMap (fun v => match v with | .str z => if z ∈ its then some (V.str z) else none | _ => none) = (zs.filter fun z => decide (z ∈ its)).map V.str := by
  induction zs with
  | nil => rfl
  | cons z zs ih =>
    rw [List.map_cons, List.filterMap_cons]
    by_cases c : z ∈ its
    · rw [List.filter_cons_of_pos (by simpa using c), List.map_cons, ← ih]
      simp [c]
    · rw [List.filter_cons_of_neg (by simpa using c), ← ih]
      simp [c]
theorem att_f (T : Tx K mg A) {H : Hp} {p dx : Addr} {fs : List (Str × V)} {f : Str} {v : V} (h : H p = some (.ins A.cFrame dx fs)) (n : NoAttr K A.cFrame f) (l : fs.lookup f = some v) : Att P w K mg base H p f v := .fld h T.cls_Frame n l
theorem nodup_inj {xs : List Str} (nd : xs.Nodup) {i j : Nat} {x : Str} (hi : xs[i]? = some x) (hj : xs[j]? = some x) : i = j := by
  obtain ⟨h1, e1⟩ := List.getElem?_eq_some_iff.mp hi
  obtain ⟨h2, e2⟩ := List.getElem?_eq_some_iff.mp hj
  rcases Nat.lt_trichotomy i j with l | l | l
  · exact absurd (e1.trans e2.symm) (List.pairwise_iff_getElem.mp nd i j h1 h2 l)
  · exact l
  · exact absurd (e2.trans e1.symm) (List.pairwise_iff_getElem.mp nd j i h2 h1 l)
def isFr (rs : List Rc) : Bool := decide (sign1 rs = "^")
def sp_finit (A : Ads) : Sp := fun vs H Q _ => ∃ (p dx l pz : Addr) (as : List Addr) (rs : List Rc) (zs : List Str), vs = [.ref p, .ref l, .ref pz] ∧ H p = some (.ins A.cFrame dx []) ∧ Book A H l as rs ∧ rs.length ≤ 1000 ∧ (rs.map item).Nodup ∧ H pz = some (.lst (zs.map V.str)) ∧ Its zs ∧
  ∀ H', But p H H' → Fm A H' p (isFr rs) zs as rs → Q .non H'
theorem p_finit (T : Tx K mg A) : Pur N_Frame_init ps_Frame_init (t_Frame_init P w K mg base A) (sp_finit A) := by
  intro vs H Q E h
  obtain ⟨p, dx, l, pz, as, rs, zs, rfl, hp, b, hn, nd, hz, its, q⟩ := h
  refine ⟨rfl, ?_⟩
  have al := b.len
  have few := its.few
  have nl : l ≠ p := fun e => by have := b.lst; rw [e, hp] at this; cases this
  have nz : pz ≠ p := fun e => by rw [e, hp] at hz; cases hz
  have na : ∀ a ∈ as, a ≠ p := fun a ha e => by
    obtain ⟨i, hi, e2⟩ := List.mem_iff_getElem.mp ha
    obtain ⟨_, d2, h2⟩ := b.at_ i a _ (by rw [List.getElem?_eq_getElem hi, e2]) (List.getElem?_eq_getElem (by omega))
    rw [e, hp] at h2
    simp [recF] at h2
  show t_Frame_init P w K mg base A E _ [some (.ref p), some (.ref l), some (.ref pz), none, none] H
  unfold t_Frame_init
  refine seqU fun U hU => ?_
  walk_at "rd"
  simp only [tDc_eq, iList, tVar, List.getElem?_cons_zero, List.getElem?_cons_succ, Option.some.injEq, exists_eq_left', V.ref.injEq]
  have rAt : ∀ {i : Nat} {x : V}, (as.map V.ref)[i]? = some x → x = .ref (as.getD i 0) ∧ i < rs.length := fun {i x} hx => by
    rw [List.getElem?_map] at hx
    cases e : as[i]? with
    | none => rw [e] at hx; cases hx
    | some a =>
      rw [e] at hx
      exact ⟨by rw [← Option.some.inj hx]; simp [e], by rw [← al]; exact (List.getElem?_eq_some_iff.mp e).1⟩
  refine ⟨⟨_, .inl (.inl b.lst)⟩, dc_goes (goes_list (.inl (.inl b.lst))) (fun i => .inr (item (rs.getD i (0, "", 0)))) (fun i => .ref (as.getD i 0)) (by rw [List.length_map, al]; exact Nat.lt_of_le_of_lt hn (by decide)) (fun i j hij hj e => ?_) (fun i x H1 hi s1 hx => ?_) fun D1 H1 hD1 s1 hl1 => ?_⟩
  · rw [List.length_map, al] at hj
    have e := Sum.inr.inj e
    simp only [List.getD, List.getElem?_eq_getElem (show i < rs.length by omega), List.getElem?_eq_getElem hj, Option.getD_some] at e
    have := nodup_inj nd (i := i) (j := j) (x := item rs[i]) (by rw [List.getElem?_map, List.getElem?_eq_getElem (show i < rs.length by omega)]; rfl) (by rw [List.getElem?_map, List.getElem?_eq_getElem hj, e]; rfl)
    omega
  · obtain ⟨rfl, hir⟩ := rAt hx
    have hia : i < as.length := by omega
    have rc := (b.same s1).at_ i as[i] rs[i] (List.getElem?_eq_getElem hia) (List.getElem?_eq_getElem hir)
    refine ⟨[some (.ref p), some (.ref l), some (.ref pz), some (.ref (as.getD i 0)), none], rfl, fun R' h => h, Evt.yes, fun H2 s2 Q' q' => ?_, fun H2 s2 Q' q' => ⟨_, rfl, q' H2 (Same.refl _)⟩⟩
    have e1 : as.getD i 0 = as[i] := by simp [hia]
    have e2 : rs.getD i (0, "", 0) = rs[i] := by simp [hir]
    rw [e2] at q'
    rw [e1]
    exact ⟨_, rfl, _, _, rfl, att_item T (rc.same s2), q' H2 (Same.refl _)⟩
  have n1 : D1 ≠ p := Ne.symm (ne_of_none hp hD1)
  refine ⟨p, _, dx, _, rfl, s1 _ _ hp, T.cls_Frame, T.n_Frame_by_item, (by show 0 < 1000; decide), ?_⟩
  rw [f_put1, hU]
  clear hU
  have bG1 : But p H (upd H1 p (.ins A.cFrame dx [(("by_item" : Str), V.ref D1)])) := (But.same s1).trans But.upd
  have g1 : upd H1 p (.ins A.cFrame dx [(("by_item" : Str), V.ref D1)]) D1 = some (.dK (kvR (fun i => .inr (item (rs.getD i (0, "", 0)))) (fun i => .ref (as.getD i 0)) (as.map V.ref).length)) := by rw [upd_ne n1]; exact hl1
  rw [List.length_map, al] at g1
  have gp1 := upd_same (H := H1) (a := p) (o := .ins A.cFrame dx [(("by_item" : Str), V.ref D1)])
  generalize upd H1 p (.ins A.cFrame dx [(("by_item" : Str), V.ref D1)]) = G1 at bG1 g1 gp1
  have inK : ∀ (i : Nat) (a : Addr) (r : Rc), as[i]? = some a → rs[i]? = some r → valV (kvR (fun i => .inr (item (rs.getD i (0, "", 0)))) (fun i => .ref (as.getD i 0)) rs.length) (.inr (item r)) = some (.ref a) := fun i a r h1 h2 => by
    have hi := (List.getElem?_eq_some_iff.mp h2).1
    have q := kvR_some (key := fun i => .inr (item (rs.getD i (0, "", 0)))) (val := fun i => .ref (as.getD i 0)) (n := rs.length) (j := i) (fun i j hij hj e => ?_) hi
    · simpa [h1, h2] using q
    · have e := Sum.inr.inj e
      simp only [List.getD, List.getElem?_eq_getElem (show i < rs.length by omega), List.getElem?_eq_getElem hj, Option.getD_some] at e
      have := nodup_inj nd (i := i) (j := j) (x := item rs[i]) (by rw [List.getElem?_map, List.getElem?_eq_getElem (show i < rs.length by omega)]; rfl) (by rw [List.getElem?_map, List.getElem?_eq_getElem hj, e]; rfl)
      omega
  have outK : ∀ z, z ∉ rs.map item → valV (kvR (fun i => .inr (item (rs.getD i (0, "", 0)))) (fun i => .ref (as.getD i 0)) rs.length) (.inr z) = none := fun z hz => kvR_none fun i hi e => hz (by
    have e := Sum.inr.inj e
    rw [← e]
    simp only [List.getD, List.getElem?_eq_getElem hi, Option.getD_some]
    exact List.mem_map.mpr ⟨_, List.getElem_mem hi, rfl⟩)
  generalize kvR (fun i => .inr (item (rs.getD i (0, "", 0)))) (fun i => .ref (as.getD i 0)) rs.length = kb at g1 inK outK
  have hasK : ∀ z, (valV kb (.inr z)).isSome = decide (z ∈ rs.map item) := fun z => by
    by_cases c : z ∈ rs.map item
    · obtain ⟨r, hr, rfl⟩ := List.mem_map.mp c
      obtain ⟨i, hi, e⟩ := List.mem_iff_getElem.mp hr
      rw [inK i as[i] r (List.getElem?_eq_getElem (by omega)) (by rw [List.getElem?_eq_getElem hi, e]), decide_eq_true c]
      rfl
    · rw [outK z c, decide_eq_false c]; rfl
  -- marked
  have hz1 := bG1 _ _ nz hz
  refine seqU fun U hU => ?_
  walk_at "rd"
  refine ⟨⟨_, .inl (.inl hz1)⟩, lc_lst (fun v => match v with | .str z => if z ∈ rs.map item then some (V.str z) else none | _ => none) (.inl (.inl hz1)) (by rw [List.length_map]; exact Nat.lt_of_le_of_lt few (by decide)) (fun x H2 hx s2 => ?_) fun D2 H2 hD2 s2 hl2 => ?_⟩
  · obtain ⟨z, hz', rfl⟩ := List.mem_map.mp hx
    have ev : Evt (tTest (tOp (uIn K false) (tVar 4) (tAtt P w K mg base "by_item" (tVar 0)))) [some (.ref p), some (.ref l), some (.ref pz), none, some (.str z)] H2 (decide (z ∈ rs.map item)) := by
      intro Q' q'
      walk_at "rd"
      refine ⟨_, _, rfl, att_f T (s2 _ _ gp1) T.n_Frame_by_item (l_by _ _), .inr (.inr ⟨_, DGet.k (k := .inr z) (s2 _ _ g1), ?_⟩)⟩
      rw [hasK z]
      exact q' H2 (Same.refl _)
    refine ⟨[some (.ref p), some (.ref l), some (.ref pz), none, some (.str z)], rfl, fun R' h => h, ?_⟩
    show match (if z ∈ rs.map item then some (V.str z) else none) with | some y => _ | none => _
    by_cases c : z ∈ rs.map item
    · rw [decide_eq_true c] at ev
      rw [if_pos c]
      exact ⟨ev, fun H3 s3 Q' q' => ⟨_, rfl, q' H3 (Same.refl _)⟩⟩
    · rw [decide_eq_false c] at ev
      rw [if_neg c]
      exact ev
  rw [fm_filter] at hl2
  have n2 : D2 ≠ p := Ne.symm (ne_of_none gp1 hD2)
  refine ⟨p, _, dx, _, rfl, s2 _ _ gp1, T.cls_Frame, T.n_Frame_marked, (by show 1 < 1000; decide), ?_⟩
  rw [f_put2, hU]
  clear hU
  have bG2 : But p H (upd H2 p (.ins A.cFrame dx [(("by_item" : Str), V.ref D1), (("marked" : Str), V.ref D2)])) := (bG1.trans (But.same s2)).trans But.upd
  have g2 : upd H2 p (.ins A.cFrame dx [(("by_item" : Str), V.ref D1), (("marked" : Str), V.ref D2)]) D1 = some (.dK kb) := by rw [upd_ne n1]; exact s2 _ _ g1
  have gm2 : upd H2 p (.ins A.cFrame dx [(("by_item" : Str), V.ref D1), (("marked" : Str), V.ref D2)]) D2 = some (.lst ((mkd zs rs).map V.str)) := by rw [upd_ne n2]; exact hl2
  have gp2 := upd_same (H := H2) (a := p) (o := .ins A.cFrame dx [(("by_item" : Str), V.ref D1), (("marked" : Str), V.ref D2)])
  generalize upd H2 p (.ins A.cFrame dx [(("by_item" : Str), V.ref D1), (("marked" : Str), V.ref D2)]) = G2 at bG2 g2 gm2 gp2
  have ms : ∀ z ∈ mkd zs rs, z ∈ zs := fun z h => (List.mem_filter.mp h).1
  have mn : (mkd zs rs).Nodup := its.nd.sublist List.filter_sublist
  have ml : (mkd zs rs).length ≤ 60 := Nat.le_trans (List.length_filter_le _ _) few
  -- places
  have hz2 := bG2 _ _ nz hz
  refine seqU fun U hU => ?_
  walk_at "rd"
  simp only [tDc_eq, iList, tAtt, tVar, List.getElem?_cons_zero, List.getElem?_cons_succ, Option.some.injEq, exists_eq_left', V.ref.injEq]
  refine ⟨p, _, rfl, att_f T gp2 T.n_Frame_marked (l_mk _ _ _), D2, rfl, ⟨_, .inl (.inl gm2)⟩, ?_⟩
  refine dc_goes (goes_list (.inl (.inl gm2))) (fun i => .inr ((mkd zs rs).getD i "")) (fun i => .int (ix zs ((mkd zs rs).getD i "") : Nat)) (by rw [List.length_map]; exact Nat.lt_of_le_of_lt ml (by decide)) (fun i j hij hj e => ?_) (fun i x H3 hi s3 hx => ?_) fun D3 H3 hD3 s3 hl3 => ?_
  · rw [List.length_map] at hj
    have e := Sum.inr.inj e
    simp only [List.getD, List.getElem?_eq_getElem (show i < (mkd zs rs).length by omega), List.getElem?_eq_getElem hj, Option.getD_some] at e
    exact absurd e (List.pairwise_iff_getElem.mp mn i j (by omega) hj hij)
  · rw [List.length_map] at hi
    rw [List.getElem?_map, List.getElem?_eq_getElem hi] at hx
    obtain rfl := (Option.some.inj hx).symm
    have e1 : (mkd zs rs).getD i "" = (mkd zs rs)[i] := by simp [hi]
    rw [e1]
    refine ⟨[some (.ref p), some (.ref l), some (.ref pz), none, some (.str (mkd zs rs)[i])], rfl, fun R' h => h, Evt.yes, fun H4 s4 Q' q' => ⟨_, rfl, q' H4 (Same.refl _)⟩, fun H4 s4 Q' q' => ?_⟩
    have h4 := s4 _ _ (s3 _ _ hz2)
    exact ⟨_, rfl, .inl ⟨rfl, _, .inl (.inl h4)⟩, _, rfl, index_ok (.inl (.inl h4)) (ms _ (List.getElem_mem hi)) (q' H4 (Same.refl _))⟩
  have n3 : D3 ≠ p := Ne.symm (ne_of_none gp2 hD3)
  refine ⟨p, _, dx, _, rfl, s3 _ _ gp2, T.cls_Frame, T.n_Frame_places, (by show 2 < 1000; decide), ?_⟩
  rw [f_put3, hU]
  clear hU
  rw [List.length_map] at hl3
  have bG3 : But p H (upd H3 p (.ins A.cFrame dx [(("by_item" : Str), V.ref D1), (("marked" : Str), V.ref D2), (("places" : Str), V.ref D3)])) := (bG2.trans (But.same s3)).trans But.upd
  have g3 : upd H3 p (.ins A.cFrame dx [(("by_item" : Str), V.ref D1), (("marked" : Str), V.ref D2), (("places" : Str), V.ref D3)]) D1 = some (.dK kb) := by rw [upd_ne n1]; exact s3 _ _ g2
  have gm3 : upd H3 p (.ins A.cFrame dx [(("by_item" : Str), V.ref D1), (("marked" : Str), V.ref D2), (("places" : Str), V.ref D3)]) D2 = some (.lst ((mkd zs rs).map V.str)) := by rw [upd_ne n2]; exact s3 _ _ gm2
  have gq3 : upd H3 p (.ins A.cFrame dx [(("by_item" : Str), V.ref D1), (("marked" : Str), V.ref D2), (("places" : Str), V.ref D3)]) D3 = some (.dK (kvR (fun i => .inr ((mkd zs rs).getD i "")) (fun i => .int (ix zs ((mkd zs rs).getD i "") : Nat)) (mkd zs rs).length)) := by rw [upd_ne n3]; exact hl3
  have gp3 := upd_same (H := H3) (a := p) (o := .ins A.cFrame dx [(("by_item" : Str), V.ref D1), (("marked" : Str), V.ref D2), (("places" : Str), V.ref D3)])
  generalize upd H3 p (.ins A.cFrame dx [(("by_item" : Str), V.ref D1), (("marked" : Str), V.ref D2), (("places" : Str), V.ref D3)]) = G3 at bG3 g3 gm3 gq3 gp3
  have b3 : Book A G3 l as rs := ⟨bG3 _ _ nl b.lst, al, fun i a r h1 h2 => by
    obtain ⟨hk, d2, h⟩ := b.at_ i a r h1 h2
    exact ⟨hk, d2, bG3 _ _ (na a (List.mem_of_getElem? h1)) h⟩⟩
  walk_at "rd"
  refine ⟨3, _, fn_sign_of T, by decide, l, as, rs, rfl, b3, fun G4 s4 => ?_⟩
  refine ⟨p, _, dx, _, rfl, s4 _ _ gp3, T.cls_Frame, T.n_Frame_is_fronted, (by show 3 < 1000; decide), ?_⟩
  have efr : decide (V.str (sign1 rs) = A.kFRONTED) = isFr rs := by
    unfold isFr
    rw [Bool.eq_iff_iff]
    simp only [decide_eq_true_eq, Ads.kFRONTED, V.str.injEq]
  rw [f_put4, efr]
  refine q _ ((bG3.trans (But.same s4)).trans But.upd) ⟨dx, D1, D2, D3, kb, _, upd_same, by rw [upd_ne n1]; exact s4 _ _ g3, by rw [upd_ne n2]; exact s4 _ _ gm3, by rw [upd_ne n3]; exact s4 _ _ gq3, inK, outK, fun z hz => ?_⟩
  obtain ⟨i, hi, e⟩ := List.mem_iff_getElem.mp hz
  have q := kvR_some (key := fun i => .inr ((mkd zs rs).getD i "")) (val := fun i => .int (ix zs ((mkd zs rs).getD i "") : Nat)) (n := (mkd zs rs).length) (j := i) (fun i j hij hj e => ?_) hi
  · have e1 : (mkd zs rs).getD i "" = z := by simp [hi, e]
    rw [e1] at q
    exact q
  · have e := Sum.inr.inj e
    simp only [List.getD, List.getElem?_eq_getElem (show i < (mkd zs rs).length by omega), List.getElem?_eq_getElem hj, Option.getD_some] at e
    exact absurd e (List.pairwise_iff_getElem.mp mn i j (by omega) hj hij)
theorem mkr_frame (T : Tx K mg A) : Mkr P w K mg base 4 "Frame" A.cFrame (sp_finit A) := T.made_Frame.mkr sc_Frame_init (fun hr => d_Frame_init T.G hr) (p_finit T)
end
end K
namespace K
open PySem PySem.Spec PyProof.Rows L2 U ClX M
local macro_rules | `(tactic| walk_at "rd") => `(tactic| simp only [tSeq, tRet, tIfS, tAsg, tDrop, tNext, tNever, tRetN, tAndV, tOrV, tNotV, tAnd, tOr, tNot, tB, tTest, tChain, tCB, tCons, tNil, tVar, tC, tOp, tUn, tIf, gName, uLe, uLt, uGe, uGt, uCmp, uAdd, uSub, uMul, uDiv, uMod, uPow, uNeg, uEq, uNe, uIs, uIsNot, uIx, uIn, cIsi, cLen, cAll, cMax, cMin, cAbs, cSort, cSortD, cInt, cTuple, cRepr, cList, cSortS, tRevL, tDGet, tLstRg, tTupRg, tRg1, tRg2, sDPut, tDNewK, tAug, ipI, iZip, tLst, tTup, tPar, U.tPar3, tFn, tMkr, tMth, tFnK, tMthK, tAtt, sFld, tYes, tLc_eq, tFor_eq, iList, iStr, iRng1, iRng2, iEnum, tLenSetT, tSl, tPart, tNoPart, gTup, gCons, gNil, gSub, tBM, tBM0, List.getElem?_cons_zero, List.getElem?_cons_succ, List.set_cons_zero, List.set_cons_succ, Option.some.injEq, V.bl.injEq, V.int.injEq, V.str.injEq, V.ref.injEq, exists_eq_left', exists_eq_left, exists_eq_right, exists_eq_right', and_true, true_and, scal, if_true, Bool.false_eq_true, if_false, List.cons.injEq, exists_const, false_and, and_false, ite_true, ite_false, Bool.not_true, Bool.not_false])
section
variable {P : Program} {w : World} {K : PySem.W.Frag} {mg : Str → Option Value} {base : Heap} {A : Ads}
/-! ### rooms, shifts, bounds -/
def roomP (fr : Bool) (m : List Str) (z : Str) : Int := if fr = true then (m.length : Int) - 1 - (ix m z : Nat) else (ix m z : Nat)
def shiftP (fr : Bool) (zs : List Str) (z : Str) (s : Int) : Int := if fr = true then -(((ix zs z : Nat) : Int) - s) else ((ix zs z : Nat) : Int) - s
def lowP (fr : Bool) (zs m : List Str) (z : Str) : Int := if fr = true then (ix zs z : Nat) else ((ix zs z : Nat) : Int) - roomP fr m z
def highP (fr : Bool) (zs m : List Str) (z : Str) : Int := if fr = true then ((ix zs z : Nat) : Int) + roomP fr m z else (ix zs z : Nat)
/-- the index of the record of an item -/
def sl : List Rc → Str → Int
  | [], _ => 0
  | r :: rs, z => if item r = z then slot r else sl rs z
theorem sl_at : ∀ {rs : List Rc} {i : Nat} {r : Rc}, (rs.map item).Nodup → rs[i]? = some r → sl rs (item r) = slot r
  | r0 :: rs, 0, r, nd, h => by simp at h; subst h; simp [sl]
  | r0 :: rs, i + 1, r, nd, h => by
    have h : rs[i]? = some r := by simpa using h
    have nd' : ¬ item r0 ∈ rs.map item ∧ (rs.map item).Nodup := List.nodup_cons.mp nd
    unfold sl
    rw [if_neg (fun e => nd'.1 (by rw [e]; exact List.mem_map.mpr ⟨r, List.mem_of_getElem? h, rfl⟩))]
    exact sl_at nd'.2 h
theorem ix_filter (f : Str → Bool) : ∀ {zs : List Str} {z : Str}, zs.Nodup → z ∈ zs → f z = true → ix (zs.filter f) z = ((zs.take (ix zs z)).filter f).length
  | y :: zs, z, nd, h, hf => by
    have nd' := List.nodup_cons.mp nd
    by_cases e : y = z
    · subst e
      rw [List.filter_cons_of_pos hf]
      simp [ix]
    · have hz : z ∈ zs := by rcases List.mem_cons.mp h with e2 | e2; exact absurd e2.symm e; exact e2
      have ih := ix_filter f nd'.2 hz hf
      have e1 : ix (y :: zs) z = ix zs z + 1 := by simp [ix, e]
      rw [e1, List.take_succ_cons]
      cases c : f y with
      | true => rw [List.filter_cons_of_pos c, List.filter_cons_of_pos c, List.length_cons, ← ih]; simp [ix, e]
      | false => rw [List.filter_cons_of_neg (by simp [c]), List.filter_cons_of_neg (by simp [c]), ← ih]
theorem ix_bounds (f : Str → Bool) {zs : List Str} {z : Str} (nd : zs.Nodup) (h : z ∈ zs) (hf : f z = true) : ix (zs.filter f) z ≤ ix zs z ∧ (zs.filter f).length - ix (zs.filter f) z ≤ zs.length - ix zs z ∧ ix (zs.filter f) z < (zs.filter f).length := by
  have e := ix_filter f nd h hf
  have l := ix_lt h
  refine ⟨?_, ?_, ix_lt (List.mem_filter.mpr ⟨h, hf⟩)⟩
  · rw [e]
    exact Nat.le_trans (List.length_filter_le _ _) (by simp; omega)
  · have e2 : (zs.filter f).length = ((zs.take (ix zs z)).filter f).length + ((zs.drop (ix zs z)).filter f).length := by
      rw [← List.length_append, ← List.filter_append, List.take_append_drop]
    have e3 : ((zs.drop (ix zs z)).filter f).length ≤ zs.length - ix zs z := Nat.le_trans (List.length_filter_le _ _) (by simp)
    omega
theorem frame_range {zs : List Str} {rs : List Rc} {z : Str} (hz : Its zs) (h : z ∈ mkd zs rs) (fr : Bool) : 0 ≤ lowP fr zs (mkd zs rs) z ∧ lowP fr zs (mkd zs rs) z ≤ highP fr zs (mkd zs rs) z ∧ highP fr zs (mkd zs rs) z ≤ 59 := by
  obtain ⟨h1, h2⟩ := List.mem_filter.mp h
  obtain ⟨b1, b2, b3⟩ := ix_bounds (fun z => decide (z ∈ rs.map item)) hz.nd h1 h2
  have l := ix_lt h1
  have few := hz.few
  unfold lowP highP roomP
  unfold mkd
  cases fr
  · simp only [Bool.false_eq_true, if_false]
    refine ⟨?_, ?_, ?_⟩ <;> omega
  · simp only [if_true]
    refine ⟨?_, ?_, ?_⟩ <;> omega
def sp_room (A : Ads) : Sp := fun vs H Q _ => ∃ (p : Addr) (z : Str) (fr : Bool) (zs : List Str) (as : List Addr) (rs : List Rc), vs = [.ref p, .str z] ∧ Fm A H p fr zs as rs ∧ z ∈ mkd zs rs ∧ Q (.int (roomP fr (mkd zs rs) z)) H
theorem p_room (T : Tx K mg A) : Pur N_Frame_room ps_Frame_room (t_Frame_room P w K mg base A) (sp_room A) := by
  intro vs H Q E h
  obtain ⟨p, z, fr, zs, as, rs, rfl, F, hz, q⟩ := h
  refine ⟨rfl, ?_⟩
  obtain ⟨dx, pb, pm, pp, kb, kp, h1, h2, h3, h4, h5⟩ := F.ex
  show t_Frame_room P w K mg base A E _ [some (.ref p), some (.str z), none] H
  unfold t_Frame_room
  walk_at "rd"
  refine ⟨p, _, rfl, att_f T h1 T.n_Frame_marked (l_mk _ _ _), .inl ⟨rfl, _, .inl (.inl h3)⟩, index_ok (.inl (.inl h3)) hz ?_⟩
  refine ⟨p, _, rfl, att_f T h1 T.n_Frame_is_fronted (l_fr _ _ _ _ _), fr, rfl, ?_⟩
  cases fr
  · rw [if_neg (by decide)]
    exact q
  · rw [if_pos rfl]
    refine ⟨p, _, rfl, att_f T h1 T.n_Frame_marked (l_mk _ _ _), _, .inl (.inl (.inl h3)), ?_⟩
    rw [List.length_map]
    exact q
theorem mth_room (T : Tx K mg A) : Mth P w K mg base 3 A.cFrame "room" (sp_room A) := T.m_Frame_room.mth sc_Frame_room (fun hr => d_Frame_room T.G hr) (p_room T)
def sp_shift (A : Ads) : Sp := fun vs H Q _ => ∃ (p : Addr) (i : Nat) (a : Addr) (r : Rc) (fr : Bool) (zs : List Str) (as : List Addr) (rs : List Rc), vs = [.ref p, .str (item r)] ∧ Fm A H p fr zs as rs ∧ as[i]? = some a ∧ rs[i]? = some r ∧ Rec A H a r.1 r.2.1 r.2.2 ∧ item r ∈ mkd zs rs ∧ Q (.int (shiftP fr zs (item r) (slot r))) H
theorem p_shift (T : Tx K mg A) : Pur N_Frame_shift ps_Frame_shift (t_Frame_shift P w K mg base A) (sp_shift A) := by
  intro vs H Q E h
  obtain ⟨p, i, a, r, fr, zs, as, rs, rfl, F, ha, hr, rc, hz, q⟩ := h
  refine ⟨rfl, ?_⟩
  obtain ⟨dx, pb, pm, pp, kb, kp, h1, h2, h3, h4, h5, h6, h7⟩ := F.ex
  show t_Frame_shift P w K mg base A E _ [some (.ref p), some (.str (item r)), none] H
  unfold t_Frame_shift
  walk_at "rd"
  have g1 := DGet.k (k := .inr (item r)) h4
  rw [h7 _ hz] at g1
  have g2 := DGet.k (k := .inr (item r)) h2
  rw [h5 i a r ha hr] at g2
  refine ⟨p, _, rfl, att_f T h1 T.n_Frame_places (l_pl _ _ _ _), pp, _, rfl, g1, ?_⟩
  refine ⟨p, _, rfl, att_f T h1 T.n_Frame_by_item (l_by _ _), pb, _, rfl, g2, _, _, rfl, att_slot T rc, ?_⟩
  refine ⟨p, _, rfl, att_f T h1 T.n_Frame_is_fronted (l_fr _ _ _ _ _), fr, rfl, ?_⟩
  cases fr
  · rw [if_neg (by decide)]
    exact q
  · rw [if_pos rfl]
    exact q
theorem mth_shift (T : Tx K mg A) : Mth P w K mg base 3 A.cFrame "shift" (sp_shift A) := T.m_Frame_shift.mth sc_Frame_shift (fun hr => d_Frame_shift T.G hr) (p_shift T)
theorem fr_no {m : Str} {pb pm pp : Addr} {fr : Bool} (h1 : (m == ("by_item" : Str)) = false) (h2 : (m == ("marked" : Str)) = false) (h3 : (m == ("places" : Str)) = false) (h4 : (m == ("is_fronted" : Str)) = false) : (frF pb pm pp fr).lookup m = none := l_no _ _ _ _ h1 h2 h3 h4
def sp_bounds (A : Ads) : Sp := fun vs H Q _ => ∃ (p : Addr) (z : Str) (fr : Bool) (zs : List Str) (as : List Addr) (rs : List Rc), vs = [.ref p, .str z] ∧ Fm A H p fr zs as rs ∧ z ∈ mkd zs rs ∧ ∀ t, H t = none → Q (.ref t) (upd H t (.tup [.int (lowP fr zs (mkd zs rs) z), .int (highP fr zs (mkd zs rs) z)]))
theorem p_bounds (T : Tx K mg A) : Pur N_Frame_bounds ps_Frame_bounds (t_Frame_bounds P w K mg base A) (sp_bounds A) := by
  intro vs H Q E h
  obtain ⟨p, z, fr, zs, as, rs, rfl, F, hz, q⟩ := h
  refine ⟨rfl, ?_⟩
  obtain ⟨dx, pb, pm, pp, kb, kp, h1, h2, h3, h4, h5, h6, h7⟩ := F.ex
  show t_Frame_bounds P w K mg base A E _ [some (.ref p), some (.str z), none, none] H
  unfold t_Frame_bounds
  walk_at "rd"
  have g1 := DGet.k (k := .inr z) h4
  rw [h7 _ hz] at g1
  refine ⟨p, _, rfl, att_f T h1 T.n_Frame_places (l_pl _ _ _ _), pp, _, rfl, g1, ?_⟩
  refine ⟨p, _, dx, _, 3, _, rfl, h1, mth_room T, by decide, fr_no (by decide +kernel) (by decide +kernel) (by decide +kernel) (by decide +kernel), p, z, fr, zs, as, rs, rfl, F, hz, _, _, ⟨rfl, rfl⟩, ?_⟩
  refine ⟨p, _, rfl, att_f T h1 T.n_Frame_is_fronted (l_fr _ _ _ _ _), fr, rfl, ?_⟩
  cases fr
  · rw [if_neg (by decide)]
    exact ⟨(by show 2 ≤ sizeLine; decide), q⟩
  · rw [if_pos rfl]
    exact ⟨(by show 2 ≤ sizeLine; decide), q⟩
theorem mth_bounds (T : Tx K mg A) : Mth P w K mg base 4 A.cFrame "bounds" (sp_bounds A) := T.m_Frame_bounds.mth sc_Frame_bounds (fun hr => d_Frame_bounds T.G hr) (p_bounds T)
/-! ### a log and a known list of it -/
structure Known (rs : List Rc) (zs : List Str) : Prop where
  log : isLog rs = true
  kind : ∀ r ∈ rs, r.1 < 3
  nd : (rs.map item).Nodup
  ok : ∀ r ∈ rs, RcOk r
  its : Its zs
  sub : ∀ r ∈ rs, item r ∈ zs
theorem Known.mk' {rs : List Rc} {zs : List Str} (k : Known rs zs) {r : Rc} (h : r ∈ rs) : item r ∈ mkd zs rs := List.mem_filter.mpr ⟨k.sub r h, decide_eq_true (List.mem_map.mpr ⟨r, h, rfl⟩)⟩
theorem mkd_in {rs : List Rc} {zs : List Str} {z : Str} (h : z ∈ mkd zs rs) : ∃ (i : Nat) (r : Rc), rs[i]? = some r ∧ item r = z := by
  have := of_decide_eq_true (List.mem_filter.mp h).2
  obtain ⟨r, hr, e⟩ := List.mem_map.mp this
  obtain ⟨i, hi, e2⟩ := List.mem_iff_getElem.mp hr
  exact ⟨i, r, by rw [List.getElem?_eq_getElem hi, e2], e⟩
def sp_framed (A : Ads) : Sp := fun vs H Q _ => ∃ (l pz : Addr) (as : List Addr) (rs : List Rc) (zs : List Str), vs = [.ref l, .ref pz] ∧ Book A H l as rs ∧ H pz = some (.lst (zs.map V.str)) ∧ Known rs zs ∧ ∀ p H', H p = none → Same H H' → Fm A H' p (isFr rs) zs as rs → Q (.ref p) H'
theorem p_framed_log (T : Tx K mg A) : Pur N_framed_log ps_framed_log (t_framed_log P w K mg base A) (sp_framed A) := by
  intro vs H Q E h
  obtain ⟨l, pz, as, rs, zs, rfl, b, hz, kn, q⟩ := h
  refine ⟨rfl, ?_⟩
  have h40 := log_40 kn.log
  show t_framed_log P w K mg base A E _ [some (.ref l), some (.ref pz)] H
  unfold t_framed_log
  walk_at "rd"
  refine ⟨5, _, fn_need_log T, by decide, l, as, rs, rfl, b, kn.log, kn.kind, fun H1 s1 => ?_⟩
  refine ⟨4, _, fn_need_known T, by decide, l, pz, as, rs, zs, rfl, b.same s1, by omega, s1 _ _ hz, kn.its, kn.sub, fun H2 s2 => ?_⟩
  have b2 := (b.same s1).same s2
  have hz2 := s2 _ _ (s1 _ _ hz)
  refine ⟨4, _, _, mkr_frame T, by decide, fun p dx hp hdx ne => ?_⟩
  have s3 : Same H2 (upd (upd H2 dx (.own p)) p (.ins A.cFrame dx [])) := fun b o e => by rw [upd_ne (ne_of_none e hp), upd_ne (ne_of_none e hdx)]; exact e
  refine ⟨p, dx, l, pz, as, rs, zs, rfl, upd_same, b2.same s3, by omega, kn.nd, s3 _ _ hz2, kn.its, fun H' bt f => ⟨rfl, q p H' ((s1.trans s2).free hp) (fun b o e => ?_) f⟩⟩
  have e2 := s2 _ _ (s1 _ _ e)
  exact bt b o (ne_of_none e2 hp) (s3 _ _ e2)
theorem fn_framed_log (T : Tx K mg A) : Fn P w K mg base 6 "framed_log" (sp_framed A) := T.f_framed_log.fn sc_framed_log (fun hr => d_framed_log T.G hr) (p_framed_log T)
/-- z stands right -/
def okP (rs : List Rc) (zs : List Str) (z : Str) : Bool := decide (0 ≤ shiftP (isFr rs) zs z (sl rs z)) && decide (shiftP (isFr rs) zs z (sl rs z) ≤ roomP (isFr rs) (mkd zs rs) z)
def wrongP (rs : List Rc) (zs : List Str) : List Str := (mkd zs rs).filter fun z => !okP rs zs z
theorem fm_filterB (f : Str → Bool) (zs : List Str) : (zs.map V.str).filterMap (fun v => match v with | .str z => if f z = true then some (V.str z) else none | _ => none) = (zs.filter f).map V.str := by
  induction zs with
  | nil => rfl
  | cons z zs ih =>
    rw [List.map_cons, List.filterMap_cons]
    cases c : f z with
    | true => rw [List.filter_cons_of_pos c, List.map_cons, ← ih]; simp [c]
    | false => rw [List.filter_cons_of_neg (by simp [c]), ← ih]; simp [c]
def sp_wrong (A : Ads) : Sp := fun vs H Q _ => ∃ (l pz : Addr) (as : List Addr) (rs : List Rc) (zs : List Str), vs = [.ref l, .ref pz] ∧ Book A H l as rs ∧ H pz = some (.lst (zs.map V.str)) ∧ Known rs zs ∧ ∀ p H', H p = none → Same H H' → H' p = some (.lst ((wrongP rs zs).map V.str)) → Q (.ref p) H'
theorem p_wrong (T : Tx K mg A) : Pur N_wrong_items ps_wrong_items (t_wrong_items P w K mg base A) (sp_wrong A) := by
  intro vs H Q E h
  obtain ⟨l, pz, as, rs, zs, rfl, b, hz, kn, q⟩ := h
  refine ⟨rfl, ?_⟩
  have al := b.len
  have ml : (mkd zs rs).length ≤ 60 := Nat.le_trans (List.length_filter_le _ _) kn.its.few
  show t_wrong_items P w K mg base A E _ [some (.ref l), some (.ref pz), none, none] H
  unfold t_wrong_items
  refine seqU fun U hU => ?_
  walk_at "rd"
  refine ⟨6, _, fn_framed_log T, by decide, l, pz, as, rs, zs, rfl, b, hz, kn, fun p H1 hp s1 F => ?_⟩
  rw [hU]
  clear hU
  have F0 := F
  obtain ⟨dx, pb, pm, pp, kb, kp, h1, h2, h3, h4, h5⟩ := F.ex
  have b1 := b.same s1
  walk_at "rd"
  refine ⟨p, _, rfl, att_f T h1 T.n_Frame_marked (l_mk _ _ _), pm, rfl, ⟨_, .inl (.inl h3)⟩, ?_⟩
  refine lc_lst (fun v => match v with | .str z => if (!okP rs zs z) = true then some (V.str z) else none | _ => none) (.inl (.inl h3)) (by rw [List.length_map]; exact Nat.lt_of_le_of_lt ml (by decide)) (fun x H2 hx s2 => ?_) fun D2 H2 hD2 s2 hl2 => ?_
  · obtain ⟨z, hz', rfl⟩ := List.mem_map.mp hx
    obtain ⟨i, r, hr, rfl⟩ := mkd_in hz'
    have hi := (List.getElem?_eq_some_iff.mp hr).1
    have ha : as[i]? = some as[i] := List.getElem?_eq_getElem (by omega)
    have rc := (b1.same s2).at_ i _ r ha hr
    have F2 := F0.same s2
    have ev : Evt (tNot (tTest (tChain uLe uLe (tC (.int 0)) (tMth P w K mg base "shift" 6 E0 (tVar 2) (tCons (tVar 3) (tNil))) (tMth P w K mg base "room" 6 E0 (tVar 2) (tCons (tVar 3) (tNil)))))) [some (.ref l), some (.ref pz), some (.ref p), some (.str (item r))] H2 (!okP rs zs (item r)) := by
      intro Q' q'
      walk_at "rd"
      refine ⟨p, _, dx, _, 3, _, rfl, s2 _ _ h1, mth_shift T, by decide, fr_no (by decide +kernel) (by decide +kernel) (by decide +kernel) (by decide +kernel), p, i, _, r, isFr rs, zs, as, rs, rfl, F2, ha, hr, rc, hz', ?_⟩
      have e := sl_at kn.nd hr
      unfold okP at q'
      rw [e] at q'
      show if _ then _ else _
      by_cases c : 0 ≤ shiftP (isFr rs) zs (item r) (slot r)
      · rw [if_pos (decide_eq_true c)]
        refine ⟨p, _, dx, _, 3, _, rfl, s2 _ _ h1, mth_room T, by decide, fr_no (by decide +kernel) (by decide +kernel) (by decide +kernel) (by decide +kernel), p, _, isFr rs, zs, as, rs, rfl, F2, hz', ?_⟩
        rw [decide_eq_true c, Bool.true_and] at q'
        exact q' H2 (Same.refl _)
      · rw [if_neg (by simpa using c)]
        rw [decide_eq_false c, Bool.false_and] at q'
        exact q' H2 (Same.refl _)
    refine ⟨[some (.ref l), some (.ref pz), some (.ref p), some (.str (item r))], rfl, fun R' h => h, ?_⟩
    show match (if (!okP rs zs (item r)) = true then some (V.str (item r)) else none) with | some y => _ | none => _
    cases c : okP rs zs (item r) with
    | false =>
      rw [c] at ev
      rw [if_pos (by decide)]
      exact ⟨ev, fun H3 s3 Q' q' => ⟨_, rfl, q' H3 (Same.refl _)⟩⟩
    | true =>
      rw [c] at ev
      rw [if_neg (by decide)]
      exact ev
  rw [fm_filterB fun z => !okP rs zs z] at hl2
  exact q D2 H2 (s1.free hD2) (s1.trans s2) hl2
theorem fn_wrong (T : Tx K mg A) : Fn P w K mg base 7 "wrong_items" (sp_wrong A) := T.f_wrong_items.fn sc_wrong_items (fun hr => d_wrong_items T.G hr) (p_wrong T)
/-- the index that is nearest to s -/
def clampP (lo hi s : Int) : Int := if hi < (if lo > s then lo else s) then hi else (if lo > s then lo else s)
def nearR (rs : List Rc) (zs : List Str) (r : Rc) : Rc := (r.1, item r, clampP (lowP (isFr rs) zs (mkd zs rs) (item r)) (highP (isFr rs) zs (mkd zs rs) (item r)) (slot r))
def nearP (rs : List Rc) (zs : List Str) : List Rc := rs.map (nearR rs zs)
def sp_nearest (A : Ads) : Sp := fun vs H Q _ => ∃ (l pz : Addr) (as : List Addr) (rs : List Rc) (zs : List Str), vs = [.ref l, .ref pz] ∧ Book A H l as rs ∧ H pz = some (.lst (zs.map V.str)) ∧ Known rs zs ∧ ∀ p as' H', Same H H' → NewBook A H H' p as' (nearP rs zs) → Q (.ref p) H'
theorem p_nearest (T : Tx K mg A) : Pur N_nearest ps_nearest (t_nearest P w K mg base A) (sp_nearest A) := by
  intro vs H Q E h
  obtain ⟨l, pz, as, rs, zs, rfl, b, hz, kn, q⟩ := h
  refine ⟨rfl, ?_⟩
  have al := b.len
  have h40 := log_40 kn.log
  show t_nearest P w K mg base A E _ [some (.ref l), some (.ref pz), none, none, none, none, none] H
  unfold t_nearest
  refine seqU fun U hU => ?_
  walk_at "rd"
  refine ⟨6, _, fn_framed_log T, by decide, l, pz, as, rs, zs, rfl, b, hz, kn, fun p H1 hp s1 F => ?_⟩
  rw [hU]
  clear hU
  refine seqU fun U hU => ?_
  walk_at "rd"
  refine ⟨by decide, fun D hD => ?_⟩
  rw [hU]
  clear hU
  have s2 := Same.new (o := .lst []) hD
  have S2 := s1.trans s2
  have fD : H D = none := s1.free hD
  have gD := upd_same (H := H1) (a := D) (o := .lst [])
  have F2 := F.same s2
  generalize upd H1 D (.lst []) = G0 at s2 S2 gD F2
  refine seqU fun U hU => ?_
  walk_at "rd"
  refine ⟨⟨_, .inl (.inl (S2 _ _ b.lst))⟩, ?_⟩
  refine for_list (K := K) (a := l) (xs := as.map V.ref) (fun i σ G => ∃ (bs : List Addr) (v4 v5 v6 : Option V), σ = [some (.ref l), some (.ref pz), some (.ref p), some (.ref D), v4, v5, v6] ∧ Same H1 G ∧ bs.length = i ∧ bs.Nodup ∧ (∀ a ∈ bs, H a = none ∧ a ≠ D ∧ ∃ o, G a = some o) ∧ G D = some (.lst (bs.map V.ref)) ∧ ∀ (j : Nat) (a : Addr) (r : Rc), bs[j]? = some a → rs[j]? = some r → Rec A G a (nearR rs zs r).1 (nearR rs zs r).2.1 (nearR rs zs r).2.2) ⟨[], _, _, _, rfl, s2, rfl, List.nodup_nil, (fun _ h => nomatch h), gD, fun j a r h => by simp at h⟩ (fun i σ G _ ⟨_, _, _, _, _, s, _⟩ => .inl (.inl (s _ _ (s1 _ _ b.lst)))) ?_ ?_
  · rintro i x σ G hx ⟨bs, v4, v5, v6, rfl, sG1', hl, nd, fr, gD, rcs⟩
    have sG := s1.trans sG1'
    have FG := F.same sG1'
    obtain ⟨a, r, rfl, ha, hr, rc⟩ := (b.same sG).get hx
    have hrm := List.mem_of_getElem? hr
    have hi := (List.getElem?_eq_some_iff.mp hr).1
    obtain ⟨dx, pb, pm, pp, kb, kp, h1, h2, h3, h4, h5⟩ := FG.ex
    simp only [gName]
    refine seqU fun U hU => ?_
    walk_at "rd"
    refine ⟨p, _, dx, _, 4, _, rfl, h1, mth_bounds T, by decide, fr_no (by decide +kernel) (by decide +kernel) (by decide +kernel) (by decide +kernel), _, _, rfl, att_item T rc, p, _, isFr rs, zs, as, rs, rfl, FG, kn.mk' hrm, fun t ht => ?_⟩
    refine ⟨t, _, rfl, .inl (.inl upd_same), rfl, _, _, rfl, _, _, rfl, rfl, ?_⟩
    rw [hU]
    clear hU
    have u1 := Same.new (o := .tup [.int (lowP (isFr rs) zs (mkd zs rs) (item r)), .int (highP (isFr rs) zs (mkd zs rs) (item r))]) ht
    obtain ⟨b1, b2, b3⟩ := frame_range kn.its (kn.mk' hrm) (isFr rs)
    have rc1 := rc.same u1
    have gD1 := u1 _ _ gD
    have sG1 := sG1'.trans u1
    have fr1 : ∀ a ∈ bs, H a = none ∧ a ≠ D ∧ ∃ o, upd G t (.tup [.int (lowP (isFr rs) zs (mkd zs rs) (item r)), .int (highP (isFr rs) zs (mkd zs rs) (item r))]) a = some o := fun a ha => by
      obtain ⟨z1, z2, o, z3⟩ := fr a ha
      exact ⟨z1, z2, o, u1 _ _ z3⟩
    have rcs1 := fun (j : Nat) (a : Addr) (r' : Rc) (z1 : bs[j]? = some a) (z2 : rs[j]? = some r') => (rcs j a r' z1 z2).same u1
    generalize upd G t (.tup [.int (lowP (isFr rs) zs (mkd zs rs) (item r)), .int (highP (isFr rs) zs (mkd zs rs) (item r))]) = G1 at rc1 gD1 sG1 fr1 rcs1
    walk_at "rd"
    refine ⟨.inl ⟨rfl, _, .inl (.inl gD1)⟩, 5, _, fn_mk T, by decide, _, _, rfl, att_sign T rc1, _, _, rfl, att_item T rc1, _, _, rfl, att_slot T rc1, ?_⟩
    have cl : 0 ≤ (nearR rs zs r).2.2 ∧ (nearR rs zs r).2.2 ≤ 60 := by
      show 0 ≤ clampP _ _ _ ∧ clampP _ _ _ ≤ 60
      unfold clampP
      split <;> split <;> omega
    refine ⟨r.1, item r, (nearR rs zs r).2.2, rfl, Nat.lt_succ_of_lt (kn.kind r hrm), (kn.ok r hrm).1, cl.1, cl.2, fun p2 G2 hp2 s3 rc2 => ?_⟩
    have np : p2 ≠ D := Ne.symm (ne_of_none gD1 hp2)
    have nas : p2 ∉ bs := fun h => by obtain ⟨_, _, o, ho⟩ := fr1 p2 h; rw [hp2] at ho; cases ho
    refine ⟨D, bs.map V.ref, _, rfl, rfl, s3 _ _ gD1, ?_, bs ++ [p2], _, _, _, ⟨rfl, rfl, rfl⟩, (sG1.trans s3).mut hD, by simp [hl], ?_, ?_, ?_, ?_⟩
    · rw [List.length_map, hl]; exact Nat.lt_of_lt_of_le (by omega : i < 1001) (by decide)
    · rw [List.nodup_append]
      exact ⟨nd, by simp, fun a ha b hb => by obtain rfl := List.mem_singleton.mp hb; exact fun e => nas (e ▸ ha)⟩
    · intro a' ha'
      rcases List.mem_append.mp ha' with q' | q'
      · obtain ⟨z1, z2, o, z3⟩ := fr1 a' q'
        exact ⟨z1, z2, o, by rw [upd_ne z2]; exact s3 _ _ z3⟩
      · obtain rfl := List.mem_singleton.mp q'
        obtain ⟨_, dx, h⟩ := rc2
        exact ⟨(s1.trans sG1).free hp2, np, _, by rw [upd_ne np]; exact h⟩
    · rw [upd_same, List.map_append]; rfl
    · intro j a' r' z1 z2
      by_cases c : j < bs.length
      · rw [List.getElem?_append_left c] at z1
        obtain ⟨hk, dx, h⟩ := rcs1 j a' r' z1 z2
        exact ⟨hk, dx, by rw [upd_ne (fr1 a' (List.mem_of_getElem? z1)).2.1]; exact s3 _ _ h⟩
      · rw [List.getElem?_append_right (by omega)] at z1
        by_cases e : j = bs.length
        · subst e
          simp at z1
          subst z1
          rw [hl, hr] at z2
          cases z2
          obtain ⟨hk, dx, h⟩ := rc2
          exact ⟨hk, dx, by rw [upd_ne np]; exact h⟩
        · rw [List.getElem?_eq_none (by simp; omega)] at z1
          cases z1
  · rintro σ G ⟨bs, v4, v5, v6, rfl, sG, hl, nd, fr, gD, rcs⟩
    show U _ _
    rw [hU]
    clear hU
    walk_at "rd"
    rw [List.length_map] at hl
    refine q D bs G (s1.trans sG) ⟨⟨gD, by unfold nearP; rw [List.length_map]; omega, fun j a r z1 z2 => ?_⟩, nd, fun a ha => (fr a ha).1, fun a ha => (fr a ha).2.1, fD⟩
    unfold nearP at z2
    rw [List.getElem?_map] at z2
    cases e : rs[j]? with
    | none => rw [e] at z2; cases z2
    | some r0 =>
      rw [e] at z2
      obtain rfl := Option.some.inj z2
      exact rcs j a r0 z1 e
theorem fn_nearest (T : Tx K mg A) : Fn P w K mg base 7 "nearest" (sp_nearest A) := T.f_nearest.fn sc_nearest (fun hr => d_nearest T.G hr) (p_nearest T)
end
end K
namespace K
open PySem PySem.Spec PyProof.Rows L2 U ClX M
local macro_rules | `(tactic| walk_at "rd") => `(tactic| simp only [tSeq, tRet, tIfS, tAsg, tDrop, tNext, tNever, tRetN, tAndV, tOrV, tNotV, tAnd, tOr, tNot, tB, tTest, tChain, tCB, tCons, tNil, tVar, tC, tOp, tUn, tIf, gName, uLe, uLt, uGe, uGt, uCmp, uAdd, uSub, uMul, uDiv, uMod, uPow, uNeg, uEq, uNe, uIs, uIsNot, uIx, uIn, cIsi, cLen, cAll, cMax, cMin, cAbs, cSort, cSortD, cInt, cTuple, cRepr, cList, cSortS, tRevL, tDGet, tLstRg, tTupRg, tRg1, tRg2, sDPut, tDNewK, tAug, ipI, iZip, tLst, tTup, tPar, U.tPar3, tFn, tMkr, tMth, tFnK, tMthK, tAtt, sFld, tYes, tLc_eq, tFor_eq, iList, iStr, iRng1, iRng2, iEnum, tLenSetT, tSl, tPart, tNoPart, gTup, gCons, gNil, gSub, tBM, tBM0, List.getElem?_cons_zero, List.getElem?_cons_succ, List.set_cons_zero, List.set_cons_succ, Option.some.injEq, V.bl.injEq, V.int.injEq, V.str.injEq, V.ref.injEq, exists_eq_left', exists_eq_left, exists_eq_right, exists_eq_right', and_true, true_and, scal, if_true, Bool.false_eq_true, if_false, List.cons.injEq, exists_const, false_and, and_false, ite_true, ite_false, Bool.not_true, Bool.not_false])
section
variable {P : Program} {w : World} {K : PySem.W.Frag} {mg : Str → Option Value} {base : Heap} {A : Ads}
/-! ### some of the items in a drawn order -/
def sp_drawn : Sp := fun vs H Q _ => ∃ (tp a : Addr) (c : Int) (mo : Nat) (zs : List Str), vs = [.ref tp, .ref a, .int mo] ∧ Tape H tp c ∧ c ≤ 900000 ∧ a ≠ tp ∧ H a = some (.lst (zs.map V.str)) ∧ zs.length ≤ 100 ∧ mo ≤ 100 ∧
  ∀ (p : Addr) (ns : List Str) (H' : Hp), H p = none → ns.length ≤ mo → (zs.Nodup → ns.Nodup) → (∀ n ∈ ns, n ∈ zs) → H' p = some (.lst (ns.map V.str)) → Tape H' tp (c + 110) → But tp H H' → Q (.ref p) H'
theorem p_drawn (T : Tx K mg A) : Pur N_law_drawn ps_law_drawn (t_law_drawn P w K mg base A) sp_drawn := by
  intro vs H Q E h
  obtain ⟨tp, a, c, mo, zs, rfl, t, hc, na, ha, zl, ml, q⟩ := h
  refine ⟨rfl, ?_⟩
  show t_law_drawn P w K mg base A E _ [some (.ref tp), some (.ref a), some (.int mo), none, none, none] H
  unfold t_law_drawn
  walk_at "rd"
  refine ⟨_, .inl (.inl (.inl ha)), fun pl hpl => ?_⟩
  have s1 := Same.new (o := .lst (zs.map V.str)) hpl
  have npl : pl ≠ tp := t.ne hpl
  have g1 := upd_same (H := H) (a := pl) (o := .lst (zs.map V.str))
  have t1 := t.same s1
  generalize upd H pl (.lst (zs.map V.str)) = H1 at s1 g1 t1
  refine ⟨2, _, fn_next T, by decide, _, .inl (.inl (.inl g1)), ?_⟩
  rw [List.length_map]
  obtain ⟨k, hk, ek⟩ : ∃ k : Nat, k ≤ zs.length ∧ k ≤ mo ∧ (if (zs.length : Int) < mo then (zs.length : Int) else mo) = (k : Int) := by
    by_cases z : (zs.length : Int) < mo
    · exact ⟨zs.length, by omega, by omega, by rw [if_pos z]⟩
    · exact ⟨mo, by omega, by omega, by rw [if_neg z]⟩
  rw [ek.2]
  refine next_ok t1 (by omega) (by omega) (by omega) fun r H2 r0 r1 t2 b2 e2 => ?_
  obtain ⟨m, rfl⟩ : ∃ m : Nat, r = m := ⟨r.toNat, by omega⟩
  have g2 : H2 pl = some (.lst (zs.map V.str)) := by rw [e2 pl npl]; exact g1
  have B2 : But tp H H2 := (But.same s1).trans b2
  refine ⟨_, rfl, by omega, by omega, ?_⟩
  rw [Int.toNat_natCast]
  intro D hD
  refine L2.lc_range (n := m) (fun i G => ∃ ns rest : List Str, ns.length = i ∧ (ns ++ rest).Perm zs ∧ G D = some (.lst (ns.map V.str)) ∧ G pl = some (.lst (rest.map V.str)) ∧ Tape G tp (c + 1 + i) ∧ But tp H G) ?_ ?_ ?_
  · have nD : D ≠ tp := t2.ne hD
    refine ⟨[], zs, rfl, .refl _, upd_same, ?_, by simpa using t2.other nD, B2.mut (B2.free hD nD)⟩
    rw [upd_ne (ne_of_none g2 hD)]; exact g2
  · rintro i G hi ⟨ns, rest, hn, pm, gD, gpl, tG, bG⟩
    have nD : D ≠ tp := t2.ne hD
    have fD : H D = none := B2.free hD nD
    have nDp : D ≠ pl := Ne.symm (ne_of_none g2 hD)
    have rl : ns.length + rest.length = zs.length := by have := pm.length_eq; simpa using this
    refine ⟨rfl, ?_⟩
    show tBM K "list" rPopAt (tVar 3) _ [some (.ref tp), some (.ref a), some (.int mo), some (.ref pl), some (.int m), some (.int (0 + i))] G _
    walk_at "rd"
    refine ⟨.inl ⟨rfl, _, .inl (.inl gpl)⟩, 2, _, fn_next T, by decide, _, .inl (.inl (.inl gpl)), next_ok tG (by omega) ?_ ?_ fun r G1 r0 r1 tp1 bt1 eq1 => ?_⟩
    · rw [List.length_map]; omega
    · rw [List.length_map]; omega
    rw [List.length_map] at r1
    obtain ⟨j, rfl⟩ : ∃ j : Nat, r = j := ⟨r.toNat, by omega⟩
    have hj : j < rest.length := by omega
    refine ⟨pl, _, j, j, .str rest[j], rfl, rfl, (eq1 pl npl).trans gpl, by omega, by omega, ?_, ?_, ns.map V.str, ?_, ?_, ?_⟩
    · rw [List.length_map]; simp [seqIndex?, hj]; omega
    · rw [List.getElem?_map, List.getElem?_eq_getElem hj]; rfl
    · rw [upd_ne nDp, eq1 D nD]; exact gD
    · rw [List.length_map, hn]; exact Nat.lt_of_lt_of_le (by omega : i < 1000) (by decide)
    have er : (rest.map V.str).eraseIdx j = (rest.eraseIdx j).map V.str := erase_map _ _ _
    refine ⟨ns ++ [rest[j]], rest.eraseIdx j, by simp [hn], (move_perm ns rest j hj).trans pm, ?_, ?_, ?_, ?_⟩
    · rw [upd_same, List.map_append]; rfl
    · rw [upd_ne (Ne.symm nDp), upd_same, er]
    · exact ((tp1.other (o := .lst ((rest.map V.str).eraseIdx j)) npl).other nD).mono (by push_cast; omega)
    · exact ((bG.trans bt1).mut hpl).mut fD
  · rintro G ⟨ns, rest, hn, pm, gD, gpl, tG, bG⟩
    have nD : D ≠ tp := t2.ne hD
    exact q D ns G (B2.free hD nD) (by omega) (fun nd => (List.nodup_append.mp (pm.nodup_iff.mpr nd)).1) (fun n hn => pm.mem_iff.mp (List.mem_append_left _ hn)) gD (tG.mono (by omega)) bG
theorem fn_drawn (T : Tx K mg A) : Fn P w K mg base 3 "_law_drawn" sp_drawn := T.f_law_drawn.fn sc_law_drawn (fun hr => d_law_drawn T.G hr) (p_drawn T)
/-! ### indices by playing -/
def sp_told (K : PySem.W.Frag) : Sp := fun vs H Q _ => ∃ (a b : Addr) (kd : Nat) (zs ns : List Str), vs = [.int kd, .ref a, .ref b] ∧ H a = some (.lst (zs.map V.str)) ∧ H b = some (.lst (ns.map V.str)) ∧ zs.length ≤ 60 ∧ ns.Nodup ∧ (∀ n ∈ ns, n ∈ zs) ∧ ns.length ≤ 60 ∧
  ∀ (p : Addr) (kvs : List (Key × V)) (H' : Hp), H p = none → Same H H' → H' p = some (.dK kvs) → (∀ n ∈ ns, ∃ j : Nat, j < 60 ∧ valV kvs (.inr n) = some (.int j)) → (∀ z, z ∉ ns → valV kvs (.inr z) = none) → kvs.length ≤ ns.length → Q (.ref p) H'
theorem put_len (kvs : List (Key × V)) (k : Key) (v : V) : (putK kvs k v).length ≤ kvs.length + 1 := by
  cases e : valV kvs k with
  | none => rw [putK_new _ e]; simp
  | some x =>
    have : (kvs.any fun kv => decide (kv.1 = k)) = true := by rw [valV_any, e]; rfl
    unfold putK
    rw [if_pos this]
    simp
theorem filter_less {hs : List Str} {z : Str} (h : z ∈ hs) : (hs.filter fun y => !decide (y = z)).length + 1 ≤ hs.length := by
  induction hs with
  | nil => cases h
  | cons y hs ih =>
    by_cases e : y = z
    · rw [List.filter_cons_of_neg (by simp [e])]
      have := List.length_filter_le (fun y => !decide (y = z)) hs
      simp; omega
    · have := ih (by rcases List.mem_cons.mp h with e2 | e2; exact absurd e2.symm e; exact e2)
      rw [List.filter_cons_of_pos (by simp [e])]
      simp; omega
theorem p_told (T : Tx K mg A) : Pur N_law_told ps_law_told (t_law_told P w K mg base A) (sp_told K) := by
  intro vs H Q E h
  obtain ⟨a, b, kd, zs, ns, rfl, ha, hb, zl, nd, sub, nl, q⟩ := h
  refine ⟨rfl, ?_⟩
  show t_law_told P w K mg base A E _ [some (.int kd), some (.ref a), some (.ref b), none, none, none, none] H
  unfold t_law_told
  refine seqU fun U hU => ?_
  walk_at "rd"
  refine ⟨_, .inl (.inl (.inl ha)), fun p0 hp0 => ?_⟩
  have s1 := Same.new (o := .lst (zs.map V.str)) hp0
  have g1 := upd_same (H := H) (a := p0) (o := .lst (zs.map V.str))
  generalize upd H p0 (.lst (zs.map V.str)) = H1 at s1 g1
  intro F hF
  refine ⟨_, _, ⟨rfl, rfl⟩, ?_⟩
  rw [hU]
  clear hU
  have s2 := Same.new (o := .dK []) hF
  have fF : H F = none := s1.free hF
  have g2 := s2 _ _ g1
  have gF := upd_same (H := H1) (a := F) (o := .dK [])
  have S2 := s1.trans s2
  generalize upd H1 F (.dK []) = H2 at s2 g2 gF S2
  refine seqU fun U hU => ?_
  have ky : ∀ (b' : Addr) (xs : List Str) (G0 : Hp), Same H2 G0 → G0 b' = some (.lst (xs.map V.str)) → xs.Perm ns → b' ≠ F → ForB (Itl K b') (gName 5) (tSeq (sDPut (tVar 4) (tVar 5) (tBM K "list" (rIndex K) (tVar 3) (tCons (tVar 5) (tNil)))) (tSeq (tAsg (tLc (iList K (tVar 3)) (gName 6) (tTest (tOp (uNe K) (tVar 6) (tVar 5))) (tVar 6) [6]) (gName 3)) (tAsg (tIf (tTest (tOp (uEq K) (tVar 0) (tC (.int 2)))) (tOp uAdd (tLst (tCons (tVar 5) (tNil))) (tVar 3)) (tVar 3)) (gName 3)))) { nx := U, rt := Q } [some (.int kd), some (.ref a), some (.ref b), some (.ref p0), some (.ref F), none, none] G0 := by
    intro b' xs G0 s3 hb' pm nbF
    have xn : xs.Nodup := pm.nodup_iff.mpr nd
    have xl : xs.length = ns.length := pm.length_eq
    refine for_list (K := K) (a := b') (xs := xs.map V.str) (fun i σ G => ∃ (ph : Addr) (hs : List Str) (kvs : List (Key × V)) (v5 v6 : Option V), σ = [some (.int kd), some (.ref a), some (.ref b), some (.ref ph), some (.ref F), v5, v6] ∧ Same H G ∧ G b' = some (.lst (xs.map V.str)) ∧ G ph = some (.lst (hs.map V.str)) ∧ hs.length ≤ 60 ∧ (∀ n ∈ xs.drop i, n ∈ hs) ∧ G F = some (.dK kvs) ∧ (∀ n ∈ xs.take i, ∃ j : Nat, j < 60 ∧ valV kvs (.inr n) = some (.int j)) ∧ (∀ z, z ∉ xs.take i → valV kvs (.inr z) = none) ∧ kvs.length ≤ i) ⟨p0, zs, [], _, _, rfl, S2.trans s3, hb', s3 _ _ g2, zl, fun n hn => sub n (pm.mem_iff.mp ((List.drop_sublist _ _).subset hn)), s3 _ _ gF, (fun _ h => by simp at h), (fun _ _ => rfl), Nat.le_refl _⟩ (fun i σ G _ ⟨_, _, _, _, _, _, _, h, _⟩ => .inl (.inl h)) ?_ ?_
    · rintro i x σ G hx ⟨ph, hs, kvs, v5, v6, rfl, sG, gb, gh, hl, dr, gF, tk, nt, kl⟩
      have hi : i < xs.length := by have := (List.getElem?_eq_some_iff.mp hx).1; simpa using this
      rw [List.getElem?_map, List.getElem?_eq_getElem hi] at hx
      obtain rfl := (Option.some.inj hx).symm
      have nhF : ph ≠ F := fun e => by rw [e, gF] at gh; cases gh
      have inh : xs[i] ∈ hs := dr _ (by rw [List.drop_eq_getElem_cons hi]; exact List.mem_cons_self)
      simp only [gName]
      refine seqU fun U2 hU2 => ?_
      walk_at "rd"
      refine ⟨.inl ⟨rfl, _, .inl (.inl gh)⟩, index_ok (.inl (.inl gh)) inh ⟨F, _, rfl, DPut.k (k := .inr xs[i]) gF (Nat.lt_of_le_of_lt (by omega : kvs.length ≤ 100) (by decide)), ?_⟩⟩
      rw [hU2]
      clear hU2
      have gb1 : upd G F (.dK (putK kvs (.inr xs[i]) (.int (ix hs xs[i] : Nat)))) b' = some (.lst (xs.map V.str)) := by rw [upd_ne nbF]; exact gb
      have gh1 : upd G F (.dK (putK kvs (.inr xs[i]) (.int (ix hs xs[i] : Nat)))) ph = some (.lst (hs.map V.str)) := by rw [upd_ne nhF]; exact gh
      have gF1 := upd_same (H := G) (a := F) (o := .dK (putK kvs (.inr xs[i]) (.int (ix hs xs[i] : Nat))))
      have sG1 : Same H (upd G F (.dK (putK kvs (.inr xs[i]) (.int (ix hs xs[i] : Nat))))) := sG.mut fF
      generalize upd G F (.dK (putK kvs (.inr xs[i]) (.int (ix hs xs[i] : Nat)))) = G1 at gb1 gh1 gF1 sG1
      have lt60 : ix hs xs[i] < 60 := Nat.lt_of_lt_of_le (ix_lt inh) hl
      have tk1 : ∀ n ∈ xs.take (i + 1), ∃ j : Nat, j < 60 ∧ valV (putK kvs (.inr xs[i]) (.int (ix hs xs[i] : Nat))) (.inr n) = some (.int j) := fun n hn => by
        rw [valV_put]
        by_cases e : n = xs[i]
        · subst e; rw [if_pos rfl]; exact ⟨_, lt60, rfl⟩
        · rw [if_neg (fun z => e (Sum.inr.inj z))]
          rw [List.take_succ_eq_append_getElem hi] at hn
          rcases List.mem_append.mp hn with h | h
          · exact tk n h
          · exact absurd (List.mem_singleton.mp h) e
      have nt1 : ∀ z, z ∉ xs.take (i + 1) → valV (putK kvs (.inr xs[i]) (.int (ix hs xs[i] : Nat))) (.inr z) = none := fun z hz => by
        rw [List.take_succ_eq_append_getElem hi] at hz
        rw [valV_put, if_neg (fun e => hz (List.mem_append_right _ (List.mem_singleton.mpr (Sum.inr.inj e))))]
        exact nt z fun h => hz (List.mem_append_left _ h)
      have kl1 : (putK kvs (.inr xs[i]) (.int (ix hs xs[i] : Nat))).length ≤ i + 1 := Nat.le_trans (put_len _ _ _) (by omega)
      generalize putK kvs (.inr xs[i]) (.int (ix hs xs[i] : Nat)) = kvs1 at gF1 tk1 nt1 kl1
      refine seqU fun U2 hU2 => ?_
      walk_at "rd"
      refine ⟨⟨_, .inl (.inl gh1)⟩, lc_lst (fun v => match v with | .str z => if (!decide (z = xs[i])) = true then some (V.str z) else none | _ => none) (.inl (.inl gh1)) (by rw [List.length_map]; exact Nat.lt_of_le_of_lt hl (by decide)) (fun x H3 hx s3 => ?_) fun D3 H3 hD3 s3 hl3 => ?_⟩
      · obtain ⟨z, hz', rfl⟩ := List.mem_map.mp hx
        have ev : Evt (tTest (tOp (uNe K) (tVar 6) (tVar 5))) [some (.int kd), some (.ref a), some (.ref b), some (.ref ph), some (.ref F), some (.str xs[i]), some (.str z)] H3 (!decide (z = xs[i])) := by
          intro Q' q'
          walk_at "rd"
          exact q' H3 (Same.refl _)
        refine ⟨[some (.int kd), some (.ref a), some (.ref b), some (.ref ph), some (.ref F), some (.str xs[i]), some (.str z)], rfl, fun R' h => h, ?_⟩
        show match (if (!decide (z = xs[i])) = true then some (V.str z) else none) with | some y => _ | none => _
        cases c : (!decide (z = xs[i])) with
        | true =>
          rw [c] at ev
          rw [if_pos rfl]
          exact ⟨ev, fun H4 s4 Q' q' => ⟨_, rfl, q' H4 (Same.refl _)⟩⟩
        | false =>
          rw [c] at ev
          rw [if_neg (by decide)]
          exact ev
      have hl3 : H3 D3 = some (.lst ((hs.filter fun z => !decide (z = xs[i])).map V.str)) := by rw [← fm_filterB]; exact hl3
      rw [hU2]
      clear hU2
      have fl := filter_less inh
      have dr1 : ∀ n ∈ xs.drop (i + 1), n ∈ hs.filter fun z => !decide (z = xs[i]) := fun n hn => by
        have ne : ¬ n = xs[i] := fun e => by
          obtain ⟨j, hj, e2⟩ := List.mem_iff_getElem.mp hn
          rw [List.getElem_drop] at e2
          have hj' : i + 1 + j < xs.length := by rw [List.length_drop] at hj; omega
          exact List.pairwise_iff_getElem.mp xn i (i + 1 + j) hi hj' (by omega) (by rw [e2, e])
        exact List.mem_filter.mpr ⟨dr n (by rw [List.drop_eq_getElem_cons hi]; exact List.mem_cons_of_mem _ hn), by rw [decide_eq_false ne]; rfl⟩
      generalize hs.filter (fun z => !decide (z = xs[i])) = hs1 at hl3 fl dr1
      have nF3 : F ≠ D3 := ne_of_none gF1 hD3
      walk_at "rd"
      by_cases c2 : (kd : Int) = 2
      · rw [if_pos (decide_eq_true c2)]
        refine ⟨(by show 1 ≤ sizeLine; decide), fun p4 hp4 => ?_⟩
        have u4 := Same.new (o := .lst [.str xs[i]]) hp4
        refine ⟨_, _, upd_same, u4 _ _ hl3, Nat.le_trans (by simp; omega : _ ≤ 1000) (by decide), fun p5 hp5 => ?_⟩
        have u5 := Same.new (o := .lst ([.str xs[i]] ++ hs1.map V.str)) hp5
        have U5 := (s3.trans u4).trans u5
        exact ⟨p5, xs[i] :: hs1, kvs1, _, _, ⟨rfl, rfl, rfl⟩, sG1.trans U5, U5 _ _ gb1, by rw [upd_same]; rfl, by simp; omega, fun n hn => List.mem_cons_of_mem _ (dr1 n hn), U5 _ _ gF1, tk1, nt1, kl1⟩
      · rw [if_neg (by simpa using c2)]
        exact ⟨D3, hs1, kvs1, _, _, ⟨rfl, rfl, rfl⟩, sG1.trans s3, s3 _ _ gb1, hl3, by omega, dr1, s3 _ _ gF1, tk1, nt1, kl1⟩
    · rintro σ G ⟨ph, hs, kvs, v5, v6, rfl, sG, gb, gh, hl, dr, gF, tk, nt, kl⟩
      show U _ _
      rw [hU]
      simp only [List.length_map, List.take_length] at tk nt kl
      walk_at "rd"
      exact q F kvs G fF sG gF (fun n hn => tk n (pm.mem_iff.mpr hn)) (fun z hz => nt z fun h => hz (pm.mem_iff.mp h)) (by omega)
  clear hU
  have hb2 := S2 _ _ hb
  have nbF : b ≠ F := fun e => by rw [e, gF] at hb2; cases hb2
  walk_at "rd"
  by_cases c0 : (kd : Int) = 0
  · rw [if_pos (decide_eq_true c0)]
    refine ⟨b, _, rfl, .inl (.inl hb2), fun p6 hp6 => ?_⟩
    refine ⟨⟨_, .inl (.inl upd_same)⟩, ky p6 ns.reverse _ (Same.new hp6) ?_ (List.reverse_perm _) (Ne.symm (ne_of_none gF hp6))⟩
    rw [upd_same, List.map_reverse]
  · rw [if_neg (by simpa using c0)]
    exact ⟨⟨_, .inl (.inl hb2)⟩, ky b ns _ (Same.refl _) hb2 (.refl _) nbF⟩
theorem fn_told (T : Tx K mg A) : Fn P w K mg base 3 "_law_told" (sp_told K) := T.f_law_told.fn sc_law_told (fun hr => d_law_told T.G hr) (p_told T)
end
end K
namespace K
open PySem PySem.Spec PyProof.Rows L2 U ClX M
local macro_rules | `(tactic| walk_at "rd") => `(tactic| simp only [tSeq, tRet, tIfS, tAsg, tDrop, tNext, tNever, tRetN, tAndV, tOrV, tNotV, tAnd, tOr, tNot, tB, tTest, tChain, tCB, tCons, tNil, tVar, tC, tOp, tUn, tIf, gName, uLe, uLt, uGe, uGt, uCmp, uAdd, uSub, uMul, uDiv, uMod, uPow, uNeg, uEq, uNe, uIs, uIsNot, uIx, uIn, cIsi, cLen, cAll, cMax, cMin, cAbs, cSort, cSortD, cInt, cTuple, cRepr, cList, cSortS, tRevL, tDGet, tLstRg, tTupRg, tRg1, tRg2, sDPut, tDNewK, tAug, ipI, iZip, tLst, tTup, tPar, U.tPar3, tFn, tMkr, tMth, tFnK, tMthK, tAtt, sFld, tYes, tLc_eq, tFor_eq, iList, iStr, iRng1, iRng2, iEnum, tLenSetT, tSl, tPart, tNoPart, gTup, gCons, gNil, gSub, tBM, tBM0, List.getElem?_cons_zero, List.getElem?_cons_succ, List.set_cons_zero, List.set_cons_succ, Option.some.injEq, V.bl.injEq, V.int.injEq, V.str.injEq, V.ref.injEq, exists_eq_left', exists_eq_left, exists_eq_right, exists_eq_right', and_true, true_and, scal, if_true, Bool.false_eq_true, if_false, List.cons.injEq, exists_const, false_and, and_false, ite_true, ite_false, Bool.not_true, Bool.not_false])
section
variable {P : Program} {w : World} {K : PySem.W.Frag} {mg : Str → Option Value} {base : Heap} {A : Ads}
/-! ### bounds by their definition -/
theorem filter_len {zs ns : List Str} (hz : zs.Nodup) (hn : ns.Nodup) (sub : ∀ n ∈ ns, n ∈ zs) : (zs.filter fun y => decide (y ∈ ns)).length = ns.length := by
  refine List.Perm.length_eq ((List.perm_ext_iff_of_nodup (hz.sublist List.filter_sublist) hn).mpr fun a => ?_)
  rw [List.mem_filter]
  simp only [decide_eq_true_eq]
  exact ⟨fun h => h.2, fun h => ⟨sub a h, h⟩⟩
def sp_lbounds : Sp := fun vs H Q _ => ∃ (a b : Addr) (kd : Nat) (zs ns : List Str) (z : Str), vs = [.int kd, .ref a, .ref b, .str z] ∧ H a = some (.lst (zs.map V.str)) ∧ H b = some (.lst (ns.map V.str)) ∧ zs.length ≤ 60 ∧ zs.Nodup ∧ ns.Nodup ∧ (∀ n ∈ ns, n ∈ zs) ∧ z ∈ ns ∧
  ∀ (t : Addr) (H' : Hp), H t = none → Same H H' → H' t = some (.tup [.int (lowP (decide (kd = 2)) zs (zs.filter fun y => decide (y ∈ ns)) z), .int (highP (decide (kd = 2)) zs (zs.filter fun y => decide (y ∈ ns)) z)]) → Q (.ref t) H'
theorem p_lbounds (T : Tx K mg A) : Pur N_law_bounds ps_law_bounds (t_law_bounds P w K mg base A) sp_lbounds := by
  intro vs H Q E h
  obtain ⟨a, b, kd, zs, ns, z, rfl, ha, hb, zl, zn, nn, sub, hz, q⟩ := h
  refine ⟨rfl, ?_⟩
  show t_law_bounds P w K mg base A E _ [some (.int kd), some (.ref a), some (.ref b), some (.str z), none, none, none, none] H
  unfold t_law_bounds
  refine seqU fun U hU => ?_
  walk_at "rd"
  refine ⟨.inl ⟨rfl, _, .inl (.inl ha)⟩, index_ok (.inl (.inl ha)) (sub z hz) ?_⟩
  rw [hU]
  clear hU
  refine seqU fun U hU => ?_
  walk_at "rd"
  refine ⟨a, _, rfl, .inl (.inl ha), fun p1 hp1 => ?_⟩
  have s1 := Same.new (o := .lst (cutV (zs.map V.str) none (some (ix zs z : Nat)))) hp1
  have g1 : upd H p1 (.lst (cutV (zs.map V.str) none (some (ix zs z : Nat)))) p1 = some (.lst ((zs.take (ix zs z)).map V.str)) := by rw [upd_same, cut_to, List.map_take]
  generalize upd H p1 (.lst (cutV (zs.map V.str) none (some (ix zs z : Nat)))) = H1 at s1 g1
  have hb1 := s1 _ _ hb
  have tl : (zs.take (ix zs z)).length ≤ 60 := by rw [List.length_take]; omega
  refine ⟨p1, rfl, ⟨_, .inl (.inl g1)⟩, lc_lst (fun v => match v with | .str y => if (decide (y ∈ ns)) = true then some (V.str y) else none | _ => none) (.inl (.inl g1)) (by rw [List.length_map]; exact Nat.lt_of_le_of_lt tl (by decide)) (fun x H3 hx s3 => ?_) fun D3 H3 hD3 s3 hl3 => ?_⟩
  · obtain ⟨y, hy', rfl⟩ := List.mem_map.mp hx
    have ev : Evt (tTest (tOp (uIn K false) (tVar 7) (tVar 2))) [some (.int kd), some (.ref a), some (.ref b), some (.str z), some (.int (ix zs z : Nat)), none, none, some (.str y)] H3 (decide (y ∈ ns)) := by
      intro Q' q'
      walk_at "rd"
      refine .inl ⟨_, .inl (.inl (.inl (s3 _ _ hb1))), rfl, flat_strs _, ?_⟩
      rw [inV_str]
      exact q' H3 (Same.refl _)
    refine ⟨[some (.int kd), some (.ref a), some (.ref b), some (.str z), some (.int (ix zs z : Nat)), none, none, some (.str y)], rfl, fun R' h => h, ?_⟩
    show match (if (decide (y ∈ ns)) = true then some (V.str y) else none) with | some y => _ | none => _
    cases c : decide (y ∈ ns) with
    | true =>
      rw [c] at ev
      rw [if_pos rfl]
      exact ⟨ev, fun H4 s4 Q' q' => ⟨_, rfl, q' H4 (Same.refl _)⟩⟩
    | false =>
      rw [c] at ev
      rw [if_neg (by decide)]
      exact ev
  have hl3 : H3 D3 = some (.lst (((zs.take (ix zs z)).filter fun y => decide (y ∈ ns)).map V.str)) := by rw [← fm_filterB]; exact hl3
  refine ⟨_, .inl (.inl (.inl hl3)), ?_⟩
  rw [List.length_map, ← ix_filter (fun y => decide (y ∈ ns)) zn (sub z hz) (decide_eq_true hz), hU]
  clear hU
  have S3 := s1.trans s3
  have fl := filter_len zn nn sub
  refine seqU fun U hU => ?_
  walk_at "rd"
  refine ⟨_, .inl (.inl (.inl (S3 _ _ hb))), ?_⟩
  rw [List.length_map, hU]
  clear hU
  walk_at "rd"
  by_cases c2 : kd = 2
  · rw [if_pos (decide_eq_true (show (kd : Int) = 2 by omega))]
    refine ⟨(by show 2 ≤ sizeLine; decide), fun t ht => q t _ (S3.free ht) (S3.trans (Same.new ht)) ?_⟩
    rw [upd_same, decide_eq_true c2]
    unfold lowP highP roomP
    simp only [if_true]
    rw [fl]
  · rw [if_neg (by simp only [decide_eq_true_eq]; omega)]
    refine ⟨(by show 2 ≤ sizeLine; decide), fun t ht => q t _ (S3.free ht) (S3.trans (Same.new ht)) ?_⟩
    rw [upd_same, decide_eq_false c2]
    unfold lowP highP roomP
    simp only [Bool.false_eq_true, if_false]
theorem fn_lbounds (T : Tx K mg A) : Fn P w K mg base 3 "_law_bounds" sp_lbounds := T.f_law_bounds.fn sc_law_bounds (fun hr => d_law_bounds T.G hr) (p_lbounds T)
/-! ### a changed index -/
def sp_changed : Sp := fun vs H Q _ => ∃ (tp t : Addr) (c s lo hi : Int), vs = [.ref tp, .int s, .ref t] ∧ Tape H tp c ∧ c ≤ 900000 ∧ H t = some (.tup [.int lo, .int hi]) ∧ ∀ (m : Int) (H' : Hp), 0 ≤ m → m ≤ 60 → Tape H' tp (c + 2) → But tp H H' → Q (.int m) H'
theorem p_changed (T : Tx K mg A) : Pur N_law_changed ps_law_changed (t_law_changed P w K mg base A) sp_changed := by
  intro vs H Q E h
  obtain ⟨tp, t, c, s, lo, hi, rfl, tpe, hc, ht, q⟩ := h
  refine ⟨rfl, ?_⟩
  show t_law_changed P w K mg base A E _ [some (.ref tp), some (.int s), some (.ref t), none] H
  unfold t_law_changed
  walk_at "rd"
  refine ⟨_, _, .inr (.inl (.inl ht)), at_of (j := 0) rfl rfl, _, _, .inr (.inl (.inl ht)), at_of (j := 1) rfl rfl, _, _, .inr (.inl (.inl ht)), at_of (j := 0) rfl rfl, _, _, .inr (.inl (.inl ht)), at_of (j := 1) rfl rfl, ?_⟩
  refine ⟨2, _, fn_next T, by decide, next_ok tpe (by omega) (by decide) (by decide) fun r H1 r0 r1 t1 b1 e1 => ⟨(by show 10 ≤ sizeLine; decide), fun p2 hp2 => ?_⟩⟩
  have n2 : p2 ≠ tp := t1.ne hp2
  refine ⟨2, _, fn_next T, by decide, next_ok (t1.other n2) (by omega) (by decide) (by decide) fun x H2 x0 x1 t2 b2 e2 => ?_⟩
  have h2 : H2 p2 = some (.lst ([s, s, s, lo, hi, lo - 1, hi + 1, 0, 60, r].map V.int)) := by rw [e2 p2 n2]; exact upd_same
  obtain ⟨j, rfl⟩ : ∃ j : Nat, x = j := ⟨x.toNat, by omega⟩
  have hj : j < [s, s, s, lo, hi, lo - 1, hi + 1, 0, 60, r].length := by simp; omega
  refine ⟨_, _, .inl (.inl (.inl h2)), at_of (j := j) rfl (by rw [List.getElem?_map, List.getElem?_eq_getElem hj]; rfl), ?_⟩
  generalize [s, s, s, lo, hi, lo - 1, hi + 1, 0, 60, r][j] = v
  refine q _ H2 ?_ ?_ (t2.mono (by omega)) ((b1.trans (But.same (Same.new hp2))).trans b2)
  · split <;> omega
  · split <;> split <;> omega
theorem fn_changed (T : Tx K mg A) : Fn P w K mg base 3 "_law_changed" sp_changed := T.f_law_changed.fn sc_law_changed (fun hr => d_law_changed T.G hr) (p_changed T)
/-! ### what is due -/
theorem isFr_of {rs : List Rc} {kd : Nat} (hk : ∀ r ∈ rs, r.1 = kd) (h3 : kd < 3) (hne : rs ≠ []) : isFr rs = decide (kd = 2) := by
  cases rs with
  | nil => exact absurd rfl hne
  | cons r rs =>
    have := hk r List.mem_cons_self
    show decide (sgn r.1 = "^") = decide (kd = 2)
    rw [this]
    match kd, h3 with
    | 0, _ => decide +kernel
    | 1, _ => decide +kernel
    | 2, _ => decide +kernel
theorem okP_iff (rs : List Rc) (zs : List Str) (z : Str) : okP rs zs z = (decide (lowP (isFr rs) zs (mkd zs rs) z ≤ sl rs z) && decide (sl rs z ≤ highP (isFr rs) zs (mkd zs rs) z)) := by
  unfold okP shiftP lowP highP
  cases isFr rs
  · simp only [Bool.false_eq_true, if_false]
    rw [Bool.eq_iff_iff]
    simp only [Bool.and_eq_true, decide_eq_true_eq]
    omega
  · simp only [if_true]
    rw [Bool.eq_iff_iff]
    simp only [Bool.and_eq_true, decide_eq_true_eq]
    omega
theorem clamp_eq {lo hi s : Int} (h : lo ≤ hi) : (if (if s < hi then s else hi) > lo then (if s < hi then s else hi) else lo) = clampP lo hi s := by
  unfold clampP
  split <;> split <;> split <;> (try split) <;> omega
end
end K
namespace K
open PySem PySem.Spec PyProof.Rows L2 U ClX M
local macro_rules | `(tactic| walk_at "rd") => `(tactic| simp only [tSeq, tRet, tIfS, tAsg, tDrop, tNext, tNever, tRetN, tAndV, tOrV, tNotV, tAnd, tOr, tNot, tB, tTest, tChain, tCB, tCons, tNil, tVar, tC, tOp, tUn, tIf, gName, uLe, uLt, uGe, uGt, uCmp, uAdd, uSub, uMul, uDiv, uMod, uPow, uNeg, uEq, uNe, uIs, uIsNot, uIx, uIn, cIsi, cLen, cAll, cMax, cMin, cAbs, cSort, cSortD, cInt, cTuple, cRepr, cList, cSortS, tRevL, tDGet, tLstRg, tTupRg, tRg1, tRg2, sDPut, tDNewK, tAug, ipI, iZip, tLst, tTup, tPar, U.tPar3, tFn, tMkr, tMth, tFnK, tMthK, tAtt, sFld, tYes, tLc_eq, tFor_eq, iList, iStr, iRng1, iRng2, iEnum, tLenSetT, tSl, tPart, tNoPart, gTup, gCons, gNil, gSub, tBM, tBM0, List.getElem?_cons_zero, List.getElem?_cons_succ, List.set_cons_zero, List.set_cons_succ, Option.some.injEq, V.bl.injEq, V.int.injEq, V.str.injEq, V.ref.injEq, exists_eq_left', exists_eq_left, exists_eq_right, exists_eq_right', and_true, true_and, scal, if_true, Bool.false_eq_true, if_false, List.cons.injEq, exists_const, false_and, and_false, ite_true, ite_false, Bool.not_true, Bool.not_false])
section
variable {P : Program} {w : World} {K : PySem.W.Frag} {mg : Str → Option Value} {base : Heap} {A : Ads}
theorem facts_ok {rs : List Rc} (h : ∀ r ∈ rs, isItem r.2.1 = true) : okD 3 (.list (rs.map fact)) := okD.list fun d hd => by
  obtain ⟨r, hr, rfl⟩ := List.mem_map.mp hd
  exact fact_ok (h r hr)
theorem hide_free {X G : Hp} {D : Addr} (s : Same X G) (h : X D = none) : Same X (hide D G) := fun b o e => hide_get (s b o e) (ne_of_none e h)
/-- a value that is a record -/
def RcV (A : Ads) (H : Hp) (y : V) (r : Rc) : Prop := ∃ a, y = .ref a ∧ Rec A H a r.1 r.2.1 r.2.2
theorem rel_book {H : Hp} {l : Addr} {xs : List V} {rs : List Rc} (h : H l = some (.lst xs)) (r : Rel2 (RcV A H) xs rs) : ∃ as, Book A H l as rs := by
  suffices q : ∀ (xs : List V) (rs : List Rc), Rel2 (RcV A H) xs rs → ∃ as : List Addr, xs = as.map V.ref ∧ as.length = rs.length ∧ ∀ (i : Nat) (a : Addr) (r : Rc), as[i]? = some a → rs[i]? = some r → Rec A H a r.1 r.2.1 r.2.2 by
    obtain ⟨as, e, hl, ha⟩ := q xs rs r
    exact ⟨as, by rw [h, e], hl, ha⟩
  intro xs
  induction xs with
  | nil => intro rs r; exact ⟨[], rfl, by simpa using r.len, fun i a r h => by simp at h⟩
  | cons x xs ih =>
    intro rs r
    cases rs with
    | nil => exact absurd r.len (by simp)
    | cons r0 rs =>
      obtain ⟨a, rfl, ra⟩ := r.at_ 0 x r0 rfl rfl
      obtain ⟨as, e, hl, ha⟩ := ih rs ⟨by have := r.len; simpa using this, fun i y e h1 h2 => r.at_ (i + 1) y e (by simpa using h1) (by simpa using h2)⟩
      refine ⟨a :: as, by rw [e]; rfl, by simp [hl], fun i b r' h1 h2 => ?_⟩
      cases i with
      | zero => simp at h1 h2; subst h1; subst h2; exact ra
      | succ i => exact ha i b r' (by simpa using h1) (by simpa using h2)
end
end K
namespace K
open PySem PySem.Spec PyProof.Rows L2 U ClX M
local macro_rules | `(tactic| walk_at "rd") => `(tactic| simp only [tSeq, tRet, tIfS, tAsg, tDrop, tNext, tNever, tRetN, tAndV, tOrV, tNotV, tAnd, tOr, tNot, tB, tTest, tChain, tCB, tCons, tNil, tVar, tC, tOp, tUn, tIf, gName, uLe, uLt, uGe, uGt, uCmp, uAdd, uSub, uMul, uDiv, uMod, uPow, uNeg, uEq, uNe, uIs, uIsNot, uIx, uIn, cIsi, cLen, cAll, cMax, cMin, cAbs, cSort, cSortD, cInt, cTuple, cRepr, cList, cSortS, tRevL, tDGet, tLstRg, tTupRg, tRg1, tRg2, sDPut, tDNewK, tAug, ipI, iZip, tLst, tTup, tPar, U.tPar3, tFn, tMkr, tMth, tFnK, tMthK, tAtt, sFld, tYes, tLc_eq, tFor_eq, iList, iStr, iRng1, iRng2, iEnum, tLenSetT, tSl, tPart, tNoPart, gTup, gCons, gNil, gSub, tBM, tBM0, List.getElem?_cons_zero, List.getElem?_cons_succ, List.set_cons_zero, List.set_cons_succ, Option.some.injEq, V.bl.injEq, V.int.injEq, V.str.injEq, V.ref.injEq, exists_eq_left', exists_eq_left, exists_eq_right, exists_eq_right', and_true, true_and, scal, if_true, Bool.false_eq_true, if_false, List.cons.injEq, exists_const, false_and, and_false, ite_true, ite_false, Bool.not_true, Bool.not_false])
section
variable {P : Program} {w : World} {K : PySem.W.Frag} {mg : Str → Option Value} {base : Heap} {A : Ads}
def dS (zs : List Str) : PyData := .list (zs.map .str)
theorem dp_dS {H : Hp} {a : Addr} {zs : List Str} (h : SqL K H a (zs.map V.str)) : Dp K H (.ref a) (dS zs) := .lst h (dpa_map zs fun x _ => .str x)
theorem dS_ok {zs : List Str} (h : ∀ z ∈ zs, isItem z = true) (hl : zs.length ≤ 100) : okR 1 1000 (dS zs) := by
  have q : okR 1 ((8 + 1) * (zs.map PyData.str).length) (dS zs) := okR.list (n := 0) (k := 8) fun d hd => by
    obtain ⟨z, hz, rfl⟩ := List.mem_map.mp hd
    exact (okR.str (item_ok (h z hz))).mono (Nat.le_refl _) (item_len (h z hz)).2
  exact q.mono (Nat.le_refl _) (by rw [List.length_map]; omega)
/-- the ends in the dict ke, the indices in the dict ks -/
structure Ends2 (G : Hp) (fr : Bool) (zs ns don : List Str) (ke ks : List (Key × V)) : Prop where
  e_in : ∀ n ∈ don, ∃ t, valV ke (.inr n) = some (.ref t) ∧ G t = some (.tup [.int (lowP fr zs (zs.filter fun y => decide (y ∈ ns)) n), .int (highP fr zs (zs.filter fun y => decide (y ∈ ns)) n)])
  s_in : ∀ n ∈ ns, ∃ m : Int, valV ks (.inr n) = some (.int m) ∧ (n ∈ don → 0 ≤ m ∧ m ≤ 60)
  s_out : ∀ z, z ∉ ns → valV ks (.inr z) = none
  le : ke.length ≤ 60
  ls : ks.length ≤ 60
theorem Ends2.same {G G' : Hp} {fr : Bool} {zs ns don : List Str} {ke ks : List (Key × V)} (h : Ends2 G fr zs ns don ke ks) (s : Same G G') : Ends2 G' fr zs ns don ke ks :=
  ⟨fun n hn => let ⟨t, h1, h2⟩ := h.e_in n hn; ⟨t, h1, s _ _ h2⟩, h.s_in, h.s_out, h.le, h.ls⟩
def sOf (ks : List (Key × V)) (n : Str) : Int := match valV ks (.inr n) with | some (.int m) => m | _ => 0
theorem put_same {kvs : List (Key × V)} {k : Key} {v : V} (h : valV kvs k ≠ none) : (putK kvs k v).length = kvs.length := by
  have : (kvs.any fun kv => decide (kv.1 = k)) = true := by
    rw [valV_any]
    cases e : valV kvs k with
    | none => exact absurd e h
    | some x => rfl
  unfold putK
  rw [if_pos this]
  simp
def sp_right (A : Ads) : Sp := fun vs H Q _ => ∃ (tp a b : Addr) (kd : Nat) (c : Int) (zs ns : List Str), vs = [.ref tp, .ref a, .ref b, .int kd] ∧ kd < 3 ∧ Tape H tp c ∧ c ≤ 800000 ∧ H a = some (.lst (zs.map V.str)) ∧ H b = some (.lst (ns.map V.str)) ∧ a ≠ tp ∧ b ≠ tp ∧ Its zs ∧ ns.Nodup ∧ (∀ n ∈ ns, n ∈ zs) ∧ ns.length ≤ 40 ∧ ∀ H', But tp H H' → Tape H' tp (c + 200) → Q (.bl true) H'
theorem p_right (T : Tx K mg A) : Pur N_law_right ps_law_right (t_law_right P w K mg base A) (sp_right A) := by
  intro vs H Q E h
  obtain ⟨tp, a, b, kd, c, zs, ns, rfl, hk, t, hc, ha, hb, na, nb, its, nn, sub, n40, q⟩ := h
  refine ⟨rfl, ?_⟩
  have few := its.few
  show t_law_right P w K mg base A E _ [some (.ref tp), some (.ref a), some (.ref b), some (.int kd), none, none, none, none, none, none, none, none, none, none, none, none, none] H
  unfold t_law_right
  refine seqU fun U hU => ?_
  walk_at "rd"
  refine ⟨3, _, fn_told T, by decide, a, b, kd, zs, ns, rfl, ha, hb, few, nn, sub, by omega, fun ps ks0 H1 hps s1 g1 tin tout tle => ?_⟩
  intro pe hpe
  refine ⟨(by show 2 ≤ sizeLine; decide), fun q2 hq2 => ?_⟩
  refine ⟨_, _, rfl, .inl (.inl upd_same), rfl, _, _, rfl, _, _, rfl, rfl, ?_⟩
  rw [hU]
  clear hU
  have u1 := Same.new (o := .dK []) hpe
  have u2 := Same.new (o := .tup [.ref ps, .ref pe]) hq2
  have S2 := s1.trans (u1.trans u2)
  have gs2 := u2 _ _ (u1 _ _ g1)
  have ge2 := u2 _ _ (upd_same (H := H1) (a := pe) (o := .dK []))
  have fpe : H pe = none := s1.free hpe
  have nse : ps ≠ pe := ne_of_none g1 hpe
  generalize upd (upd H1 pe (.dK [])) q2 (.tup [.ref ps, .ref pe]) = G0 at S2 gs2 ge2
  have nps : ps ≠ tp := t.ne hps
  have npe : pe ≠ tp := t.ne fpe
  refine seqU fun U hU => ?_
  walk_at "rd"
  refine ⟨⟨_, .inl (.inl (S2 _ _ hb))⟩, ?_⟩
  refine for_list (K := K) (a := b) (xs := ns.map V.str) (fun i σ G => ∃ (ke ks : List (Key × V)) (v6 : Option V), σ = [some (.ref tp), some (.ref a), some (.ref b), some (.int kd), some (.ref ps), some (.ref pe), v6, none, none, none, none, none, none, none, none, none, none] ∧ But tp H G ∧ Tape G tp (c + 2 * i) ∧ G ps = some (.dK ks) ∧ G pe = some (.dK ke) ∧ ke.length ≤ i ∧ Ends2 G (decide (kd = 2)) zs ns (ns.take i) ke ks) ⟨[], ks0, _, rfl, But.same S2, by simpa using t.same S2, gs2, ge2, Nat.le_refl _, (fun n hn => by simp at hn), (fun n hn => by obtain ⟨j, _, h2⟩ := tin n hn; exact ⟨_, h2, fun h => by simp at h⟩), tout, by simp, by omega⟩ (fun i σ G _ ⟨_, _, _, _, bt, _⟩ => .inl (.inl (bt _ _ nb hb))) ?_ ?_
  · rintro i x σ G hx ⟨ke, ks, v6, rfl, bG, tG, gs, ge, kl, en⟩
    have hi : i < ns.length := by have := (List.getElem?_eq_some_iff.mp hx).1; simpa using this
    rw [List.getElem?_map, List.getElem?_eq_getElem hi] at hx
    obtain rfl := (Option.some.inj hx).symm
    have hm := List.getElem_mem hi
    simp only [gName]
    refine seqU fun U2 hU2 => ?_
    walk_at "rd"
    refine ⟨3, _, fn_lbounds T, by decide, a, b, kd, zs, ns, ns[i], rfl, bG _ _ na ha, bG _ _ nb hb, few, its.nd, nn, sub, hm, fun tt G1 ht s3 g3 => ?_⟩
    refine ⟨pe, _, rfl, DPut.k (k := .inr ns[i]) (s3 _ _ ge) (Nat.lt_of_le_of_lt (by omega : ke.length ≤ 100) (by decide)), ?_⟩
    rw [hU2]
    clear hU2
    have tne : tt ≠ pe := fun e => by rw [e, ge] at ht; cases ht
    have nts : tt ≠ ps := fun e => by rw [e, gs] at ht; cases ht
    have ntt : tt ≠ tp := tG.ne ht
    have bG1 : But tp H (upd G1 pe (.dK (putK ke (.inr ns[i]) (.ref tt)))) := (bG.trans (But.same s3)).mut fpe
    have tG1 := (tG.same s3).other (o := .dK (putK ke (.inr ns[i]) (.ref tt))) npe
    have gs1 : upd G1 pe (.dK (putK ke (.inr ns[i]) (.ref tt))) ps = some (.dK ks) := by rw [upd_ne nse]; exact s3 _ _ gs
    have ge1 := upd_same (H := G1) (a := pe) (o := .dK (putK ke (.inr ns[i]) (.ref tt)))
    have gt1 : upd G1 pe (.dK (putK ke (.inr ns[i]) (.ref tt))) tt = some (.tup [.int (lowP (decide (kd = 2)) zs (zs.filter fun y => decide (y ∈ ns)) ns[i]), .int (highP (decide (kd = 2)) zs (zs.filter fun y => decide (y ∈ ns)) ns[i])]) := by rw [upd_ne tne]; exact g3
    have ein : ∀ n ∈ ns.take (i + 1), ∃ t, valV (putK ke (.inr ns[i]) (.ref tt)) (.inr n) = some (.ref t) ∧ upd G1 pe (.dK (putK ke (.inr ns[i]) (.ref tt))) t = some (.tup [.int (lowP (decide (kd = 2)) zs (zs.filter fun y => decide (y ∈ ns)) n), .int (highP (decide (kd = 2)) zs (zs.filter fun y => decide (y ∈ ns)) n)]) := fun n hn => by
      rw [valV_put]
      by_cases e : n = ns[i]
      · subst e; rw [if_pos rfl]; exact ⟨tt, rfl, gt1⟩
      · rw [if_neg (fun z => e (Sum.inr.inj z))]
        rw [List.take_succ_eq_append_getElem hi] at hn
        rcases List.mem_append.mp hn with h | h
        · obtain ⟨t', h1, h2⟩ := en.e_in n h
          refine ⟨t', h1, ?_⟩
          rw [upd_ne (fun e => by rw [e, ge] at h2; cases h2)]
          exact s3 _ _ h2
        · exact absurd (List.mem_singleton.mp h) e
    have kl1 : (putK ke (.inr ns[i]) (.ref tt)).length ≤ i + 1 := Nat.le_trans (put_len _ _ _) (by omega)
    have eat : valV (putK ke (.inr ns[i]) (.ref tt)) (.inr ns[i]) = some (.ref tt) := by rw [valV_put, if_pos rfl]
    generalize putK ke (.inr ns[i]) (.ref tt) = ke1 at bG1 tG1 gs1 ge1 gt1 ein kl1 eat
    generalize upd G1 pe (.dK ke1) = G2 at bG1 tG1 gs1 ge1 gt1 ein
    obtain ⟨m0, hm0, _⟩ := en.s_in _ hm
    walk_at "rd"
    have d1 := DGet.k (k := .inr ns[i]) gs1
    rw [hm0] at d1
    have d2 := DGet.k (k := .inr ns[i]) ge1
    rw [eat] at d2
    refine ⟨3, _, fn_changed T, by decide, ps, _, rfl, d1, pe, _, rfl, d2, tp, tt, _, m0, _, _, rfl, tG1, by omega, gt1, fun m G3 m1 m2 t3 b3 => ?_⟩
    have gs3 := b3 _ _ nps gs1
    have ge3 := b3 _ _ npe ge1
    refine ⟨ps, _, rfl, DPut.k (k := .inr ns[i]) gs3 (Nat.lt_of_le_of_lt (by have := en.ls; omega : ks.length ≤ 100) (by decide)), ke1, _, (bG1.trans b3).mut hps, (t3.other nps).mono (by push_cast; omega), upd_same, by rw [upd_ne (Ne.symm nse)]; exact ge3, kl1, ?_, ?_, ?_, by omega, ?_⟩
    · intro n hn
      obtain ⟨t', h1, h2⟩ := ein n hn
      refine ⟨t', h1, ?_⟩
      have nt' : t' ≠ tp := fun e => by obtain ⟨xs, hx, _⟩ := tG1; rw [e, hx] at h2; cases h2
      have h3 := b3 _ _ nt' h2
      rw [upd_ne (fun e => by rw [e, gs3] at h3; cases h3)]
      exact h3
    · intro n hn
      rw [valV_put]
      by_cases e : n = ns[i]
      · subst e; rw [if_pos rfl]; exact ⟨m, rfl, fun _ => ⟨m1, m2⟩⟩
      · rw [if_neg (fun z => e (Sum.inr.inj z))]
        obtain ⟨m', h1, h2⟩ := en.s_in n hn
        refine ⟨m', h1, fun h => h2 ?_⟩
        rw [List.take_succ_eq_append_getElem hi] at h
        rcases List.mem_append.mp h with h | h
        · exact h
        · exact absurd (List.mem_singleton.mp h) e
    · intro z hz
      rw [valV_put, if_neg (fun e => hz (by rw [Sum.inr.inj e]; exact hm))]
      exact en.s_out z hz
    · rw [put_same (by rw [hm0]; simp)]; exact en.ls
  · rintro σ G ⟨ke, ks, v6, rfl, bG, tG, gs, ge, kl, en⟩
    show U _ _
    rw [hU]
    clear hU
    rw [List.length_map] at tG
    rw [List.length_map, List.take_length] at en
    have hbG := bG _ _ nb hb
    have haG := bG _ _ na ha
    have sv : ∀ n ∈ ns, valV ks (.inr n) = some (.int (sOf ks n)) ∧ 0 ≤ sOf ks n ∧ sOf ks n ≤ 60 := fun n hn => by
      obtain ⟨m, h1, h2⟩ := en.s_in n hn
      have e : sOf ks n = m := by unfold sOf; rw [h1]
      rw [e]
      exact ⟨h1, h2 hn⟩
    refine seqU fun U hU => ?_
    walk_at "rd"
    refine ⟨ns, .inl (.inl hbG), by omega, fun ys l pm so hl => ?_⟩
    have v1 := Same.new (o := .lst (ys.map V.str)) hl
    have gl := upd_same (H := G) (a := l) (o := .lst (ys.map V.str))
    have en1 := en.same v1
    have gs1 := v1 _ _ gs
    have ge1 := v1 _ _ ge
    have haG1 := v1 _ _ haG
    have bG1 := bG.trans (But.same v1)
    have tG1 := tG.same v1
    generalize upd G l (.lst (ys.map V.str)) = G1 at v1 gl en1 gs1 ge1 haG1 bG1 tG1
    have yn : ys.Nodup := pm.nodup_iff.mpr nn
    have yl : ys.length = ns.length := pm.length_eq
    have yin : ∀ y ∈ ys, y ∈ ns := fun y hy => pm.mem_iff.mp hy
    refine ⟨⟨_, .inl (.inl gl)⟩, ?_⟩
    refine lc_rel (Rl := RcV A) (fun _ _ _ _ s ⟨a, e, r⟩ => ⟨a, e, r.same s⟩) (goes_list (.inl (.inl gl))) (fun i => (ys[i]?).map fun z => ((kd, z, sOf ks z) : Rc)) (by rw [List.length_map, yl]; exact Nat.lt_of_le_of_lt n40 (by decide)) (fun i x G9 D hi s9 hx hD hacc => ?_) fun D G9 xs hD s9 hy ry => ?_
    · rw [List.length_map] at hi
      rw [List.getElem?_map, List.getElem?_eq_getElem hi] at hx
      obtain rfl := (Option.some.inj hx).symm
      rw [List.getElem?_eq_getElem hi]
      obtain ⟨acc, hacc⟩ := hacc
      have hyn := yin _ (List.getElem_mem hi)
      obtain ⟨z1, z2, z3⟩ := sv _ hyn
      refine ⟨[some (.ref tp), some (.ref a), some (.ref b), some (.int kd), some (.ref ps), some (.ref pe), some (.str ys[i]), none, none, none, none, none, none, none, none, none, none], rfl, fun R' h => h, Evt.yes, fun G10 s10 Q' q' => ?_⟩
      walk_at "rd"
      have d1 := DGet.k (k := .inr ys[i]) (s10 _ _ (s9 _ _ gs1))
      rw [z1] at d1
      refine ⟨5, _, fn_made T, by decide, ps, _, rfl, d1, kd, ys[i], _, rfl, hk, its.it _ (sub _ hyn), z2, z3, fun p G11 hp s11 r11 => q' _ _ s11 ⟨p, rfl, ?_⟩⟩
      obtain ⟨hk, dx2, h2⟩ := r11
      exact ⟨hk, dx2, hide_get h2 (Ne.symm (ne_of_none (s10 _ _ hacc) hp))⟩
    have e2 : (List.range (ys.map V.str).length).filterMap (fun i => (ys[i]?).map fun z => ((kd, z, sOf ks z) : Rc)) = ys.map fun z => ((kd, z, sOf ks z) : Rc) := by
      have e := range_list (fun z => some ((kd, z, sOf ks z) : Rc)) ys
      rw [List.filterMap_eq_map'] at e
      rw [List.length_map]
      refine Eq.trans ?_ e
      congr 1
      funext k
      cases ys[k]? <;> rfl
    rw [e2] at ry
    obtain ⟨as, bk⟩ := rel_book hy (ry.imp fun y r ⟨a, e, h⟩ => ⟨a, e, h.same hide_same⟩)
    rw [hU]
    clear hU
    have ei : (ys.map fun z => ((kd, z, sOf ks z) : Rc)).map item = ys := by rw [List.map_map]; exact List.map_id' _
    have rk : ∀ r ∈ ys.map fun z => ((kd, z, sOf ks z) : Rc), r.1 = kd := fun r hr => by obtain ⟨z, _, rfl⟩ := List.mem_map.mp hr; rfl
    have rsl : ∀ r ∈ ys.map fun z => ((kd, z, sOf ks z) : Rc), slot r = sOf ks (item r) := fun r hr => by obtain ⟨z, _, rfl⟩ := List.mem_map.mp hr; rfl
    have rlen : (ys.map fun z => ((kd, z, sOf ks z) : Rc)).length = ys.length := List.length_map _
    generalize (ys.map fun z => ((kd, z, sOf ks z) : Rc)) = rs at bk ei rk rsl rlen
    have rit : ∀ r ∈ rs, item r ∈ ns := fun r hr => yin _ (by rw [← ei]; exact List.mem_map.mpr ⟨r, hr, rfl⟩)
    have kn : Known rs zs := ⟨isLog_of rk (by show (rs.map item).Nodup; rw [ei]; exact yn) (by omega), fun r hr => by rw [rk r hr]; exact hk, by rw [ei]; exact yn, fun r hr => ⟨its.it _ (sub _ (rit r hr)), by show 0 ≤ slot r ∧ slot r ≤ 60; rw [rsl r hr]; exact (sv _ (rit r hr)).2⟩, its, fun r hr => sub _ (rit r hr)⟩
    have em : mkd zs rs = zs.filter fun y => decide (y ∈ ns) := by
      unfold mkd
      refine List.filter_congr fun y _ => ?_
      rw [ei, Bool.eq_iff_iff]
      simp only [decide_eq_true_eq]
      exact pm.mem_iff
    have efr : ∀ r ∈ rs, isFr rs = decide (kd = 2) := fun r hr => isFr_of rk hk (List.ne_nil_of_mem hr)
    have sls : ∀ n ∈ ns, sl rs n = sOf ks n := fun n hn => by
      have hny : n ∈ rs.map item := by rw [ei]; exact pm.mem_iff.mpr hn
      obtain ⟨r, hr, rfl⟩ := List.mem_map.mp hny
      obtain ⟨i, hi, e⟩ := List.mem_iff_getElem.mp hr
      rw [sl_at kn.nd (show rs[i]? = some r by rw [List.getElem?_eq_getElem hi, e]), rsl r hr]
    have en9 := en1.same s9
    have gs9 := s9 _ _ gs1
    have ge9 := s9 _ _ ge1
    have ha9 := s9 _ _ haG1
    have b9 := bG1.trans (But.same s9)
    have t9 := tG1.same s9
    have h40 := log_40 kn.log
    have rok : ∀ r ∈ rs, isItem r.2.1 = true := fun r hr => (kn.ok r hr).1
    -- kept
    refine seqU fun U hU => ?_
    walk_at "rd"
    refine ⟨3, _, fn_facts T, by decide, D, as, rs, rfl, bk, by omega, fun pf G10 hpf s10 d10 => ⟨_, .inl (.inl (.inl (s10 _ _ ha9))), fun pl hpl => ⟨(by show 2 ≤ sizeLine; decide), fun pk hpk => ?_⟩⟩⟩
    rw [hU]
    clear hU
    have w1 := Same.new (o := .lst (zs.map V.str)) hpl
    have w2 := Same.new (o := .lst [.ref pf, .ref pl]) hpk
    have dk : Dp K (upd (upd G10 pl (.lst (zs.map V.str))) pk (.lst [.ref pf, .ref pl])) (.ref pk) (.list [.list (rs.map fact), dS zs]) := .lst (.inl (.inl upd_same)) (.cons (dp_same (w1.trans w2) _ _ d10) (.cons (dp_dS (.inl (.inl (w2 _ _ upd_same)))) .nil))
    have s11 := s10.trans (w1.trans w2)
    generalize upd (upd G10 pl (.lst (zs.map V.str))) pk (.lst [.ref pf, .ref pl]) = G11 at dk s11
    have bk1 := bk.same s11
    have en2 := en9.same s11
    have gs2 := s11 _ _ gs9
    have ge2 := s11 _ _ ge9
    have ha2 := s11 _ _ ha9
    have b11 := b9.trans (But.same s11)
    have t11 := t9.same s11
    -- due
    refine seqU fun U hU => ?_
    walk_at "rd"
    refine ⟨⟨_, .inl (.inl ha2)⟩, lc_lst (fun v => match v with | .str y => if (decide (y ∈ ns) && !okP rs zs y) = true then some (V.str y) else none | _ => none) (.inl (.inl ha2)) (by rw [List.length_map]; exact Nat.lt_of_le_of_lt few (by decide)) (fun x H3 hx s3 => ?_) fun D3 H3 hD3 s3 hl3 => ?_⟩
    · obtain ⟨y, hy', rfl⟩ := List.mem_map.mp hx
      have ev : Evt (tAnd (tTest (tOp (uIn K false) (tVar 16) (tVar 4))) (tNot (tTest (tChain uLe uLe (tOp (uIx K) (tDGet (tVar 5) (tVar 16)) (tC (.int 0))) (tDGet (tVar 4) (tVar 16)) (tOp (uIx K) (tDGet (tVar 5) (tVar 16)) (tC (.int 1))))))) [some (.ref tp), some (.ref a), some (.ref b), some (.int kd), some (.ref ps), some (.ref pe), v6, some (.ref D), some (.ref pk), none, none, none, none, none, none, none, some (.str y)] H3 (decide (y ∈ ns) && !okP rs zs y) := by
        intro Q' q'
        walk_at "rd"
        refine .inr (.inr ⟨_, DGet.k (k := .inr y) (s3 _ _ gs2), ?_⟩)
        by_cases hyn : y ∈ ns
        · obtain ⟨z1, z2, z3⟩ := sv y hyn
          obtain ⟨ty, e1, e2⟩ := en2.e_in y hyn
          rw [z1, if_pos (show (some (V.int (sOf ks y))).isSome = true from rfl)]
          have d1 := DGet.k (k := .inr y) (s3 _ _ ge2)
          rw [e1] at d1
          have d2 := DGet.k (k := .inr y) (s3 _ _ gs2)
          rw [z1] at d2
          refine ⟨pe, _, rfl, d1, _, _, .inr (.inl (.inl (s3 _ _ e2))), at_of (j := 0) rfl rfl, ps, _, rfl, d2, ?_⟩
          obtain ⟨r, hr, er⟩ := List.mem_map.mp (show y ∈ rs.map item by rw [ei]; exact pm.mem_iff.mpr hyn)
          rw [decide_eq_true hyn, Bool.true_and, okP_iff, sls y hyn, efr r hr, em] at q'
          show if _ then _ else _
          by_cases c1 : lowP (decide (kd = 2)) zs (zs.filter fun y => decide (y ∈ ns)) y ≤ sOf ks y
          · rw [if_pos (decide_eq_true c1)]
            refine ⟨pe, _, rfl, d1, _, _, .inr (.inl (.inl (s3 _ _ e2))), at_of (j := 1) rfl rfl, ?_⟩
            rw [decide_eq_true c1, Bool.true_and] at q'
            exact q' H3 (Same.refl _)
          · rw [if_neg (by simpa using c1)]
            rw [decide_eq_false c1, Bool.false_and] at q'
            exact q' H3 (Same.refl _)
        · rw [en2.s_out y hyn]
          rw [decide_eq_false hyn, Bool.false_and] at q'
          rw [if_neg (show ¬ ((none : Option V).isSome = true) from Bool.false_ne_true)]
          exact q' H3 (Same.refl _)
      refine ⟨[some (.ref tp), some (.ref a), some (.ref b), some (.int kd), some (.ref ps), some (.ref pe), v6, some (.ref D), some (.ref pk), none, none, none, none, none, none, none, some (.str y)], rfl, fun R' h => h, ?_⟩
      show match (if (decide (y ∈ ns) && !okP rs zs y) = true then some (V.str y) else none) with | some y => _ | none => _
      cases cc : (decide (y ∈ ns) && !okP rs zs y) with
      | true =>
        rw [cc] at ev
        rw [if_pos rfl]
        exact ⟨ev, fun H4 s4 Q' q' => ⟨_, rfl, q' H4 (Same.refl _)⟩⟩
      | false =>
        rw [cc] at ev
        rw [if_neg (by decide)]
        exact ev
    have hl3 : H3 D3 = some (.lst ((wrongP rs zs).map V.str)) := by
      have e : wrongP rs zs = zs.filter fun y => decide (y ∈ ns) && !okP rs zs y := by
        unfold wrongP
        rw [em, List.filter_filter]
        exact List.filter_congr fun y _ => Bool.and_comm _ _
      rw [e, ← fm_filterB]; exact hl3
    rw [hU]
    clear hU
    -- fixed
    refine seqU fun U hU => ?_
    walk_at "rd"
    refine ⟨by decide, fun F hF => ?_⟩
    rw [hU]
    clear hU
    have x1 := Same.new (o := .lst []) hF
    have gF := upd_same (H := H3) (a := F) (o := .lst [])
    generalize upd H3 F (.lst []) = H4 at x1 gF
    have ge4 := s3 _ _ ge2
    have en4 := en2.same s3
    have b4 := bk1.same s3
    refine seqU fun U hU => ?_
    walk_at "rd"
    refine ⟨⟨_, .inl (.inl (x1 _ _ b4.lst))⟩, ?_⟩
    refine for_list (K := K) (a := D) (xs := as.map V.ref) (fun i σ G => ∃ (xs : List V) (v11 v12 v13 : Option V), σ = [some (.ref tp), some (.ref a), some (.ref b), some (.int kd), some (.ref ps), some (.ref pe), v6, some (.ref D), some (.ref pk), some (.ref D3), some (.ref F), v11, v12, v13, none, none, none] ∧ Same H3 G ∧ G F = some (.lst xs) ∧ DpAll K (hide F G) xs ((rs.take i).map fun r => fact (nearR rs zs r))) ⟨[], _, _, _, rfl, x1, gF, .nil⟩ (fun i σ G _ ⟨_, _, _, _, _, s, _⟩ => .inl (.inl (s _ _ b4.lst))) ?_ ?_
    · rintro i x σ G hi ⟨xs, v11, v12, v13, rfl, sG, hl, dp⟩
      obtain ⟨ar, r, rfl, har, hr, rc⟩ := (b4.same sG).get hi
      have hrm := List.mem_of_getElem? hr
      obtain ⟨ty, e1, e2⟩ := en4.e_in _ (rit r hrm)
      have d1 := DGet.k (k := .inr (item r)) (sG _ _ ge4)
      rw [e1] at d1
      simp only [gName]
      refine seqU fun U hU => ?_
      walk_at "rd"
      refine ⟨_, _, rfl, att_item T rc, pe, _, rfl, d1, ty, _, rfl, .inl (.inl (sG _ _ e2)), rfl, _, _, rfl, _, _, rfl, rfl, ?_⟩
      rw [hU]
      clear hU
      walk_at "rd"
      refine ⟨.inl ⟨rfl, _, .inl (.inl hl)⟩, (by show 3 ≤ sizeLine; decide), fun p1 hp1 => ?_⟩
      have y1 := Same.new (o := .lst [.bl (decide ((kd : Int) = 0)), .bl (decide ((kd : Int) = 1)), .bl (decide ((kd : Int) = 2))]) hp1
      have n1 : p1 ≠ F := Ne.symm (ne_of_none hl hp1)
      refine ⟨_, _, rfl, att_item T (rc.same y1), _, _, rfl, att_slot T (rc.same y1), (by show 3 ≤ sizeLine; decide), fun p2 hp2 => ?_⟩
      have y2 := Same.new (o := .tup [.ref p1, .str r.2.1, .int (if (if r.2.2 < highP (decide (kd = 2)) zs (zs.filter fun y => decide (y ∈ ns)) (item r) then r.2.2 else highP (decide (kd = 2)) zs (zs.filter fun y => decide (y ∈ ns)) (item r)) > lowP (decide (kd = 2)) zs (zs.filter fun y => decide (y ∈ ns)) (item r) then (if r.2.2 < highP (decide (kd = 2)) zs (zs.filter fun y => decide (y ∈ ns)) (item r) then r.2.2 else highP (decide (kd = 2)) zs (zs.filter fun y => decide (y ∈ ns)) (item r)) else lowP (decide (kd = 2)) zs (zs.filter fun y => decide (y ∈ ns)) (item r))]) hp2
      have n2 : p2 ≠ F := Ne.symm (ne_of_none (y1 _ _ hl) hp2)
      have xl := dpa_len dp
      rw [List.length_map, List.length_take] at xl
      have hi' : i < rs.length := (List.getElem?_eq_some_iff.mp hr).1
      refine ⟨F, xs, _, rfl, rfl, y2 _ _ (y1 _ _ hl), Nat.lt_of_lt_of_le (by omega : xs.length < 1001) (by decide), xs ++ [.ref p2], _, _, _, ⟨rfl, rfl, rfl⟩, ((sG.trans y1).trans y2).mut hF, upd_same, ?_⟩
      rw [hide_upd, List.take_add_one, hr, List.map_append]
      have hmk := kn.mk' hrm
      have rg := frame_range kn.its hmk (isFr rs)
      have cl := clamp_eq (s := r.2.2) rg.2.1
      rw [efr r hrm, em] at cl
      have ef : fact (nearR rs zs r) = .tuple [.list [.bool (decide ((kd : Int) = 0)), .bool (decide ((kd : Int) = 1)), .bool (decide ((kd : Int) = 2))], .str r.2.1, .int (clampP (lowP (decide (kd = 2)) zs (zs.filter fun y => decide (y ∈ ns)) (item r)) (highP (decide (kd = 2)) zs (zs.filter fun y => decide (y ∈ ns)) (item r)) r.2.2)] := by
        unfold fact nearR
        rw [efr r hrm, em]
        have h0 : decide (r.1 = 0) = decide ((kd : Int) = 0) := by rw [rk r hrm, Bool.eq_iff_iff]; simp only [decide_eq_true_eq]; omega
        have h1 : decide (r.1 = 1) = decide ((kd : Int) = 1) := by rw [rk r hrm, Bool.eq_iff_iff]; simp only [decide_eq_true_eq]; omega
        have h2 : decide (r.1 = 2) = decide ((kd : Int) = 2) := by rw [rk r hrm, Bool.eq_iff_iff]; simp only [decide_eq_true_eq]; omega
        show PyData.tuple [.list [.bool (decide (r.1 = 0)), .bool (decide (r.1 = 1)), .bool (decide (r.1 = 2))], _, _] = _
        rw [h0, h1, h2]
      refine dpa_snoc (dpa_same (hide_mono (y1.trans y2)) _ _ dp) ?_
      show Dp K _ _ (fact (nearR rs zs r))
      rw [ef, ← cl]
      exact .tup (.inl (.inl (hide_get upd_same n2))) (.cons (.lst (.inl (.inl (hide_get (y2 _ _ upd_same) n1))) (.cons (.bl _) (.cons (.bl _) (.cons (.bl _) .nil)))) (.cons (.str _) (.cons (.int _) .nil)))
    · rintro σ G ⟨xs, v11, v12, v13, rfl, sG, hl, dp⟩
      show U _ _
      rw [hU]
      clear hU
      rw [book_len bk, List.take_length] at dp
      have dF : Dp K G (.ref F) (.list ((nearP rs zs).map fact)) := by
        unfold nearP
        rw [List.map_map]
        exact .lst (.inl (.inl hl)) (dpa_same hide_same _ _ dp)
      have s5 := s3.trans sG
      have dk5 := dp_same s5 _ _ dk
      have hd5 := sG _ _ hl3
      have bk5 := bk1.same s5
      have ha5 := s5 _ _ ha2
      have b5 := b11.trans (But.same s5)
      have t5 := t11.same s5
      have nok : ∀ r ∈ nearP rs zs, isItem r.2.1 = true := fun r hr => by
        obtain ⟨r0, h0, rfl⟩ := List.mem_map.mp hr
        exact rok r0 h0
      have nlen : (nearP rs zs).length = rs.length := List.length_map _
      have wok : okR 1 1000 (dS (wrongP rs zs)) := dS_ok (fun z hz => its.it z (List.mem_filter.mp (List.mem_filter.mp hz).1).1) (Nat.le_trans (Nat.le_trans (List.length_filter_le _ _) (List.length_filter_le _ _)) (by omega))
      have kok : okD 4 (.list [.list (rs.map fact), dS zs]) := okD.list fun d hd => by
        rcases List.mem_cons.mp hd with rfl | hd
        · exact facts_ok rok
        · obtain rfl := List.mem_singleton.mp hd
          have := (dS_ok its.it (by omega)).okD
          exact ⟨this.1, Nat.le_trans this.2 (by decide)⟩
      refine seqU fun U hU => ?_
      walk_at "rd"
      refine ⟨by decide, by decide, ?_⟩
      refine for_range (n := 2) (fun i σ G' => ∃ v11 v14 v15, σ = [some (.ref tp), some (.ref a), some (.ref b), some (.int kd), some (.ref ps), some (.ref pe), v6, some (.ref D), some (.ref pk), some (.ref D3), some (.ref F), v11, v12, v13, v14, v15, none] ∧ Same G G') ⟨_, _, _, rfl, Same.refl _⟩ ?_ ?_
      · rintro i σ G6 hi ⟨v11, v14, v15, rfl, s6⟩
        simp only [gName]
        refine seqU fun U hU => ?_
        walk_at "rd"
        refine ⟨7, _, fn_nearest T, by decide, D, a, as, rs, zs, rfl, bk5.same s6, s6 _ _ ha5, kn, fun p as' G7 s7 nb => ?_⟩
        rw [hU]
        clear hU
        refine seqU fun U hU => ?_
        walk_at "rd"
        refine ⟨7, _, fn_wrong T, by decide, D, a, as, rs, zs, rfl, bk5.same (s6.trans s7), s7 _ _ (s6 _ _ ha5), kn, fun pw G8 hpw s8 hw => ?_⟩
        obtain ⟨r1, r2, r3, r4⟩ := wok.repr (by decide) (by decide)
        refine ⟨dS (wrongP rs zs), dp_dS (.inl (.inl hw)), r1, r2, r3, r4, dS (wrongP rs zs), dp_dS (.inl (.inl (s8 _ _ (s7 _ _ (s6 _ _ hd5))))), r1, r2, r3, r4, ?_⟩
        rw [decide_eq_true rfl]
        walk_at "rd"
        refine ⟨3, _, fn_facts T, by decide, p, as', _, rfl, nb.book.same s8, by omega, fun p9 G9 hp9 s9 d9 => .inl ⟨_, _, d9, dp_same (((s6.trans s7).trans s8).trans s9) _ _ dF, (facts_ok nok).shaped (by decide), (facts_ok nok).shaped (by decide), ?_⟩⟩
        rw [SeqAt.eqv_refl _ (facts_ok nok).1]
        walk_at "rd"
        show U _ _
        rw [hU]
        clear hU
        have nb9 := (nb.same s8).same s9
        have S9 : Same G6 G9 := s7.trans (s8.trans s9)
        refine seqU fun U hU => ?_
        walk_at "rd"
        refine ⟨⟨_, .inl (.inl nb9.book.lst)⟩, ?_⟩
        have al := nb.book.len
        refine for_list (K := K) (a := p) (xs := as'.map V.ref) (fun j σ G => ∃ v11, σ = [some (.ref tp), some (.ref a), some (.ref b), some (.int kd), some (.ref ps), some (.ref pe), v6, some (.ref D), some (.ref pk), some (.ref D3), some (.ref F), v11, v12, v13, some (.int (0 + i)), some (.ref p), none] ∧ Same G6 G ∧ G p = some (.lst (as'.map V.ref)) ∧ ∀ a ∈ as', ∃ k z m, Rec A G a k z m ∧ 0 ≤ m ∧ m ≤ 60) ⟨_, rfl, S9, nb9.book.lst, fun a ha => ?_⟩ (fun j σ G _ ⟨_, _, _, h, _⟩ => .inl (.inl h)) ?_ ?_
        · obtain ⟨tt, ht, e⟩ := List.mem_iff_getElem.mp ha
          have ht2 : tt < (nearP rs zs).length := by omega
          have hin := List.getElem_mem ht2
          refine ⟨_, _, _, nb9.book.at_ tt a _ (by rw [List.getElem?_eq_getElem ht, e]) (List.getElem?_eq_getElem ht2), ?_⟩
          obtain ⟨r0, h0, e0⟩ := List.mem_map.mp hin
          rw [← e0]
          obtain ⟨f1, f2, f3⟩ := frame_range kn.its (kn.mk' h0) (isFr rs)
          show 0 ≤ clampP _ _ _ ∧ clampP _ _ _ ≤ 60
          unfold clampP
          split <;> split <;> omega
        · rintro j x σ G16 hx ⟨v11, rfl, s16, h16, r16⟩
          rw [List.getElem?_map] at hx
          cases ea : as'[j]? with
          | none => rw [ea] at hx; cases hx
          | some a' =>
          rw [ea] at hx
          obtain rfl := (Option.some.inj hx).symm
          have ha' := List.mem_of_getElem? ea
          obtain ⟨k, z, m, rc, m0, m60⟩ := r16 a' ha'
          have rc' := rc
          obtain ⟨hk4, dx, hrec⟩ := rc'
          walk_at "rd"
          refine ⟨a', _, dx, _, 3, _, rfl, hrec, mth_move T hk4, by decide, look_none z m (by decide +kernel) (by decide +kernel), _, _, rfl, att_slot T rc, a', dx, z, m, 60 - m, rfl, hrec, by omega, by omega, ?_⟩
          refine ⟨s16.mut (nb.fr a' ha'), by rw [upd_ne (Ne.symm (nb.ne a' ha'))]; exact h16, fun a2 ha2 => ?_⟩
          by_cases e : a2 = a'
          · subst e; exact ⟨k, z, 60 - m, ⟨hk4, dx, upd_same⟩, by omega, by omega⟩
          · obtain ⟨k2, z2, m2, ⟨hk2, dx2, h2⟩, l2⟩ := r16 a2 ha2
            exact ⟨k2, z2, m2, ⟨hk2, dx2, by rw [upd_ne e]; exact h2⟩, l2⟩
        · rintro σ G16 ⟨v11, rfl, s16, h16, r16⟩
          show U _ _
          rw [hU]
          clear hU
          walk_at "rd"
          have s17 := s6.trans s16
          refine ⟨3, _, fn_facts T, by decide, D, as, rs, rfl, bk5.same s17, by omega, fun pg G18 hpg s18 d18 => ⟨(by show 2 ≤ sizeLine; decide), fun ph hph => ?_⟩⟩
          have z1 := Same.new (o := .lst [.ref pg, .ref a]) hph
          have S18 := s17.trans (s18.trans z1)
          refine .inl ⟨.list [.list (rs.map fact), dS zs], _, .lst (.inl (.inl upd_same)) (.cons (dp_same z1 _ _ d18) (.cons (dp_dS (.inl (.inl (S18 _ _ ha5)))) .nil)), dp_same S18 _ _ dk5, kok.shaped (by decide), kok.shaped (by decide), ?_⟩
          rw [SeqAt.eqv_refl _ kok.1]
          walk_at "rd"
          exact ⟨_, _, _, ⟨rfl, rfl, rfl⟩, S18⟩
      · rintro σ G6 ⟨v11, v14, v15, rfl, s6⟩
        show U _ _
        rw [hU]
        clear hU
        walk_at "rd"
        exact q G6 (b5.trans (But.same s6)) ((t5.same s6).mono (by omega))
theorem fn_right (T : Tx K mg A) : Fn P w K mg base 8 "_law_right" (sp_right A) := T.f_law_right.fn sc_law_right (fun hr => d_law_right T.G hr) (p_right T)
end
end K
namespace K
open PySem PySem.Spec PyProof.Rows L2 U ClX M
local macro_rules | `(tactic| walk_at "rd") => `(tactic| simp only [tSeq, tRet, tIfS, tAsg, tDrop, tNext, tNever, tRetN, tAndV, tOrV, tNotV, tAnd, tOr, tNot, tB, tTest, tChain, tCB, tCons, tNil, tVar, tC, tOp, tUn, tIf, gName, uLe, uLt, uGe, uGt, uCmp, uAdd, uSub, uMul, uDiv, uMod, uPow, uNeg, uEq, uNe, uIs, uIsNot, uIx, uIn, cIsi, cLen, cAll, cMax, cMin, cAbs, cSort, cSortD, cInt, cTuple, cRepr, cList, cSortS, tRevL, tDGet, tLstRg, tTupRg, tRg1, tRg2, sDPut, tDNewK, tAug, ipI, iZip, tLst, tTup, tPar, U.tPar3, tFn, tMkr, tMth, tFnK, tMthK, tAtt, sFld, tYes, tLc_eq, tFor_eq, iList, iStr, iRng1, iRng2, iEnum, tLenSetT, tSl, tPart, tNoPart, gTup, gCons, gNil, gSub, tBM, tBM0, List.getElem?_cons_zero, List.getElem?_cons_succ, List.set_cons_zero, List.set_cons_succ, Option.some.injEq, V.bl.injEq, V.int.injEq, V.str.injEq, V.ref.injEq, exists_eq_left', exists_eq_left, exists_eq_right, exists_eq_right', and_true, true_and, scal, if_true, Bool.false_eq_true, if_false, List.cons.injEq, exists_const, false_and, and_false, ite_true, ite_false, Bool.not_true, Bool.not_false])
section
variable {P : Program} {w : World} {K : PySem.W.Frag} {mg : Str → Option Value} {base : Heap} {A : Ads}
theorem pool_its {zs : List Str} (nd : zs.Nodup) (it : ∀ z ∈ zs, z ∈ pool0) (hl : zs.length ≤ 60) : Its zs := ⟨nd, fun z hz => pool0_ok.it z (it z hz), hl⟩
def sp_law (K : PySem.W.Frag) : Sp := fun vs H Q _ => ∃ (a : Addr) (ns : List Int), vs = [.ref a] ∧ SqL K H a (ns.map V.int) ∧ ns.length ≤ 63 ∧ ∀ H', Q (.bl true) H'
theorem p_law (T : Tx K mg A) : Pur N_law ["_law_script"] (t_law P w K mg base A) (sp_law K) := by
  intro vs H Q E h
  obtain ⟨a, ns, rfl, hs, hl, q⟩ := h
  refine ⟨rfl, ?_⟩
  show t_law P w K mg base A E _ [some (.ref a), none, none, none, none, none] H
  unfold t_law
  refine seqU fun U hU => ?_
  walk_at "rd"
  refine ⟨_, .inl hs, ?_⟩
  rw [List.length_map]
  obtain ⟨n, hn, en⟩ : ∃ n : Nat, n ≤ 3 ∧ (if (if (ns.length : Int) < 3 then (ns.length : Int) else 3) > 1 then (if (ns.length : Int) < 3 then (ns.length : Int) else 3) else 1) = (n : Int) := ⟨(if (if (ns.length : Int) < 3 then (ns.length : Int) else 3) > 1 then (if (ns.length : Int) < 3 then (ns.length : Int) else 3) else 1).toNat, by split <;> split <;> omega, by split <;> split <;> omega⟩
  rw [en]
  refine ⟨by omega, by omega, ?_⟩
  rw [Int.toNat_natCast]
  refine for_range (n := n) (fun i σ G => ∃ v1 v2 v3 v4, σ = [some (.ref a), v1, v2, v3, v4, none] ∧ Same H G) ⟨_, _, _, _, rfl, Same.refl _⟩ ?_ ?_
  · rintro i σ G hi ⟨v1, v2, v3, v4, rfl, sG⟩
    walk_at "rd"
    refine ⟨2, _, fn_tape T, by decide, a, ns, _, rfl, sG.seq hs, by omega, by omega, fun tp xs htp hxs => ?_⟩
    walk_at "rd"
    refine ⟨by decide, by decide, ?_⟩
    have ft : H tp = none := sG.free htp
    refine for_range (n := 3) (fun j σ G2 => ∃ v3 v4, σ = [some (.ref a), some (.int (0 + i)), some (.ref tp), v3, v4, none] ∧ Same H G2 ∧ Tape G2 tp (1000 * j)) ⟨_, _, rfl, sG.trans (Same.new htp), xs, upd_same, by simpa using hxs⟩ ?_ ?_
    · rintro j σ G2 hj ⟨v3, v4, rfl, s2, t2⟩
      have nt : ∀ {b : Addr} {o : HO}, H b = some o → b ≠ tp := fun e => ne_of_none e ft
      simp only [gName]
      refine seqU fun U hU => ?_
      walk_at "rd"
      refine ⟨3, _, fn_items T, by decide, 2, _, fn_next T, by decide, (by show 2 ≤ sizeLine; decide), fun q1 hq1 => ?_⟩
      have n1 : q1 ≠ tp := t2.ne hq1
      have s2' : Same H (upd G2 q1 (.lst [.int 20, .int 61])) := s2.trans (Same.new hq1)
      refine ⟨2, _, fn_next T, by decide, next_ok (t2.other n1) (by omega) (by decide) (by decide) fun x1 G3 x10 x11 t3 b3 e3 => ?_⟩
      have s3 : Same H G3 := fun b o e => b3 b o (nt e) (s2' b o e)
      have h1 : G3 q1 = some (.lst [.int 20, .int 61]) := by rw [e3 q1 n1]; exact upd_same
      obtain ⟨wd, hwd, wd0, wd1⟩ : ∃ wd : Int, atI [V.int 20, V.int 61] x1 = some (.int wd) ∧ 0 < wd ∧ wd ≤ 61 := by
        have : x1 = 0 ∨ x1 = 1 := by omega
        rcases this with rfl | rfl
        · exact ⟨20, rfl, by decide, by decide⟩
        · exact ⟨61, rfl, by decide, by decide⟩
      refine ⟨_, _, .inl (.inl (.inl h1)), hwd, next_ok t3 (by omega) wd0 (by omega) fun many G4 m0 m1 t4 b4 e4 => ?_⟩
      have s4 : Same H G4 := fun b o e => b4 b o (nt e) (s3 b o e)
      obtain ⟨mn, rfl⟩ : ∃ mn : Nat, many = mn := ⟨many.toNat, by omega⟩
      refine ⟨tp, _, mn, rfl, t4, by omega, by omega, fun p5 zs G5 hp5 zl nd it h5 t5 b5 => ?_⟩
      have s5 : Same H G5 := fun b o e => b5 b o (nt e) (s4 b o e)
      have n5 : p5 ≠ tp := t4.ne hp5
      rw [hU]
      clear hU
      walk_at "rd"
      refine ⟨8, _, fn_right T, by decide, 3, _, fn_drawn T, by decide, tp, p5, _, 40, zs, rfl, t5, by omega, n5, h5, by omega, by decide, fun p6 ms G6 hp6 ml mnd msub h6 t6 b6 => ?_⟩
      have s6 : Same H G6 := fun b o e => b6 b o (nt e) (s5 b o e)
      refine ⟨tp, p5, p6, j, _, zs, ms, by rw [Int.zero_add], hj, t6, by omega, b6 _ _ n5 h5, h6, n5, t5.ne hp6, pool_its nd it (by omega), mnd nd, msub, by omega, fun G7 b7 t7 => ⟨true, rfl, ?_⟩⟩
      have s7 : Same H G7 := fun b o e => b7 b o (nt e) (s6 b o e)
      rw [if_neg (by decide)]
      exact ⟨_, _, ⟨rfl, rfl⟩, s7, t7.mono (by push_cast; omega)⟩
    · rintro σ G2 ⟨v3, v4, rfl, s2, t2⟩
      exact ⟨_, _, _, _, rfl, s2⟩
  · rintro σ G ⟨v1, v2, v3, v4, rfl, sG⟩
    show U _ _
    rw [hU]
    clear hU
    refine seqU fun U hU => ?_
    walk_at "rd"
    refine ⟨2, _, fn_tape T, by decide, a, ns, _, rfl, sG.seq hs, by omega, by omega, fun tp xs htp hxs => ?_⟩
    rw [hU]
    clear hU
    have t1 : Tape (upd G tp (.lst xs)) tp 0 := ⟨xs, upd_same, hxs⟩
    generalize upd G tp (.lst xs) = G1 at t1
    refine seqU fun U hU => ?_
    walk_at "rd"
    refine ⟨by decide, by decide, ?_⟩
    refine for_range (n := 3) (fun j σ G2 => ∃ v4 v5, σ = [some (.ref a), v1, some (.ref tp), v3, v4, v5] ∧ Tape G2 tp (1000 * j)) ⟨_, _, rfl, by simpa using t1⟩ ?_ ?_
    · rintro j σ G2 hj ⟨v4, v5, rfl, t2⟩
      simp only [gName]
      refine seqU fun U hU => ?_
      walk_at "rd"
      refine ⟨3, _, fn_items T, by decide, tp, _, 60, rfl, t2, by omega, by omega, fun p5 zs G5 hp5 zl nd it h5 t5 b5 => ?_⟩
      have n5 : p5 ≠ tp := t2.ne hp5
      rw [hU]
      clear hU
      walk_at "rd"
      refine ⟨8, _, fn_right T, by decide, p5, _, rfl, .inl (.inl h5), fun p6 hp6 => ?_⟩
      have u6 := Same.new (o := .lst (zs.map V.str).reverse) hp6
      refine ⟨p6, _, rfl, .inl (.inl upd_same), fun p7 hp7 => ?_⟩
      have u7 := Same.new (o := .lst (cutV (zs.map V.str).reverse none (some 40))) hp7
      have t7 := (t5.same u6).same u7
      have h7 : upd (upd G5 p6 (.lst (zs.map V.str).reverse)) p7 (.lst (cutV (zs.map V.str).reverse none (some 40))) p7 = some (.lst ((zs.reverse.take 40).map V.str)) := by
        rw [upd_same]
        congr 2
        rw [show (some (40 : Int)) = some ((40 : Nat) : Int) from rfl, cut_to, ← List.map_reverse, List.map_take]
      have hz7 := u7 _ _ (u6 _ _ h5)
      have n7 : p7 ≠ tp := (t5.same u6).ne hp7
      generalize upd (upd G5 p6 (.lst (zs.map V.str).reverse)) p7 (.lst (cutV (zs.map V.str).reverse none (some 40))) = G7 at t7 h7 hz7
      have rp : zs.reverse.Perm zs := List.reverse_perm _
      refine ⟨tp, p5, p7, j, _, zs, zs.reverse.take 40, by rw [Int.zero_add], hj, t7, by omega, hz7, h7, n5, n7, pool_its nd it (by omega), (rp.nodup_iff.mpr nd).sublist (List.take_sublist _ _), fun z hz => rp.mem_iff.mp ((List.take_sublist _ _).subset hz), by rw [List.length_take]; omega, fun G8 b8 t8 => ⟨true, rfl, ?_⟩⟩
      rw [if_neg (by decide)]
      exact ⟨_, _, ⟨rfl, rfl⟩, t8.mono (by push_cast; omega)⟩
    · rintro σ G2 ⟨v4, v5, rfl, t2⟩
      show U _ _
      rw [hU]
      clear hU
      walk_at "rd"
      exact q _
theorem fn_law (T : Tx K mg A) : Fn P w K mg base 9 "law" (sp_law K) := T.f_law.fn sc_law (fun hr => d_law T.G hr) (p_law T)
end
end K
namespace K
open PySem PySem.Spec PyProof.Rows L2 U ClX M
theorem all_mk {l : PySem.W.OpenLaw} {w : World} {K : PySem.W.Frag} {h : Heap} {mg : Str → Option Value} {fa C0 C1 C2 C3 : Addr} (X : K.In h) (G : h.Ns mainGlobals mg) (hfa : mg "law" = some (.ref fa))
    {oc0 kV0 dc0 pm0 cd0 ct0 : Value} {od0 an0 : Option Addr} {sl0 : Array (Option Value)} {f0 : Addr} {oc1 kV1 dc1 pm1 cd1 ct1 : Value} {od1 an1 : Option Addr} {sl1 : Array (Option Value)} {f1 : Addr} {oc2 kV2 dc2 pm2 cd2 ct2 : Value} {od2 an2 : Option Addr} {sl2 : Array (Option Value)} {f2 : Addr} {oc3 kV3 dc3 pm3 cd3 ct3 : Value} {od3 an3 : Option Addr} {sl3 : Array (Option Value)} {f3 : Addr} {oc4 kV4 dc4 pm4 cd4 ct4 : Value} {od4 an4 : Option Addr} {sl4 : Array (Option Value)} {f4 : Addr} {oc5 kV5 dc5 pm5 cd5 ct5 : Value} {od5 an5 : Option Addr} {sl5 : Array (Option Value)} {f5 : Addr} {oc6 kV6 dc6 pm6 cd6 ct6 : Value} {od6 an6 : Option Addr} {sl6 : Array (Option Value)} {f6 : Addr} {oc7 kV7 dc7 pm7 cd7 ct7 : Value} {od7 an7 : Option Addr} {sl7 : Array (Option Value)} {f7 : Addr} {oc8 kV8 dc8 pm8 cd8 ct8 : Value} {od8 an8 : Option Addr} {sl8 : Array (Option Value)} {f8 : Addr} {oc9 kV9 dc9 pm9 cd9 ct9 : Value} {od9 an9 : Option Addr} {sl9 : Array (Option Value)} {f9 : Addr} {oc10 kV10 dc10 pm10 cd10 ct10 : Value} {od10 an10 : Option Addr} {sl10 : Array (Option Value)} {f10 : Addr} {oc11 kV11 dc11 pm11 cd11 ct11 : Value} {od11 an11 : Option Addr} {sl11 : Array (Option Value)} {f11 : Addr} {oc12 kV12 dc12 pm12 cd12 ct12 : Value} {od12 an12 : Option Addr} {sl12 : Array (Option Value)} {f12 : Addr} {oc13 kV13 dc13 pm13 cd13 ct13 : Value} {od13 an13 : Option Addr} {sl13 : Array (Option Value)} {f13 : Addr} {oc14 kV14 dc14 pm14 cd14 ct14 : Value} {od14 an14 : Option Addr} {sl14 : Array (Option Value)} {f14 : Addr} {oc15 kV15 dc15 pm15 cd15 ct15 : Value} {od15 an15 : Option Addr} {sl15 : Array (Option Value)} {f15 : Addr} {oc16 kV16 dc16 pm16 cd16 ct16 : Value} {od16 an16 : Option Addr} {sl16 : Array (Option Value)} {f16 : Addr} {oc17 kV17 dc17 pm17 cd17 ct17 : Value} {od17 an17 : Option Addr} {sl17 : Array (Option Value)} {f17 : Addr} {oc18 kV18 dc18 pm18 cd18 ct18 : Value} {od18 an18 : Option Addr} {sl18 : Array (Option Value)} {f18 : Addr} {oc19 kV19 dc19 pm19 cd19 ct19 : Value} {od19 an19 : Option Addr} {sl19 : Array (Option Value)} {f19 : Addr} {oc20 kV20 dc20 pm20 cd20 ct20 : Value} {od20 an20 : Option Addr} {sl20 : Array (Option Value)} {f20 : Addr} {oc21 kV21 dc21 pm21 cd21 ct21 : Value} {od21 an21 : Option Addr} {sl21 : Array (Option Value)} {f21 : Addr} {oc22 kV22 dc22 pm22 cd22 ct22 : Value} {od22 an22 : Option Addr} {sl22 : Array (Option Value)} {f22 : Addr} {oc23 kV23 dc23 pm23 cd23 ct23 : Value} {od23 an23 : Option Addr} {sl23 : Array (Option Value)} {f23 : Addr} {pI pS : Addr} {tkC0 : Tok} {tkC1 : Tok} {tkC2 : Tok} {tkC3 : Tok} {rspI : List Value} {rspS : List Value} {ocI kVI dcI pmI cdI ctI : Value} {odI anI : Option Addr} {slI : Array (Option Value)} {fI : Addr} {ocP kVP dcP pmP cdP ctP : Value} {odP anP : Option Addr} {slP : Array (Option Value)} {fP : Addr} {ocS kVS dcS pmS cdS ctS : Value} {odS anS : Option Addr} {slS : Array (Option Value)} {fS : Addr} {ocMmv kVMmv dcMmv pmMmv cdMmv ctMmv : Value} {odMmv anMmv : Option Addr} {slMmv : Array (Option Value)} {fMmv : Addr} {tkM : Tok} {XFrame : Addr} {XImpossible : Addr} {XLogError : Addr} {XNoIndex : Addr} {XNoItem : Addr} {XNoList : Addr} {XNoLog : Addr} {XNoText : Addr} {ocNFrame kVNFrame dcNFrame pmNFrame cdNFrame ctNFrame : Value} {odNFrame anNFrame : Option Addr} {slNFrame : Array (Option Value)} {fNFrame : Addr} {ocWFrame_room kVWFrame_room dcWFrame_room pmWFrame_room cdWFrame_room ctWFrame_room : Value} {odWFrame_room anWFrame_room : Option Addr} {slWFrame_room : Array (Option Value)} {fWFrame_room : Addr} {ocWFrame_shift kVWFrame_shift dcWFrame_shift pmWFrame_shift cdWFrame_shift ctWFrame_shift : Value} {odWFrame_shift anWFrame_shift : Option Addr} {slWFrame_shift : Array (Option Value)} {fWFrame_shift : Addr} {ocWFrame_bounds kVWFrame_bounds dcWFrame_bounds pmWFrame_bounds cdWFrame_bounds ctWFrame_bounds : Value} {odWFrame_bounds anWFrame_bounds : Option Addr} {slWFrame_bounds : Array (Option Value)} {fWFrame_bounds : Addr} {tk_FRONTED : Tok} {tk_INSERTED : Tok} {tk_LETTERS : Tok} {tk_MOST_ITEMS : Tok} {tk_MOST_LETTERS : Tok} {tk_MOST_LOG : Tok} {tk_REMOVED : Tok}
    (a0 : PySem.W.nsIn K mainGlobals "is_integer" = some (some (.ref f0)))
    (l0 : K.lookup f0 = some ⟨oc0, od0, .func (PySem.W.fnOf "is_integer" "is_integer" (defArgs s_is_integer) (defBody s_is_integer) (defScope s_is_integer) .none kV0 dc0 pm0 an0 cd0 ct0), sl0⟩)
    (c0 : PySem.W.codeIn K cd0 "is_integer" = true)
    (k0 : PySem.W.keepIn K (.ref f0) = true)
    (a1 : PySem.W.nsIn K mainGlobals "is_item" = some (some (.ref f1)))
    (l1 : K.lookup f1 = some ⟨oc1, od1, .func (PySem.W.fnOf "is_item" "is_item" (defArgs s_is_item) (defBody s_is_item) (defScope s_is_item) .none kV1 dc1 pm1 an1 cd1 ct1), sl1⟩)
    (c1 : PySem.W.codeIn K cd1 "is_item" = true)
    (k1 : PySem.W.keepIn K (.ref f1) = true)
    (a2 : PySem.W.nsIn K mainGlobals "are_records" = some (some (.ref f2)))
    (l2 : K.lookup f2 = some ⟨oc2, od2, .func (PySem.W.fnOf "are_records" "are_records" (defArgs s_are_records) (defBody s_are_records) (defScope s_are_records) .none kV2 dc2 pm2 an2 cd2 ct2), sl2⟩)
    (c2 : PySem.W.codeIn K cd2 "are_records" = true)
    (k2 : PySem.W.keepIn K (.ref f2) = true)
    (a3 : PySem.W.nsIn K mainGlobals "sign_of" = some (some (.ref f3)))
    (l3 : K.lookup f3 = some ⟨oc3, od3, .func (PySem.W.fnOf "sign_of" "sign_of" (defArgs s_sign_of) (defBody s_sign_of) (defScope s_sign_of) .none kV3 dc3 pm3 an3 cd3 ct3), sl3⟩)
    (c3 : PySem.W.codeIn K cd3 "sign_of" = true)
    (k3 : PySem.W.keepIn K (.ref f3) = true)
    (a4 : PySem.W.nsIn K mainGlobals "items_of" = some (some (.ref f4)))
    (l4 : K.lookup f4 = some ⟨oc4, od4, .func (PySem.W.fnOf "items_of" "items_of" (defArgs s_items_of) (defBody s_items_of) (defScope s_items_of) .none kV4 dc4 pm4 an4 cd4 ct4), sl4⟩)
    (c4 : PySem.W.codeIn K cd4 "items_of" = true)
    (k4 : PySem.W.keepIn K (.ref f4) = true)
    (a5 : PySem.W.nsIn K mainGlobals "is_log" = some (some (.ref f5)))
    (l5 : K.lookup f5 = some ⟨oc5, od5, .func (PySem.W.fnOf "is_log" "is_log" (defArgs s_is_log) (defBody s_is_log) (defScope s_is_log) .none kV5 dc5 pm5 an5 cd5 ct5), sl5⟩)
    (c5 : PySem.W.codeIn K cd5 "is_log" = true)
    (k5 : PySem.W.keepIn K (.ref f5) = true)
    (a6 : PySem.W.nsIn K mainGlobals "need_log" = some (some (.ref f6)))
    (l6 : K.lookup f6 = some ⟨oc6, od6, .func (PySem.W.fnOf "need_log" "need_log" (defArgs s_need_log) (defBody s_need_log) (defScope s_need_log) .none kV6 dc6 pm6 an6 cd6 ct6), sl6⟩)
    (c6 : PySem.W.codeIn K cd6 "need_log" = true)
    (k6 : PySem.W.keepIn K (.ref f6) = true)
    (a7 : PySem.W.nsIn K mainGlobals "are_items" = some (some (.ref f7)))
    (l7 : K.lookup f7 = some ⟨oc7, od7, .func (PySem.W.fnOf "are_items" "are_items" (defArgs s_are_items) (defBody s_are_items) (defScope s_are_items) .none kV7 dc7 pm7 an7 cd7 ct7), sl7⟩)
    (c7 : PySem.W.codeIn K cd7 "are_items" = true)
    (k7 : PySem.W.keepIn K (.ref f7) = true)
    (a8 : PySem.W.nsIn K mainGlobals "need_known" = some (some (.ref f8)))
    (l8 : K.lookup f8 = some ⟨oc8, od8, .func (PySem.W.fnOf "need_known" "need_known" (defArgs s_need_known) (defBody s_need_known) (defScope s_need_known) .none kV8 dc8 pm8 an8 cd8 ct8), sl8⟩)
    (c8 : PySem.W.codeIn K cd8 "need_known" = true)
    (k8 : PySem.W.keepIn K (.ref f8) = true)
    (a9 : PySem.W.nsIn K mainGlobals "framed_log" = some (some (.ref f9)))
    (l9 : K.lookup f9 = some ⟨oc9, od9, .func (PySem.W.fnOf "framed_log" "framed_log" (defArgs s_framed_log) (defBody s_framed_log) (defScope s_framed_log) .none kV9 dc9 pm9 an9 cd9 ct9), sl9⟩)
    (c9 : PySem.W.codeIn K cd9 "framed_log" = true)
    (k9 : PySem.W.keepIn K (.ref f9) = true)
    (a10 : PySem.W.nsIn K mainGlobals "made" = some (some (.ref f10)))
    (l10 : K.lookup f10 = some ⟨oc10, od10, .func (PySem.W.fnOf "made" "made" (defArgs s_made) (defBody s_made) (defScope s_made) .none kV10 dc10 pm10 an10 cd10 ct10), sl10⟩)
    (c10 : PySem.W.codeIn K cd10 "made" = true)
    (k10 : PySem.W.keepIn K (.ref f10) = true)
    (a11 : PySem.W.nsIn K mainGlobals "wrong_items" = some (some (.ref f11)))
    (l11 : K.lookup f11 = some ⟨oc11, od11, .func (PySem.W.fnOf "wrong_items" "wrong_items" (defArgs s_wrong_items) (defBody s_wrong_items) (defScope s_wrong_items) .none kV11 dc11 pm11 an11 cd11 ct11), sl11⟩)
    (c11 : PySem.W.codeIn K cd11 "wrong_items" = true)
    (k11 : PySem.W.keepIn K (.ref f11) = true)
    (a12 : PySem.W.nsIn K mainGlobals "nearest" = some (some (.ref f12)))
    (l12 : K.lookup f12 = some ⟨oc12, od12, .func (PySem.W.fnOf "nearest" "nearest" (defArgs s_nearest) (defBody s_nearest) (defScope s_nearest) .none kV12 dc12 pm12 an12 cd12 ct12), sl12⟩)
    (c12 : PySem.W.codeIn K cd12 "nearest" = true)
    (k12 : PySem.W.keepIn K (.ref f12) = true)
    (a13 : PySem.W.nsIn K mainGlobals "_law_tape" = some (some (.ref f13)))
    (l13 : K.lookup f13 = some ⟨oc13, od13, .func (PySem.W.fnOf "_law_tape" "_law_tape" (defArgs s_law_tape) (defBody s_law_tape) (defScope s_law_tape) .none kV13 dc13 pm13 an13 cd13 ct13), sl13⟩)
    (c13 : PySem.W.codeIn K cd13 "_law_tape" = true)
    (k13 : PySem.W.keepIn K (.ref f13) = true)
    (a14 : PySem.W.nsIn K mainGlobals "_law_next" = some (some (.ref f14)))
    (l14 : K.lookup f14 = some ⟨oc14, od14, .func (PySem.W.fnOf "_law_next" "_law_next" (defArgs s_law_next) (defBody s_law_next) (defScope s_law_next) .none kV14 dc14 pm14 an14 cd14 ct14), sl14⟩)
    (c14 : PySem.W.codeIn K cd14 "_law_next" = true)
    (k14 : PySem.W.keepIn K (.ref f14) = true)
    (a15 : PySem.W.nsIn K mainGlobals "_law_items" = some (some (.ref f15)))
    (l15 : K.lookup f15 = some ⟨oc15, od15, .func (PySem.W.fnOf "_law_items" "_law_items" (defArgs s_law_items) (defBody s_law_items) (defScope s_law_items) .none kV15 dc15 pm15 an15 cd15 ct15), sl15⟩)
    (c15 : PySem.W.codeIn K cd15 "_law_items" = true)
    (k15 : PySem.W.keepIn K (.ref f15) = true)
    (a16 : PySem.W.nsIn K mainGlobals "_law_made" = some (some (.ref f16)))
    (l16 : K.lookup f16 = some ⟨oc16, od16, .func (PySem.W.fnOf "_law_made" "_law_made" (defArgs s_law_made) (defBody s_law_made) (defScope s_law_made) .none kV16 dc16 pm16 an16 cd16 ct16), sl16⟩)
    (c16 : PySem.W.codeIn K cd16 "_law_made" = true)
    (k16 : PySem.W.keepIn K (.ref f16) = true)
    (a17 : PySem.W.nsIn K mainGlobals "_law_facts" = some (some (.ref f17)))
    (l17 : K.lookup f17 = some ⟨oc17, od17, .func (PySem.W.fnOf "_law_facts" "_law_facts" (defArgs s_law_facts) (defBody s_law_facts) (defScope s_law_facts) .none kV17 dc17 pm17 an17 cd17 ct17), sl17⟩)
    (c17 : PySem.W.codeIn K cd17 "_law_facts" = true)
    (k17 : PySem.W.keepIn K (.ref f17) = true)
    (a18 : PySem.W.nsIn K mainGlobals "_law_drawn" = some (some (.ref f18)))
    (l18 : K.lookup f18 = some ⟨oc18, od18, .func (PySem.W.fnOf "_law_drawn" "_law_drawn" (defArgs s_law_drawn) (defBody s_law_drawn) (defScope s_law_drawn) .none kV18 dc18 pm18 an18 cd18 ct18), sl18⟩)
    (c18 : PySem.W.codeIn K cd18 "_law_drawn" = true)
    (k18 : PySem.W.keepIn K (.ref f18) = true)
    (a19 : PySem.W.nsIn K mainGlobals "_law_told" = some (some (.ref f19)))
    (l19 : K.lookup f19 = some ⟨oc19, od19, .func (PySem.W.fnOf "_law_told" "_law_told" (defArgs s_law_told) (defBody s_law_told) (defScope s_law_told) .none kV19 dc19 pm19 an19 cd19 ct19), sl19⟩)
    (c19 : PySem.W.codeIn K cd19 "_law_told" = true)
    (k19 : PySem.W.keepIn K (.ref f19) = true)
    (a20 : PySem.W.nsIn K mainGlobals "_law_bounds" = some (some (.ref f20)))
    (l20 : K.lookup f20 = some ⟨oc20, od20, .func (PySem.W.fnOf "_law_bounds" "_law_bounds" (defArgs s_law_bounds) (defBody s_law_bounds) (defScope s_law_bounds) .none kV20 dc20 pm20 an20 cd20 ct20), sl20⟩)
    (c20 : PySem.W.codeIn K cd20 "_law_bounds" = true)
    (k20 : PySem.W.keepIn K (.ref f20) = true)
    (a21 : PySem.W.nsIn K mainGlobals "_law_changed" = some (some (.ref f21)))
    (l21 : K.lookup f21 = some ⟨oc21, od21, .func (PySem.W.fnOf "_law_changed" "_law_changed" (defArgs s_law_changed) (defBody s_law_changed) (defScope s_law_changed) .none kV21 dc21 pm21 an21 cd21 ct21), sl21⟩)
    (c21 : PySem.W.codeIn K cd21 "_law_changed" = true)
    (k21 : PySem.W.keepIn K (.ref f21) = true)
    (a22 : PySem.W.nsIn K mainGlobals "_law_right" = some (some (.ref f22)))
    (l22 : K.lookup f22 = some ⟨oc22, od22, .func (PySem.W.fnOf "_law_right" "_law_right" (defArgs s_law_right) (defBody s_law_right) (defScope s_law_right) .none kV22 dc22 pm22 an22 cd22 ct22), sl22⟩)
    (c22 : PySem.W.codeIn K cd22 "_law_right" = true)
    (k22 : PySem.W.keepIn K (.ref f22) = true)
    (a23 : PySem.W.nsIn K mainGlobals "law" = some (some (.ref f23)))
    (l23 : K.lookup f23 = some ⟨oc23, od23, .func (PySem.W.fnOf "law" "law" (defArgs s_law) (defBody s_law) (defScope s_law) .none kV23 dc23 pm23 an23 cd23 ct23), sl23⟩)
    (c23 : PySem.W.codeIn K cd23 "law" = true)
    (k23 : PySem.W.keepIn K (.ref f23) = true)
    (ocg : PySem.W.specialIn K (.builtin "object.__class__") "__get__" = some (some (.builtin "getset_descriptor.__get__")))
    (oct : PySem.W.takesIn K (.builtin "object.__class__") = some true)
    (nC0 : PySem.W.nsIn K mainGlobals "Inserted" = some (some (.ref C0)))
    (pgC0 : PySem.W.plainGet K C0 Str.empty = true)
    (hdC0 : PySem.W.hasDictIn K C0 = true)
    (poC0 : PySem.W.plainOver K C0 = true)
    (saC0 : PySem.W.findIn K (.ref C0) "__setattr__" = some (some (.builtin "object.__setattr__")))
    (ocC0 : PySem.W.findIn K (.ref C0) "__class__" = some (some (.builtin "object.__class__")))
    (moC0 : PySem.W.mroIn K C0 (.type "object") = some true)
    (mkC0 : PySem.W.makesIn K C0 = true)
    (kcC0 : PySem.W.keepIn K (.ref C0) = true)
    (inC0 : PySem.W.findIn K (.ref C0) "__init__" = some (some (.ref fI)))
    (itC0 : PySem.W.findIn K (.ref C0) "item" = some (some (.ref pI)))
    (stC0 : PySem.W.findIn K (.ref C0) "slot" = some (some (.ref pS)))
    (niC0 : PySem.W.findIn K (.ref C0) "held_item" = some none)
    (nsC0 : PySem.W.findIn K (.ref C0) "held_slot" = some none)
    (sgC0 : PySem.W.findIn K (.ref C0) "SIGN" = some (some (.str "+" tkC0)))
    (spC0 : PySem.W.specialIn K (.str "+" tkC0) "__get__" = some none)
    (mmvC0 : PySem.W.findIn K (.ref C0) "move_to" = some (some (.ref fMmv)))
    (nC1 : PySem.W.nsIn K mainGlobals "Removed" = some (some (.ref C1)))
    (pgC1 : PySem.W.plainGet K C1 Str.empty = true)
    (hdC1 : PySem.W.hasDictIn K C1 = true)
    (poC1 : PySem.W.plainOver K C1 = true)
    (saC1 : PySem.W.findIn K (.ref C1) "__setattr__" = some (some (.builtin "object.__setattr__")))
    (ocC1 : PySem.W.findIn K (.ref C1) "__class__" = some (some (.builtin "object.__class__")))
    (moC1 : PySem.W.mroIn K C1 (.type "object") = some true)
    (mkC1 : PySem.W.makesIn K C1 = true)
    (kcC1 : PySem.W.keepIn K (.ref C1) = true)
    (inC1 : PySem.W.findIn K (.ref C1) "__init__" = some (some (.ref fI)))
    (itC1 : PySem.W.findIn K (.ref C1) "item" = some (some (.ref pI)))
    (stC1 : PySem.W.findIn K (.ref C1) "slot" = some (some (.ref pS)))
    (niC1 : PySem.W.findIn K (.ref C1) "held_item" = some none)
    (nsC1 : PySem.W.findIn K (.ref C1) "held_slot" = some none)
    (sgC1 : PySem.W.findIn K (.ref C1) "SIGN" = some (some (.str "-" tkC1)))
    (spC1 : PySem.W.specialIn K (.str "-" tkC1) "__get__" = some none)
    (mmvC1 : PySem.W.findIn K (.ref C1) "move_to" = some (some (.ref fMmv)))
    (nC2 : PySem.W.nsIn K mainGlobals "Fronted" = some (some (.ref C2)))
    (pgC2 : PySem.W.plainGet K C2 Str.empty = true)
    (hdC2 : PySem.W.hasDictIn K C2 = true)
    (poC2 : PySem.W.plainOver K C2 = true)
    (saC2 : PySem.W.findIn K (.ref C2) "__setattr__" = some (some (.builtin "object.__setattr__")))
    (ocC2 : PySem.W.findIn K (.ref C2) "__class__" = some (some (.builtin "object.__class__")))
    (moC2 : PySem.W.mroIn K C2 (.type "object") = some true)
    (mkC2 : PySem.W.makesIn K C2 = true)
    (kcC2 : PySem.W.keepIn K (.ref C2) = true)
    (inC2 : PySem.W.findIn K (.ref C2) "__init__" = some (some (.ref fI)))
    (itC2 : PySem.W.findIn K (.ref C2) "item" = some (some (.ref pI)))
    (stC2 : PySem.W.findIn K (.ref C2) "slot" = some (some (.ref pS)))
    (niC2 : PySem.W.findIn K (.ref C2) "held_item" = some none)
    (nsC2 : PySem.W.findIn K (.ref C2) "held_slot" = some none)
    (sgC2 : PySem.W.findIn K (.ref C2) "SIGN" = some (some (.str "^" tkC2)))
    (spC2 : PySem.W.specialIn K (.str "^" tkC2) "__get__" = some none)
    (mmvC2 : PySem.W.findIn K (.ref C2) "move_to" = some (some (.ref fMmv)))
    (nC3 : PySem.W.nsIn K mainGlobals "Record" = some (some (.ref C3)))
    (pgC3 : PySem.W.plainGet K C3 Str.empty = true)
    (hdC3 : PySem.W.hasDictIn K C3 = true)
    (poC3 : PySem.W.plainOver K C3 = true)
    (saC3 : PySem.W.findIn K (.ref C3) "__setattr__" = some (some (.builtin "object.__setattr__")))
    (ocC3 : PySem.W.findIn K (.ref C3) "__class__" = some (some (.builtin "object.__class__")))
    (moC3 : PySem.W.mroIn K C3 (.type "object") = some true)
    (mkC3 : PySem.W.makesIn K C3 = true)
    (kcC3 : PySem.W.keepIn K (.ref C3) = true)
    (inC3 : PySem.W.findIn K (.ref C3) "__init__" = some (some (.ref fI)))
    (itC3 : PySem.W.findIn K (.ref C3) "item" = some (some (.ref pI)))
    (stC3 : PySem.W.findIn K (.ref C3) "slot" = some (some (.ref pS)))
    (niC3 : PySem.W.findIn K (.ref C3) "held_item" = some none)
    (nsC3 : PySem.W.findIn K (.ref C3) "held_slot" = some none)
    (sgC3 : PySem.W.findIn K (.ref C3) "SIGN" = some (some (.str "" tkC3)))
    (spC3 : PySem.W.specialIn K (.str "" tkC3) "__get__" = some none)
    (mmvC3 : PySem.W.findIn K (.ref C3) "move_to" = some (some (.ref fMmv)))
    (gtpI : PySem.W.specialIn K (.ref pI) "__get__" = some (some (.builtin "property.__get__")))
    (tkpI : PySem.W.takesIn K (.ref pI) = some true)
    (rcpI : PySem.W.recIn K pI "property" = some (.ref fP :: rspI))
    (gtpS : PySem.W.specialIn K (.ref pS) "__get__" = some (some (.builtin "property.__get__")))
    (tkpS : PySem.W.takesIn K (.ref pS) = some true)
    (rcpS : PySem.W.recIn K pS "property" = some (.ref fS :: rspS))
    (lI : K.lookup fI = some ⟨ocI, odI, .func (PySem.W.fnOf "__init__" "Record.__init__" (defArgs s_Record_init) (defBody s_Record_init) (defScope s_Record_init) .none kVI dcI pmI anI cdI ctI), slI⟩)
    (cI : PySem.W.codeIn K cdI "Record.__init__" = true)
    (kI : PySem.W.keepIn K (.ref fI) = true)
    (lP : K.lookup fP = some ⟨ocP, odP, .func (PySem.W.fnOf "item" "Record.item" (defArgs s_Record_item) (defBody s_Record_item) (defScope s_Record_item) .none kVP dcP pmP anP cdP ctP), slP⟩)
    (cP : PySem.W.codeIn K cdP "Record.item" = true)
    (kP : PySem.W.keepIn K (.ref fP) = true)
    (lS : K.lookup fS = some ⟨ocS, odS, .func (PySem.W.fnOf "slot" "Record.slot" (defArgs s_Record_slot) (defBody s_Record_slot) (defScope s_Record_slot) .none kVS dcS pmS anS cdS ctS), slS⟩)
    (cS : PySem.W.codeIn K cdS "Record.slot" = true)
    (kS : PySem.W.keepIn K (.ref fS) = true)
    (lMmv : K.lookup fMmv = some ⟨ocMmv, odMmv, .func (PySem.W.fnOf "move_to" "Record.move_to" (defArgs s_Record_move_to) (defBody s_Record_move_to) (defScope s_Record_move_to) .none kVMmv dcMmv pmMmv anMmv cdMmv ctMmv), slMmv⟩)
    (cMmv : PySem.W.codeIn K cdMmv "Record.move_to" = true)
    (kMmv : PySem.W.keepIn K (.ref fMmv) = true)
    (iI : PySem.W.isFn K (.ref fI) = true)
    (iMmv : PySem.W.isFn K (.ref fMmv) = true)
    (kt00 : PySem.W.subIn K (.ref C0) (.ref C0) = some true)
    (kt01 : PySem.W.subIn K (.ref C0) (.ref C1) = some false)
    (kt02 : PySem.W.subIn K (.ref C0) (.ref C2) = some false)
    (kt03 : PySem.W.subIn K (.ref C0) (.ref C3) = some true)
    (kt10 : PySem.W.subIn K (.ref C1) (.ref C0) = some false)
    (kt11 : PySem.W.subIn K (.ref C1) (.ref C1) = some true)
    (kt12 : PySem.W.subIn K (.ref C1) (.ref C2) = some false)
    (kt13 : PySem.W.subIn K (.ref C1) (.ref C3) = some true)
    (kt20 : PySem.W.subIn K (.ref C2) (.ref C0) = some false)
    (kt21 : PySem.W.subIn K (.ref C2) (.ref C1) = some false)
    (kt22 : PySem.W.subIn K (.ref C2) (.ref C2) = some true)
    (kt23 : PySem.W.subIn K (.ref C2) (.ref C3) = some true)
    (kt30 : PySem.W.subIn K (.ref C3) (.ref C0) = some false)
    (kt31 : PySem.W.subIn K (.ref C3) (.ref C1) = some false)
    (kt32 : PySem.W.subIn K (.ref C3) (.ref C2) = some false)
    (kt33 : PySem.W.subIn K (.ref C3) (.ref C3) = some true)
    (ic0 : PySem.W.isClsIn K C0 = true)
    (tc0 : PySem.W.typeIn K (.ref C0) = some (.type "type"))
    (ic1 : PySem.W.isClsIn K C1 = true)
    (tc1 : PySem.W.typeIn K (.ref C1) = some (.type "type"))
    (ic2 : PySem.W.isClsIn K C2 = true)
    (tc2 : PySem.W.typeIn K (.ref C2) = some (.type "type"))
    (ic3 : PySem.W.isClsIn K C3 = true)
    (tc3 : PySem.W.typeIn K (.ref C3) = some (.type "type"))
    (rdR : PySem.W.readsIn K C3 (.type "type") = true)
    (gaR : PySem.W.specialIn K (.ref C3) "__getattribute__" = some (some (.builtin "type.__getattribute__")))
    (msR : PySem.W.findCls K (.ref C3) (.type "type") "MOST" = some (.val (.int 60 tkM)))
    (xFrame : PySem.W.nsIn K mainGlobals "Frame" = some (some (.ref XFrame)))
    (xImpossible : PySem.W.nsIn K mainGlobals "Impossible" = some (some (.ref XImpossible)))
    (xLogError : PySem.W.nsIn K mainGlobals "LogError" = some (some (.ref XLogError)))
    (xNoIndex : PySem.W.nsIn K mainGlobals "NoIndex" = some (some (.ref XNoIndex)))
    (xNoItem : PySem.W.nsIn K mainGlobals "NoItem" = some (some (.ref XNoItem)))
    (xNoList : PySem.W.nsIn K mainGlobals "NoList" = some (some (.ref XNoList)))
    (xNoLog : PySem.W.nsIn K mainGlobals "NoLog" = some (some (.ref XNoLog)))
    (xNoText : PySem.W.nsIn K mainGlobals "NoText" = some (some (.ref XNoText)))
    (pgXFrame : PySem.W.plainGet K XFrame Str.empty = true)
    (hdXFrame : PySem.W.hasDictIn K XFrame = true)
    (poXFrame : PySem.W.plainOver K XFrame = true)
    (saXFrame : PySem.W.findIn K (.ref XFrame) "__setattr__" = some (some (.builtin "object.__setattr__")))
    (mkXFrame : PySem.W.makesIn K XFrame = true)
    (kcXFrame : PySem.W.keepIn K (.ref XFrame) = true)
    (inXFrame : PySem.W.findIn K (.ref XFrame) "__init__" = some (some (.ref fNFrame)))
    (nfFrame_by_item : PySem.W.findIn K (.ref XFrame) "by_item" = some none)
    (nfFrame_marked : PySem.W.findIn K (.ref XFrame) "marked" = some none)
    (nfFrame_places : PySem.W.findIn K (.ref XFrame) "places" = some none)
    (nfFrame_is_fronted : PySem.W.findIn K (.ref XFrame) "is_fronted" = some none)
    (mmFrame_room : PySem.W.findIn K (.ref XFrame) "room" = some (some (.ref fWFrame_room)))
    (mmFrame_shift : PySem.W.findIn K (.ref XFrame) "shift" = some (some (.ref fWFrame_shift)))
    (mmFrame_bounds : PySem.W.findIn K (.ref XFrame) "bounds" = some (some (.ref fWFrame_bounds)))
    (lNFrame : K.lookup fNFrame = some ⟨ocNFrame, odNFrame, .func (PySem.W.fnOf "__init__" "Frame.__init__" (defArgs s_Frame_init) (defBody s_Frame_init) (defScope s_Frame_init) .none kVNFrame dcNFrame pmNFrame anNFrame cdNFrame ctNFrame), slNFrame⟩)
    (cNFrame : PySem.W.codeIn K cdNFrame "Frame.__init__" = true)
    (kNFrame : PySem.W.keepIn K (.ref fNFrame) = true)
    (iNFrame : PySem.W.isFn K (.ref fNFrame) = true)
    (lWFrame_room : K.lookup fWFrame_room = some ⟨ocWFrame_room, odWFrame_room, .func (PySem.W.fnOf "room" "Frame.room" (defArgs s_Frame_room) (defBody s_Frame_room) (defScope s_Frame_room) .none kVWFrame_room dcWFrame_room pmWFrame_room anWFrame_room cdWFrame_room ctWFrame_room), slWFrame_room⟩)
    (cWFrame_room : PySem.W.codeIn K cdWFrame_room "Frame.room" = true)
    (kWFrame_room : PySem.W.keepIn K (.ref fWFrame_room) = true)
    (iWFrame_room : PySem.W.isFn K (.ref fWFrame_room) = true)
    (lWFrame_shift : K.lookup fWFrame_shift = some ⟨ocWFrame_shift, odWFrame_shift, .func (PySem.W.fnOf "shift" "Frame.shift" (defArgs s_Frame_shift) (defBody s_Frame_shift) (defScope s_Frame_shift) .none kVWFrame_shift dcWFrame_shift pmWFrame_shift anWFrame_shift cdWFrame_shift ctWFrame_shift), slWFrame_shift⟩)
    (cWFrame_shift : PySem.W.codeIn K cdWFrame_shift "Frame.shift" = true)
    (kWFrame_shift : PySem.W.keepIn K (.ref fWFrame_shift) = true)
    (iWFrame_shift : PySem.W.isFn K (.ref fWFrame_shift) = true)
    (lWFrame_bounds : K.lookup fWFrame_bounds = some ⟨ocWFrame_bounds, odWFrame_bounds, .func (PySem.W.fnOf "bounds" "Frame.bounds" (defArgs s_Frame_bounds) (defBody s_Frame_bounds) (defScope s_Frame_bounds) .none kVWFrame_bounds dcWFrame_bounds pmWFrame_bounds anWFrame_bounds cdWFrame_bounds ctWFrame_bounds), slWFrame_bounds⟩)
    (cWFrame_bounds : PySem.W.codeIn K cdWFrame_bounds "Frame.bounds" = true)
    (kWFrame_bounds : PySem.W.keepIn K (.ref fWFrame_bounds) = true)
    (iWFrame_bounds : PySem.W.isFn K (.ref fWFrame_bounds) = true)
    (b_abs : PySem.W.nsIn K mainGlobals "abs" = some none)
    (b_all : PySem.W.nsIn K mainGlobals "all" = some none)
    (b_bool : PySem.W.nsIn K mainGlobals "bool" = some none)
    (b_int : PySem.W.nsIn K mainGlobals "int" = some none)
    (b_isinstance : PySem.W.nsIn K mainGlobals "isinstance" = some none)
    (b_len : PySem.W.nsIn K mainGlobals "len" = some none)
    (b_list : PySem.W.nsIn K mainGlobals "list" = some none)
    (b_max : PySem.W.nsIn K mainGlobals "max" = some none)
    (b_min : PySem.W.nsIn K mainGlobals "min" = some none)
    (b_range : PySem.W.nsIn K mainGlobals "range" = some none)
    (b_repr : PySem.W.nsIn K mainGlobals "repr" = some none)
    (b_set : PySem.W.nsIn K mainGlobals "set" = some none)
    (b_sorted : PySem.W.nsIn K mainGlobals "sorted" = some none)
    (b_str : PySem.W.nsIn K mainGlobals "str" = some none)
    (v_FRONTED : PySem.W.nsIn K mainGlobals "FRONTED" = some (some (.str "^" tk_FRONTED)))
    (v_INSERTED : PySem.W.nsIn K mainGlobals "INSERTED" = some (some (.str "+" tk_INSERTED)))
    (v_LETTERS : PySem.W.nsIn K mainGlobals "LETTERS" = some (some (.str "abcdefghijklmnopqrstuvwxyz" tk_LETTERS)))
    (v_MOST_ITEMS : PySem.W.nsIn K mainGlobals "MOST_ITEMS" = some (some (.int 60 tk_MOST_ITEMS)))
    (v_MOST_LETTERS : PySem.W.nsIn K mainGlobals "MOST_LETTERS" = some (some (.int 8 tk_MOST_LETTERS)))
    (v_MOST_LOG : PySem.W.nsIn K mainGlobals "MOST_LOG" = some (some (.int 40 tk_MOST_LOG)))
    (v_REMOVED : PySem.W.nsIn K mainGlobals "REMOVED" = some (some (.str "-" tk_REMOVED))) :
    ∃ fd : FuncData, (∀ (s : Shared) (v : Value), BindsTo s fd ⟨[v], []⟩ [("_law_script", v)]) ∧ ∀ base : Heap, K.In base → base.Ns mainGlobals mg → FnG l.prog w K mg base 9 fa fd ["_law_script"] (sp_law K) := by
  have e := hfa.symm.trans (PySem.W.mg_of X G a23)
  cases e
  have F0 := fun_mk (st := s_is_integer) l0 c0 k0
  have B0 := F0.binds (ps := ["thing", "least", "most"]) fun _ _ _ _ _ _ us hl => match us, hl with | [_, _, _], _ => rfl
  have D0 : Df K mg "is_integer" s_is_integer ["thing", "least", "most"] := ⟨_, _, F0, PySem.W.mg_of X G a0, B0⟩
  have F1 := fun_mk (st := s_is_item) l1 c1 k1
  have B1 := F1.binds (ps := ["thing"]) fun _ _ _ _ _ _ us hl => match us, hl with | [_], _ => rfl
  have D1 : Df K mg "is_item" s_is_item ["thing"] := ⟨_, _, F1, PySem.W.mg_of X G a1, B1⟩
  have F2 := fun_mk (st := s_are_records) l2 c2 k2
  have B2 := F2.binds (ps := ["thing", "most"]) fun _ _ _ _ _ _ us hl => match us, hl with | [_, _], _ => rfl
  have D2 : Df K mg "are_records" s_are_records ["thing", "most"] := ⟨_, _, F2, PySem.W.mg_of X G a2, B2⟩
  have F3 := fun_mk (st := s_sign_of) l3 c3 k3
  have B3 := F3.binds (ps := ["log"]) fun _ _ _ _ _ _ us hl => match us, hl with | [_], _ => rfl
  have D3 : Df K mg "sign_of" s_sign_of ["log"] := ⟨_, _, F3, PySem.W.mg_of X G a3, B3⟩
  have F4 := fun_mk (st := s_items_of) l4 c4 k4
  have B4 := F4.binds (ps := ["log"]) fun _ _ _ _ _ _ us hl => match us, hl with | [_], _ => rfl
  have D4 : Df K mg "items_of" s_items_of ["log"] := ⟨_, _, F4, PySem.W.mg_of X G a4, B4⟩
  have F5 := fun_mk (st := s_is_log) l5 c5 k5
  have B5 := F5.binds (ps := ["thing"]) fun _ _ _ _ _ _ us hl => match us, hl with | [_], _ => rfl
  have D5 : Df K mg "is_log" s_is_log ["thing"] := ⟨_, _, F5, PySem.W.mg_of X G a5, B5⟩
  have F6 := fun_mk (st := s_need_log) l6 c6 k6
  have B6 := F6.binds (ps := ["thing"]) fun _ _ _ _ _ _ us hl => match us, hl with | [_], _ => rfl
  have D6 : Df K mg "need_log" s_need_log ["thing"] := ⟨_, _, F6, PySem.W.mg_of X G a6, B6⟩
  have F7 := fun_mk (st := s_are_items) l7 c7 k7
  have B7 := F7.binds (ps := ["thing"]) fun _ _ _ _ _ _ us hl => match us, hl with | [_], _ => rfl
  have D7 : Df K mg "are_items" s_are_items ["thing"] := ⟨_, _, F7, PySem.W.mg_of X G a7, B7⟩
  have F8 := fun_mk (st := s_need_known) l8 c8 k8
  have B8 := F8.binds (ps := ["log", "items"]) fun _ _ _ _ _ _ us hl => match us, hl with | [_, _], _ => rfl
  have D8 : Df K mg "need_known" s_need_known ["log", "items"] := ⟨_, _, F8, PySem.W.mg_of X G a8, B8⟩
  have F9 := fun_mk (st := s_framed_log) l9 c9 k9
  have B9 := F9.binds (ps := ["log", "items"]) fun _ _ _ _ _ _ us hl => match us, hl with | [_, _], _ => rfl
  have D9 : Df K mg "framed_log" s_framed_log ["log", "items"] := ⟨_, _, F9, PySem.W.mg_of X G a9, B9⟩
  have F10 := fun_mk (st := s_made) l10 c10 k10
  have B10 := F10.binds (ps := ["sign", "item", "slot"]) fun _ _ _ _ _ _ us hl => match us, hl with | [_, _, _], _ => rfl
  have D10 : Df K mg "made" s_made ["sign", "item", "slot"] := ⟨_, _, F10, PySem.W.mg_of X G a10, B10⟩
  have F11 := fun_mk (st := s_wrong_items) l11 c11 k11
  have B11 := F11.binds (ps := ["log", "items"]) fun _ _ _ _ _ _ us hl => match us, hl with | [_, _], _ => rfl
  have D11 : Df K mg "wrong_items" s_wrong_items ["log", "items"] := ⟨_, _, F11, PySem.W.mg_of X G a11, B11⟩
  have F12 := fun_mk (st := s_nearest) l12 c12 k12
  have B12 := F12.binds (ps := ["log", "items"]) fun _ _ _ _ _ _ us hl => match us, hl with | [_, _], _ => rfl
  have D12 : Df K mg "nearest" s_nearest ["log", "items"] := ⟨_, _, F12, PySem.W.mg_of X G a12, B12⟩
  have F13 := fun_mk (st := s_law_tape) l13 c13 k13
  have B13 := F13.binds (ps := ["_law_script", "_law_k"]) fun _ _ _ _ _ _ us hl => match us, hl with | [_, _], _ => rfl
  have D13 : Df K mg "_law_tape" s_law_tape ["_law_script", "_law_k"] := ⟨_, _, F13, PySem.W.mg_of X G a13, B13⟩
  have F14 := fun_mk (st := s_law_next) l14 c14 k14
  have B14 := F14.binds (ps := ["_law_tape_here", "_law_size"]) fun _ _ _ _ _ _ us hl => match us, hl with | [_, _], _ => rfl
  have D14 : Df K mg "_law_next" s_law_next ["_law_tape_here", "_law_size"] := ⟨_, _, F14, PySem.W.mg_of X G a14, B14⟩
  have F15 := fun_mk (st := s_law_items) l15 c15 k15
  have B15 := F15.binds (ps := ["_law_tape_here", "_law_many"]) fun _ _ _ _ _ _ us hl => match us, hl with | [_, _], _ => rfl
  have D15 : Df K mg "_law_items" s_law_items ["_law_tape_here", "_law_many"] := ⟨_, _, F15, PySem.W.mg_of X G a15, B15⟩
  have F16 := fun_mk (st := s_law_made) l16 c16 k16
  have B16 := F16.binds (ps := ["_law_kind", "_law_item", "_law_slot"]) fun _ _ _ _ _ _ us hl => match us, hl with | [_, _, _], _ => rfl
  have D16 : Df K mg "_law_made" s_law_made ["_law_kind", "_law_item", "_law_slot"] := ⟨_, _, F16, PySem.W.mg_of X G a16, B16⟩
  have F17 := fun_mk (st := s_law_facts) l17 c17 k17
  have B17 := F17.binds (ps := ["_law_log"]) fun _ _ _ _ _ _ us hl => match us, hl with | [_], _ => rfl
  have D17 : Df K mg "_law_facts" s_law_facts ["_law_log"] := ⟨_, _, F17, PySem.W.mg_of X G a17, B17⟩
  have F18 := fun_mk (st := s_law_drawn) l18 c18 k18
  have B18 := F18.binds (ps := ["_law_tape_here", "_law_items_here", "_law_most"]) fun _ _ _ _ _ _ us hl => match us, hl with | [_, _, _], _ => rfl
  have D18 : Df K mg "_law_drawn" s_law_drawn ["_law_tape_here", "_law_items_here", "_law_most"] := ⟨_, _, F18, PySem.W.mg_of X G a18, B18⟩
  have F19 := fun_mk (st := s_law_told) l19 c19 k19
  have B19 := F19.binds (ps := ["_law_kind", "_law_items_here", "_law_names"]) fun _ _ _ _ _ _ us hl => match us, hl with | [_, _, _], _ => rfl
  have D19 : Df K mg "_law_told" s_law_told ["_law_kind", "_law_items_here", "_law_names"] := ⟨_, _, F19, PySem.W.mg_of X G a19, B19⟩
  have F20 := fun_mk (st := s_law_bounds) l20 c20 k20
  have B20 := F20.binds (ps := ["_law_kind", "_law_items_here", "_law_names", "_law_item"]) fun _ _ _ _ _ _ us hl => match us, hl with | [_, _, _, _], _ => rfl
  have D20 : Df K mg "_law_bounds" s_law_bounds ["_law_kind", "_law_items_here", "_law_names", "_law_item"] := ⟨_, _, F20, PySem.W.mg_of X G a20, B20⟩
  have F21 := fun_mk (st := s_law_changed) l21 c21 k21
  have B21 := F21.binds (ps := ["_law_tape_here", "_law_slot", "_law_bounds_here"]) fun _ _ _ _ _ _ us hl => match us, hl with | [_, _, _], _ => rfl
  have D21 : Df K mg "_law_changed" s_law_changed ["_law_tape_here", "_law_slot", "_law_bounds_here"] := ⟨_, _, F21, PySem.W.mg_of X G a21, B21⟩
  have F22 := fun_mk (st := s_law_right) l22 c22 k22
  have B22 := F22.binds (ps := ["_law_tape_here", "_law_items_here", "_law_names", "_law_kind"]) fun _ _ _ _ _ _ us hl => match us, hl with | [_, _, _, _], _ => rfl
  have D22 : Df K mg "_law_right" s_law_right ["_law_tape_here", "_law_items_here", "_law_names", "_law_kind"] := ⟨_, _, F22, PySem.W.mg_of X G a22, B22⟩
  have F23 := fun_mk (st := s_law) l23 c23 k23
  have B23 := F23.binds (ps := ["_law_script"]) fun _ _ _ _ _ _ us hl => match us, hl with | [_], _ => rfl
  have D23 : Df K mg "law" s_law ["_law_script"] := ⟨_, _, F23, PySem.W.mg_of X G a23, B23⟩
  have FI := fun_mk (st := s_Record_init) lI cI kI
  have BI := FI.binds (ps := ["self", "item", "slot"]) fun _ _ _ _ _ _ us hl => match us, hl with | [_, _, _], _ => rfl
  have FP := fun_mk (st := s_Record_item) lP cP kP
  have BP := FP.binds (ps := ["self"]) fun _ _ _ _ _ _ us hl => match us, hl with | [_], _ => rfl
  have FS := fun_mk (st := s_Record_slot) lS cS kS
  have BS := FS.binds (ps := ["self"]) fun _ _ _ _ _ _ us hl => match us, hl with | [_], _ => rfl
  have FMmv := fun_mk (st := s_Record_move_to) lMmv cMmv kMmv
  have BMmv := FMmv.binds (ps := ["self", "slot"]) fun _ _ _ _ _ _ us hl => match us, hl with | [_, _], _ => rfl
  have FNFrame := fun_mk (st := s_Frame_init) lNFrame cNFrame kNFrame
  have BNFrame := FNFrame.binds (ps := ["self", "log", "items"]) fun _ _ _ _ _ _ us hl => match us, hl with | [_, _, _], _ => rfl
  have FWFrame_room := fun_mk (st := s_Frame_room) lWFrame_room cWFrame_room kWFrame_room
  have BWFrame_room := FWFrame_room.binds (ps := ["self", "item"]) fun _ _ _ _ _ _ us hl => match us, hl with | [_, _], _ => rfl
  have FWFrame_shift := fun_mk (st := s_Frame_shift) lWFrame_shift cWFrame_shift kWFrame_shift
  have BWFrame_shift := FWFrame_shift.binds (ps := ["self", "item"]) fun _ _ _ _ _ _ us hl => match us, hl with | [_, _], _ => rfl
  have FWFrame_bounds := fun_mk (st := s_Frame_bounds) lWFrame_bounds cWFrame_bounds kWFrame_bounds
  have BWFrame_bounds := FWFrame_bounds.binds (ps := ["self", "item"]) fun _ _ _ _ _ _ us hl => match us, hl with | [_, _], _ => rfl
  let A : Ads := { cInserted := C0, cRemoved := C1, cFronted := C2, cRecord := C3, cFrame := XFrame, cImpossible := XImpossible, cLogError := XLogError, cNoIndex := XNoIndex, cNoItem := XNoItem, cNoList := XNoList, cNoLog := XNoLog, cNoText := XNoText }
  have GG : Gm mg A := { g_abs := PySem.W.mg_none_of X G b_abs, g_all := PySem.W.mg_none_of X G b_all, g_bool := PySem.W.mg_none_of X G b_bool, g_int := PySem.W.mg_none_of X G b_int, g_isinstance := PySem.W.mg_none_of X G b_isinstance, g_len := PySem.W.mg_none_of X G b_len, g_list := PySem.W.mg_none_of X G b_list, g_max := PySem.W.mg_none_of X G b_max, g_min := PySem.W.mg_none_of X G b_min, g_range := PySem.W.mg_none_of X G b_range, g_repr := PySem.W.mg_none_of X G b_repr, g_set := PySem.W.mg_none_of X G b_set, g_sorted := PySem.W.mg_none_of X G b_sorted, g_str := PySem.W.mg_none_of X G b_str, g_FRONTED := ⟨_, PySem.W.mg_of X G v_FRONTED, ⟨_, rfl⟩⟩, g_INSERTED := ⟨_, PySem.W.mg_of X G v_INSERTED, ⟨_, rfl⟩⟩, g_LETTERS := ⟨_, PySem.W.mg_of X G v_LETTERS, ⟨_, rfl⟩⟩, g_MOST_ITEMS := ⟨_, PySem.W.mg_of X G v_MOST_ITEMS, ⟨_, rfl⟩⟩, g_MOST_LETTERS := ⟨_, PySem.W.mg_of X G v_MOST_LETTERS, ⟨_, rfl⟩⟩, g_MOST_LOG := ⟨_, PySem.W.mg_of X G v_MOST_LOG, ⟨_, rfl⟩⟩, g_REMOVED := ⟨_, PySem.W.mg_of X G v_REMOVED, ⟨_, rfl⟩⟩, cInserted := PySem.W.mg_of X G nC0, cRemoved := PySem.W.mg_of X G nC1, cFronted := PySem.W.mg_of X G nC2, cRecord := PySem.W.mg_of X G nC3, cFrame := PySem.W.mg_of X G xFrame, cImpossible := PySem.W.mg_of X G xImpossible, cLogError := PySem.W.mg_of X G xLogError, cNoIndex := PySem.W.mg_of X G xNoIndex, cNoItem := PySem.W.mg_of X G xNoItem, cNoList := PySem.W.mg_of X G xNoList, cNoLog := PySem.W.mg_of X G xNoLog, cNoText := PySem.W.mg_of X G xNoText }
  have K0 : Kd K mg A 0 := { cls := ⟨pgC0, hdC0, poC0, saC0⟩, ty := ⟨ocC0, ocg, oct, moC0⟩, made := ⟨_, _, FI, ⟨mkC0, inC0, iI, kcC0⟩, PySem.W.mg_of X G nC0, BI⟩, sign := ⟨_, sgC0, ⟨_, rfl⟩, spC0, by decide +kernel⟩, ni := niC0, ns := nsC0, item := ⟨_, _, _, ⟨itC0, gtpI, tkpI, _, rcpI⟩, FP, BP⟩, slot := ⟨_, _, _, ⟨stC0, gtpS, tkpS, _, rcpS⟩, FS, BS⟩, mv := ⟨⟨pgC0, hdC0, poC0, saC0⟩, _, _, FMmv, ⟨mmvC0, iMmv, kMmv⟩, BMmv⟩ }
  have K1 : Kd K mg A 1 := { cls := ⟨pgC1, hdC1, poC1, saC1⟩, ty := ⟨ocC1, ocg, oct, moC1⟩, made := ⟨_, _, FI, ⟨mkC1, inC1, iI, kcC1⟩, PySem.W.mg_of X G nC1, BI⟩, sign := ⟨_, sgC1, ⟨_, rfl⟩, spC1, by decide +kernel⟩, ni := niC1, ns := nsC1, item := ⟨_, _, _, ⟨itC1, gtpI, tkpI, _, rcpI⟩, FP, BP⟩, slot := ⟨_, _, _, ⟨stC1, gtpS, tkpS, _, rcpS⟩, FS, BS⟩, mv := ⟨⟨pgC1, hdC1, poC1, saC1⟩, _, _, FMmv, ⟨mmvC1, iMmv, kMmv⟩, BMmv⟩ }
  have K2 : Kd K mg A 2 := { cls := ⟨pgC2, hdC2, poC2, saC2⟩, ty := ⟨ocC2, ocg, oct, moC2⟩, made := ⟨_, _, FI, ⟨mkC2, inC2, iI, kcC2⟩, PySem.W.mg_of X G nC2, BI⟩, sign := ⟨_, sgC2, ⟨_, rfl⟩, spC2, by decide +kernel⟩, ni := niC2, ns := nsC2, item := ⟨_, _, _, ⟨itC2, gtpI, tkpI, _, rcpI⟩, FP, BP⟩, slot := ⟨_, _, _, ⟨stC2, gtpS, tkpS, _, rcpS⟩, FS, BS⟩, mv := ⟨⟨pgC2, hdC2, poC2, saC2⟩, _, _, FMmv, ⟨mmvC2, iMmv, kMmv⟩, BMmv⟩ }
  have K3 : Kd K mg A 3 := { cls := ⟨pgC3, hdC3, poC3, saC3⟩, ty := ⟨ocC3, ocg, oct, moC3⟩, made := ⟨_, _, FI, ⟨mkC3, inC3, iI, kcC3⟩, PySem.W.mg_of X G nC3, BI⟩, sign := ⟨_, sgC3, ⟨_, rfl⟩, spC3, by decide +kernel⟩, ni := niC3, ns := nsC3, item := ⟨_, _, _, ⟨itC3, gtpI, tkpI, _, rcpI⟩, FP, BP⟩, slot := ⟨_, _, _, ⟨stC3, gtpS, tkpS, _, rcpS⟩, FS, BS⟩, mv := ⟨⟨pgC3, hdC3, poC3, saC3⟩, _, _, FMmv, ⟨mmvC3, iMmv, kMmv⟩, BMmv⟩ }
  have T : Tx K mg A := { G := GG, kd := fun k hk => match k, hk with | 0, _ => K0 | 1, _ => K1 | 2, _ => K2 | 3, _ => K3, most := ⟨_, _, ⟨rdR, gaR⟩, ⟨msR, ⟨_, rfl⟩⟩⟩, kit := fun i j hi hj => match i, j, hi, hj with | 0, 0, _, _ => kit_mk ic0 tc0 kt00 kt00 | 0, 1, _, _ => kit_mk ic1 tc1 kt01 kt11 | 0, 2, _, _ => kit_mk ic2 tc2 kt02 kt22 | 0, 3, _, _ => kit_mk ic3 tc3 kt03 kt33 | 1, 0, _, _ => kit_mk ic0 tc0 kt10 kt00 | 1, 1, _, _ => kit_mk ic1 tc1 kt11 kt11 | 1, 2, _, _ => kit_mk ic2 tc2 kt12 kt22 | 1, 3, _, _ => kit_mk ic3 tc3 kt13 kt33 | 2, 0, _, _ => kit_mk ic0 tc0 kt20 kt00 | 2, 1, _, _ => kit_mk ic1 tc1 kt21 kt11 | 2, 2, _, _ => kit_mk ic2 tc2 kt22 kt22 | 2, 3, _, _ => kit_mk ic3 tc3 kt23 kt33 | 3, 0, _, _ => kit_mk ic0 tc0 kt30 kt00 | 3, 1, _, _ => kit_mk ic1 tc1 kt31 kt11 | 3, 2, _, _ => kit_mk ic2 tc2 kt32 kt22 | 3, 3, _, _ => kit_mk ic3 tc3 kt33 kt33, cls_Frame := ⟨pgXFrame, hdXFrame, poXFrame, saXFrame⟩, made_Frame := ⟨_, _, FNFrame, ⟨mkXFrame, inXFrame, iNFrame, kcXFrame⟩, PySem.W.mg_of X G xFrame, BNFrame⟩, n_Frame_by_item := nfFrame_by_item, n_Frame_marked := nfFrame_marked, n_Frame_places := nfFrame_places, n_Frame_is_fronted := nfFrame_is_fronted, m_Frame_room := ⟨⟨pgXFrame, hdXFrame, poXFrame, saXFrame⟩, _, _, FWFrame_room, ⟨mmFrame_room, iWFrame_room, kWFrame_room⟩, BWFrame_room⟩, m_Frame_shift := ⟨⟨pgXFrame, hdXFrame, poXFrame, saXFrame⟩, _, _, FWFrame_shift, ⟨mmFrame_shift, iWFrame_shift, kWFrame_shift⟩, BWFrame_shift⟩, m_Frame_bounds := ⟨⟨pgXFrame, hdXFrame, poXFrame, saXFrame⟩, _, _, FWFrame_bounds, ⟨mmFrame_bounds, iWFrame_bounds, kWFrame_bounds⟩, BWFrame_bounds⟩, f_is_integer := D0, f_is_item := D1, f_are_records := D2, f_sign_of := D3, f_items_of := D4, f_is_log := D5, f_need_log := D6, f_are_items := D7, f_need_known := D8, f_framed_log := D9, f_made := D10, f_wrong_items := D11, f_nearest := D12, f_law_tape := D13, f_law_next := D14, f_law_items := D15, f_law_made := D16, f_law_facts := D17, f_law_drawn := D18, f_law_told := D19, f_law_bounds := D20, f_law_changed := D21, f_law_right := D22, f_law := D23 }
  exact ⟨_, fun s v => .of_eq rfl, fun base _ _ => fnok_of F23 sc_law (fun hr => d_law T.G hr) (p_law T)⟩
theorem walk {l : PySem.W.OpenLaw} {q : Program} {loose : List Str} {XP : (Str → Option Value) → Heap → Prop} {YP : World → Heap → Prop} {d : DefRec} {K : Params → PySem.W.Frag} (hn : l.most = some 63) (hdf : d.params.defaults = [])
    (hY : ∀ (w : World) (h : Heap), YP w h → (K w.params).In h)
    (F : ∀ (w : World) (mg : Str → Option Value) (fa : Addr) (h : Heap), (K w.params).In h → h.Ns mainGlobals mg → mg d.name = some (.ref fa) →
      ∃ fd : FuncData, (∀ (s : Shared) (u : Value), BindsTo s fd ⟨[u], []⟩ [("_law_script", u)]) ∧ ∀ base : Heap, (K w.params).In base → base.Ns mainGlobals mg → FnG l.prog w (K w.params) mg base 9 fa fd ["_law_script"] (sp_law (K w.params))) :
    PySem.W.WalkO q loose XP YP l.row.toRowW d [] (fun f vs => PySem.call f vs) :=
  walk_g (n := 63) (k := 9) (x := "_law_script") (sp := sp_law) hn (by decide) hdf ⟨rfl, by decide, by decide⟩ hY F fun _ _ a ns hl hS => ⟨a, ns, rfl, hS, hl, fun _ => rfl⟩
end K
open PySem PySem.W PyProof.Rows
set_option maxRecDepth 100000 in
set_option maxHeartbeats 0 in
theorem PySem.Challenge.cw_indexlogs_k45_wrong_and_nearest_of_long_holds : PySem.Challenge.rw_indexlogs_k45_wrong_and_nearest_of_long.Holds := by
  w_on; o_law; k_head; (case hw => w_witness2)
  k_fill
  refine K.walk (l := PySem.Challenge.rw_indexlogs_k45_wrong_and_nearest_of_long) rfl rfl (fun w h Y => PySem.W.kIn_of Y) ?F
  case F =>
    intro w mg fa h KX G hmg
    refine' K.all_mk KX G hmg ?a0 ?l0 ?c0 ?k0 ?a1 ?l1 ?c1 ?k1 ?a2 ?l2 ?c2 ?k2 ?a3 ?l3 ?c3 ?k3 ?a4 ?l4 ?c4 ?k4 ?a5 ?l5 ?c5 ?k5 ?a6 ?l6 ?c6 ?k6 ?a7 ?l7 ?c7 ?k7 ?a8 ?l8 ?c8 ?k8 ?a9 ?l9 ?c9 ?k9 ?a10 ?l10 ?c10 ?k10 ?a11 ?l11 ?c11 ?k11 ?a12 ?l12 ?c12 ?k12 ?a13 ?l13 ?c13 ?k13 ?a14 ?l14 ?c14 ?k14 ?a15 ?l15 ?c15 ?k15 ?a16 ?l16 ?c16 ?k16 ?a17 ?l17 ?c17 ?k17 ?a18 ?l18 ?c18 ?k18 ?a19 ?l19 ?c19 ?k19 ?a20 ?l20 ?c20 ?k20 ?a21 ?l21 ?c21 ?k21 ?a22 ?l22 ?c22 ?k22 ?a23 ?l23 ?c23 ?k23 ?ocg ?oct ?nC0 ?pgC0 ?hdC0 ?poC0 ?saC0 ?ocC0 ?moC0 ?mkC0 ?kcC0 ?inC0 ?itC0 ?stC0 ?niC0 ?nsC0 ?sgC0 ?spC0 ?mmvC0 ?nC1 ?pgC1 ?hdC1 ?poC1 ?saC1 ?ocC1 ?moC1 ?mkC1 ?kcC1 ?inC1 ?itC1 ?stC1 ?niC1 ?nsC1 ?sgC1 ?spC1 ?mmvC1 ?nC2 ?pgC2 ?hdC2 ?poC2 ?saC2 ?ocC2 ?moC2 ?mkC2 ?kcC2 ?inC2 ?itC2 ?stC2 ?niC2 ?nsC2 ?sgC2 ?spC2 ?mmvC2 ?nC3 ?pgC3 ?hdC3 ?poC3 ?saC3 ?ocC3 ?moC3 ?mkC3 ?kcC3 ?inC3 ?itC3 ?stC3 ?niC3 ?nsC3 ?sgC3 ?spC3 ?mmvC3 ?gtpI ?tkpI ?rcpI ?gtpS ?tkpS ?rcpS ?lI ?cI ?kI ?lP ?cP ?kP ?lS ?cS ?kS ?lMmv ?cMmv ?kMmv ?iI ?iMmv ?kt00 ?kt01 ?kt02 ?kt03 ?kt10 ?kt11 ?kt12 ?kt13 ?kt20 ?kt21 ?kt22 ?kt23 ?kt30 ?kt31 ?kt32 ?kt33 ?ic0 ?tc0 ?ic1 ?tc1 ?ic2 ?tc2 ?ic3 ?tc3 ?rdR ?gaR ?msR ?xFrame ?xImpossible ?xLogError ?xNoIndex ?xNoItem ?xNoList ?xNoLog ?xNoText ?pgXFrame ?hdXFrame ?poXFrame ?saXFrame ?mkXFrame ?kcXFrame ?inXFrame ?nfFrame_by_item ?nfFrame_marked ?nfFrame_places ?nfFrame_is_fronted ?mmFrame_room ?mmFrame_shift ?mmFrame_bounds ?lNFrame ?cNFrame ?kNFrame ?iNFrame ?lWFrame_room ?cWFrame_room ?kWFrame_room ?iWFrame_room ?lWFrame_shift ?cWFrame_shift ?kWFrame_shift ?iWFrame_shift ?lWFrame_bounds ?cWFrame_bounds ?kWFrame_bounds ?iWFrame_bounds ?b_abs ?b_all ?b_bool ?b_int ?b_isinstance ?b_len ?b_list ?b_max ?b_min ?b_range ?b_repr ?b_set ?b_sorted ?b_str ?v_FRONTED ?v_INSERTED ?v_LETTERS ?v_MOST_ITEMS ?v_MOST_LETTERS ?v_MOST_LOG ?v_REMOVED
    (case a0 => k_is)
    (case l0 => k_is)
    (case c0 => k_is)
    (case k0 => k_is)
    (case a1 => k_is)
    (case l1 => k_is)
    (case c1 => k_is)
    (case k1 => k_is)
    (case a2 => k_is)
    (case l2 => k_is)
    (case c2 => k_is)
    (case k2 => k_is)
    (case a3 => k_is)
    (case l3 => k_is)
    (case c3 => k_is)
    (case k3 => k_is)
    (case a4 => k_is)
    (case l4 => k_is)
    (case c4 => k_is)
    (case k4 => k_is)
    (case a5 => k_is)
    (case l5 => k_is)
    (case c5 => k_is)
    (case k5 => k_is)
    (case a6 => k_is)
    (case l6 => k_is)
    (case c6 => k_is)
    (case k6 => k_is)
    (case a7 => k_is)
    (case l7 => k_is)
    (case c7 => k_is)
    (case k7 => k_is)
    (case a8 => k_is)
    (case l8 => k_is)
    (case c8 => k_is)
    (case k8 => k_is)
    (case a9 => k_is)
    (case l9 => k_is)
    (case c9 => k_is)
    (case k9 => k_is)
    (case a10 => k_is)
    (case l10 => k_is)
    (case c10 => k_is)
    (case k10 => k_is)
    (case a11 => k_is)
    (case l11 => k_is)
    (case c11 => k_is)
    (case k11 => k_is)
    (case a12 => k_is)
    (case l12 => k_is)
    (case c12 => k_is)
    (case k12 => k_is)
    (case a13 => k_is)
    (case l13 => k_is)
    (case c13 => k_is)
    (case k13 => k_is)
    (case a14 => k_is)
    (case l14 => k_is)
    (case c14 => k_is)
    (case k14 => k_is)
    (case a15 => k_is)
    (case l15 => k_is)
    (case c15 => k_is)
    (case k15 => k_is)
    (case a16 => k_is)
    (case l16 => k_is)
    (case c16 => k_is)
    (case k16 => k_is)
    (case a17 => k_is)
    (case l17 => k_is)
    (case c17 => k_is)
    (case k17 => k_is)
    (case a18 => k_is)
    (case l18 => k_is)
    (case c18 => k_is)
    (case k18 => k_is)
    (case a19 => k_is)
    (case l19 => k_is)
    (case c19 => k_is)
    (case k19 => k_is)
    (case a20 => k_is)
    (case l20 => k_is)
    (case c20 => k_is)
    (case k20 => k_is)
    (case a21 => k_is)
    (case l21 => k_is)
    (case c21 => k_is)
    (case k21 => k_is)
    (case a22 => k_is)
    (case l22 => k_is)
    (case c22 => k_is)
    (case k22 => k_is)
    (case a23 => k_is)
    (case l23 => k_is)
    (case c23 => k_is)
    (case k23 => k_is)
    (case ocg => k_is)
    (case oct => k_is)
    (case nC0 => k_is)
    (case pgC0 => k_is)
    (case hdC0 => k_is)
    (case poC0 => k_is)
    (case saC0 => k_is)
    (case ocC0 => k_is)
    (case moC0 => k_is)
    (case mkC0 => k_is)
    (case kcC0 => k_is)
    (case inC0 => k_is)
    (case itC0 => k_is)
    (case stC0 => k_is)
    (case niC0 => k_is)
    (case nsC0 => k_is)
    (case sgC0 => k_is)
    (case spC0 => k_is)
    (case mmvC0 => k_is)
    (case nC1 => k_is)
    (case pgC1 => k_is)
    (case hdC1 => k_is)
    (case poC1 => k_is)
    (case saC1 => k_is)
    (case ocC1 => k_is)
    (case moC1 => k_is)
    (case mkC1 => k_is)
    (case kcC1 => k_is)
    (case inC1 => k_is)
    (case itC1 => k_is)
    (case stC1 => k_is)
    (case niC1 => k_is)
    (case nsC1 => k_is)
    (case sgC1 => k_is)
    (case spC1 => k_is)
    (case mmvC1 => k_is)
    (case nC2 => k_is)
    (case pgC2 => k_is)
    (case hdC2 => k_is)
    (case poC2 => k_is)
    (case saC2 => k_is)
    (case ocC2 => k_is)
    (case moC2 => k_is)
    (case mkC2 => k_is)
    (case kcC2 => k_is)
    (case inC2 => k_is)
    (case itC2 => k_is)
    (case stC2 => k_is)
    (case niC2 => k_is)
    (case nsC2 => k_is)
    (case sgC2 => k_is)
    (case spC2 => k_is)
    (case mmvC2 => k_is)
    (case nC3 => k_is)
    (case pgC3 => k_is)
    (case hdC3 => k_is)
    (case poC3 => k_is)
    (case saC3 => k_is)
    (case ocC3 => k_is)
    (case moC3 => k_is)
    (case mkC3 => k_is)
    (case kcC3 => k_is)
    (case inC3 => k_is)
    (case itC3 => k_is)
    (case stC3 => k_is)
    (case niC3 => k_is)
    (case nsC3 => k_is)
    (case sgC3 => k_is)
    (case spC3 => k_is)
    (case mmvC3 => k_is)
    (case gtpI => k_is)
    (case tkpI => k_is)
    (case rcpI => k_is)
    (case gtpS => k_is)
    (case tkpS => k_is)
    (case rcpS => k_is)
    (case lI => k_is)
    (case cI => k_is)
    (case kI => k_is)
    (case lP => k_is)
    (case cP => k_is)
    (case kP => k_is)
    (case lS => k_is)
    (case cS => k_is)
    (case kS => k_is)
    (case lMmv => k_is)
    (case cMmv => k_is)
    (case kMmv => k_is)
    (case iI => k_is)
    (case iMmv => k_is)
    (case kt00 => k_is)
    (case kt01 => k_is)
    (case kt02 => k_is)
    (case kt03 => k_is)
    (case kt10 => k_is)
    (case kt11 => k_is)
    (case kt12 => k_is)
    (case kt13 => k_is)
    (case kt20 => k_is)
    (case kt21 => k_is)
    (case kt22 => k_is)
    (case kt23 => k_is)
    (case kt30 => k_is)
    (case kt31 => k_is)
    (case kt32 => k_is)
    (case kt33 => k_is)
    (case ic0 => k_is)
    (case tc0 => k_is)
    (case ic1 => k_is)
    (case tc1 => k_is)
    (case ic2 => k_is)
    (case tc2 => k_is)
    (case ic3 => k_is)
    (case tc3 => k_is)
    (case rdR => k_is)
    (case gaR => k_is)
    (case msR => k_is)
    (case xFrame => k_is)
    (case xImpossible => k_is)
    (case xLogError => k_is)
    (case xNoIndex => k_is)
    (case xNoItem => k_is)
    (case xNoList => k_is)
    (case xNoLog => k_is)
    (case xNoText => k_is)
    (case pgXFrame => k_is)
    (case hdXFrame => k_is)
    (case poXFrame => k_is)
    (case saXFrame => k_is)
    (case mkXFrame => k_is)
    (case kcXFrame => k_is)
    (case inXFrame => k_is)
    (case nfFrame_by_item => k_is)
    (case nfFrame_marked => k_is)
    (case nfFrame_places => k_is)
    (case nfFrame_is_fronted => k_is)
    (case mmFrame_room => k_is)
    (case mmFrame_shift => k_is)
    (case mmFrame_bounds => k_is)
    (case lNFrame => k_is)
    (case cNFrame => k_is)
    (case kNFrame => k_is)
    (case iNFrame => k_is)
    (case lWFrame_room => k_is)
    (case cWFrame_room => k_is)
    (case kWFrame_room => k_is)
    (case iWFrame_room => k_is)
    (case lWFrame_shift => k_is)
    (case cWFrame_shift => k_is)
    (case kWFrame_shift => k_is)
    (case iWFrame_shift => k_is)
    (case lWFrame_bounds => k_is)
    (case cWFrame_bounds => k_is)
    (case kWFrame_bounds => k_is)
    (case iWFrame_bounds => k_is)
    (case b_abs => k_is)
    (case b_all => k_is)
    (case b_bool => k_is)
    (case b_int => k_is)
    (case b_isinstance => k_is)
    (case b_len => k_is)
    (case b_list => k_is)
    (case b_max => k_is)
    (case b_min => k_is)
    (case b_range => k_is)
    (case b_repr => k_is)
    (case b_set => k_is)
    (case b_sorted => k_is)
    (case b_str => k_is)
    (case v_FRONTED => k_is)
    (case v_INSERTED => k_is)
    (case v_LETTERS => k_is)
    (case v_MOST_ITEMS => k_is)
    (case v_MOST_LETTERS => k_is)
    (case v_MOST_LOG => k_is)
    (case v_REMOVED => k_is)
